import PyProof.Rows.All
import Wide.All
import OpenK.AllK
import Wide.FinOn
import KE.KStateDown
import Lean
import HandS.ForMost
import HandS.Exc
import HandS.TryOnly
import HandS.ExcOwn
import HandS.WordsExc
import HandS.ExcIs
import HandS.IsInst
import HandS.ClsMeth
import HandS.Defaults
import HandS.More
import HandS.Deep
import HandS.Walk
import HandS.Head0
import HandS.Head1
import HandS.Head2
import HandS.HeadEnd
import HandS.HeadHook1
import HandS.HeadHook2
import KE.GoesEnum
import KE.GoesMore
import KE.KTupSum
import PyProof.TupleKey
import PyProof.Rows.TupDisplay
import HandS.Evl
import PySem.Challenge.RW_twinrope_k12_whole_meeting_ways
set_option Elab.async false
set_option linter.all false
set_option maxRecDepth 100000
set_option maxHeartbeats 0
/-! the plain mathematics, part one: arrows, ways, the least number of steps to a blue guest -/
namespace TM
abbrev Rp := List (Nat × Nat)
/-- the arrows: from the red car to the blue car -/
def arr (ropes : Rp) (cars : List Nat) : Rp := List.zipWith (fun p c => if c = 0 then p else (p.2, p.1)) ropes cars
inductive Way (as : Rp) : Nat → Nat → Nat → Prop
  | nil (u : Nat) : Way as u u 0
  | cons {u v w k : Nat} : (u, v) ∈ as → Way as v w k → Way as u w (k + 1)
/-- a way of k steps from u to a blue guest -/
def WB (as : Rp) (bl : List Nat) (u k : Nat) : Prop := ∃ v, Way as u v k ∧ 0 < bl.getD v 0
def IsD (as : Rp) (bl : List Nat) (u k : Nat) : Prop := WB as bl u k ∧ ∀ j, WB as bl u j → k ≤ j
section
variable {as : Rp} {bl : List Nat} {u v k j : Nat}
theorem isD_inj (h : IsD as bl u k) (h' : IsD as bl u j) : k = j := Nat.le_antisymm (h.2 _ h'.1) (h'.2 _ h.1)
theorem isD_ex : ∀ (k : Nat), WB as bl u k → ∃ j, j ≤ k ∧ IsD as bl u j := by
  intro k
  induction k using Nat.strongRecOn with
  | ind k ih =>
    intro h
    by_cases c : ∃ j, j < k ∧ WB as bl u j
    · obtain ⟨j, hj, hw⟩ := c
      obtain ⟨i, hi, q⟩ := ih j hj hw
      exact ⟨i, by omega, q⟩
    · refine ⟨k, Nat.le_refl _, h, fun j hj => ?_⟩
      rcases Nat.lt_or_ge j k with l | l
      · exact (c ⟨j, l, hj⟩).elim
      · exact l
theorem wb_zero : WB as bl u 0 ↔ 0 < bl.getD u 0 := by
  constructor
  · rintro ⟨v, w, h⟩
    cases w
    exact h
  · exact fun h => ⟨u, .nil u, h⟩
theorem wb_succ : WB as bl u (k + 1) ↔ ∃ v, (u, v) ∈ as ∧ WB as bl v k := by
  constructor
  · rintro ⟨w, q, h⟩
    cases q with
    | cons e r => exact ⟨_, e, _, r, h⟩
  · rintro ⟨v, e, w, q, h⟩
    exact ⟨w, .cons e q, h⟩
theorem isD_zero : IsD as bl u 0 ↔ 0 < bl.getD u 0 := ⟨fun h => wb_zero.mp h.1, fun h => ⟨wb_zero.mpr h, fun _ _ => Nat.zero_le _⟩⟩
theorem isD_succ : IsD as bl u (k + 1) ↔ (∃ v, (u, v) ∈ as ∧ IsD as bl v k) ∧ ∀ j, j ≤ k → ¬ IsD as bl u j := by
  constructor
  · rintro ⟨h, m⟩
    obtain ⟨v, e, q⟩ := wb_succ.mp h
    refine ⟨⟨v, e, q, fun j hj => ?_⟩, fun j hj z => ?_⟩
    · have := m (j + 1) (wb_succ.mpr ⟨v, e, hj⟩)
      omega
    · have := m j z.1
      omega
  · rintro ⟨⟨v, e, q⟩, m⟩
    refine ⟨wb_succ.mpr ⟨v, e, q.1⟩, fun j hj => ?_⟩
    obtain ⟨i, hi, z⟩ := isD_ex j hj
    rcases Nat.lt_or_ge k i with l | l
    · omega
    · exact (m i l z).elim
/-- below a distance all distances are met on the way -/
theorem isD_below (ha : ∀ p ∈ as, p.1 < n ∧ p.2 < n) : ∀ (k u : Nat), IsD as bl u k → u < n → ∀ j, j ≤ k → ∃ v, v < n ∧ IsD as bl v j := by
  intro k
  induction k with
  | zero =>
    intro u h hu j hj
    obtain rfl : j = 0 := by omega
    exact ⟨u, hu, h⟩
  | succ k ih =>
    intro u h hu j hj
    by_cases c : j = k + 1
    · subst c
      exact ⟨u, hu, h⟩
    · obtain ⟨⟨v, e, q⟩, _⟩ := isD_succ.mp h
      exact ih v q (ha _ e).2 j (by omega)
end
/-- so many different numbers below n -/
theorem pigeon : ∀ (n m : Nat) (f : Nat → Nat), (∀ i, i < m → f i < n) → (∀ i j, i < m → j < m → f i = f j → i = j) → m ≤ n := by
  intro n
  induction n with
  | zero =>
    intro m f hf _
    cases m with
    | zero => exact Nat.le_refl _
    | succ m => exact absurd (hf 0 (Nat.succ_pos _)) (by omega)
  | succ n ih =>
    intro m f hf inj
    cases m with
    | zero => exact Nat.zero_le _
    | succ m =>
      by_cases c : ∃ a, a < m + 1 ∧ f a = n
      · obtain ⟨a, ha, e⟩ := c
        have := ih m (fun i => if i < a then f i else f (i + 1)) (fun i hi => ?_) (fun i j hi hj e2 => ?_)
        · omega
        · show (if i < a then f i else f (i + 1)) < n
          by_cases l : i < a
          · rw [if_pos l]
            have h1 := hf i (by omega)
            have h2 : f i ≠ n := fun z => by
              have := inj i a (by omega) ha (z.trans e.symm)
              omega
            omega
          · rw [if_neg l]
            have h1 := hf (i + 1) (by omega)
            have h2 : f (i + 1) ≠ n := fun z => by
              have := inj (i + 1) a (by omega) ha (z.trans e.symm)
              omega
            omega
        · have e3 : (if i < a then f i else f (i + 1)) = (if j < a then f j else f (j + 1)) := e2
          by_cases l : i < a
          · rw [if_pos l] at e3
            by_cases l2 : j < a
            · rw [if_pos l2] at e3
              exact inj i j (by omega) (by omega) e3
            · rw [if_neg l2] at e3
              have := inj i (j + 1) (by omega) (by omega) e3
              omega
          · rw [if_neg l] at e3
            by_cases l2 : j < a
            · rw [if_pos l2] at e3
              have := inj (i + 1) j (by omega) (by omega) e3
              omega
            · rw [if_neg l2] at e3
              have := inj (i + 1) (j + 1) (by omega) (by omega) e3
              omega
      · have := ih (m + 1) f (fun i hi => ?_) inj
        · omega
        · have h1 := hf i hi
          have h2 : f i ≠ n := fun z => c ⟨i, hi, z⟩
          omega
theorem isD_lt {as : Rp} {bl : List Nat} {n u k : Nat} (ha : ∀ p ∈ as, p.1 < n ∧ p.2 < n) (hu : u < n) (h : IsD as bl u k) : k < n := by
  have key := isD_below ha k u h hu
  have : k + 1 ≤ n := by
    refine pigeon n (k + 1) (fun j => if q : j ≤ k then Classical.choose (key j q) else 0) (fun i hi => ?_) fun i j hi hj e => ?_
    · have hi' : i ≤ k := by omega
      show (if q : i ≤ k then Classical.choose (key i q) else 0) < n
      rw [dif_pos hi']
      exact (Classical.choose_spec (key i hi')).1
    · have hi' : i ≤ k := by omega
      have hj' : j ≤ k := by omega
      have e2 : (if q : i ≤ k then Classical.choose (key i q) else 0) = (if q : j ≤ k then Classical.choose (key j q) else 0) := e
      rw [dif_pos hi', dif_pos hj'] at e2
      have h1 := (Classical.choose_spec (key i hi')).2
      have h2 := (Classical.choose_spec (key j hj')).2
      rw [← e2] at h2
      exact isD_inj h1 h2
  omega
open Classical in
noncomputable def dst (as : Rp) (bl : List Nat) (u : Nat) : Option Nat := if h : ∃ k, IsD as bl u k then some (Classical.choose h) else none
section
variable {as : Rp} {bl : List Nat} {u k : Nat}
theorem dst_some : dst as bl u = some k ↔ IsD as bl u k := by
  unfold dst
  by_cases h : ∃ k, IsD as bl u k
  · rw [dif_pos h]
    constructor
    · intro e
      injection e with e
      rw [← e]
      exact Classical.choose_spec h
    · intro q
      rw [isD_inj (Classical.choose_spec h) q]
  · rw [dif_neg h]
    constructor
    · intro e
      cases e
    · intro q
      exact (h ⟨k, q⟩).elim
theorem dst_none : dst as bl u = none ↔ ∀ k, ¬ IsD as bl u k := by
  constructor
  · intro e k h
    rw [dst_some.mpr h] at e
    cases e
  · intro h
    cases e : dst as bl u with
    | none => rfl
    | some k => exact (h k (dst_some.mp e)).elim
theorem dst_none_wb : dst as bl u = none ↔ ∀ k, ¬ WB as bl u k := by
  rw [dst_none]
  constructor
  · intro h k q
    obtain ⟨j, _, z⟩ := isD_ex k q
    exact h j z
  · intro h k q
    exact h k q.1
theorem dst_zero : dst as bl u = some 0 ↔ 0 < bl.getD u 0 := by rw [dst_some, isD_zero]
theorem dst_succ_ex (h : dst as bl u = some (k + 1)) : ∃ v, (u, v) ∈ as ∧ dst as bl v = some k := by
  obtain ⟨⟨v, e, q⟩, _⟩ := isD_succ.mp (dst_some.mp h)
  exact ⟨v, e, dst_some.mpr q⟩
end
/-! ### the meeting way -/
section
variable (n : Nat) (as : Rp) (reds bl : List Nat)
/-- m is the least number of steps from a red guest to a blue one -/
def IsLeast (m : Nat) : Prop := (∃ u, u < n ∧ 0 < reds.getD u 0 ∧ dst as bl u = some m) ∧ ∀ u k, u < n → 0 < reds.getD u 0 → dst as bl u = some k → m ≤ k
noncomputable def near (m : Nat) : List Nat := (List.range n).filter fun u => decide (0 < reds.getD u 0) && (dst as bl u == some m)
noncomputable def fit (pl : List Nat) (m : Nat) (p : Nat × Nat) : Bool := pl.contains p.1 && (dst as bl p.2 == some m)
noncomputable def greedy : List Nat → Nat → List Nat
  | _, 0 => []
  | pl, m + 1 => match as.findIdx? (fit as bl pl m) with
    | some i => i :: greedy [(as.getD i (0, 0)).2] m
    | none => []
open Classical in
/-- (start, ropes) -/
noncomputable def meet : Option (Nat × List Nat) := if h : ∃ m, IsLeast n as reds bl m then
    some (if Classical.choose h = 0 then (near n as reds bl 0).headD 0 else (as.getD ((greedy as bl (near n as reds bl (Classical.choose h)) (Classical.choose h)).headD 0) (0, 0)).1,
      greedy as bl (near n as reds bl (Classical.choose h)) (Classical.choose h))
  else none
end
section
variable {n : Nat} {as : Rp} {reds bl : List Nat} {m : Nat}
theorem least_inj {j : Nat} (h : IsLeast n as reds bl m) (h' : IsLeast n as reds bl j) : m = j := by
  obtain ⟨⟨u, a, b, c⟩, d⟩ := h
  obtain ⟨⟨u', a', b', c'⟩, d'⟩ := h'
  exact Nat.le_antisymm (d _ _ a' b' c') (d' _ _ a b c)
theorem meet_of (h : IsLeast n as reds bl m) : meet n as reds bl = some (if m = 0 then (near n as reds bl 0).headD 0 else (as.getD ((greedy as bl (near n as reds bl m) m).headD 0) (0, 0)).1, greedy as bl (near n as reds bl m) m) := by
  have hx : ∃ m, IsLeast n as reds bl m := ⟨m, h⟩
  have e : Classical.choose hx = m := least_inj (Classical.choose_spec hx) h
  unfold meet
  rw [dif_pos hx, e]
theorem meet_no (h : ∀ u, u < n → 0 < reds.getD u 0 → dst as bl u = none) : meet n as reds bl = none := by
  unfold meet
  rw [dif_neg]
  rintro ⟨m, ⟨u, a, b, c⟩, _⟩
  rw [h u a b] at c
  cases c
theorem least_ex {u k : Nat} (hu : u < n) (hr : 0 < reds.getD u 0) (hd : dst as bl u = some k) : ∃ m, IsLeast n as reds bl m := by
  have key : ∀ (k u : Nat), u < n → 0 < reds.getD u 0 → dst as bl u = some k → ∃ m, IsLeast n as reds bl m := by
    intro k
    induction k using Nat.strongRecOn with
    | ind k ih =>
      intro u hu hr hd
      by_cases c : ∃ v j, v < n ∧ 0 < reds.getD v 0 ∧ dst as bl v = some j ∧ j < k
      · obtain ⟨v, j, a, b, d, e⟩ := c
        exact ih j e v a b d
      · refine ⟨k, ⟨u, hu, hr, hd⟩, fun v j a b d => ?_⟩
        rcases Nat.lt_or_ge j k with l | l
        · exact (c ⟨v, j, a, b, d, l⟩).elim
        · exact l
  exact key k u hu hr hd
theorem mem_near {u : Nat} : u ∈ near n as reds bl m ↔ u < n ∧ 0 < reds.getD u 0 ∧ dst as bl u = some m := by
  unfold near
  simp only [List.mem_filter, List.mem_range, Bool.and_eq_true, decide_eq_true_eq, beq_iff_eq]
/-- there is a fitting rope, the first one -/
theorem fit_ex {pl : List Nat} {p : Nat} (hp : p ∈ pl) (hd : dst as bl p = some (m + 1)) : ∃ i t h, as.findIdx? (fit as bl pl m) = some i ∧ as[i]? = some (t, h) ∧ t ∈ pl ∧ dst as bl h = some m := by
  obtain ⟨v, e, q⟩ := dst_succ_ex hd
  cases c : as.findIdx? (fit as bl pl m) with
  | none =>
    rw [List.findIdx?_eq_none_iff] at c
    have z := c _ e
    unfold fit at z
    rw [q] at z
    simp [hp] at z
  | some i =>
    rw [List.findIdx?_eq_some_iff_getElem] at c
    obtain ⟨hi, a, b⟩ := c
    unfold fit at a
    simp only [Bool.and_eq_true, List.contains_iff_mem, beq_iff_eq] at a
    exact ⟨i, as[i].1, as[i].2, rfl, by rw [List.getElem?_eq_getElem hi], a.1, a.2⟩
theorem greedy_succ {pl : List Nat} {i t h : Nat} (hf : as.findIdx? (fit as bl pl m) = some i) (hi : as[i]? = some (t, h)) : greedy as bl pl (m + 1) = i :: greedy as bl [h] m := by
  show (match as.findIdx? (fit as bl pl m) with
    | some i => i :: greedy as bl [(as.getD i (0, 0)).2] m
    | none => []) = _
  rw [hf]
  show i :: greedy as bl [(as.getD i (0, 0)).2] m = _
  rw [List.getD_eq_getElem?_getD, hi]
  rfl
end
/-! ### meeting -/
def Meets (as : Rp) (reds bl : List Nat) : Prop := ∃ u k, 0 < reds.getD u 0 ∧ WB as bl u k
theorem getD_lt {xs : List Nat} {u : Nat} (h : 0 < xs.getD u 0) : u < xs.length := by
  rcases Nat.lt_or_ge u xs.length with l | l
  · exact l
  · rw [List.getD_eq_getElem?_getD, List.getElem?_eq_none l] at h
    exact absurd h (by decide)
theorem meet_iff {n : Nat} {as : Rp} {reds bl : List Nat} (hl : reds.length = n) : (meet n as reds bl).isSome = true ↔ Meets as reds bl := by
  constructor
  · intro h
    by_cases c : ∃ m, IsLeast n as reds bl m
    · obtain ⟨m, ⟨u, _, b, d⟩, _⟩ := c
      exact ⟨u, m, b, (dst_some.mp d).1⟩
    · unfold meet at h
      rw [dif_neg c] at h
      cases h
  · rintro ⟨u, k, a, b⟩
    obtain ⟨j, _, z⟩ := isD_ex k b
    obtain ⟨m, hm⟩ := least_ex (n := n) (by rw [← hl]; exact getD_lt a) a (dst_some.mpr z)
    rw [meet_of hm]
    rfl
end TM

/-! the plain mathematics, part two: states, rides, what rides keep -/
namespace TM
structure S where
  reds : List Nat
  blues : List Nat
  cars : List Nat
  deriving DecidableEq
structure Ok (n : Nat) (ropes : Rp) : Prop where
  n1 : 1 ≤ n
  n24 : n ≤ 24
  m40 : ropes.length ≤ 40
  ends : ∀ p ∈ ropes, p.1 < n ∧ p.2 < n ∧ p.1 ≠ p.2
  conn : ∀ P : Nat → Prop, (∀ p ∈ ropes, P p.1 ↔ P p.2) → ∀ a b, a < n → b < n → P a → P b
structure OkS (n : Nat) (ropes : Rp) (s : S) : Prop where
  lr : s.reds.length = n
  lb : s.blues.length = n
  lc : s.cars.length = ropes.length
  c01 : ∀ c ∈ s.cars, c < 2
  sum : s.reds.sum + s.blues.sum ≤ 30
abbrev Rd := Nat × Bool
def as (ropes : Rp) (s : S) : Rp := arr ropes s.cars
def canR (ropes : Rp) (s : S) (r : Rd) : Bool := match (as ropes s)[r.1]? with
  | some p => if r.2 = true then decide (0 < s.blues.getD p.2 0) else decide (0 < s.reds.getD p.1 0)
  | none => false
def ridesAt (ropes : Rp) (s : S) (k : Nat) : List Rd := (if canR ropes s (k, false) = true then [(k, false)] else []) ++ (if canR ropes s (k, true) = true then [(k, true)] else [])
def rides (ropes : Rp) (s : S) : List Rd := (List.range ropes.length).flatMap (ridesAt ropes s)
def move (xs : List Nat) (a b : Nat) : List Nat := (xs.set a (xs.getD a 0 - 1)).set b ((xs.set a (xs.getD a 0 - 1)).getD b 0 + 1)
def ride (ropes : Rp) (s : S) (r : Rd) : S := match (as ropes s)[r.1]? with
  | some p => if r.2 = true then ⟨s.reds, move s.blues p.2 p.1, s.cars.set r.1 (1 - s.cars.getD r.1 0)⟩ else ⟨move s.reds p.1 p.2, s.blues, s.cars.set r.1 (1 - s.cars.getD r.1 0)⟩
  | none => s
def both (s : S) : Bool := (List.range s.reds.length).any fun u => decide (0 < s.reds.getD u 0) && decide (0 < s.blues.getD u 0)
theorem both_iff {s : S} : both s = true ↔ ∃ u, 0 < s.reds.getD u 0 ∧ 0 < s.blues.getD u 0 := by
  unfold both
  rw [List.any_eq_true]
  constructor
  · rintro ⟨u, _, h⟩
    simp only [Bool.and_eq_true, decide_eq_true_eq] at h
    exact ⟨u, h⟩
  · rintro ⟨u, h1, h2⟩
    exact ⟨u, List.mem_range.mpr (getD_lt h1), by rw [Bool.and_eq_true]; exact ⟨decide_eq_true h1, decide_eq_true h2⟩⟩
/-! ### arrows -/
theorem arr_length {ropes : Rp} {cars : List Nat} (h : cars.length = ropes.length) : (arr ropes cars).length = ropes.length := by
  unfold arr
  rw [List.length_zipWith, h, Nat.min_self]
theorem arr_get {ropes : Rp} {cars : List Nat} {k c : Nat} {p : Nat × Nat} (hp : ropes[k]? = some p) (hc : cars[k]? = some c) : (arr ropes cars)[k]? = some (if c = 0 then p else (p.2, p.1)) := by
  unfold arr
  rw [List.getElem?_zipWith, hp, hc]
theorem arr_get_inv {ropes : Rp} {cars : List Nat} {k : Nat} {a : Nat × Nat} (h : (arr ropes cars)[k]? = some a) : ∃ p c, ropes[k]? = some p ∧ cars[k]? = some c ∧ a = (if c = 0 then p else (p.2, p.1)) := by
  unfold arr at h
  rw [List.getElem?_zipWith] at h
  cases hp : ropes[k]? with
  | none =>
    rw [hp] at h
    cases h
  | some p =>
    cases hc : cars[k]? with
    | none =>
      rw [hp, hc] at h
      cases h
    | some c =>
      rw [hp, hc] at h
      exact ⟨p, c, rfl, rfl, (Option.some.inj h).symm⟩
theorem arr_mem {n : Nat} {ropes : Rp} {cars : List Nat} (hr : ∀ p ∈ ropes, p.1 < n ∧ p.2 < n ∧ p.1 ≠ p.2) : ∀ p ∈ arr ropes cars, p.1 < n ∧ p.2 < n ∧ p.1 ≠ p.2 := by
  intro p hp
  obtain ⟨k, hk⟩ := List.getElem?_of_mem hp
  obtain ⟨q, c, h1, _, h3⟩ := arr_get_inv hk
  obtain ⟨a, b, d⟩ := hr q (List.mem_of_getElem? h1)
  rw [h3]
  by_cases c0 : c = 0
  · rw [if_pos c0]
    exact ⟨a, b, d⟩
  · rw [if_neg c0]
    exact ⟨b, a, fun z => d z.symm⟩
theorem arr_flip {ropes : Rp} {cars : List Nat} {k : Nat} {a : Nat × Nat} (hc : ∀ c ∈ cars, c < 2) (h : (arr ropes cars)[k]? = some a) :
    arr ropes (cars.set k (1 - cars.getD k 0)) = (arr ropes cars).set k (a.2, a.1) := by
  obtain ⟨p, c, h1, h2, h3⟩ := arr_get_inv h
  have hc2 : c < 2 := hc c (List.mem_of_getElem? h2)
  have hd : cars.getD k 0 = c := by rw [List.getD_eq_getElem?_getD, h2]; rfl
  have hk : k < cars.length := (List.getElem?_eq_some_iff.mp h2).1
  have hk2 : k < (arr ropes cars).length := (List.getElem?_eq_some_iff.mp h).1
  apply List.ext_getElem?
  intro i
  by_cases e : i = k
  · subst e
    rw [List.getElem?_set_self hk2, arr_get h1 (c := 1 - c) (by rw [hd, List.getElem?_set_self hk]), h3]
    have c01 : c = 0 ∨ c = 1 := by omega
    rcases c01 with rfl | rfl
    · rfl
    · rfl
  · rw [List.getElem?_set_ne (Ne.symm e)]
    unfold arr
    rw [List.getElem?_zipWith, List.getElem?_zipWith, List.getElem?_set_ne (Ne.symm e)]
/-! ### moving a guest -/
theorem getD_set (xs : List Nat) (a v u : Nat) (ha : a < xs.length) : (xs.set a v).getD u 0 = if u = a then v else xs.getD u 0 := by
  rw [List.getD_eq_getElem?_getD, List.getD_eq_getElem?_getD]
  by_cases e : u = a
  · subst e
    rw [List.getElem?_set_self ha, if_pos rfl]
    rfl
  · rw [List.getElem?_set_ne (Ne.symm e), if_neg e]
theorem move_length (xs : List Nat) (a b : Nat) : (move xs a b).length = xs.length := by
  unfold move
  rw [List.length_set, List.length_set]
theorem move_getD {xs : List Nat} {a b : Nat} (ha : a < xs.length) (hb : b < xs.length) (ne : a ≠ b) (u : Nat) : (move xs a b).getD u 0 = if u = b then xs.getD b 0 + 1 else if u = a then xs.getD a 0 - 1 else xs.getD u 0 := by
  unfold move
  rw [getD_set _ _ _ _ (by rw [List.length_set]; exact hb), getD_set _ _ _ _ ha, getD_set _ _ _ _ ha, if_neg (Ne.symm ne)]
theorem sum_set {xs : List Nat} {a v : Nat} (ha : a < xs.length) : (xs.set a v).sum + xs.getD a 0 = xs.sum + v := by
  induction xs generalizing a with
  | nil => exact absurd ha (Nat.not_lt_zero _)
  | cons x xs ih =>
    cases a with
    | zero =>
      show (v :: xs).sum + x = (x :: xs).sum + v
      rw [List.sum_cons, List.sum_cons]
      omega
    | succ a =>
      have q := ih (a := a) (by simpa using ha)
      show (x :: xs.set a v).sum + xs.getD a 0 = (x :: xs).sum + v
      rw [List.sum_cons, List.sum_cons]
      omega
theorem move_sum {xs : List Nat} {a b : Nat} (ha : a < xs.length) (hb : b < xs.length) (h : 0 < xs.getD a 0) : (move xs a b).sum = xs.sum := by
  unfold move
  have h1 := sum_set (xs := xs) (v := xs.getD a 0 - 1) ha
  have h2 := sum_set (xs := xs.set a (xs.getD a 0 - 1)) (a := b) (v := (xs.set a (xs.getD a 0 - 1)).getD b 0 + 1) (by rw [List.length_set]; exact hb)
  omega
/-! ### rides -/
section
variable {n : Nat} {ropes : Rp} {s t : S} {r : Rd}
theorem canR_some (h : canR ropes s r = true) : ∃ p, (as ropes s)[r.1]? = some p ∧ (if r.2 = true then 0 < s.blues.getD p.2 0 else 0 < s.reds.getD p.1 0) := by
  unfold canR at h
  cases e : (as ropes s)[r.1]? with
  | none =>
    rw [e] at h
    cases h
  | some p =>
    rw [e] at h
    refine ⟨p, rfl, ?_⟩
    cases c : r.2 with
    | true =>
      rw [c] at h
      simpa using h
    | false =>
      rw [c] at h
      simpa using h
theorem canR_of {p : Nat × Nat} (e : (as ropes s)[r.1]? = some p) (h : if r.2 = true then 0 < s.blues.getD p.2 0 else 0 < s.reds.getD p.1 0) : canR ropes s r = true := by
  unfold canR
  rw [e]
  cases c : r.2 with
  | true =>
    rw [c] at h
    simpa using h
  | false =>
    rw [c] at h
    simpa using h
theorem mem_ridesAt {k : Nat} : r ∈ ridesAt ropes s k ↔ r.1 = k ∧ canR ropes s r = true := by
  obtain ⟨j, c⟩ := r
  unfold ridesAt
  rw [List.mem_append]
  constructor
  · rintro (h | h)
    · by_cases q : canR ropes s (k, false) = true
      · rw [if_pos q] at h
        simp only [List.mem_singleton, Prod.mk.injEq] at h
        obtain ⟨rfl, rfl⟩ := h
        exact ⟨rfl, q⟩
      · rw [if_neg q] at h
        cases h
    · by_cases q : canR ropes s (k, true) = true
      · rw [if_pos q] at h
        simp only [List.mem_singleton, Prod.mk.injEq] at h
        obtain ⟨rfl, rfl⟩ := h
        exact ⟨rfl, q⟩
      · rw [if_neg q] at h
        cases h
  · rintro ⟨e, q⟩
    have e' : j = k := e
    subst e'
    cases c with
    | false =>
      left
      rw [if_pos q]
      exact List.mem_singleton.mpr rfl
    | true =>
      right
      rw [if_pos q]
      exact List.mem_singleton.mpr rfl
theorem mem_rides (hl : s.cars.length = ropes.length) : r ∈ rides ropes s ↔ canR ropes s r = true := by
  unfold rides
  rw [List.mem_flatMap]
  constructor
  · rintro ⟨k, _, h⟩
    exact (mem_ridesAt.mp h).2
  · intro h
    refine ⟨r.1, List.mem_range.mpr ?_, mem_ridesAt.mpr ⟨rfl, h⟩⟩
    obtain ⟨p, e, _⟩ := canR_some h
    have := (List.getElem?_eq_some_iff.mp e).1
    unfold as at this
    rw [arr_length hl] at this
    exact this
theorem ride_red {k : Nat} {p : Nat × Nat} (e : (as ropes s)[k]? = some p) : ride ropes s (k, false) = ⟨move s.reds p.1 p.2, s.blues, s.cars.set k (1 - s.cars.getD k 0)⟩ := by
  unfold ride
  rw [e]
  rfl
theorem ride_blue {k : Nat} {p : Nat × Nat} (e : (as ropes s)[k]? = some p) : ride ropes s (k, true) = ⟨s.reds, move s.blues p.2 p.1, s.cars.set k (1 - s.cars.getD k 0)⟩ := by
  unfold ride
  rw [e]
  rfl
theorem as_ride {k : Nat} {c : Bool} {p : Nat × Nat} (hc : ∀ c ∈ s.cars, c < 2) (e : (as ropes s)[k]? = some p) : as ropes (ride ropes s (k, c)) = (as ropes s).set k (p.2, p.1) := by
  cases c with
  | false =>
    rw [ride_red e]
    exact arr_flip hc e
  | true =>
    rw [ride_blue e]
    exact arr_flip hc e
theorem cars_flip {cars : List Nat} {k : Nat} (hc : ∀ c ∈ cars, c < 2) : ∀ c ∈ cars.set k (1 - cars.getD k 0), c < 2 := by
  intro c h
  rcases List.mem_or_eq_of_mem_set h with h | h
  · exact hc c h
  · omega
theorem ride_ok (o : Ok n ropes) (h : OkS n ropes s) (q : canR ropes s r = true) : OkS n ropes (ride ropes s r) := by
  obtain ⟨k, c⟩ := r
  obtain ⟨p, e, g⟩ := canR_some q
  have e' : (as ropes s)[k]? = some p := e
  obtain ⟨h1, h2, h3⟩ := arr_mem o.ends p (List.mem_of_getElem? e')
  cases c with
  | false =>
    rw [ride_red e']
    have g' : 0 < s.reds.getD p.1 0 := by simpa using g
    refine ⟨by rw [← h.lr]; exact move_length _ _ _, h.lb, by rw [← h.lc]; exact List.length_set .., cars_flip h.c01, ?_⟩
    show (move s.reds p.1 p.2).sum + s.blues.sum ≤ 30
    rw [move_sum (by rw [h.lr]; exact h1) (by rw [h.lr]; exact h2) g']
    exact h.sum
  | true =>
    rw [ride_blue e']
    have g' : 0 < s.blues.getD p.2 0 := by simpa using g
    refine ⟨h.lr, by rw [← h.lb]; exact move_length _ _ _, by rw [← h.lc]; exact List.length_set .., cars_flip h.c01, ?_⟩
    show s.reds.sum + (move s.blues p.2 p.1).sum ≤ 30
    rw [move_sum (by rw [h.lb]; exact h2) (by rw [h.lb]; exact h1) g']
    exact h.sum
end
/-! ### a ride keeps whether guests can meet -/
/-- one arrow turns, and a guest of one colour goes with it; the other way round as well -/
structure Turned (A B : Rp) (a b : Nat) : Prop where
  fwd : ∀ p ∈ A, p ∈ B ∨ p = (a, b)
  bck : (b, a) ∈ B
theorem way_red {A B : Rp} {a b : Nat} (T : Turned A B a b) : ∀ {x v k : Nat}, Way A x v k → (∃ j, Way B x v j) ∨ ∃ j, Way B b v j := by
  intro x v k w
  induction w with
  | nil u => exact .inl ⟨0, .nil u⟩
  | @cons u y v k e _ ih =>
    rcases ih with ⟨j, w⟩ | h
    · rcases T.fwd _ e with q | q
      · exact .inl ⟨j + 1, .cons q w⟩
      · injection q with q1 q2
        subst q1 q2
        exact .inr ⟨j, w⟩
    · exact .inr h
theorem way_blue {A B : Rp} {a b : Nat} (T : Turned A B a b) : ∀ {x v k : Nat}, Way A x v k → (∃ j, Way B x v j) ∨ ∃ j, Way B x a j := by
  intro x v k w
  induction w with
  | nil u => exact .inl ⟨0, .nil u⟩
  | @cons u y v k e _ ih =>
    rcases T.fwd _ e with q | q
    · rcases ih with ⟨j, w⟩ | ⟨j, w⟩
      · exact .inl ⟨j + 1, .cons q w⟩
      · exact .inr ⟨j + 1, .cons q w⟩
    · injection q with q1 q2
      subst q1
      exact .inr ⟨0, .nil _⟩
theorem way_snoc {A : Rp} {x v y k : Nat} (w : Way A x v k) (e : (v, y) ∈ A) : Way A x y (k + 1) := by
  induction w with
  | nil u => exact .cons e (.nil _)
  | cons e2 _ ih => exact .cons e2 (ih e)
theorem meets_red {A B : Rp} {a b : Nat} {reds reds' bl : List Nat} (T : Turned A B a b) (hb : 0 < reds'.getD b 0) (ho : ∀ u, u ≠ a → u ≠ b → 0 < reds.getD u 0 → 0 < reds'.getD u 0) (h : Meets A reds bl) : Meets B reds' bl := by
  obtain ⟨u, k, hu, v, w, hv⟩ := h
  rcases way_red T w with ⟨j, w'⟩ | ⟨j, w'⟩
  · by_cases ea : u = a
    · subst ea
      exact ⟨b, j + 1, hb, v, .cons T.bck w', hv⟩
    · by_cases eb : u = b
      · subst eb
        exact ⟨u, j, hb, v, w', hv⟩
      · exact ⟨u, j, ho u ea eb hu, v, w', hv⟩
  · exact ⟨b, j, hb, v, w', hv⟩
theorem meets_blue {A B : Rp} {a b : Nat} {reds bl bl' : List Nat} (T : Turned A B a b) (ha : 0 < bl'.getD a 0) (ho : ∀ u, u ≠ a → u ≠ b → 0 < bl.getD u 0 → 0 < bl'.getD u 0) (h : Meets A reds bl) : Meets B reds bl' := by
  obtain ⟨u, k, hu, v, w, hv⟩ := h
  rcases way_blue T w with ⟨j, w'⟩ | ⟨j, w'⟩
  · by_cases eb : v = b
    · subst eb
      exact ⟨u, j + 1, hu, a, way_snoc w' T.bck, ha⟩
    · by_cases ea : v = a
      · subst ea
        exact ⟨u, j, hu, v, w', ha⟩
      · exact ⟨u, j, hu, v, w', ho v ea eb hv⟩
  · exact ⟨u, j, hu, a, w', ha⟩
theorem turned_set {A : Rp} {k : Nat} {p : Nat × Nat} (e : A[k]? = some p) : Turned A (A.set k (p.2, p.1)) p.1 p.2 := by
  have hk := (List.getElem?_eq_some_iff.mp e).1
  refine ⟨fun q hq => ?_, ?_⟩
  · obtain ⟨i, hi⟩ := List.getElem?_of_mem hq
    by_cases c : i = k
    · subst c
      rw [e] at hi
      right
      exact (Option.some.inj hi).symm
    · left
      refine List.mem_of_getElem? (i := i) ?_
      rw [List.getElem?_set_ne (Ne.symm c)]
      exact hi
  · refine List.mem_of_getElem? (i := k) ?_
    rw [List.getElem?_set_self hk]
theorem turned_back {A : Rp} {k : Nat} {p : Nat × Nat} (e : A[k]? = some p) : Turned (A.set k (p.2, p.1)) A p.2 p.1 := by
  have hk := (List.getElem?_eq_some_iff.mp e).1
  refine ⟨fun q hq => ?_, List.mem_of_getElem? e⟩
  rcases List.mem_or_eq_of_mem_set hq with h | h
  · exact .inl h
  · exact .inr h
def MeetsS (ropes : Rp) (s : S) : Prop := Meets (as ropes s) s.reds s.blues
section
variable {n : Nat} {ropes : Rp} {s t : S} {r : Rd}
theorem meets_ride (o : Ok n ropes) (h : OkS n ropes s) (q : canR ropes s r = true) : MeetsS ropes (ride ropes s r) ↔ MeetsS ropes s := by
  obtain ⟨k, c⟩ := r
  obtain ⟨p, e, g⟩ := canR_some q
  have e' : (as ropes s)[k]? = some p := e
  obtain ⟨h1, h2, h3⟩ := arr_mem o.ends p (List.mem_of_getElem? e')
  unfold MeetsS
  rw [as_ride h.c01 e']
  cases c with
  | false =>
    have g' : 0 < s.reds.getD p.1 0 := by simpa using g
    rw [ride_red e']
    have mv := move_getD (xs := s.reds) (by rw [h.lr]; exact h1) (by rw [h.lr]; exact h2) h3
    constructor
    · intro m
      refine meets_red (turned_back e') g' (fun u u1 u2 hu => ?_) m
      have hu' : 0 < (move s.reds p.1 p.2).getD u 0 := hu
      rw [mv, if_neg u1, if_neg u2] at hu'
      exact hu'
    · intro m
      refine meets_red (turned_set e') ?_ (fun u u1 u2 hu => ?_) m
      · show 0 < (move s.reds p.1 p.2).getD p.2 0
        rw [mv, if_pos rfl]
        omega
      · show 0 < (move s.reds p.1 p.2).getD u 0
        rw [mv, if_neg u2, if_neg u1]
        exact hu
  | true =>
    have g' : 0 < s.blues.getD p.2 0 := by simpa using g
    rw [ride_blue e']
    have mv := move_getD (xs := s.blues) (by rw [h.lb]; exact h2) (by rw [h.lb]; exact h1) (Ne.symm h3)
    constructor
    · intro m
      refine meets_blue (turned_back e') g' (fun u u1 u2 hu => ?_) m
      have hu' : 0 < (move s.blues p.2 p.1).getD u 0 := hu
      rw [mv, if_neg u2, if_neg u1] at hu'
      exact hu'
    · intro m
      refine meets_blue (turned_set e') ?_ (fun u u1 u2 hu => ?_) m
      · show 0 < (move s.blues p.2 p.1).getD p.1 0
        rw [mv, if_pos rfl]
        omega
      · show 0 < (move s.blues p.2 p.1).getD u 0
        rw [mv, if_neg u1, if_neg u2]
        exact hu
end
inductive Reach (ropes : Rp) (s : S) : S → Prop
  | refl : Reach ropes s s
  | step {t : S} {r : Rd} : Reach ropes s t → canR ropes t r = true → Reach ropes s (ride ropes t r)
section
variable {n : Nat} {ropes : Rp} {s t : S} {r : Rd}
theorem reach_ok (o : Ok n ropes) (h : OkS n ropes s) (w : Reach ropes s t) : OkS n ropes t := by
  induction w with
  | refl => exact h
  | step _ q ih => exact ride_ok o ih q
theorem reach_meets (o : Ok n ropes) (h : OkS n ropes s) (w : Reach ropes s t) : MeetsS ropes t ↔ MeetsS ropes s := by
  induction w with
  | refl => exact Iff.rfl
  | step w q ih => exact (meets_ride o (reach_ok o h w) q).trans ih
end
/-! ### a row of rides -/
def endS (ropes : Rp) : S → List Rd → Option S
  | s, [] => some s
  | s, r :: rs => if canR ropes s r = true then endS ropes (ride ropes s r) rs else none
theorem endS_reach {ropes : Rp} : ∀ {rs : List Rd} {s t : S}, endS ropes s rs = some t → Reach ropes s t := by
  intro rs
  have key : ∀ (rs : List Rd) (s0 s t : S), Reach ropes s0 s → endS ropes s rs = some t → Reach ropes s0 t := by
    intro rs
    induction rs with
    | nil =>
      intro s0 s t w h
      have e : s = t := Option.some.inj h
      rw [← e]
      exact w
    | cons r rs ih =>
      intro s0 s t w h
      have h2 : (if canR ropes s r = true then endS ropes (ride ropes s r) rs else none) = some t := h
      by_cases c : canR ropes s r = true
      · rw [if_pos c] at h2
        exact ih s0 _ t (.step w c) h2
      · rw [if_neg c] at h2
        cases h2
  intro s t h
  exact key rs s s t .refl h
/-- riding on over the ropes of a shortest way -/
theorem walk_on {n : Nat} {ropes : Rp} {s0 : S} (o : Ok n ropes) : ∀ (m : Nat) (pl : List Nat) (p : Nat) (s : S), OkS n ropes s → s.blues = s0.blues → p ∈ pl → (∀ q ∈ pl, dst (as ropes s0) s0.blues q = some m) → (∀ q ∈ pl, 0 < s.reds.getD q 0) →
    (∀ (k : Nat) (a : Nat × Nat) (j : Nat), (as ropes s0)[k]? = some a → dst (as ropes s0) s0.blues a.1 = some j → j ≤ m → (as ropes s)[k]? = some a) →
    ∃ t, endS ropes s ((greedy (as ropes s0) s0.blues pl m).map fun i => (i, false)) = some t ∧ both t = true := by
  intro m
  induction m with
  | zero =>
    intro pl p s hs hb hp hd hr _
    refine ⟨s, rfl, both_iff.mpr ⟨p, hr p hp, ?_⟩⟩
    rw [hb]
    exact dst_zero.mp (hd p hp)
  | succ m ih =>
    intro pl p s hs hb hp hd hr hk
    obtain ⟨i, t, h, hf, hi, ht, hh⟩ := fit_ex hp (hd p hp)
    rw [greedy_succ hf hi, List.map_cons]
    have hi2 : (as ropes s)[i]? = some (t, h) := hk i (t, h) (m + 1) hi (hd t ht) (Nat.le_refl _)
    have can : canR ropes s (i, false) = true := canR_of (r := (i, false)) hi2 (by simpa using hr t ht)
    obtain ⟨t1, t2, t3⟩ := arr_mem o.ends (t, h) (List.mem_of_getElem? hi2)
    have mv := move_getD (xs := s.reds) (by rw [hs.lr]; exact t1) (by rw [hs.lr]; exact t2) t3
    obtain ⟨u, hu, hb2⟩ := ih [h] h (ride ropes s (i, false)) (ride_ok o hs can) (by rw [ride_red hi2]; exact hb) (List.mem_singleton.mpr rfl) (fun q hq => by rw [List.mem_singleton.mp hq]; exact hh)
      (fun q hq => by
        rw [List.mem_singleton.mp hq, ride_red hi2]
        show 0 < (move s.reds t h).getD h 0
        rw [mv, if_pos rfl]
        omega)
      (fun k a j hka hda hj => by
        have ne : k ≠ i := fun z => by
          rw [z, hi] at hka
          cases hka
          have q2 := hd t ht
          rw [hda] at q2
          injection q2 with q2
          omega
        rw [as_ride hs.c01 hi2, List.getElem?_set_ne (Ne.symm ne)]
        exact hk k a j hka hda (by omega))
    refine ⟨u, ?_, hb2⟩
    show (if canR ropes s (i, false) = true then endS ropes (ride ropes s (i, false)) _ else none) = some u
    rw [if_pos can]
    exact hu
/-- the red rides over the meeting way bring a red and a blue guest together -/
theorem meet_walk {n : Nat} {ropes : Rp} {s : S} (o : Ok n ropes) (h : OkS n ropes s) {u : Nat} {rs : List Nat} (e : meet n (as ropes s) s.reds s.blues = some (u, rs)) : ∃ t, endS ropes s (rs.map fun i => (i, false)) = some t ∧ both t = true := by
  by_cases c : ∃ m, IsLeast n (as ropes s) s.reds s.blues m
  · obtain ⟨m, hm⟩ := c
    rw [meet_of hm] at e
    injection e with e
    injection e with e1 e2
    rw [← e2]
    obtain ⟨p, a, b, d⟩ := hm.1
    exact walk_on o m _ p s h rfl (mem_near.mpr ⟨a, b, d⟩) (fun q hq => (mem_near.mp hq).2.2) (fun q hq => (mem_near.mp hq).2.1) fun k a j h1 _ _ => h1
  · unfold meet at e
    rw [dif_neg c] at e
    cases e
/-- the ropes of the way are ropes -/
theorem greedy_lt {A : Rp} {bl : List Nat} : ∀ (m : Nat) (pl : List Nat), ∀ i ∈ greedy A bl pl m, i < A.length := by
  intro m
  induction m with
  | zero =>
    intro pl i hi
    cases hi
  | succ m ih =>
    intro pl i hi
    have hi2 : i ∈ (match A.findIdx? (fit A bl pl m) with
      | some i => i :: greedy A bl [(A.getD i (0, 0)).2] m
      | none => []) := hi
    cases c : A.findIdx? (fit A bl pl m) with
    | none =>
      rw [c] at hi2
      cases hi2
    | some j =>
      rw [c] at hi2
      rcases List.mem_cons.mp hi2 with e | e
      · rw [e]
        rw [List.findIdx?_eq_some_iff_getElem] at c
        exact c.1
      · exact ih _ i e
theorem meet_lt {n : Nat} {A : Rp} {reds bl : List Nat} {u : Nat} {rs : List Nat} (e : meet n A reds bl = some (u, rs)) : ∀ i ∈ rs, i < A.length := by
  unfold meet at e
  by_cases c : ∃ m, IsLeast n A reds bl m
  · rw [dif_pos c] at e
    injection e with e
    injection e with e1 e2
    rw [← e2]
    exact greedy_lt _ _
  · rw [dif_neg c] at e
    cases e
/-- in a set of states that rides do not leave -/
theorem closed_meets {n : Nat} {ropes : Rp} {s : S} {F : List S} (o : Ok n ropes) (h : OkS n ropes s) (h0 : s ∈ F) (hr : ∀ t ∈ F, Reach ropes s t) (hc : ∀ t ∈ F, ∀ r, canR ropes t r = true → ride ropes t r ∈ F) : (F.any both = true) ↔ MeetsS ropes s := by
  constructor
  · intro e
    obtain ⟨t, ht, hb⟩ := List.any_eq_true.mp e
    obtain ⟨u, h1, h2⟩ := both_iff.mp hb
    exact (reach_meets o h (hr t ht)).mp ⟨u, 0, h1, u, .nil u, h2⟩
  · intro m
    have hi := (meet_iff (n := n) h.lr).mpr m
    cases e : meet n (as ropes s) s.reds s.blues with
    | none =>
      rw [e] at hi
      cases hi
    | some w =>
      obtain ⟨u, rs⟩ := w
      obtain ⟨t, ht, hb⟩ := meet_walk o h e
      have key : ∀ (l : List Rd) (x t : S), x ∈ F → endS ropes x l = some t → t ∈ F := by
        intro l
        induction l with
        | nil =>
          intro x t hx q
          have q2 : x = t := Option.some.inj q
          rw [← q2]
          exact hx
        | cons r l ih =>
          intro x t hx q
          have q2 : (if canR ropes x r = true then endS ropes (ride ropes x r) l else none) = some t := q
          by_cases c : canR ropes x r = true
          · rw [if_pos c] at q2
            exact ih _ t (hc x hx r c) q2
          · rw [if_neg c] at q2
            cases q2
      exact List.any_eq_true.mpr ⟨t, key _ s t h0 ht, hb⟩
end TM

/-! the plain mathematics, part three: levels, rounds, the first fitting rope -/
namespace TM
section
variable {as : Rp} {bl : List Nat} {n L u k i : Nat}
open Classical in
noncomputable def lev (as : Rp) (bl : List Nat) (L u : Nat) : Option Nat := if ∃ k, dst as bl u = some k ∧ k ≤ L then dst as bl u else none
theorem lev_some : lev as bl L u = some k ↔ dst as bl u = some k ∧ k ≤ L := by
  unfold lev
  by_cases h : ∃ k, dst as bl u = some k ∧ k ≤ L
  · rw [if_pos h]
    obtain ⟨j, h1, h2⟩ := h
    constructor
    · intro e
      refine ⟨e, ?_⟩
      rw [h1] at e
      have := Option.some.inj e
      omega
    · exact fun z => z.1
  · rw [if_neg h]
    constructor
    · intro e
      cases e
    · exact fun z => (h ⟨k, z⟩).elim
theorem lev_none : lev as bl L u = none ↔ ∀ k, dst as bl u = some k → L < k := by
  constructor
  · intro h k hk
    rcases Nat.lt_or_ge L k with l | l
    · exact l
    · rw [lev_some.mpr ⟨hk, l⟩] at h
      cases h
  · intro h
    cases e : lev as bl L u with
    | none => rfl
    | some k =>
      obtain ⟨h1, h2⟩ := lev_some.mp e
      have := h k h1
      omega
theorem lev_zero : lev as bl 0 u = if 0 < bl.getD u 0 then some 0 else none := by
  by_cases h : 0 < bl.getD u 0
  · rw [if_pos h]
    exact lev_some.mpr ⟨dst_zero.mpr h, Nat.le_refl _⟩
  · rw [if_neg h]
    refine lev_none.mpr fun k hk => ?_
    rcases Nat.eq_zero_or_pos k with z | z
    · subst z
      exact (h (dst_zero.mp hk)).elim
    · exact z
open Classical in
/-- the level while the ropes i.. are still to come -/
noncomputable def levI (as : Rp) (bl : List Nat) (i L u : Nat) : Option Nat := if lev as bl L u = none ∧ ∃ v, (u, v) ∈ as.take i ∧ dst as bl v = some L then some (L + 1) else lev as bl L u
theorem levI_zero : levI as bl 0 L u = lev as bl L u := by
  unfold levI
  rw [if_neg]
  rintro ⟨_, v, h, _⟩
  rw [List.take_zero] at h
  cases h
theorem levI_full : levI as bl as.length L u = lev as bl (L + 1) u := by
  unfold levI
  rw [List.take_length]
  by_cases h : lev as bl L u = none ∧ ∃ v, (u, v) ∈ as ∧ dst as bl v = some L
  · rw [if_pos h]
    obtain ⟨h1, v, h2, h3⟩ := h
    refine (lev_some.mpr ⟨dst_some.mpr (isD_succ.mpr ⟨⟨v, h2, dst_some.mp h3⟩, fun j hj z => ?_⟩), Nat.le_refl _⟩).symm
    have := lev_none.mp h1 j (dst_some.mpr z)
    omega
  · rw [if_neg h]
    cases e : lev as bl L u with
    | some k =>
      obtain ⟨h1, h2⟩ := lev_some.mp e
      exact (lev_some.mpr ⟨h1, by omega⟩).symm
    | none =>
      refine (lev_none.mpr fun k hk => ?_).symm
      have hL := lev_none.mp e k hk
      rcases Nat.lt_or_ge (L + 1) k with l | l
      · exact l
      · obtain rfl : k = L + 1 := by omega
        obtain ⟨v, h1, h2⟩ := dst_succ_ex hk
        exact (h ⟨e, v, h1, h2⟩).elim
theorem levI_at : levI as bl i L u = some L ↔ dst as bl u = some L := by
  unfold levI
  by_cases h : lev as bl L u = none ∧ ∃ v, (u, v) ∈ as.take i ∧ dst as bl v = some L
  · rw [if_pos h]
    constructor
    · intro e
      have := Option.some.inj e
      omega
    · intro e
      have := lev_none.mp h.1 L e
      omega
  · rw [if_neg h, lev_some]
    exact ⟨fun z => z.1, fun z => ⟨z, Nat.le_refl _⟩⟩
theorem levI_same {a b : Nat} (h : as[i]? = some (a, b)) (no : ¬ (dst as bl b = some L ∧ levI as bl i L a = none)) : levI as bl (i + 1) L u = levI as bl i L u := by
  have ht : as.take (i + 1) = as.take i ++ [(a, b)] := by
    rw [List.take_succ, h]
    rfl
  unfold levI
  rw [ht]
  by_cases c : lev as bl L u = none ∧ ∃ v, (u, v) ∈ as.take i ∧ dst as bl v = some L
  · rw [if_pos c, if_pos]
    obtain ⟨h1, v, h2, h3⟩ := c
    exact ⟨h1, v, List.mem_append_left _ h2, h3⟩
  · rw [if_neg c, if_neg]
    rintro ⟨h1, v, h2, h3⟩
    rcases List.mem_append.mp h2 with h2 | h2
    · exact c ⟨h1, v, h2, h3⟩
    · have e := List.mem_singleton.mp h2
      obtain ⟨rfl, rfl⟩ := Prod.mk.inj e
      refine no ⟨h3, ?_⟩
      unfold levI
      rw [if_neg c]
      exact h1
theorem levI_set {a b : Nat} (h : as[i]? = some (a, b)) (hb : dst as bl b = some L) (ha : levI as bl i L a = none) : levI as bl (i + 1) L u = if u = a then some (L + 1) else levI as bl i L u := by
  have ht : as.take (i + 1) = as.take i ++ [(a, b)] := by
    rw [List.take_succ, h]
    rfl
  by_cases e : u = a
  · subst e
    rw [if_pos rfl]
    unfold levI at ha ⊢
    rw [ht]
    by_cases c : lev as bl L u = none ∧ ∃ v, (u, v) ∈ as.take i ∧ dst as bl v = some L
    · rw [if_pos c] at ha
      cases ha
    · rw [if_neg c] at ha
      rw [if_pos]
      exact ⟨ha, b, List.mem_append_right _ (List.mem_singleton.mpr rfl), hb⟩
  · rw [if_neg e]
    unfold levI
    rw [ht]
    by_cases c : lev as bl L u = none ∧ ∃ v, (u, v) ∈ as.take i ∧ dst as bl v = some L
    · rw [if_pos c, if_pos]
      obtain ⟨h1, v, h2, h3⟩ := c
      exact ⟨h1, v, List.mem_append_left _ h2, h3⟩
    · rw [if_neg c, if_neg]
      rintro ⟨h1, v, h2, h3⟩
      rcases List.mem_append.mp h2 with h2 | h2
      · exact c ⟨h1, v, h2, h3⟩
      · exact e (congrArg Prod.fst (List.mem_singleton.mp h2))
theorem lev_all (ha : ∀ p ∈ as, p.1 < n ∧ p.2 < n) (h : ∀ u, u < n → dst as bl u ≠ some L) (hu : u < n) : lev as bl L u = dst as bl u := by
  cases e : dst as bl u with
  | none => exact lev_none.mpr fun k hk => by rw [e] at hk; cases hk
  | some k =>
    refine lev_some.mpr ⟨e, ?_⟩
    rcases Nat.lt_or_ge L k with l | l
    · obtain ⟨v, hv, q⟩ := isD_below ha k u (dst_some.mp e) hu L (by omega)
      exact (h v hv (dst_some.mpr q)).elim
    · exact l
end
/-! ### the first fitting rope -/
theorem first_fit {α : Type} {as : List α} {f : α → Bool} {d : α} {i : Nat} (h : as.findIdx? f = some i) : ((List.range as.length).filter fun j => f (as.getD j d)).head? = some i := by
  rw [List.head?_filter, List.find?_range_eq_some]
  rw [List.findIdx?_eq_some_iff_getElem] at h
  obtain ⟨hi, a, b⟩ := h
  have gd : ∀ j (hj : j < as.length), as.getD j d = as[j] := fun j hj => by
    rw [List.getD_eq_getElem?_getD, List.getElem?_eq_getElem hj]
    rfl
  refine ⟨by rw [gd i hi]; exact a, List.mem_range.mpr hi, fun j hj => ?_⟩
  have := b j hj
  rw [gd j (by omega)]
  simpa using this
/-! ### rounds -/
section
variable {n : Nat} {as : Rp} {bl st st0 : List Nat} {t i : Nat}
noncomputable def fr (n : Nat) (as : Rp) (bl : List Nat) (u : Nat) : Nat := match dst as bl u with
  | some k => k
  | none => n + 1
structure BF (n : Nat) (as : Rp) (bl : List Nat) (t : Nat) (st : List Nat) : Prop where
  len : st.length = n
  le : ∀ u, u < n → st.getD u 0 ≤ n + 1
  so : ∀ u, u < n → st.getD u 0 ≤ n → WB as bl u (st.getD u 0)
  co : ∀ u k, u < n → dst as bl u = some k → k ≤ t → st.getD u 0 ≤ k
structure BI (n : Nat) (as : Rp) (bl st0 : List Nat) (i : Nat) (st : List Nat) : Prop where
  len : st.length = n
  le : ∀ u, u < n → st.getD u 0 ≤ n + 1
  so : ∀ u, u < n → st.getD u 0 ≤ n → WB as bl u (st.getD u 0)
  mo : ∀ u, u < n → st.getD u 0 ≤ st0.getD u 0
  dn : ∀ j a b, j < i → as[j]? = some (a, b) → st.getD a 0 ≤ st0.getD b 0 + 1
theorem bf_zero (hl : st.length = n) (h : ∀ u, u < n → st.getD u 0 = if bl.getD u 0 = 0 then n + 1 else 0) : BF n as bl 0 st := by
  refine ⟨hl, fun u hu => ?_, fun u hu hs => ?_, fun u k hu hd hk => ?_⟩
  · rw [h u hu]
    split <;> omega
  · rw [h u hu] at hs ⊢
    by_cases c : bl.getD u 0 = 0
    · rw [if_pos c] at hs
      omega
    · rw [if_neg c]
      exact wb_zero.mpr (by omega)
  · obtain rfl : k = 0 := by omega
    rw [h u hu, if_neg]
    · exact Nat.le_refl _
    · have := dst_zero.mp hd
      omega
theorem bi_zero (h : BF n as bl t st) : BI n as bl st 0 st := ⟨h.len, h.le, h.so, fun _ _ => Nat.le_refl _, fun j a b hj => by omega⟩
theorem bi_step {a b : Nat} (h : BI n as bl st0 i st) (he : as[i]? = some (a, b)) (ha : a < n) (hb : b < n) : BI n as bl st0 (i + 1) (st.set a (min (st.getD a 0) (st.getD b 0 + 1))) := by
  have hal : a < st.length := by rw [h.len]; exact ha
  have hgd := fun u => getD_set st a (min (st.getD a 0) (st.getD b 0 + 1)) u hal
  have hmin : min (st.getD a 0) (st.getD b 0 + 1) ≤ st.getD a 0 := Nat.min_le_left _ _
  refine ⟨by rw [List.length_set]; exact h.len, fun u hu => ?_, fun u hu hs => ?_, fun u hu => ?_, fun j a' b' hj hj' => ?_⟩
  · rw [hgd]
    split
    · have := h.le a ha
      omega
    · exact h.le u hu
  · rw [hgd] at hs ⊢
    by_cases c : u = a
    · rw [if_pos c] at hs ⊢
      subst c
      rcases Nat.le_total (st.getD u 0) (st.getD b 0 + 1) with l | l
      · rw [Nat.min_eq_left l] at hs ⊢
        exact h.so u hu hs
      · rw [Nat.min_eq_right l] at hs ⊢
        exact wb_succ.mpr ⟨b, List.mem_of_getElem? he, h.so b hb (by omega)⟩
    · rw [if_neg c] at hs ⊢
      exact h.so u hu hs
  · rw [hgd]
    split
    · rename_i c
      subst c
      have := h.mo u hu
      omega
    · exact h.mo u hu
  · have hle : (st.set a (min (st.getD a 0) (st.getD b 0 + 1))).getD a' 0 ≤ st.getD a' 0 := by
      rw [hgd]
      split
      · rename_i c
        subst c
        exact hmin
      · exact Nat.le_refl _
    by_cases c : j = i
    · subst c
      have e := Option.some.inj (hj'.symm.trans he)
      obtain ⟨rfl, rfl⟩ := Prod.mk.inj e
      rw [hgd, if_pos rfl]
      have := h.mo b' hb
      have := Nat.min_le_right (st.getD a' 0) (st.getD b' 0 + 1)
      omega
    · have := h.dn j a' b' (by omega) hj'
      omega
theorem bi_end (h0 : BF n as bl t st0) (h : BI n as bl st0 as.length st) (he : ∀ p ∈ as, p.1 < n ∧ p.2 < n) : BF n as bl (t + 1) st := by
  refine ⟨h.len, h.le, h.so, fun u k hu hd hk => ?_⟩
  by_cases c : k ≤ t
  · have := h.mo u hu
    have := h0.co u k hu hd c
    omega
  · obtain rfl : k = t + 1 := by omega
    obtain ⟨v, h1, h2⟩ := dst_succ_ex hd
    obtain ⟨j, hj⟩ := List.getElem?_of_mem h1
    have hjl := (List.getElem?_eq_some_iff.mp hj).1
    have := h.dn j u v hjl hj
    have := h0.co v t (he _ h1).2 h2 (Nat.le_refl _)
    omega
theorem bf_fr (h : BF n as bl n st) (he : ∀ p ∈ as, p.1 < n ∧ p.2 < n) {u : Nat} (hu : u < n) : st.getD u 0 = fr n as bl u := by
  unfold fr
  cases e : dst as bl u with
  | some k =>
    have hk := isD_lt he hu (dst_some.mp e)
    have h1 := h.co u k hu e (by omega)
    have h2 := (dst_some.mp e).2 _ (h.so u hu (by omega))
    show st.getD u 0 = k
    omega
  | none =>
    have h1 := h.le u hu
    rcases Nat.lt_or_ge n (st.getD u 0) with l | l
    · show st.getD u 0 = n + 1
      omega
    · exact (dst_none_wb.mp e _ (h.so u hu l)).elim
theorem fr_some {u k : Nat} (h : dst as bl u = some k) : fr n as bl u = k := by
  unfold fr
  rw [h]
theorem fr_none {u : Nat} (h : dst as bl u = none) : fr n as bl u = n + 1 := by
  unfold fr
  rw [h]
theorem fr_eq {u k : Nat} (hk : k ≤ n) : fr n as bl u = k ↔ dst as bl u = some k := by
  constructor
  · intro e
    cases c : dst as bl u with
    | some j =>
      rw [fr_some c] at e
      rw [e]
    | none =>
      rw [fr_none c] at e
      omega
  · exact fr_some
end
theorem findIdx_of {α : Type} {as : List α} {f : α → Bool} {j : Nat} {p : α} (h : as[j]? = some p) (hp : f p = true) (no : ∀ i q, i < j → as[i]? = some q → f q = false) : as.findIdx? f = some j := by
  obtain ⟨hl, e⟩ := List.getElem?_eq_some_iff.mp h
  rw [List.findIdx?_eq_some_iff_getElem]
  refine ⟨hl, by rw [e]; exact hp, fun i hi => ?_⟩
  have := no i as[i] hi (List.getElem?_eq_getElem (by omega))
  rw [this]
  decide
theorem findIdx_no {α : Type} {as : List α} {f : α → Bool} {j : Nat} (h : as.findIdx? f = some j) (no : ∀ i q, i < as.length → as[i]? = some q → f q = false) : False := by
  rw [List.findIdx?_eq_some_iff_getElem] at h
  obtain ⟨hl, e, _⟩ := h
  rw [no j as[j] hl (List.getElem?_eq_getElem hl)] at e
  cases e
theorem fit_true {as : Rp} {bl pl : List Nat} {m : Nat} {p : Nat × Nat} : fit as bl pl m p = true ↔ p.1 ∈ pl ∧ dst as bl p.2 = some m := by
  unfold fit
  rw [Bool.and_eq_true, List.contains_iff_mem, beq_iff_eq]
theorem fit_false {as : Rp} {bl pl : List Nat} {m : Nat} {p : Nat × Nat} (h : ¬ (p.1 ∈ pl ∧ dst as bl p.2 = some m)) : fit as bl pl m p = false := by
  cases c : fit as bl pl m p with
  | false => rfl
  | true => exact (h (fit_true.mp c)).elim
theorem near_ne {n : Nat} {as : Rp} {reds bl : List Nat} {m : Nat} (h : IsLeast n as reds bl m) : near n as reds bl m ≠ [] := by
  obtain ⟨⟨u, h1, h2, h3⟩, _⟩ := h
  intro z
  have := mem_near.mpr ⟨h1, h2, h3⟩
  rw [z] at this
  cases this
theorem greedy_len {as : Rp} {bl : List Nat} : ∀ (m : Nat) (pl : List Nat), (greedy as bl pl m).length ≤ m
  | 0, _ => Nat.le_refl _
  | m + 1, pl => by
    show (match as.findIdx? (fit as bl pl m) with
      | some i => i :: greedy as bl [(as.getD i (0, 0)).2] m
      | none => []).length ≤ m + 1
    split
    · rename_i i _
      have := greedy_len (as := as) (bl := bl) m [(as.getD i (0, 0)).2]
      rw [List.length_cons]
      omega
    · exact Nat.zero_le _
end TM

namespace Tw
open PySem PySem.Spec PyProof.Rows L2
/-! ### the text by places -/
def top (i : Nat) : Stmt := PySem.Challenge.pw_twinrope_k12_whole_meeting_ways.main.body.getD i (.Pass ⟨0, 0, 0, 0⟩)
abbrev s_arrows_of : Stmt := top 11
abbrev s_reached_from : Stmt := top 12
abbrev s_red_reach : Stmt := top 13
abbrev s_can_meet : Stmt := top 14
abbrev s__lengths_to_blue : Stmt := top 15
abbrev s__least_ropes : Stmt := top 16
abbrev s_meeting_way : Stmt := top 17
abbrev s_meet_row : Stmt := top 18
abbrev s_check_rope : Stmt := top 20
abbrev s_check_cars : Stmt := top 21
abbrev s__cut_off : Stmt := top 23
abbrev s__check_size : Stmt := top 24
abbrev s_Net_init : Stmt := inClass (top 25) 2
abbrev s__check_guests : Stmt := top 27
abbrev s_Standing_init : Stmt := inClass (top 28) 1
abbrev s_Standing_red_car : Stmt := inClass (top 28) 6
abbrev s_Standing_blue_car : Stmt := inClass (top 28) 7
abbrev s__law_integer : Stmt := top 30
abbrev s__law_bag : Stmt := top 31
abbrev s__law_take : Stmt := top 32
abbrev s__law_order : Stmt := top 33
abbrev s__law_add_rope : Stmt := top 34
abbrev s__law_net : Stmt := top 35
abbrev s__law_guests : Stmt := top 36
abbrev s__law_cars : Stmt := top 37
abbrev s__law_world : Stmt := top 38
abbrev s__law_standing : Stmt := top 39
abbrev s__law_shows : Stmt := top 40
abbrev s__law_arrows : Stmt := top 41
abbrev s__law_rides : Stmt := top 42
abbrev s__law_ride : Stmt := top 43
abbrev s__law_walked : Stmt := top 44
abbrev s__law_search : Stmt := top 45
abbrev s__law_both : Stmt := top 46
abbrev s__law_are_rides : Stmt := top 47
abbrev s__law_end : Stmt := top 48
abbrev s__law_meeting : Stmt := top 49
abbrev s__law_is_list : Stmt := top 50
abbrev s__law_same : Stmt := top 51
abbrev s__law_row : Stmt := top 52
abbrev s__law_asked : Stmt := top 53
abbrev s_law : Stmt := top 54
def d_arrows_of : He.DefD := ⟨("arrows_of", none), "arrows_of", "arrows_of", defArgs s_arrows_of, defBody s_arrows_of, defScope s_arrows_of, [], []⟩
def d_reached_from : He.DefD := ⟨("reached_from", none), "reached_from", "reached_from", defArgs s_reached_from, defBody s_reached_from, defScope s_reached_from, [], []⟩
def d_red_reach : He.DefD := ⟨("red_reach", none), "red_reach", "red_reach", defArgs s_red_reach, defBody s_red_reach, defScope s_red_reach, [], []⟩
def d_can_meet : He.DefD := ⟨("can_meet", none), "can_meet", "can_meet", defArgs s_can_meet, defBody s_can_meet, defScope s_can_meet, [], []⟩
def d__lengths_to_blue : He.DefD := ⟨("_lengths_to_blue", none), "_lengths_to_blue", "_lengths_to_blue", defArgs s__lengths_to_blue, defBody s__lengths_to_blue, defScope s__lengths_to_blue, [], []⟩
def d__least_ropes : He.DefD := ⟨("_least_ropes", none), "_least_ropes", "_least_ropes", defArgs s__least_ropes, defBody s__least_ropes, defScope s__least_ropes, [], []⟩
def d_meeting_way : He.DefD := ⟨("meeting_way", none), "meeting_way", "meeting_way", defArgs s_meeting_way, defBody s_meeting_way, defScope s_meeting_way, [], []⟩
def d_meet_row : He.DefD := ⟨("meet_row", none), "meet_row", "meet_row", defArgs s_meet_row, defBody s_meet_row, defScope s_meet_row, [], []⟩
def d_check_rope : He.DefD := ⟨("check_rope", none), "check_rope", "check_rope", defArgs s_check_rope, defBody s_check_rope, defScope s_check_rope, [], []⟩
def d_check_cars : He.DefD := ⟨("check_cars", none), "check_cars", "check_cars", defArgs s_check_cars, defBody s_check_cars, defScope s_check_cars, [], []⟩
def d__cut_off : He.DefD := ⟨("_cut_off", none), "_cut_off", "_cut_off", defArgs s__cut_off, defBody s__cut_off, defScope s__cut_off, [], []⟩
def d__check_size : He.DefD := ⟨("_check_size", none), "_check_size", "_check_size", defArgs s__check_size, defBody s__check_size, defScope s__check_size, [], []⟩
def d_Net_init : He.DefD := ⟨("Net", some "__init__"), "__init__", "Net.__init__", defArgs s_Net_init, defBody s_Net_init, defScope s_Net_init, [], []⟩
def d__check_guests : He.DefD := ⟨("_check_guests", none), "_check_guests", "_check_guests", defArgs s__check_guests, defBody s__check_guests, defScope s__check_guests, [], []⟩
def d_Standing_init : He.DefD := ⟨("Standing", some "__init__"), "__init__", "Standing.__init__", defArgs s_Standing_init, defBody s_Standing_init, defScope s_Standing_init, [], []⟩
def d_Standing_red_car : He.DefD := ⟨("Standing", some "red_car"), "red_car", "Standing.red_car", defArgs s_Standing_red_car, defBody s_Standing_red_car, defScope s_Standing_red_car, [], []⟩
def d_Standing_blue_car : He.DefD := ⟨("Standing", some "blue_car"), "blue_car", "Standing.blue_car", defArgs s_Standing_blue_car, defBody s_Standing_blue_car, defScope s_Standing_blue_car, [], []⟩
def d__law_integer : He.DefD := ⟨("_law_integer", none), "_law_integer", "_law_integer", defArgs s__law_integer, defBody s__law_integer, defScope s__law_integer, [], []⟩
def d__law_bag : He.DefD := ⟨("_law_bag", none), "_law_bag", "_law_bag", defArgs s__law_bag, defBody s__law_bag, defScope s__law_bag, [], []⟩
def d__law_take : He.DefD := ⟨("_law_take", none), "_law_take", "_law_take", defArgs s__law_take, defBody s__law_take, defScope s__law_take, [], []⟩
def d__law_order : He.DefD := ⟨("_law_order", none), "_law_order", "_law_order", defArgs s__law_order, defBody s__law_order, defScope s__law_order, [], []⟩
def d__law_add_rope : He.DefD := ⟨("_law_add_rope", none), "_law_add_rope", "_law_add_rope", defArgs s__law_add_rope, defBody s__law_add_rope, defScope s__law_add_rope, [], []⟩
def d__law_net : He.DefD := ⟨("_law_net", none), "_law_net", "_law_net", defArgs s__law_net, defBody s__law_net, defScope s__law_net, [], []⟩
def d__law_guests : He.DefD := ⟨("_law_guests", none), "_law_guests", "_law_guests", defArgs s__law_guests, defBody s__law_guests, defScope s__law_guests, [], []⟩
def d__law_cars : He.DefD := ⟨("_law_cars", none), "_law_cars", "_law_cars", defArgs s__law_cars, defBody s__law_cars, defScope s__law_cars, [], []⟩
def d__law_world : He.DefD := ⟨("_law_world", none), "_law_world", "_law_world", defArgs s__law_world, defBody s__law_world, defScope s__law_world, [], []⟩
def d__law_standing : He.DefD := ⟨("_law_standing", none), "_law_standing", "_law_standing", defArgs s__law_standing, defBody s__law_standing, defScope s__law_standing, [], []⟩
def d__law_shows : He.DefD := ⟨("_law_shows", none), "_law_shows", "_law_shows", defArgs s__law_shows, defBody s__law_shows, defScope s__law_shows, [], []⟩
def d__law_arrows : He.DefD := ⟨("_law_arrows", none), "_law_arrows", "_law_arrows", defArgs s__law_arrows, defBody s__law_arrows, defScope s__law_arrows, [], []⟩
def d__law_rides : He.DefD := ⟨("_law_rides", none), "_law_rides", "_law_rides", defArgs s__law_rides, defBody s__law_rides, defScope s__law_rides, [], []⟩
def d__law_ride : He.DefD := ⟨("_law_ride", none), "_law_ride", "_law_ride", defArgs s__law_ride, defBody s__law_ride, defScope s__law_ride, [], []⟩
def d__law_walked : He.DefD := ⟨("_law_walked", none), "_law_walked", "_law_walked", defArgs s__law_walked, defBody s__law_walked, defScope s__law_walked, [], []⟩
def d__law_search : He.DefD := ⟨("_law_search", none), "_law_search", "_law_search", defArgs s__law_search, defBody s__law_search, defScope s__law_search, [], []⟩
def d__law_both : He.DefD := ⟨("_law_both", none), "_law_both", "_law_both", defArgs s__law_both, defBody s__law_both, defScope s__law_both, [], []⟩
def d__law_are_rides : He.DefD := ⟨("_law_are_rides", none), "_law_are_rides", "_law_are_rides", defArgs s__law_are_rides, defBody s__law_are_rides, defScope s__law_are_rides, [], []⟩
def d__law_end : He.DefD := ⟨("_law_end", none), "_law_end", "_law_end", defArgs s__law_end, defBody s__law_end, defScope s__law_end, [], []⟩
def d__law_meeting : He.DefD := ⟨("_law_meeting", none), "_law_meeting", "_law_meeting", defArgs s__law_meeting, defBody s__law_meeting, defScope s__law_meeting, [], []⟩
def d__law_is_list : He.DefD := ⟨("_law_is_list", none), "_law_is_list", "_law_is_list", defArgs s__law_is_list, defBody s__law_is_list, defScope s__law_is_list, [], []⟩
def d__law_same : He.DefD := ⟨("_law_same", none), "_law_same", "_law_same", defArgs s__law_same, defBody s__law_same, defScope s__law_same, [], []⟩
def d__law_row : He.DefD := ⟨("_law_row", none), "_law_row", "_law_row", defArgs s__law_row, defBody s__law_row, defScope s__law_row, [], []⟩
def d__law_asked : He.DefD := ⟨("_law_asked", none), "_law_asked", "_law_asked", defArgs s__law_asked, defBody s__law_asked, defScope s__law_asked, [], []⟩
def d_law : He.DefD := ⟨("law", none), "law", "law", defArgs s_law, defBody s_law, defScope s_law, [], []⟩
def fn0 : List He.DefD := [d_arrows_of, d_reached_from, d_red_reach, d_can_meet, d__lengths_to_blue, d__least_ropes, d_meeting_way, d_meet_row, d_check_rope, d_check_cars, d__cut_off, d__check_size, d_Net_init, d__check_guests, d_Standing_init, d_Standing_red_car, d_Standing_blue_car, d__law_integer, d__law_bag, d__law_take, d__law_order, d__law_add_rope, d__law_net, d__law_guests, d__law_cars]
def fn1 : List He.DefD := [d__law_world, d__law_standing, d__law_shows, d__law_arrows, d__law_rides, d__law_ride, d__law_walked, d__law_search, d__law_both, d__law_are_rides, d__law_end, d__law_meeting, d__law_is_list, d__law_same, d__law_row, d__law_asked, d_law]
def fn : List He.DefD := fn0 ++ fn1
def loose0 : List PySem.Str := ["_wall", "RopeError", "BadNet", "TooMany", "NotConnected", "NoRope", "BadStanding", "NeverMeet", "CanMeet", "arrows_of", "reached_from", "red_reach", "can_meet", "_lengths_to_blue", "_least_ropes", "meeting_way", "meet_row", "check_rope", "check_cars", "_cut_off", "_check_size", "Net", "_check_guests", "Standing", "_law_integer", "_law_bag", "_law_take", "_law_order", "_law_add_rope", "_law_net"]
def loose1 : List PySem.Str := ["_law_guests", "_law_cars", "_law_world", "_law_standing", "_law_shows", "_law_arrows", "_law_rides", "_law_ride", "_law_walked", "_law_search", "_law_both", "_law_are_rides", "_law_end", "_law_meeting", "_law_is_list", "_law_same", "_law_row", "_law_asked"]
def loose : List PySem.Str := loose0 ++ loose1
def fa0 : List He.Fa := [.glo "arrows_of", .glo "reached_from", .glo "red_reach", .glo "can_meet", .glo "_lengths_to_blue", .glo "_least_ropes", .glo "meeting_way", .glo "meet_row", .glo "check_rope", .glo "check_cars", .glo "_cut_off", .glo "_check_size", .glo "_check_guests", .glo "_law_integer", .glo "_law_bag", .glo "_law_take", .glo "_law_order", .glo "_law_add_rope", .glo "_law_net", .glo "_law_guests", .glo "_law_cars", .glo "_law_world", .glo "_law_standing", .glo "_law_shows", .glo "_law_arrows"]
def fa1 : List He.Fa := [.glo "_law_rides", .glo "_law_ride", .glo "_law_walked", .glo "_law_search", .glo "_law_both", .glo "_law_are_rides", .glo "_law_end", .glo "_law_meeting", .glo "_law_is_list", .glo "_law_same", .glo "_law_row", .glo "_law_asked", .glo "law", .glo "Net", .glo "Standing", .glo "RopeError", .glo "NeverMeet", .glo "CanMeet"]
def fa2 : List He.Fa := [.free "any", .free "enumerate", .free "int", .free "isinstance", .free "len", .free "list", .free "min", .free "range", .free "sum", .free "tuple", .free "bool", .free "str", .free "ValueError"]
def fa3 : List He.Fa := [.cls "Net", .mkr "Net", .noat "Net" "stations", .noat "Net" "ropes", .cls "Standing", .mkr "Standing", .noat "Standing" "net", .noat "Standing" "reds", .noat "Standing" "blues", .noat "Standing" "cars", .meth "Standing" "red_car", .meth "Standing" "blue_car", .exc "NeverMeet", .exm "NeverMeet" "NeverMeet" true]
def fa : List He.Fa := fa0 ++ fa1 ++ fa2 ++ fa3
/-! ### more facts, as one Bool of the written part -/
def conB (K : PySem.W.Frag) (C : Addr) (f : Str) (i : Int) : Bool := match PySem.W.findIn K (.ref C) f with
  | some (some (.int j t)) => decide (j = i) && (decide (PySem.W.specialIn K (.int j t) "__get__" = some none) && !PySem.W.copiedNames.contains f)
  | _ => false
theorem conB_ok {K : PySem.W.Frag} {C : Addr} {f : Str} {i : Int} (h : conB K C f i = true) : ∃ u, Con K C f (.int i) u := by
  unfold conB at h
  cases e : PySem.W.findIn K (.ref C) f with
  | none =>
    rw [e] at h
    cases h
  | some o =>
    rw [e] at h
    cases o with
    | none => cases h
    | some v =>
      cases v with
      | int j t =>
        obtain ⟨h1, h2⟩ := He.ba (show (decide (j = i) && (decide (PySem.W.specialIn K (.int j t) "__get__" = some none) && !PySem.W.copiedNames.contains f)) = true from h)
        obtain ⟨h3, h4⟩ := He.ba h2
        have ej : j = i := of_decide_eq_true h1
        subst ej
        exact ⟨_, e, ⟨t, rfl⟩, of_decide_eq_true h3, by simpa using h4⟩
      | _ => cases h
def cvB (K : PySem.W.Frag) (C : Addr) (f : Str) (i : Int) : Bool := match PySem.W.findCls K (.ref C) (.type "type") f with
  | some (.val (.int j t)) => decide (j = i)
  | _ => false
theorem cvB_ok {K : PySem.W.Frag} {C : Addr} {f : Str} {i : Int} (h : cvB K C f i = true) : ∃ u, ClX.CVal K C (.type "type") f (.int i) u := by
  unfold cvB at h
  cases e : PySem.W.findCls K (.ref C) (.type "type") f with
  | none =>
    rw [e] at h
    cases h
  | some o =>
    rw [e] at h
    cases o with
    | val v =>
      cases v with
      | int j t =>
        have ej : j = i := of_decide_eq_true h
        subst ej
        exact ⟨_, e, ⟨t, rfl⟩⟩
      | _ => cases h
    | _ => cases h
def crB (K : PySem.W.Frag) (C : Addr) : Bool := PySem.W.readsIn K C (.type "type") && decide (PySem.W.specialIn K (.ref C) "__getattribute__" = some (some (.builtin "type.__getattribute__")))
theorem crB_ok {K : PySem.W.Frag} {C : Addr} (h : crB K C = true) : ClX.CRead K C (.type "type") := by
  obtain ⟨h1, h2⟩ := He.ba h
  exact ⟨h1, of_decide_eq_true h2⟩
def excB (K : PySem.W.Frag) (D : Addr) : Bool :=
  He.eqO (PySem.W.findIn K (.ref D) "__getattribute__") (some (some (.builtin "BaseException.__getattribute__"))) && (He.eqO (PySem.W.findIn K (.ref D) "__getattr__") (some none) && (decide (PySem.W.subIn K (.ref D) (.type "BaseException") = some true) &&
  (PySem.W.hasDictIn K D && (He.eqO (PySem.W.findIn K (.ref D) "__class__") (some (some (.builtin "object.__class__"))) && (He.eqO (PySem.W.specialIn K (.builtin "object.__class__") "__get__") (some (some (.builtin "getset_descriptor.__get__"))) &&
  (decide (PySem.W.takesIn K (.builtin "object.__class__") = some true) && decide (PySem.W.mroIn K D (.type "object") = some true)))))))
theorem excB_ok {K : PySem.W.Frag} {D : Addr} (h : excB K D = true) : ExcC K D := by
  obtain ⟨h1, h⟩ := He.ba h
  obtain ⟨h2, h⟩ := He.ba h
  obtain ⟨h3, h⟩ := He.ba h
  obtain ⟨h4, h⟩ := He.ba h
  obtain ⟨h5, h⟩ := He.ba h
  obtain ⟨h6, h⟩ := He.ba h
  obtain ⟨h7, h8⟩ := He.ba h
  exact ⟨He.eqO_ok h1, He.eqO_ok h2, of_decide_eq_true h3, h4, He.eqO_ok h5, He.eqO_ok h6, of_decide_eq_true h7, of_decide_eq_true h8⟩
def insB (K : PySem.W.Frag) (D : Addr) : Bool :=
  He.eqO (PySem.W.findIn K (.ref D) "__class__") (some (some (.builtin "object.__class__"))) && (He.eqO (PySem.W.specialIn K (.builtin "object.__class__") "__get__") (some (some (.builtin "getset_descriptor.__get__"))) &&
  (decide (PySem.W.takesIn K (.builtin "object.__class__") = some true) && decide (PySem.W.mroIn K D (.type "object") = some true)))
structure InsK (K : PySem.W.Frag) (D : Addr) : Prop where
  ha : PySem.W.findIn K (.ref D) "__class__" = some (some (.builtin "object.__class__"))
  hn : PySem.W.specialIn K (.builtin "object.__class__") "__get__" = some (some (.builtin "getset_descriptor.__get__"))
  htk : PySem.W.takesIn K (.builtin "object.__class__") = some true
  hm : PySem.W.mroIn K D (.type "object") = some true
theorem insB_ok {K : PySem.W.Frag} {D : Addr} (h : insB K D = true) : InsK K D := by
  obtain ⟨h5, h⟩ := He.ba h
  obtain ⟨h6, h⟩ := He.ba h
  obtain ⟨h7, h8⟩ := He.ba h
  exact ⟨He.eqO_ok h5, He.eqO_ok h6, of_decide_eq_true h7, of_decide_eq_true h8⟩
def kitB3 (K : PySem.W.Frag) (x : Str) (c : Value) (b : Bool) : Bool := decide (PySem.W.kitOne K (.ref (He.ga K x)) c = some b)
def exK (K : PySem.W.Frag) : Bool :=
  conB K (He.ga K "Net") "MOST_ROPES" 40 && (conB K (He.ga K "Standing") "MOST_GUESTS" 30 && (cvB K (He.ga K "Net") "MOST_STATIONS" 24 && (crB K (He.ga K "Net") && (excB K (He.ga K "NeverMeet") && (insB K (He.ga K "Standing") &&
  (kitB3 K "NeverMeet" (.ref (He.ga K "RopeError")) true && (kitB3 K "NeverMeet" (.type "ValueError") true && (kitB3 K "NeverMeet" (.ref (He.ga K "CanMeet")) false && kitB3 K "Standing" (.ref (He.ga K "Standing")) true))))))))
structure ExK (K : PySem.W.Frag) : Prop where
  ropes : ∃ u, Con K (He.ga K "Net") "MOST_ROPES" (.int 40) u
  guests : ∃ u, Con K (He.ga K "Standing") "MOST_GUESTS" (.int 30) u
  stations : ∃ u, ClX.CVal K (He.ga K "Net") (.type "type") "MOST_STATIONS" (.int 24) u
  read : ClX.CRead K (He.ga K "Net") (.type "type")
  exc : ExcC K (He.ga K "NeverMeet")
  ins : InsK K (He.ga K "Standing")
  k1 : PySem.W.kitOne K (.ref (He.ga K "NeverMeet")) (.ref (He.ga K "RopeError")) = some true
  k2 : PySem.W.kitOne K (.ref (He.ga K "NeverMeet")) (.type "ValueError") = some true
  k3 : PySem.W.kitOne K (.ref (He.ga K "NeverMeet")) (.ref (He.ga K "CanMeet")) = some false
  k4 : PySem.W.kitOne K (.ref (He.ga K "Standing")) (.ref (He.ga K "Standing")) = some true
theorem exK_ok {K : PySem.W.Frag} (h : exK K = true) : ExK K := by
  obtain ⟨h1, h⟩ := He.ba h
  obtain ⟨h2, h⟩ := He.ba h
  obtain ⟨h3, h⟩ := He.ba h
  obtain ⟨h4, h⟩ := He.ba h
  obtain ⟨h5, h⟩ := He.ba h
  obtain ⟨h6, h⟩ := He.ba h
  obtain ⟨h7, h⟩ := He.ba h
  obtain ⟨h8, h⟩ := He.ba h
  obtain ⟨h9, h10⟩ := He.ba h
  exact ⟨conB_ok h1, conB_ok h2, cvB_ok h3, crB_ok h4, excB_ok h5, insB_ok h6, of_decide_eq_true h7, of_decide_eq_true h8, of_decide_eq_true h9, of_decide_eq_true h10⟩
/-! ### the Hook -/
def asM (g : Addr → Option Obj) : List Addr := cStatics :: He.asD g 5
abbrev AlM : Type := He.AlD × Bool
def obsMG (g : Addr → Option Obj) : AlM := (He.obsD fa fn (He.frG g (asM g)), exK (He.frG g (asM g)))
def hk : PySem.W.Hook where
  α := AlM
  obs := fun s => obsMG s.heap.get?
  val := fun _ => (He.valD fn, true)
  says := fun _ h => ∃ K : PySem.W.Frag, K.In h ∧ He.SaysD fa fn K ∧ ExK K
  of := fun _ _ e => ⟨_, He.frG_in, congrArg (fun z : AlM => z.1) e, exK_ok (congrArg (fun z : AlM => z.2) e)⟩
  keeps := fun _ _ _ ⟨K, hK, c⟩ k => ⟨K, PySem.W.Frag.In.keeps hK k, c⟩
def ob (s : PySem.W.SharedT) : AlM := obsMG (HandSHeadRun.getT s)
theorem ob_eq (s : PySem.W.SharedT) : ob s = hk.obs s.abs := by
  have e : HandSHeadRun.getT s = s.abs.heap.get? := funext (HandSHeadRun.getT_eq s)
  show obsMG (HandSHeadRun.getT s) = obsMG s.abs.heap.get?
  rw [e]
end Tw

/-! rules of one's own: sum of a tuple of ints, enumerate of a tuple -/
namespace TwR
open PySem
set_option maxHeartbeats 1000000 in
theorem meets_enumerate_new1B {v : Value} {o : Obj} {H : Heap → Prop} (B : Begins v o H) :
    Meets (Builtin.«enumerate.__new__» ⟨[.type "enumerate", v], []⟩) (fun _ R s => H s.heap ∧
      R (.ok (.ret (.ref (s.heap.push o).objs.size))) { s with heap := (s.heap.push o).push { cls := .type "enumerate", data := .fields #[.none, .bool false, .ref s.heap.objs.size, rawInt 0, .none, .none] } }) :=
  .of_wp fun prog w A R s h => by
    obtain ⟨hp, g, d, tk, os⟩ := s; obtain ⟨h1, h⟩ := h
    have hsub := sub_enumerate
    have q1 : ∀ {A' : Around} {E : Value → Shared → Prop} {Q : Value → Shared → Prop}, Q (.ref hp.objs.size) ⟨hp.push o, g, d, tk, os⟩ → wpAny (model prog w) A' (pyIter v) Q E ⟨hp, g, d, tk, os⟩ :=
      fun q => B.iter prog w _ _ ⟨hp, g, d, tk, os⟩ _ h1 q
    wp_walk using q1
    refine wpAny_stack_any fun st => wpAny_pure ?_
    split
    · rename_i c _ _ _ _ _
      cases (c == Value.type "enumerate")
      · wp_walk using q1
        exact ⟨_, rfl, h⟩
      · wp_walk using q1
        exact ⟨_, rfl, h⟩
    · wp_walk using q1
      exact ⟨_, rfl, h⟩
theorem enum_begins1 {prog : Program} {w : World} {A : Around} {E : Value → Shared → Prop} {s : Shared} {v : Value} {o : Obj} {H : Heap → Prop} {Q : Value → Shared → Prop} (B : Begins v o H) (h1 : H s.heap)
    (h : ∀ h', IsEnum h' (s.heap.objs.size + 1) s.heap.objs.size 0 .none → h'.get? s.heap.objs.size = some o → h'.objs.size = s.heap.objs.size + 2 →
      (∀ b o, s.heap.get? b = some o → h'.get? b = some o) → Q (.ref (s.heap.objs.size + 1)) { s with heap := h' }) :
    wpAny (model prog w) A (call (.type "enumerate") [v]) Q E s := by
  refine callType_new F.called_enumerate (by decide) (F.typeCall_enumerate_1 _) (F.newCall_enumerate_1 _) (fun obj => F.args_object_init_2 obj _) F.entry_enumerate_new
    (meets_enumerate_new1B B) ⟨h1, ?_⟩
  have hz : (s.heap.push o).objs.size = s.heap.objs.size + 1 := Heap.size_push ..
  show _ ∧ _
  rw [hz]
  have he : IsEnum ((s.heap.push o).push { cls := .type "enumerate", data := .fields #[.none, .bool false, .ref s.heap.objs.size, rawInt 0, .none, .none] }) (s.heap.objs.size + 1) s.heap.objs.size 0 .none := by
    have := Heap.get?_push_size (s.heap.push o) (o := { cls := .type "enumerate", data := .fields #[.none, .bool false, .ref s.heap.objs.size, rawInt 0, .none, .none] }) rfl
    rw [hz] at this; exact this
  refine ⟨⟨_, he, rfl⟩, h _ he (Heap.get?_push_of_some _ (Heap.get?_push_size _ B.free)) (by rw [Heap.size_push, hz]) fun b o x => Heap.get?_push_of_some _ (Heap.get?_push_of_some _ x)⟩
end TwR
namespace L2
open PySem PySem.Spec PyProof.Rows
/-- sum(t), t a tuple of ints -/
def rSumT (K : PySem.W.Frag) : List V → Hp → VK → Prop := fun vs H Q => ∃ (a : Addr) (ns : List Int), vs = [V.ref a] ∧ SqT K H a (ns.map V.int) ∧ Q (.int ns.sum) H
theorem cr_sumT {X : Cx} (hc : X.calm = true) : CallR X (.builtin "sum") (rSumT X.K) := by
  intro pins s σ H vs us Q I r h
  obtain ⟨a, ns, rfl, hs, q⟩ := h
  obtain ⟨its, rv, hl, _⟩ := I.tuple hs
  rw [Vals.ref1 r]
  have hi := rv.ints
  obtain ⟨xs, e⟩ := hi.allInts.items
  have hn : numsOf (intItems xs).toList = ns := by rw [← e]; exact hi.numsOf
  rw [nums_intItems] at hn
  have hl' : s.heap.IsTuple a (intItems xs) := by
    rw [← e]
    exact (show s.heap.IsTuple a its.toArray from hl)
  refine PySem.W.ktm_sumG (I.ok.hd hc) hl' fun h' tk t' hk => ?_
  have q2 : EP X pins σ Q (.int ns.sum t') { s with heap := h', toks := tk } := ⟨.int _, H, I.kept hk, ⟨_, rfl⟩, q⟩
  rw [preSum_eq, List.take_of_length_le (by simp), hn]
  exact q2
/-! ### enumerate(tuple) -/
def IteT (K : PySem.W.Frag) (a : Addr) : It :=
  ⟨fun i H => ∃ (xs : List V) (x : V), SqT K H a xs ∧ xs[i]? = some x, fun i H v H' => ∃ T x, v = .ref T ∧ H T = none ∧ H' = upd H T (.tup [.int (i : Nat), x]) ∧ ∀ xs, SqT K H a xs → xs[i]? = some x, fun i H => ∃ xs : List V, SqT K H a xs ∧ xs.length = i⟩
theorem turn_enumT {P : Program} {w : World} {K : PySem.W.Frag} {elts : List Expr} {kk : Nat} {tpos : Pos} (a e it : Addr) :
    Turn P w K (.Tuple elts kk tpos) (IteT K a) [e, it] e (fun i h => (∃ old, IsEnum h e it ((i : Nat) : Int) old) ∧ h.IsTupleIter it a i ∧ e ≠ it) where
  mem := by simp
  obj := fun i h st b hb => by
    obtain ⟨⟨old, he⟩, ⟨o, ho, hc, hd⟩, _⟩ := st
    have e' : b = e ∨ b = it := by simpa using hb
    rcases e' with z | z
    · rw [z]; exact ⟨_, he, fun v q => nomatch q⟩
    · rw [z]; exact ⟨o, ho, fun v q => by rw [hd] at q; cases q⟩
  keep := fun i h h' st k => let ⟨⟨old, he⟩, hi, hne⟩ := st; ⟨⟨old, k e (by simp) _ he⟩, hi.at fun o q => k it (by simp) o q, hne⟩
  item := by
    intro X hP hw hK hc i pins s σ H E I hf st hg
    subst hP hw hK
    obtain ⟨⟨old, he⟩, hit, hne⟩ := st
    obtain ⟨xs, x, hq, hx⟩ := hg
    obtain ⟨its, rv, p, hz⟩ := I.tuple hq
    obtain ⟨u, hu, ru⟩ := rv.get hx
    have hel : e < s.heap.objs.size := Heap.lt_size he
    have hil : it < s.heap.objs.size := by obtain ⟨_, q, _⟩ := hit; exact Heap.lt_size q
    have p' : s.heap.IsTuple a its.toArray := p
    have hea : e ≠ a := fun z => by
      obtain ⟨ob, h1, h2, _⟩ := p'
      rw [← z] at h1
      rw [show s.heap.get? e = some _ from he] at h1
      cases h1
      exact absurd (show Value.type "enumerate" = Value.type "tuple" from h2) (by decide)
    have hia : a ≠ it := fun z => by
      obtain ⟨ob, h1, h2, _⟩ := p'
      obtain ⟨o2, h3, h4, _⟩ := hit
      rw [z, h3] at h1
      cases h1
      rw [h4] at h2
      exact absurd h2 (by decide)
    have D := Draws.tuple (prog := X.prog) (w := X.w) (A := X.A.in1) (I.ok.hd hc) it a hia its.toArray
    refine wpAny_pyNext_enum_itemC D he ⟨hit, p'⟩ (by have := (List.getElem?_eq_some_iff.mp hu).1; simpa using this) hne (by simp [hne, hea]) fun x' h' tk hx' ho hit' hT hsz hk => ?_
    have ex : x' = u := by
      rw [show its.toArray[i]? = some u by simpa using hu] at hx'
      exact (Option.some.inj hx').symm
    subst ex
    refine ⟨_, rfl, wpAny_letOwnedTupleGo_enum (s := { s with heap := h', toks := tk + 1 }) ho fun h'' he' sb => ?_⟩
    have hT2 : h''.get? s.heap.objs.size = some { cls := .type "tuple", data := .seq #[.int i tk, x'] } := (sb.2 _ (Nat.ne_of_gt hel)).trans hT
    have new : ObjOk X.prog X.w (upd H s.heap.objs.size (.tup [.int (i : Nat), x])) h'' s.heap.objs.size (.tup [.int (i : Nat), x]) :=
      ⟨by show 2 ≤ sizeLine; decide, [.int i tk, x'], .cons ⟨_, rfl⟩ (.cons ru .nil), ⟨_, hT2, rfl, _, rfl⟩⟩
    have I1 : Inv X pins σ (upd H s.heap.objs.size (.tup [.int (i : Nat), x])) { s with heap := h'', toks := tk + 1 } :=
      I.turnedNew (ch := [e, it]) (fun b ob hb q => (sb.2 b (fun z => hb (by simp [z]))).trans (hk b ob (fun z => hb (by simp [z])) (fun z => hb (by simp [z])) q)) hf (Nat.le_refl _) new
    refine ⟨.ref s.heap.objs.size, _, I1, rfl, ⟨_, x, rfl, I.hok.fresh (Nat.le_refl _), rfl, fun ys hy => by rw [I.tuple_inj hy hq]; exact hx⟩, ⟨⟨x', ?_⟩, hit'.1.at fun o q => (sb.2 it (Ne.symm hne)).trans q, hne⟩, fun b hb => ?_⟩
    · have e1 : ((i + 1 : Nat) : Int) = (i : Int) + 1 := by omega
      rw [e1]; exact he'
    · have hb' : b < s.heap.objs.size := by
        have e' : b = e ∨ b = it := by simpa using hb
        rcases e' with z | z
        · rw [z]; exact hel
        · rw [z]; exact hil
      rw [upd_ne (Nat.ne_of_lt hb')]
      exact (hf b hb).1
  done := by
    intro X hP hw hK hc i pins s σ H E I hf st hg
    subst hP hw hK
    obtain ⟨⟨old, he⟩, hit, hne⟩ := st
    obtain ⟨xs, hq, hx⟩ := hg
    obtain ⟨its, rv, p, hz⟩ := I.tuple hq
    have p' : s.heap.IsTuple a its.toArray := p
    have hia : a ≠ it := fun z => by
      obtain ⟨ob, h1, h2, _⟩ := p'
      obtain ⟨o2, h3, h4, _⟩ := hit
      rw [z, h3] at h1
      cases h1
      rw [h4] at h2
      exact absurd h2 (by decide)
    obtain ⟨f0, f1, f2, f3, f4, f5⟩ := hf it (by simp)
    have hl := rv.length
    have D := Draws.tuple (prog := X.prog) (w := X.w) (A := X.A.in1) (I.ok.hd hc) it a hia its.toArray
    have hit' : s.heap.IsTupleIter it a its.toArray.size := by
      have e : its.toArray.size = i := by simp; omega
      rw [e]
      exact hit
    exact wpAny_pyNext_enum_endD D he ⟨hit', p'⟩ fun h' eb => ⟨rfl, I.turned (t' := s.toks) (fun b o hb q => eb b o hb q) f0 f1 f3 f4 f5⟩
  self := fun A i s Q E st h => let ⟨⟨_, he⟩, _⟩ := st; wpAny_pyIter_enum he h
def iEnumT (K : PySem.W.Frag) (ta : TA) : TI := fun σ H R => ta σ H fun vs H1 => ∃ a xs, vs = [.ref a] ∧ SqT K H1 a xs ∧ R (IteT K a) H1
theorem pi_enumT {X : Cx} {e : Expr} {ta : TA} {p pos tpos : Pos} {elts : List Expr} {kk : Nat} (hg : Gl X "enumerate") (hm : X.mg "enumerate" = none) (ha : PA X [e] ta) (hs : starEach [e] X.env = [(false, eval e X.env)] := by rfl) :
    PI X (.Tuple elts kk tpos) (.Call (.Name "enumerate" p) [e] [] pos) (iEnumT X.K ta) := by
  refine ⟨fun pins s σ H R I h => ?_⟩
  refine Call_ (ld_blt I hg hm boot_enumerate (PyProof.Rows.callWith_type1 (thn (ha.run pos pins s σ H _ I h) fun us s1 ⟨vs, H1, I1, r1, q1⟩ => ?_) hs rfl))
  obtain ⟨a, xs, ex, hq, q⟩ := q1
  subst ex
  cases r1 with
  | cons r rr =>
    cases rr
    cases r
    obtain ⟨its, rv, p', hz⟩ := I1.tuple hq
    have p2 : s1.heap.IsTuple a its.toArray := p'
    refine TwR.enum_begins1 (begins_tuple a its.toArray) p2 fun h' he hit hsz hk => wpAny_pyIter_enum he ?_
    have I2 : Inv X pins σ H1 { s1 with heap := h' } := I1.kept (t' := s1.toks) hk
    refine ⟨s1.heap.objs.size + 1, [s1.heap.objs.size + 1, s1.heap.objs.size], _, _, H1, rfl, I2, turn_enumT a (s1.heap.objs.size + 1) s1.heap.objs.size, ⟨⟨.none, he⟩, ⟨_, hit, rfl, rfl⟩, Nat.succ_ne_self _⟩, fun b hb => ?_, q⟩
    have e' : b = s1.heap.objs.size + 1 ∨ b = s1.heap.objs.size := by simpa using hb
    have hle : s1.heap.objs.size ≤ b := by
      rcases e' with z | z
      · rw [z]; exact Nat.le_add_right _ _
      · rw [z]; exact Nat.le_refl _
    exact I1.fpOk hle (I1.hok.fresh hle)
theorem walk_enumT {K : PySem.W.Frag} {a : Addr} {xs : List V} : Walk (IteT K a) xs.length (fun H => SqT K H a xs) (YPair (fun i => some (.int (i : Nat))) (fun i => xs[i]?)) := by
  refine ⟨fun i _ hi q => ⟨xs, xs[i], q, by simp [hi]⟩, fun _ q => ⟨xs, q, rfl⟩, fun i H v H' _ q y => ?_⟩
  obtain ⟨T, x, h1, h2, h3, h4⟩ := y
  exact ⟨T, .int (i : Nat), x, h1, h2, h3, rfl, h4 xs q⟩
end L2

/-! dicts whose keys are tuples of tuples of ints -/
namespace TwD
open PySem
abbrev IK (prog : Program) (w : World) : KeyKind prog w Int := intKind prog w
section
variable {prog : Program} {w : World}
/-- tuples of tuples of ints -/
inductive Its2 (prog : Program) (w : World) (h : Heap) : List (List Int) → List Value → Prop
  | nil : Its2 prog w h [] []
  | cons {k : List Int} {a : Addr} {ks : List (List Int)} {vs : List Value} : IsTupleKey (IK prog w) h k a → Its2 prog w h ks vs → Its2 prog w h (k :: ks) (.ref a :: vs)
def IsT2 (prog : Program) (w : World) (h : Heap) (ks : List (List Int)) (a : Addr) : Prop := ∃ o items n, h.get? a = some o ∧ o.cls = .type "tuple" ∧ o.data = .seq items n ∧ Its2 prog w h ks items.toList
theorem Its2.inj {h : Heap} {x y : List (List Int)} {vs : List Value} (hx : Its2 prog w h x vs) (hy : Its2 prog w h y vs) : x = y := by
  induction hx generalizing y with
  | nil => cases hy; rfl
  | cons h1 _ ih =>
    cases hy with
    | cons h2 t2 => rw [h1.inj h2, ih t2]
theorem Its2.length {h : Heap} {x : List (List Int)} {vs : List Value} (hx : Its2 prog w h x vs) : x.length = vs.length := by
  induction hx with
  | nil => rfl
  | cons _ _ ih => simp [ih]
theorem Its2.keeps {h h' : Heap} {x : List (List Int)} {vs : List Value} {d : Addr} {o : Obj} {es ep} (hx : Its2 prog w h x vs) (ho : h.get? d = some o) (hd : o.data = .dict es ep) (hs : Heap.SameBut d h h') : Its2 prog w h' x vs := by
  induction hx with
  | nil => exact .nil
  | cons h1 _ ih => exact .cons (h1.keeps ho hd hs) ih
theorem IsT2.typeIs {s : Shared} {ks : List (List Int)} {a : Addr} (x : IsT2 prog w s.heap ks a) : s.TypeIs (.ref a) "tuple" := let ⟨o, _, _, ho, hc, _⟩ := x; ⟨o, ho, hc⟩
theorem IsT2.inj {h : Heap} {a : Addr} {x y : List (List Int)} (hx : IsT2 prog w h x a) (hy : IsT2 prog w h y a) : x = y := by
  obtain ⟨o, items, n, ho, _, hd, hi⟩ := hx
  obtain ⟨o', items', n', ho', _, hd', hi'⟩ := hy
  obtain rfl : o = o' := Option.some.inj (ho.symm.trans ho')
  rw [hd] at hd'
  injection hd' with h1 _
  subst h1
  exact hi.inj hi'
theorem IsT2.keeps {h h' : Heap} {ks : List (List Int)} {a d : Addr} {o : Obj} {es ep} (x : IsT2 prog w h ks a) (ho : h.get? d = some o) (hd : o.data = .dict es ep) (hs : Heap.SameBut d h h') : IsT2 prog w h' ks a := by
  obtain ⟨o', items, n, ho', hc, hd', hi⟩ := x
  have hne : a ≠ d := by
    rintro rfl
    obtain rfl : o' = o := Option.some.inj (ho'.symm.trans ho)
    rw [hd] at hd'; exact nomatch hd'
  exact ⟨o', items, n, (hs.2 a hne).trans ho', hc, hd', hi.keeps ho hd hs⟩
def hash2 (prog : Program) (w : World) (ks : List (List Int)) : Int := reduceHash (Builtin.Tuple.tupleHashOf (ks.map (tupleKeyHash (IK prog w))))
def draws2 (ks : List (List Int)) : Nat := (ks.map fun k => k.length + 1).sum + 1
variable {A : Around} {E : Value → Shared → Prop} {s : Shared}
theorem pyHash2 {ks : List (List Int)} {a : Addr} {Q : Int → Shared → Prop} (hu : A.units + 3 < cLine) (hk : IsT2 prog w s.heap ks a) (h : Q (hash2 prog w ks) { s with toks := s.toks + draws2 ks }) :
    wpAny (model prog w) A (pyHash (.ref a)) Q E s := by
  have hT := hk.typeIs
  obtain ⟨o, items, n, ho, _, hd, hi⟩ := hk
  unfold pyHash
  first | unfold pyHashByItsType | skip
  first | refine wpAny_bind (wpAny_cRoomFor_or (.inr (by omega)) ?_) | skip
  refine wpAny_bind (wpAny_specialOf hT F.slot_tuple_hash.lookup ?_)
  show wpAny _ _ (if (some (Value.builtin "tuple.__hash__") == some Value.none) = true then _ else _) Q E s
  rw [if_neg (by rw [beq_builtin_none]; exact Bool.false_ne_true)]
  refine wpAny_bind (wpAny_specialOf hT F.slot_tuple_hash.lookup ?_)
  show wpAny _ _ (callSpecialIfBoundUnlessNone? (.ref a) "__hash__" _ >>= _) Q E s
  refine wpAny_bind (wpAny_callSpecialIfBoundUnlessNone?_slot hT F.slot_tuple_hash (wpAny_call_entry F.slot_tuple_hash hT F.entry_tuple_hash ?_ (F.args_tuple_hash_1 _)))
  show wpAny _ _ (Builtin.Tuple.tupleItemsOf (.ref a) >>= _) _ _ s
  refine wpAny_bind (wpAny_tupleItemsOf ho hd ?_)
  refine wpAny_bind ?_
  rw [← Array.forIn_toList]
  refine wpAny_forIn_list _
    (fun rest (b : Array Int) s' => ∃ done left, ks = done ++ left ∧ Its2 prog w s.heap left rest ∧ b.toList = done.map (tupleKeyHash (IK prog w)) ∧ s' = { s with toks := s.toks + (done.map fun k => k.length + 1).sum })
    _ ?_ ?_ _ _ ⟨[], ks, rfl, hi, rfl, rfl⟩
  · rintro x rest b s' ⟨done, left, rfl, hl, hb, rfl⟩
    cases hl with
    | @cons k aa ks' _ h1 hl' =>
      refine wpAny_bind (wpAny_pyHash_tuple (s := { s with toks := s.toks + (done.map fun k => k.length + 1).sum }) (by show A.units + 1 < cLine; omega) h1 ?_)
      have fin : ∃ done' left, done ++ k :: ks' = done' ++ left ∧ Its2 prog w s.heap left rest ∧ (b.push (tupleKeyHash (IK prog w) k)).toList = done'.map (tupleKeyHash (IK prog w)) ∧
          ({ s with toks := s.toks + (done.map fun k => k.length + 1).sum + (k.length + 1) } : Shared) = { s with toks := s.toks + (done'.map fun k => k.length + 1).sum } :=
        ⟨done ++ [k], ks', by simp, hl', by simp [hb], by simp [Nat.add_assoc]⟩
      first
        | exact wpAny_pure fin
        | exact wpAny_bind (wpAny_pure (wpAny_pure fin))
  · rintro b s' ⟨done, left, rfl, hl, hb, rfl⟩
    cases hl
    rw [List.append_nil] at h
    show wpAny _ _ (retInt (Builtin.Tuple.tupleHashOf b.toList)) _ _ _
    rw [hb]
    refine wpAny_ret_mkInt ?_
    show wpAny _ _ (if (decide (-(2 : Int) ^ 63 ≤ Builtin.Tuple.tupleHashOf (done.map (tupleKeyHash (IK prog w)))) && decide (Builtin.Tuple.tupleHashOf (done.map (tupleKeyHash (IK prog w))) < 2 ^ 63)) = true then _ else _) Q E _
    unfold hash2 reduceHash at h
    unfold draws2 at h
    by_cases hr : (decide (-(2 : Int) ^ 63 ≤ Builtin.Tuple.tupleHashOf (done.map (tupleKeyHash (IK prog w)))) && decide (Builtin.Tuple.tupleHashOf (done.map (tupleKeyHash (IK prog w))) < 2 ^ 63)) = true
    · rw [if_pos hr]
      rw [if_pos hr] at h
      exact wpAny_pure (by simpa [Nat.add_assoc] using h)
    · rw [if_neg hr]
      rw [if_neg hr] at h
      exact wpAny_bind (wpAny_rule (wpAny_pure (by simpa [Nat.add_assoc] using h)))
theorem eq_tree2 {x y : List (List Int)} {a b : Addr} {P : Fin → Shared → Prop} (hu : A.units + 1 < cLine) (hx : IsT2 prog w s.heap x a) (hy : IsT2 prog w s.heap y b) (h : P (.done (.ret (.bool (decide (x = y))))) s) :
    wpAny (model prog w) A (Builtin.«tuple.__eq__» ⟨[.ref a, .ref b], []⟩) P E s := by
  have hTb := hy.typeIs
  obtain ⟨oa, xs, na, hoa, _, hda, hia⟩ := hx
  obtain ⟨ob, ys, nb, hob, _, hdb, hib⟩ := hy
  show wpAny _ _ (isInstance (.ref b) (.type "tuple") >>= _) _ _ s
  refine wpAny_bind (wpAny_isInstance hTb isSubtype_tuple_tuple ?_)
  simp only [Bool.not_true, Bool.false_eq_true, if_false]
  refine wpAny_bind (wpAny_tupleItemsOf hoa hda ?_)
  refine wpAny_bind (wpAny_tupleItemsOf hob hdb ?_)
  refine wpAny_bind ?_
  refine wpAny_forIn_list _
    (fun rest r s' => r.1 = none ∧ s' = s ∧ ∃ x' y' xs' ys', rest = List.zip xs' ys' ∧ Its2 prog w s.heap x' xs' ∧ Its2 prog w s.heap y' ys' ∧ decide (x' = y') = decide (x = y) ∧ (xs'.length == ys'.length) = (xs.size == ys.size))
    _ ?_ ?_ _ _ ⟨rfl, rfl, x, y, xs.toList, ys.toList, rfl, hia, hib, rfl, by simp⟩
  · rintro ⟨u, v⟩ rest r s' ⟨hr, rfl, x', y', xs', ys', hz, hx', hy', hdec, hlen⟩
    cases hx' with
    | nil => simp at hz
    | @cons k1 u' x'' xs'' h1 hx'' =>
      cases hy' with
      | nil => simp at hz
      | @cons k2 v' y'' ys'' h2 hy'' =>
        simp only [List.zip_cons_cons, List.cons.injEq, Prod.mk.injEq] at hz
        obtain ⟨⟨rfl, rfl⟩, rfl⟩ := hz
        refine wpAny_bind (wpAny_eqBool_tuple (x := k1) (y := k2) (by omega) h1 h2 ?_)
        by_cases hk : k1 = k2
        · subst hk
          rw [decide_eq_true rfl]
          simp only [Bool.not_true, Bool.false_eq_true, if_false]
          refine wpAny_pure ⟨rfl, rfl, x'', y'', xs'', ys'', rfl, hx'', hy'', ?_, by simpa using hlen⟩
          rw [← hdec]
          by_cases hxy : x'' = y''
          · simp [hxy]
          · simp [hxy]
        · rw [decide_eq_false hk]
          simp only [Bool.not_false, if_true]
          have hf : decide (x = y) = false := by rw [← hdec]; simp [hk]
          rw [hf] at h
          exact wpAny_bind (wpAny_pure (wpAny_pure (wpAny_pure h)))
  · rintro ⟨r1, r2⟩ s' ⟨hr, rfl, x', y', xs', ys', hz, hx', hy', hdec, hlen⟩
    simp only at hr
    subst hr
    refine wpAny_pure ?_
    have hfin : (xs.size == ys.size) = decide (x = y) := by
      rw [← hdec, ← hlen]
      cases hx' with
      | nil =>
        cases hy' with
        | nil => simp
        | cons _ _ => simp
      | cons _ _ =>
        cases hy' with
        | nil => simp
        | cons _ _ => simp at hz
    show P (.done (.ret (.bool (xs.size == ys.size)))) s'
    rw [hfin]; exact h
theorem eqBool2 {x y : List (List Int)} {a b : Addr} {Q : Bool → Shared → Prop} (hu : A.units + 3 < cLine) (hx : IsT2 prog w s.heap x a) (hy : IsT2 prog w s.heap y b) (h : Q (decide (x = y)) s) :
    wpAny (model prog w) A (eqBool (.ref a) (.ref b)) Q E s := by
  unfold eqBool
  try with_reducible refine wpAny_holding ?_
  show wpAny _ _ (if (Value.ref a == Value.ref b) = true then _ else _) Q E s
  by_cases hab : (Value.ref a == Value.ref b) = true
  · rw [if_pos hab]
    have e : a = b := by have := eq_of_beq hab; injection this
    subst e
    obtain rfl := hx.inj hy
    exact wpAny_bind (wpAny_rule (wpAny_pure (by simpa using h)))
  · rw [if_neg hab]
    exact wpAny_bind (wpAny_richCompare_same_room (op := .Eq) hx.typeIs hy.typeIs F.slot_tuple_eq
      (wpAny_call_entry F.slot_tuple_eq hx.typeIs F.entry_tuple_eq (eq_tree2 (by show A.units + 1 + 1 < cLine; omega) hx hy ⟨_, rfl, (fun e => nomatch e), wpAny_truthy_bool h⟩) (F.args_tuple_eq_2 _ _)) (by omega))
theorem quiet1 {d : Nat} {ks : List Int} {a : Addr} {Q : Bool → Shared → Prop} (hk : IsTupleKey (IK prog w) s.heap ks a) (h : Q true s) : wpAny (model prog w) A (eqIsQuiet (d + 1) (.ref a)) Q E s := by
  have hT := hk.typeIs
  obtain ⟨o, items, n, ho, _, hd, hi⟩ := hk
  unfold eqIsQuiet
  refine wpAny_bind (wpAny_specialOf hT F.slot_tuple_eq.lookup ?_)
  show wpAny _ _ (isInstance (.ref a) (.type "tuple") >>= _) _ _ s
  refine wpAny_bind (wpAny_isInstance hT isSubtype_tuple_tuple ?_)
  simp only [Bool.not_true, Bool.false_eq_true, if_false]
  refine wpAny_bind (wpAny_seqItems ho hd ?_)
  refine wpAny_bind ?_
  show wpAny _ _ (forIn items _ _) _ _ s
  rw [← Array.forIn_toList]
  refine wpAny_forIn_list _ (fun rest r s' => r.1 = none ∧ s' = s ∧ ∀ v ∈ rest, carriedByValue v = true) _ ?_ ?_ _ _ ⟨rfl, rfl, hi.byValue⟩
  · rintro v rest r s' ⟨hr, rfl, hall⟩
    rw [eqIsQuiet_byValue _ (hall v List.mem_cons_self)]
    refine wpAny_bind (wpAny_pure ?_)
    simp only [Bool.not_true, Bool.false_eq_true, if_false]
    exact wpAny_pure ⟨rfl, rfl, fun u hu' => hall u (List.mem_cons_of_mem _ hu')⟩
  · rintro ⟨r1, r2⟩ s' ⟨hr, rfl, _⟩
    simp only at hr
    subst hr
    exact wpAny_pure h
theorem quiet2 {ks : List (List Int)} {a : Addr} {Q : Bool → Shared → Prop} (hk : IsT2 prog w s.heap ks a) (h : Q true s) : wpAny (model prog w) A (eqIsQuiet 8 (.ref a)) Q E s := by
  have hT := hk.typeIs
  obtain ⟨o, items, n, ho, _, hd, hi⟩ := hk
  unfold eqIsQuiet
  refine wpAny_bind (wpAny_specialOf hT F.slot_tuple_eq.lookup ?_)
  show wpAny _ _ (isInstance (.ref a) (.type "tuple") >>= _) _ _ s
  refine wpAny_bind (wpAny_isInstance hT isSubtype_tuple_tuple ?_)
  simp only [Bool.not_true, Bool.false_eq_true, if_false]
  refine wpAny_bind (wpAny_seqItems ho hd ?_)
  refine wpAny_bind ?_
  show wpAny _ _ (forIn items _ _) _ _ s
  rw [← Array.forIn_toList]
  refine wpAny_forIn_list _ (fun rest r s' => r.1 = none ∧ s' = s ∧ ∃ ks', Its2 prog w s.heap ks' rest) _ ?_ ?_ _ _ ⟨rfl, rfl, _, hi⟩
  · rintro v rest r s' ⟨hr, rfl, ks', hall⟩
    cases hall with
    | cons h1 h2 =>
      refine wpAny_bind (quiet1 (d := 6) h1 ?_)
      simp only [Bool.not_true, Bool.false_eq_true, if_false]
      exact wpAny_pure ⟨rfl, rfl, _, h2⟩
  · rintro ⟨r1, r2⟩ s' ⟨hr, rfl, _⟩
    simp only at hr
    subst hr
    exact wpAny_pure h
end
def kind2 (prog : Program) (w : World) : HeapKind prog w (List (List Int)) where
  is := IsT2 prog w
  hash := hash2 prog w
  draws := draws2
  room := fun A => A.units + 3 < cLine
  inj := fun hx hy => hx.inj hy
  keeps := fun x ho hd hs => x.keeps ho hd hs
  pyHash := fun hu hk h => pyHash2 hu hk h
  eqBool := fun hu hx hy h => eqBool2 hu hx hy h
  quiet := fun hk h => quiet2 hk h
end TwD

/-! dicts whose keys are tuples of tuples of ints: the rules over the layer -/
namespace L2
open PySem PySem.Spec PyProof.Rows
/-- at b: a tuple of tuples of ints -/
def T2 (H : Hp) (b : Addr) (ks : List (List Int)) : Prop := ∃ as : List Addr, H b = some (.tup (as.map V.ref)) ∧ Paired (fun a (k : List Int) => H a = some (.tup (k.map V.int))) as ks
theorem T2.keeps {H H' : Hp} {b : Addr} {ks : List (List Int)} (x : T2 H b ks) (e : ∀ b ys, H b = some (.tup ys) → H' b = some (.tup ys)) : T2 H' b ks := by
  obtain ⟨as, h, p⟩ := x
  exact ⟨as, e _ _ h, Paired.mapP p fun _ _ z => e _ _ z⟩
section
variable {P : Program} {w : World} {H : Hp} {h : Heap}
theorem ints_key : ∀ {ks : List Int} {us : List Value}, Vals (ks.map V.int) us → ItemsAre (intKind P w) ks us
  | [], _, r => by rw [List.map_nil] at r; cases r; exact .nil
  | k :: ks, _, r => by
    rw [List.map_cons] at r
    cases r with
    | cons h t =>
      obtain ⟨tk, rfl⟩ := (show ∃ t, _ = Value.int k t from h)
      exact .cons (by show Value.isInt k (Value.int k tk) = true; simp [Value.isInt]) (ints_key t)
theorem key1_of {ks : List Int} {a : Addr} (ok : HOk P w H h) (e : H a = some (.tup (ks.map V.int))) : IsTupleKey (TwD.IK P w) h ks a := by
  obtain ⟨_, its, r, o, h1, h2, n, h3⟩ := (show ObjOk P w H h a (.tup (ks.map V.int)) from ok a _ e)
  exact ⟨o, its.toArray, n, h1, h2, h3, by simpa using ints_key r⟩
theorem its2_of (ok : HOk P w H h) : ∀ {as : List Addr} {ks : List (List Int)} {us : List Value}, Paired (fun a (k : List Int) => H a = some (.tup (k.map V.int))) as ks → Vals (as.map V.ref) us → TwD.Its2 P w h ks us := by
  intro as ks us p
  induction p generalizing us with
  | nil =>
    intro r
    rw [List.map_nil] at r
    cases r
    exact .nil
  | @cons a k as ks hk _ ih =>
    intro r
    rw [List.map_cons] at r
    cases r with
    | cons hr t =>
      cases (show _ = Value.ref a from hr)
      exact .cons (key1_of ok hk) (ih t)
theorem key2_of {ks : List (List Int)} {b : Addr} (ok : HOk P w H h) (e : T2 H b ks) : TwD.IsT2 P w h ks b := by
  obtain ⟨as, hb, p⟩ := e
  obtain ⟨_, its, r, o, h1, h2, n, h3⟩ := (show ObjOk P w H h b (.tup (as.map V.ref)) from ok b _ hb)
  exact ⟨o, its.toArray, n, h1, h2, h3, by simpa using its2_of ok p r⟩
end
/-- the keys with the addresses of their tuples; every value is True -/
abbrev Tab2 := List (List (List Int) × Addr)
def tab2 (xs : Tab2) : List (List (List Int) × Addr × Value) := xs.map fun x => (x.1, x.2, Value.bool true)
/-- the dict at a, its keys these -/
def Dict2 (P : Program) (w : World) (a : Addr) (xs : Tab2) : HO := .ext fun h => (a == sysModules) = false ∧ xs.length ≤ sizeLine ∧ (xs.map (·.1)).Nodup ∧
  ∃ o es ep, h.get? a = some o ∧ o.ExactDict ∧ o.data = .dict es ep ∧ es.toList = (tab2 xs).map (entryOfKey (TwD.kind2 P w))
/-- the keys' tuples stand -/
def Keys2 (H : Hp) (xs : Tab2) : Prop := ∀ x ∈ xs, T2 H x.2 x.1
theorem Keys2.keeps {H H' : Hp} {xs : Tab2} (k : Keys2 H xs) (e : ∀ b ys, H b = some (.tup ys) → H' b = some (.tup ys)) : Keys2 H' xs := fun x hx => (k x hx).keeps e
theorem tab2_keys (xs : Tab2) : (tab2 xs).map (·.1) = xs.map (·.1) := by
  unfold tab2
  rw [List.map_map]
  rfl
theorem at_tab2 {xs : Tab2} {k : List (List Int)} : (atKey (tab2 xs) k).isSome = decide (k ∈ xs.map (·.1)) := by
  induction xs with
  | nil => rfl
  | cons x r ih =>
    unfold tab2 atKey
    rw [List.map_cons, List.find?_cons]
    by_cases e : x.1 = k
    · simp [e]
    · have e2 : decide ((x.1, x.2, Value.bool true).1 = k) = false := decide_eq_false e
      rw [e2]
      show (((tab2 r).find? fun x => decide (x.1 = k)).map (·.2)).isSome = _
      rw [show (((tab2 r).find? fun x => decide (x.1 = k)).map (·.2)) = atKey (tab2 r) k from rfl, ih]
      have e3 : ¬ k = x.1 := fun z => e z.symm
      simp [e3]
section
variable {P : Program} {w : World} {H : Hp} {h : Heap} {a : Addr} {xs : Tab2}
theorem dict2_of (ok : HOk P w H h) (e : H a = some (Dict2 P w a xs)) (k : Keys2 H xs) : (a == sysModules) = false ∧ xs.length ≤ sizeLine ∧ h.DictOfH (TwD.kind2 P w) a (tab2 xs) := by
  obtain ⟨⟨z1, z2, z3, o, es, ep, h1, h2, h3, h4⟩, _, _⟩ := (show ObjOk P w H h a (Dict2 P w a xs) from ok a _ e)
  refine ⟨z1, z2, o, es, ep, h1, h2, h3, h4, fun x hx => ?_, by rw [tab2_keys]; exact z3⟩
  unfold tab2 at hx
  obtain ⟨y, hy, rfl⟩ := List.mem_map.mp hx
  exact key2_of ok (k y hy)
theorem dict2_ok {H' : Hp} {h' : Heap} (z1 : (a == sysModules) = false) (z2 : xs.length ≤ sizeLine) (d : h'.DictOfH (TwD.kind2 P w) a (tab2 xs)) : ObjOk P w H' h' a (Dict2 P w a xs) := by
  obtain ⟨o, es, ep, h1, h2, h3, h4, _, h6⟩ := d
  rw [tab2_keys] at h6
  refine ⟨⟨z1, z2, h6, o, es, ep, h1, h2, h3, h4⟩, ⟨o, h1⟩, fun g1 g2 p q => ?_⟩
  obtain ⟨y1, y2, y3, o', es', ep', y4, y5⟩ := p
  exact ⟨y1, y2, y3, o', es', ep', q _ y4, y5⟩
end
section
variable {X : Cx} {o i e value : Expr} {pos pos' tpos : Pos} {td ty tv : TE}
/-- y not in d -/
def tNotIn2 (P : Program) (w : World) (ty td : TE) : TE := fun σ H Q => ty σ H fun y H1 => td σ H1 fun x H2 => ∃ (a b : Addr) (xs : Tab2) (k : List (List Int)), x = .ref a ∧ H2 a = some (Dict2 P w a xs) ∧ Keys2 H2 xs ∧ y = .ref b ∧ T2 H2 b k ∧ Q (.bl (!decide (k ∈ xs.map (·.1)))) H2
theorem pc_notin2 (hu : X.A.units + 4 < cLine) (hi : PE X i ty) (ho : PE X o td) : PC X .NotIn i o (tNotIn2 X.prog X.w ty td) := by
  refine ⟨fun pins s σ H Q I h => ?_⟩
  refine thn (hi.run pins s σ H _ I h) fun iv s1 ⟨y, H1, I1, ry, q1⟩ => thn (ho.run pins s1 σ H1 _ I1 q1) fun u s2 ⟨x, H2, I2, rx, a, b, xs, k, ex, hd, hk, ey, hb, q2⟩ => ?_
  subst ex ey
  obtain rfl : u = Value.ref a := rx
  obtain rfl : iv = Value.ref b := ry
  obtain ⟨z1, z2, dd⟩ := dict2_of I2.hok hd hk
  refine wpAny_notIn_heap (knd := TwD.kind2 X.prog X.w) (by show X.A.units + 1 + 3 < cLine; omega) (key2_of I2.hok hb) z1 dd ?_
  rw [at_tab2]
  exact ⟨.bl _, H2, I2.tok _, rfl, q2⟩
/-- d[y] = True, y not in d -/
def sPut2 (P : Program) (w : World) (td ty tv : TE) : TS := fun D σ H => tv σ H fun v H1 => td σ H1 fun x H2 => ty σ H2 fun y H3 => ∃ (a b : Addr) (xs : Tab2) (k : List (List Int)), v = .bl true ∧ x = .ref a ∧ H3 a = some (Dict2 P w a xs) ∧ Keys2 H3 xs ∧ y = .ref b ∧ T2 H3 b k ∧
  k ∉ xs.map (·.1) ∧ xs.length < sizeLine ∧ D.nx σ (upd H3 a (Dict2 P w a (xs ++ [(k, b)])))
theorem put2_ok {A : Around} {E : Value → Shared → Prop} {pins : List (Addr × Obj)} {σ : St} {H : Hp} {s : Shared} {a b : Addr} {xs : Tab2} {k : List (List Int)} {Q : Unit → Shared → Prop} (I : Inv X pins σ H s) (hu : A.units + 3 < cLine)
    (hd : H a = some (Dict2 X.prog X.w a xs)) (hk : Keys2 H xs) (hb : T2 H b k) (hn : k ∉ xs.map (·.1)) (hl : xs.length < sizeLine) {h' : Heap} (dd' : h'.DictOfH (TwD.kind2 X.prog X.w) a (storedH (tab2 xs) k b (Value.bool true))) (hs : Heap.SameBut a s.heap h') (t' : Nat) :
    Inv X pins σ (upd H a (Dict2 X.prog X.w a (xs ++ [(k, b)]))) { s with heap := h', toks := t' } := by
  obtain ⟨z1, z2, _⟩ := dict2_of I.hok hd hk
  have en : atKey (tab2 xs) k = none := by
    have q := at_tab2 (xs := xs) (k := k)
    rw [decide_eq_false hn] at q
    cases e : atKey (tab2 xs) k with
    | none => rfl
    | some v => rw [e] at q; cases q
  rw [storedH_new en, show tab2 xs ++ [(k, b, Value.bool true)] = tab2 (xs ++ [(k, b)]) by unfold tab2; simp] at dd'
  have he : ∃ q, h'.get? a = some q := let ⟨q, _, _, hq, _⟩ := dd'; ⟨q, hq⟩
  exact d_write I (by rw [hd]; exact True.intro) hs he (dict2_ok z1 (by simp; omega) dd')
theorem ps_put2 (hu : X.A.units + 4 < cLine) (ho : PE X o td) (hi : PE X i ty) (hv : PE X value tv) (hs : swapsWith value (some (.Subscript o i pos')) pos.line X.env = pure false) :
    PS X (.Assign [.Subscript o i pos'] value pos) (sPut2 X.prog X.w td ty tv) := by
  refine ⟨fun pins s σ H D I h => ?_⟩
  refine wpAny_Assign_Subscript (thn (hv.run pins s σ H _ I h) fun r s1 ⟨v, H1, I1, rv, q1⟩ => thn (ho.run pins s1 σ H1 _ I1 q1) fun u s2 ⟨x, H2, I2, rx, q2⟩ => thn (hi.run pins s2 σ H2 _ I2 q2) fun iv s3 ⟨y, H3, I3, ry, a, b, xs, k, ev, ex, hd, hk, ey, hb, hn, hl, q3⟩ => ?_) hs
  subst ev ex ey
  obtain rfl : u = Value.ref a := rx
  obtain rfl : iv = Value.ref b := ry
  obtain rfl : r = Value.bool true := rv
  obtain ⟨z1, z2, dd⟩ := dict2_of I3.hok hd hk
  have hz : (tab2 xs).length ≤ sizeLine := by unfold tab2; rw [List.length_map]; exact z2
  refine wpAny_setItem_heap (hsz := hz) (knd := TwD.kind2 X.prog X.w) (by show X.A.units + 1 + 3 < cLine; omega) (key2_of I3.hok hb) dd fun h' dd' hs => ?_
  exact ⟨σ, _, put2_ok (A := X.A) (E := X.xe) (Q := fun _ _ => True) I3 (by omega) hd hk hb hn hl dd' hs _, q3⟩
/-- {y: True} -/
def tDisp2 (P : Program) (w : World) (tk tv : TE) : TE := fun σ H Q => ∀ p, H p = none → tk σ (upd H p (Dict2 P w p [])) fun x H1 => tv σ H1 fun v H2 => ∃ (b : Addr) (k : List (List Int)), x = .ref b ∧ v = .bl true ∧ H2 p = some (Dict2 P w p []) ∧ T2 H2 b k ∧ Q (.ref p) (upd H2 p (Dict2 P w p [(k, b)]))
theorem pe_disp2 (hu : X.A.units + 4 < cLine) (hk : PE X i ty) (hv : PE X value tv) : PE X (.Dict [some i] [value] pos) (tDisp2 X.prog X.w ty tv) := by
  refine ⟨fun pins s σ H Q I q => ?_⟩
  have hn := I.hok.fresh (Nat.le_refl s.heap.objs.size)
  have z1 : (s.heap.objs.size == sysModules) = false := beq_eq_false_iff_ne.mpr (Ne.symm (Nat.ne_of_lt I.big))
  have I1 := I.laid (a := s.heap.objs.size) (o := Dict2 X.prog X.w s.heap.objs.size []) (h' := s.heap.push { cls := .type "dict", data := .dict #[] }) (t' := s.toks) (fun _ _ q => Heap.get?_push_of_some _ q) (Nat.le_refl _)
    (dict2_ok z1 (Nat.zero_le _) (Heap.DictOfH.new s.heap))
  have pp : PPs X pos [some i] [value] [(ty, tv)] := pps_cons hk hv pps_nil
  refine wpAny_Dict_any (by rfl) (by rfl) (by intro z; cases z) (by show 1 ≤ 15; decide) (thn (pp.run pins _ σ _ (fun ps H2 => ∃ (b : Addr) (k : List (List Int)), ps = [(.ref b, .bl true)] ∧ H2 s.heap.objs.size = some (Dict2 X.prog X.w s.heap.objs.size []) ∧ T2 H2 b k ∧ Q (.ref s.heap.objs.size) (upd H2 s.heap.objs.size (Dict2 X.prog X.w s.heap.objs.size [(k, b)]))) I1 ?_) fun ws s2 ⟨ps, H2, I2, rel, b, k, ep, hd, hb, q2⟩ => ?_)
  · have q' := q _ hn
    show ty σ _ fun x H1 => tv σ H1 fun y H2 => _
    have key : ∀ x H1, (tv σ H1 fun v H2 => ∃ (b : Addr) (k : List (List Int)), x = .ref b ∧ v = .bl true ∧ H2 s.heap.objs.size = some (Dict2 X.prog X.w s.heap.objs.size []) ∧ T2 H2 b k ∧ Q (.ref s.heap.objs.size) (upd H2 s.heap.objs.size (Dict2 X.prog X.w s.heap.objs.size [(k, b)]))) = (tv σ H1 fun v H2 => ∃ (b : Addr) (k : List (List Int)), [(x, v)] = [(V.ref b, V.bl true)] ∧ H2 s.heap.objs.size = some (Dict2 X.prog X.w s.heap.objs.size []) ∧ T2 H2 b k ∧ Q (.ref s.heap.objs.size) (upd H2 s.heap.objs.size (Dict2 X.prog X.w s.heap.objs.size [(k, b)]))) := by
      intro x H1
      congr 1
      funext v H2
      simp only [List.cons.injEq, Prod.mk.injEq, and_true, and_assoc]
    simp only [key] at q'
    exact q'
  · subst ep
    cases rel with
    | @cons p q ps qs r1 r2 =>
      cases r2
      obtain ⟨r3, r4⟩ := r1
      obtain ⟨u1, u2⟩ := q
      cases (show u1 = Value.ref b from r3)
      cases (show u2 = Value.bool true from r4)
      obtain ⟨_, _, dd⟩ := dict2_of I2.hok hd (fun x hx => nomatch hx)
      unfold storeAll
      rw [List.forIn_cons]
      refine wpAny_bind (wpAny_bind (wpAny_dictSet_heap (hsz := Nat.zero_le _) (knd := TwD.kind2 X.prog X.w) (by show X.A.units + 3 < cLine; omega) (key2_of I2.hok hb) dd fun h' dd' hs => wpAny_pure ?_))
      dsimp only
      rw [List.forIn_nil]
      refine wpAny_pure ⟨.ref s.heap.objs.size, _, put2_ok (A := X.A) (E := X.xe) (Q := fun _ _ => True) I2 (by omega) hd (fun x hx => nomatch hx) hb (by simp) (by show 0 < sizeLine; decide) dd' hs _, rfl, q2⟩
end
end L2

/-! what the defs' proofs share: the text's facts, calls by name, the data over the heap -/
namespace Tw
open PySem PySem.Spec PyProof.Rows L2
/-! ### facts of the text -/
structure Txt (K : PySem.W.Frag) (mg : Str → Option Value) : Prop where
  x : ExK K
  cN : Cls K (He.ga K "Net")
  cS : Cls K (He.ga K "Standing")
  nNs : NoAttr K (He.ga K "Net") "stations"
  nNr : NoAttr K (He.ga K "Net") "ropes"
  nSn : NoAttr K (He.ga K "Standing") "net"
  nSr : NoAttr K (He.ga K "Standing") "reds"
  nSb : NoAttr K (He.ga K "Standing") "blues"
  nSc : NoAttr K (He.ga K "Standing") "cars"
  gN : mg "Net" = some (.ref (He.ga K "Net"))
  gS : mg "Standing" = some (.ref (He.ga K "Standing"))
  gRE : mg "RopeError" = some (.ref (He.ga K "RopeError"))
  gNM : mg "NeverMeet" = some (.ref (He.ga K "NeverMeet"))
  gCM : mg "CanMeet" = some (.ref (He.ga K "CanMeet"))
  eNM : PySem.W.excIn K (He.ga K "NeverMeet") He.veBase "ValueError.__new__" = true
  kNM : PySem.W.keepIn K (.ref (He.ga K "NeverMeet")) = true
  sNM : PySem.W.subIn K (.ref (He.ga K "NeverMeet")) (.type "BaseException") = some true
  tNM : PySem.W.typeIn K (.ref (He.ga K "NeverMeet")) = some (.type "type")
  xNM : PySem.W.exmOne K (.ref (He.ga K "NeverMeet")) (.ref (He.ga K "NeverMeet")) = some true
  b_any : mg "any" = none
  b_enumerate : mg "enumerate" = none
  b_int : mg "int" = none
  b_isinstance : mg "isinstance" = none
  b_len : mg "len" = none
  b_list : mg "list" = none
  b_min : mg "min" = none
  b_range : mg "range" = none
  b_sum : mg "sum" = none
  b_tuple : mg "tuple" = none
  b_bool : mg "bool" = none
  b_str : mg "str" = none
  b_ValueError : mg "ValueError" = none
/-- a def of the top -/
structure Dfn (K : PySem.W.Frag) (mg : Str → Option Value) (x : Str) (st : Stmt) : Prop where
  fn : ∃ fd, FunD K x x (defArgs st) (defBody st) (defScope st) [] [] (He.ga K x) fd
  gl : mg x = some (.ref (He.ga K x))
/-- a method -/
structure DfnM (K : PySem.W.Frag) (C m q : Str) (st : Stmt) : Prop where
  fn : ∃ fd, FunD K m q (defArgs st) (defBody st) (defScope st) [] [] (He.ma K (He.ga K C) m) fd
section
variable (P : Program) (w : World) (K : PySem.W.Frag) (mg : Str → Option Value) (base : Heap)
/-- a def that keeps its promise -/
structure Cal (x : Str) (k : Nat) (ps : List Str) (sp : Sp) : Prop where
  ex : ∃ fd, FnOk P w K mg base CX0 k (He.ga K x) fd ps sp ∧ Binds K fd ps []
  gl : mg x = some (.ref (He.ga K x))
  kp : PySem.W.keepIn K (.ref (He.ga K x)) = true
structure CalM (C m : Str) (k : Nat) (ps : List Str) (sp : Sp) : Prop where
  ex : ∃ fd, FnOk P w K mg base CX0 k (He.ma K (He.ga K C) m) fd ps sp ∧ Binds K fd ps []
  me : Meth K (He.ga K C) m (He.ma K (He.ga K C) m)
structure CalI (C : Str) (k : Nat) (ps : List Str) (sp : Sp) : Prop where
  ex : ∃ fd, FnOk P w K mg base CX0 k (He.ma K (He.ga K C) "__init__") fd ps sp ∧ Binds K fd ps []
  mak : Mk K (He.ga K C) (He.ma K (He.ga K C) "__init__")
  gl : mg C = some (.ref (He.ga K C))
end
section
variable {P : Program} {w : World} {K : PySem.W.Frag} {mg : Str → Option Value} {base : Heap}
theorem Dfn.cal {x : Str} {st : Stmt} {N ps : List Str} {k : Nat} {sp : Sp} (D : Dfn K mg x st) (S : FnScope N ps (defScope st)) (len : ∀ vs H Q E, sp vs H Q E → vs.length = ps.length)
    (hb : ∀ (kV doc pm : Value) (an : Option Addr) (cdv ct : Value) (us : List Value), us.length = ps.length → bindArgs (PySem.W.fnOf x x (defArgs st) (defBody st) (defScope st) .none kV doc pm an cdv ct) ⟨us, []⟩ = pure (ps.zip us))
    (hbody : ∀ (cdv : Value) (A : Around) (outer : List Env) (s : Shared) (H : Hp) (vs : List V) (Q : VK) (E : XK), Room k (A.deeper (envOfC x (defScope st) s.heap.objs.size (He.ga K x) cdv)) → sp vs H Q E →
      ∃ t, PSs (cxOf CX0 P w K mg base N x (defScope st) (He.ga K x) cdv A outer s H E).nox (defBody st) t ∧ t { nx := fun _ H' => Q .non H', rt := Q } (start N vs) H) : Cal P w K mg base x (k + 1) ps sp := by
  obtain ⟨fd, F⟩ := D.fn
  refine ⟨⟨fd, F.ok S len fun cdv A outer s H vs Q E hr h => ?_, F.bindsN hb⟩, D.gl, F.kp⟩
  obtain ⟨t, h1, h2⟩ := hbody cdv A outer s H vs Q E hr h
  exact ⟨t, h1.nox, h2⟩
theorem DfnM.okM {C m q : Str} {st : Stmt} {N ps : List Str} {k : Nat} {sp : Sp} (D : DfnM K C m q st) (S : FnScope N ps (defScope st)) (len : ∀ vs H Q E, sp vs H Q E → vs.length = ps.length)
    (hb : ∀ (kV doc pm : Value) (an : Option Addr) (cdv ct : Value) (us : List Value), us.length = ps.length → bindArgs (PySem.W.fnOf m q (defArgs st) (defBody st) (defScope st) .none kV doc pm an cdv ct) ⟨us, []⟩ = pure (ps.zip us))
    (hbody : ∀ (cdv : Value) (A : Around) (outer : List Env) (s : Shared) (H : Hp) (vs : List V) (Q : VK) (E : XK), Room k (A.deeper (envOfC q (defScope st) s.heap.objs.size (He.ma K (He.ga K C) m) cdv)) → sp vs H Q E →
      ∃ t, PSs (cxOf CX0 P w K mg base N q (defScope st) (He.ma K (He.ga K C) m) cdv A outer s H E).nox (defBody st) t ∧ t { nx := fun _ H' => Q .non H', rt := Q } (start N vs) H) :
    ∃ fd, FnOk P w K mg base CX0 (k + 1) (He.ma K (He.ga K C) m) fd ps sp ∧ Binds K fd ps [] := by
  obtain ⟨fd, F⟩ := D.fn
  refine ⟨fd, F.ok S len fun cdv A outer s H vs Q E hr h => ?_, F.bindsN hb⟩
  obtain ⟨t, h1, h2⟩ := hbody cdv A outer s H vs Q E hr h
  exact ⟨t, h1.nox, h2⟩
end
section
variable {X : Cx} {x C m : Str} {k : Nat} {ps : List Str} {sp : Sp} {p pos apos : Pos} {e o : Expr} {es : List Expr} {t : TA} {ta : TE}
theorem pe_cal (c : Cal X.prog X.w X.K X.mg X.base x k ps sp) (hr : Room k X.A) (ha : PA X (e :: es) t) (hg : Gl X x := by rfl) (hdb : (x == ("__debug__" : Str)) = false := by decide) (he : starEach (e :: es) X.env = (false, eval e X.env) :: starEach es X.env := by rfl)
    (hpl : (backTo pos (starEach es X.env)).any (·.1) = false := by rfl) : PE X (.Call (.Name x p) (e :: es) [] pos) (tCall sp [] E0 t) := by
  obtain ⟨fd, F, b⟩ := c.ex
  exact pe_call F hr hg c.gl c.kp b .nil pass0 ha hdb he hpl
theorem pe_calm (c : CalM X.prog X.w X.K X.mg X.base C m k ps sp) (cl : Cls X.K (He.ga X.K C)) (hr : Room k X.A) (ho : PE X o ta) (ha : PA X (e :: es) t)
    (h : ∀ {f : Addr} {fd : FuncData}, Meth X.K (He.ga X.K C) m f → FnOk X.prog X.w X.K X.mg X.base CX0 k f fd ps sp → Binds X.K fd ps [] → PE X (.Call (.Attribute o m apos) (e :: es) [] pos) (tMeth (He.ga X.K C) m sp [] E0 ta t)) :
    PE X (.Call (.Attribute o m apos) (e :: es) [] pos) (tMeth (He.ga X.K C) m sp [] E0 ta t) := by
  obtain ⟨fd, F, b⟩ := c.ex
  exact h c.me F b
theorem pe_cali (c : CalI X.prog X.w X.K X.mg X.base C k ps sp) (hr : Room (k + 1) X.A) (ha : PA X (e :: es) t) (hg : Gl X C := by rfl) (hdb : (C == ("__debug__" : Str)) = false := by decide) (he : starEach (e :: es) X.env = (false, eval e X.env) :: starEach es X.env := by rfl)
    (hpl : (backTo pos (starEach es X.env)).any (·.1) = false := by rfl) : PE X (.Call (.Name C p) (e :: es) [] pos) (tMake (He.ga X.K C) sp [] E0 t) := by
  obtain ⟨fd, F, b⟩ := c.ex
  exact pe_make c.mak F hr hg c.gl b .nil pass0 ha hdb he hpl
end
theorem room4 {k : Nat} {A : Around} (hr : Room k A) : A.units + 4 < cLine := by have := hr.un; omega
theorem room64 {k : Nat} {A : Around} (hr : Room k A) : A.units + 64 < cLine := by have := hr.un; omega
theorem room65 {k : Nat} {A : Around} (hr : Room k A) : A.units + 65 < cLine := by have := hr.un; omega
/-! ### readings by name -/
abbrev rAdd : R2 := rI0 fun i j => .int (i + j)
abbrev rSub : R2 := rI0 fun i j => .int (i - j)
abbrev rMul : R2 := rI CMul fun i j => .int (i * j)
abbrev rMod : R2 := rI (fun _ j => 0 < j) fun i j => .int (i % j)
abbrev rFdv : R2 := rI CDiv fun i j => .int (i / j)
abbrev rPow : R2 := rI CPow fun i j => .int (i ^ j.toNat)
abbrev rLt : R2 := rI0 fun i j => .bl (decide (i < j))
abbrev rLe : R2 := rI0 fun i j => .bl (decide (i ≤ j))
abbrev rGt : R2 := rI0 fun i j => .bl (decide (j < i))
abbrev rGe : R2 := rI0 fun i j => .bl (decide (j ≤ i))
abbrev rIsN : R2 := fun x y H Q => y = .non ∧ Q (.bl (decide (x = .non))) H
abbrev rNotN : R2 := fun x y H Q => y = .non ∧ Q (.bl (!decide (x = .non))) H
abbrev rLenS (K : PySem.W.Frag) : List V → Hp → VK → Prop := fun xs H Q => ∃ p ys, xs = [.ref p] ∧ (SqL K H p ys ∨ SqT K H p ys) ∧ Q (.int ys.length) H
abbrev rInt : List V → Hp → VK → Prop := fun xs H Q => (∃ i, xs = [.int i] ∧ Q (.int i) H) ∨ ∃ k, xs = [.bl k] ∧ Q (.int (if k then 1 else 0)) H
/-! ### data over the heap -/
abbrev nV (n : Nat) : V := .int (n : Int)
abbrev Ns (ns : List Nat) : List V := ns.map nV
/-- three ints: a bag of draws -/
def isBag : HO → Bool
  | .lst [.int _, .int _, .int _] => true
  | _ => false
/-- all but bags stand as they did -/
def Kp (H H' : Hp) : Prop := ∀ a o, isBag o = false → H a = some o → H' a = some o
def Bag (H : Hp) (B : Addr) : Prop := ∃ x y z : Int, H B = some (.lst [.int x, .int y, .int z])
/-- all but B stands as it did -/
def Off (B : Addr) (H H' : Hp) : Prop := ∀ a o, a ≠ B → H a = some o → H' a = some o
abbrev Ex (H H' : Hp) : Prop := Evl.Ex H H'
section
variable {H H' H1 H2 : Hp} {a p B : Addr} {o : HO}
theorem Ex.kp (e : Ex H H') : Kp H H' := fun a o _ h => e a o h
theorem Ex.off (e : Ex H H') : Off B H H' := fun a o _ h => e a o h
theorem Off.kp (e : Off B H H') (b : Bag H B) : Kp H H' := fun a o n h => e a o (fun z => by
  obtain ⟨x, y, u, q⟩ := b
  rw [z, q] at h
  cases h
  cases n) h
theorem Kp.trans (e1 : Kp H H1) (e2 : Kp H1 H2) : Kp H H2 := fun a o n h => e2 a o n (e1 a o n h)
theorem Kp.refl (H : Hp) : Kp H H := fun _ _ _ h => h
theorem Off.trans (e1 : Off B H H1) (e2 : Off B H1 H2) : Off B H H2 := fun a o n h => e2 a o n (e1 a o n h)
theorem Off.refl (B : Addr) (H : Hp) : Off B H H := fun _ _ _ h => h
theorem Kp.tup {xs : List V} (e : Kp H H') (h : H a = some (.tup xs)) : H' a = some (.tup xs) := e a _ rfl h
theorem Kp.ins {C dx : Addr} {fs : List (Str × V)} (e : Kp H H') (h : H a = some (.ins C dx fs)) : H' a = some (.ins C dx fs) := e a _ rfl h
theorem Bag.ex (b : Bag H B) (e : Ex H H') : Bag H' B := by
  obtain ⟨x, y, z, q⟩ := b
  exact ⟨x, y, z, e _ _ q⟩
theorem fresh_off (b : Bag H B) (e : Off B H H') (hp : H' p = none) (bp : Bag H' B) : H p = none := by
  by_cases c : p = B
  · obtain ⟨x, y, z, q⟩ := bp
    rw [c, q] at hp
    cases hp
  · cases h : H p with
    | none => rfl
    | some o =>
      rw [e p o c h] at hp
      cases hp
theorem ne_bag {xs : List V} (b : Bag H B) (h : H p = none) : p ≠ B := fun z => by
  obtain ⟨x, y, u, q⟩ := b
  rw [z, q] at h
  cases h
end
abbrev Rp := TM.Rp
abbrev S := TM.S
def PairT (H : Hp) (v : V) (p : Nat × Nat) : Prop := ∃ a, v = .ref a ∧ H a = some (.tup [nV p.1, nV p.2])
abbrev PairsV (H : Hp) : List V → Rp → Prop := Paired (PairT H)
def PairsL (H : Hp) (a : Addr) (ps : Rp) : Prop := ∃ vs, H a = some (.lst vs) ∧ PairsV H vs ps
def PairsT (H : Hp) (a : Addr) (ps : Rp) : Prop := ∃ vs, H a = some (.tup vs) ∧ PairsV H vs ps
def StT (H : Hp) (v : V) (s : S) : Prop := ∃ a r b c, v = .ref a ∧ H a = some (.tup [.ref r, .ref b, .ref c]) ∧ H r = some (.tup (Ns s.reds)) ∧ H b = some (.tup (Ns s.blues)) ∧ H c = some (.tup (Ns s.cars))
def WorldL (H : Hp) (a : Addr) (n : Nat) (ropes : Rp) (s : S) : Prop := ∃ rp sv, H a = some (.lst [nV n, .ref rp, sv]) ∧ PairsL H rp ropes ∧ StT H sv s
def netF (n : Nat) (t : Addr) : List (Str × V) := putF "ropes" (.ref t) (putF "stations" (nV n) [])
def stdF (nt r b c : Addr) : List (Str × V) := putF "cars" (.ref c) (putF "blues" (.ref b) (putF "reds" (.ref r) (putF "net" (.ref nt) [])))
def NetI (K : PySem.W.Frag) (H : Hp) (a : Addr) (n : Nat) (ropes : Rp) : Prop := ∃ dx t, H a = some (.ins (He.ga K "Net") dx (netF n t)) ∧ PairsT H t ropes
def StdI (K : PySem.W.Frag) (H : Hp) (a : Addr) (n : Nat) (ropes : Rp) (s : S) : Prop := ∃ dx nt r b c, H a = some (.ins (He.ga K "Standing") dx (stdF nt r b c)) ∧ NetI K H nt n ropes ∧
  H r = some (.tup (Ns s.reds)) ∧ H b = some (.tup (Ns s.blues)) ∧ H c = some (.tup (Ns s.cars))
/-- a ride: its rope, whether blue -/
abbrev Rd := TM.Rd
def colS : Bool → Str
  | false => "red"
  | true => "blue"
def RideT (H : Hp) (v : V) (r : Rd) : Prop := ∃ a, v = .ref a ∧ H a = some (.tup [nV r.1, .str (colS r.2)])
section
variable {K : PySem.W.Frag} {H H' : Hp} {a : Addr} {v : V} {ps : Rp} {s : S} {n : Nat}
theorem PairT.kp {p : Nat × Nat} (e : Kp H H') (h : PairT H v p) : PairT H' v p := by
  obtain ⟨a, q, h⟩ := h
  exact ⟨a, q, e.tup h⟩
theorem PairsV.kp {vs : List V} (e : Kp H H') (h : PairsV H vs ps) : PairsV H' vs ps := Paired.mapP h fun _ _ z => PairT.kp e z
theorem PairsV.nobag {vs : List V} (h : PairsV H vs ps) : isBag (.lst vs) = false := by
  cases h with
  | nil => rfl
  | cons h _ =>
    obtain ⟨a, q, _⟩ := h
    rw [q]
    rfl
theorem PairsL.kp (e : Kp H H') (h : PairsL H a ps) : PairsL H' a ps := by
  obtain ⟨vs, q, p⟩ := h
  exact ⟨vs, e _ _ p.nobag q, p.kp e⟩
theorem PairsT.kp (e : Kp H H') (h : PairsT H a ps) : PairsT H' a ps := by
  obtain ⟨vs, q, p⟩ := h
  exact ⟨vs, e.tup q, p.kp e⟩
theorem StT.kp (e : Kp H H') (h : StT H v s) : StT H' v s := by
  obtain ⟨a, r, b, c, q, h1, h2, h3, h4⟩ := h
  exact ⟨a, r, b, c, q, e.tup h1, e.tup h2, e.tup h3, e.tup h4⟩
theorem WorldL.kp (e : Kp H H') (h : WorldL H a n ps s) : WorldL H' a n ps s := by
  obtain ⟨rp, sv, h1, h2, h3⟩ := h
  exact ⟨rp, sv, e _ _ rfl h1, h2.kp e, h3.kp e⟩
theorem NetI.kp (e : Kp H H') (h : NetI K H a n ps) : NetI K H' a n ps := by
  obtain ⟨dx, t, h1, h2⟩ := h
  exact ⟨dx, t, e.ins h1, h2.kp e⟩
theorem StdI.kp (e : Kp H H') (h : StdI K H a n ps s) : StdI K H' a n ps s := by
  obtain ⟨dx, nt, r, b, c, h1, h2, h3, h4, h5⟩ := h
  exact ⟨dx, nt, r, b, c, e.ins h1, h2.kp e, e.tup h3, e.tup h4, e.tup h5⟩
theorem RideT.kp {r : Rd} (e : Kp H H') (h : RideT H v r) : RideT H' v r := by
  obtain ⟨a, q, h⟩ := h
  exact ⟨a, q, e.tup h⟩
end
/-! ### lists -/
theorem Paired.get {α β : Type} {F : α → β → Prop} : ∀ {l : List α} {m : List β} {i : Nat} {y : β}, Paired F l m → m[i]? = some y → ∃ x, l[i]? = some x ∧ F x y
  | _, _, i, y, .nil, e => by simp at e
  | _, _, 0, y, .cons h _, e => by
    simp at e
    subst e
    exact ⟨_, by simp, h⟩
  | _, _, i + 1, y, .cons _ t, e => by
    obtain ⟨x, h1, h2⟩ := Paired.get (i := i) (y := y) t (by simpa using e)
    exact ⟨x, by simpa using h1, h2⟩
theorem Paired.getL {α β : Type} {F : α → β → Prop} : ∀ {l : List α} {m : List β} {i : Nat} {x : α}, Paired F l m → l[i]? = some x → ∃ y, m[i]? = some y ∧ F x y
  | _, _, i, y, .nil, e => by simp at e
  | _, _, 0, y, .cons h _, e => by
    simp at e
    subst e
    exact ⟨_, by simp, h⟩
  | _, _, i + 1, x, .cons _ t, e => by
    obtain ⟨y, h1, h2⟩ := Paired.getL (i := i) (x := x) t (by simpa using e)
    exact ⟨y, by simpa using h1, h2⟩
theorem ns_get {ns : List Nat} {i k : Nat} (h : ns[i]? = some k) : (Ns ns)[i]? = some (nV k) := by
  rw [List.getElem?_map, h]
  rfl
theorem ns_getL {ns : List Nat} {i : Nat} {v : V} (h : (Ns ns)[i]? = some v) : ∃ k, ns[i]? = some k ∧ v = nV k := by
  rw [List.getElem?_map] at h
  cases e : ns[i]? with
  | none =>
    rw [e] at h
    cases h
  | some k =>
    rw [e] at h
    exact ⟨k, rfl, (Option.some.inj h).symm⟩
theorem get_of_lt {α : Type} {l : List α} {i : Nat} (h : i < l.length) : ∃ x, l[i]? = some x := ⟨l[i], by simp [h]⟩
theorem lt_of_get {α : Type} {l : List α} {i : Nat} {x : α} (h : l[i]? = some x) : i < l.length := (List.getElem?_eq_some_iff.mp h).1
theorem getD_of {l : List Nat} {i k : Nat} (h : l[i]? = some k) : l.getD i 0 = k := by
  rw [List.getD_eq_getElem?_getD, h]
  rfl
theorem get_of_getD {l : List Nat} {i : Nat} (h : i < l.length) : l[i]? = some (l.getD i 0) := by
  obtain ⟨x, e⟩ := get_of_lt h
  rw [getD_of e, e]
/-! ### fields -/
theorem netF_s (n : Nat) (t : Addr) : (netF n t).lookup ("stations" : Str) = some (nV n) := by
  unfold netF
  rw [lookup_putF, if_neg (by decide +kernel), lookup_putF, if_pos rfl]
theorem netF_r (n : Nat) (t : Addr) : (netF n t).lookup ("ropes" : Str) = some (.ref t) := by
  unfold netF
  rw [lookup_putF, if_pos rfl]
theorem stdF_n (nt r b c : Addr) : (stdF nt r b c).lookup ("net" : Str) = some (.ref nt) := by
  unfold stdF
  rw [lookup_putF, if_neg (by decide +kernel), lookup_putF, if_neg (by decide +kernel), lookup_putF, if_neg (by decide +kernel), lookup_putF, if_pos rfl]
theorem stdF_r (nt r b c : Addr) : (stdF nt r b c).lookup ("reds" : Str) = some (.ref r) := by
  unfold stdF
  rw [lookup_putF, if_neg (by decide +kernel), lookup_putF, if_neg (by decide +kernel), lookup_putF, if_pos rfl]
theorem stdF_b (nt r b c : Addr) : (stdF nt r b c).lookup ("blues" : Str) = some (.ref b) := by
  unfold stdF
  rw [lookup_putF, if_neg (by decide +kernel), lookup_putF, if_pos rfl]
theorem stdF_c (nt r b c : Addr) : (stdF nt r b c).lookup ("cars" : Str) = some (.ref c) := by
  unfold stdF
  rw [lookup_putF, if_pos rfl]
theorem stdF_no (nt r b c : Addr) {m : Str} (h1 : ¬ m = "net") (h2 : ¬ m = "reds") (h3 : ¬ m = "blues") (h4 : ¬ m = "cars") : (stdF nt r b c).lookup m = none := by
  unfold stdF
  rw [lookup_putF, if_neg h4, lookup_putF, if_neg h3, lookup_putF, if_neg h2, lookup_putF, if_neg h1]
  rfl
end Tw

/-! the defs' promises -/
namespace Tw
open PySem PySem.Spec PyProof.Rows L2 TM
def oV : Option Nat → V
  | none => .non
  | some k => nV k
def RidesL (H : Hp) (a : Addr) (rs : List TM.Rd) : Prop := ∃ vs, H a = some (.lst vs) ∧ Paired (RideT H) vs rs
def StatesL (H : Hp) (a : Addr) (ss : List TM.S) : Prop := ∃ vs, H a = some (.lst vs) ∧ Paired (StT H) vs ss
/-- a meeting way as a value -/
def MeetV (H : Hp) (v : V) : Option (Nat × List Nat) → Prop
  | none => v = .non
  | some p => ∃ a q, v = .ref a ∧ H a = some (.tup [nV p.1, .ref q]) ∧ H q = some (.lst (Ns p.2))
def IsOrder (n : Nat) (os : List Nat) : Prop := os.length = n ∧ os.Nodup ∧ ∀ x, x ∈ os ↔ x < n
noncomputable def meetS (n : Nat) (ropes : TM.Rp) (s : TM.S) : Option (Nat × List Nat) := meet n (as ropes s) s.reds s.blues
def c01 (l : List Nat) : Prop := ∀ c ∈ l, c < 2
def EndsLt (n : Nat) (ps : TM.Rp) : Prop := ∀ p ∈ ps, p.1 < n ∧ p.2 < n
section
def sp_check_rope (K : PySem.W.Frag) : Sp := fun vs H Q _ => ∃ nt n ropes r, vs = [.ref nt, nV r] ∧ NetI K H nt n ropes ∧ r < ropes.length ∧ Q .non H
def sp_Standing_red_car (K : PySem.W.Frag) : Sp := fun vs H Q _ => ∃ st n ropes s r p c, vs = [.ref st, nV r] ∧ StdI K H st n ropes s ∧ ropes[r]? = some p ∧ s.cars[r]? = some c ∧ c < 2 ∧ Q (nV (if c = 0 then p.1 else p.2)) H
def sp_Standing_blue_car (K : PySem.W.Frag) : Sp := fun vs H Q _ => ∃ st n ropes s r p c, vs = [.ref st, nV r] ∧ StdI K H st n ropes s ∧ ropes[r]? = some p ∧ s.cars[r]? = some c ∧ c < 2 ∧ Q (nV (if c = 0 then p.2 else p.1)) H
def sp_arrows_of (K : PySem.W.Frag) : Sp := fun vs H Q _ => ∃ st n ropes s, vs = [.ref st] ∧ StdI K H st n ropes s ∧ s.cars.length = ropes.length ∧ c01 s.cars ∧ ropes.length ≤ 40 ∧
  ∀ p H', Ex H H' → H p = none → PairsL H' p (as ropes s) → Q (.ref p) H'
def sp_reached_from (K : PySem.W.Frag) : Sp := fun vs H Q _ => ∃ ap n sa arrows starts, vs = [.ref ap, nV n, .ref sa] ∧ PairsL H ap arrows ∧ H sa = some (.lst (Ns starts)) ∧ EndsLt n arrows ∧ (∀ x ∈ starts, x < n) ∧ n ≤ 24 ∧ arrows.length ≤ 40 ∧ starts.length ≤ 24 ∧
  ∀ p H' xs, Ex H H' → H p = none → H' p = some (.lst (Ns xs)) → xs.length ≤ n → (∀ x, x ∈ xs ↔ x < n ∧ ∃ u ∈ starts, ∃ k, Way arrows u x k) → Q (.ref p) H'
def sp_red_reach (K : PySem.W.Frag) : Sp := fun vs H Q _ => ∃ st n ropes s, vs = [.ref st] ∧ StdI K H st n ropes s ∧ Ok n ropes ∧ OkS n ropes s ∧
  ∀ p H' xs, Ex H H' → H p = none → H' p = some (.lst (Ns xs)) → xs.length ≤ n → (∀ x, x ∈ xs ↔ x < n ∧ ∃ u k, 0 < s.reds.getD u 0 ∧ Way (as ropes s) u x k) → Q (.ref p) H'
def sp_can_meet (K : PySem.W.Frag) : Sp := fun vs H Q _ => ∃ st n ropes s, vs = [.ref st] ∧ StdI K H st n ropes s ∧ Ok n ropes ∧ OkS n ropes s ∧
  ∀ (b : Bool) H', Ex H H' → (b = true ↔ MeetsS ropes s) → Q (.bl b) H'
def sp__lengths_to_blue (K : PySem.W.Frag) : Sp := fun vs H Q _ => ∃ st n ropes s ap arrows, vs = [.ref st, .ref ap] ∧ StdI K H st n ropes s ∧ s.blues.length = n ∧ n ≤ 24 ∧ PairsL H ap arrows ∧ EndsLt n arrows ∧ arrows.length ≤ 40 ∧
  ∀ p H', Ex H H' → H p = none → H' p = some (.lst ((List.range n).map fun u => oV (dst arrows s.blues u))) → Q (.ref p) H'
def sp__least_ropes (K : PySem.W.Frag) : Sp := fun vs H Q _ => ∃ ap lp sa n arrows bl starts m, vs = [.ref ap, .ref lp, .ref sa] ∧ PairsL H ap arrows ∧ EndsLt n arrows ∧ H lp = some (.lst ((List.range n).map fun u => oV (dst arrows bl u))) ∧ H sa = some (.lst (Ns starts)) ∧
  starts ≠ [] ∧ (∀ u ∈ starts, u < n ∧ dst arrows bl u = some m) ∧ m < n ∧ n ≤ 24 ∧ arrows.length ≤ 40 ∧
  ∀ p H', Ex H H' → H p = none → H' p = some (.lst (Ns (greedy arrows bl starts m))) → Q (.ref p) H'
def sp_meeting_way (K : PySem.W.Frag) : Sp := fun vs H Q _ => ∃ st n ropes s, vs = [.ref st] ∧ StdI K H st n ropes s ∧ Ok n ropes ∧ OkS n ropes s ∧
  (meetS n ropes s = none → ∀ H', Ex H H' → Q .non H') ∧
  (∀ u rs, meetS n ropes s = some (u, rs) → ∀ p q H', Ex H H' → H q = none → H' p = some (.tup [nV u, .ref q]) → H' q = some (.lst (Ns rs)) → Q (.ref p) H')
def sp_meet_row (K : PySem.W.Frag) : Sp := fun vs H Q E => ∃ st n ropes s, vs = [.ref st] ∧ StdI K H st n ropes s ∧ Ok n ropes ∧ OkS n ropes s ∧
  (meetS n ropes s = none → ∀ H', Ex H H' → E (.ref (He.ga K "NeverMeet")) none H') ∧
  (∀ u rs, meetS n ropes s = some (u, rs) → ∀ p H', Ex H H' → H p = none → RidesL H' p (rs.map fun i => (i, false)) → Q (.ref p) H')
def sp_check_cars (K : PySem.W.Frag) : Sp := fun vs H Q _ => ∃ nt cp n ropes cars, vs = [.ref nt, .ref cp] ∧ NetI K H nt n ropes ∧ H cp = some (.lst (Ns cars)) ∧ cars.length = ropes.length ∧ c01 cars ∧ ∀ H', Ex H H' → Q .non H'
def sp__cut_off (K : PySem.W.Frag) : Sp := fun vs H Q _ => ∃ n rp ropes, vs = [nV n, .ref rp] ∧ PairsL H rp ropes ∧ Ok n ropes ∧ ∀ p H', Ex H H' → H' p = some (.lst []) → Q (.ref p) H'
def sp__check_size (K : PySem.W.Frag) : Sp := fun vs H Q _ => ∃ (n : Nat), vs = [nV n, .int 1] ∧ 1 ≤ n ∧ n ≤ 24 ∧ Q .non H
def sp_Net_init (K : PySem.W.Frag) : Sp := fun vs H Q _ => ∃ x n rp ropes dx, vs = [.ref x, nV n, .ref rp] ∧ H x = some (.ins (He.ga K "Net") dx []) ∧ PairsL H rp ropes ∧ Ok n ropes ∧ ∀ H', Off x H H' → NetI K H' x n ropes → Q .non H'
def sp__check_guests (K : PySem.W.Frag) : Sp := fun vs H Q _ => ∃ nt part gp n ropes g, vs = [.ref nt, .str part, .ref gp] ∧ NetI K H nt n ropes ∧ H gp = some (.lst (Ns g)) ∧ g.length = n ∧ ∀ H', Ex H H' → Q .non H'
def sp_Standing_init (K : PySem.W.Frag) : Sp := fun vs H Q _ => ∃ x nt r b c n ropes s dx, vs = [.ref x, .ref nt, .ref r, .ref b, .ref c] ∧ H x = some (.ins (He.ga K "Standing") dx []) ∧ NetI K H nt n ropes ∧
  H r = some (.lst (Ns s.reds)) ∧ H b = some (.lst (Ns s.blues)) ∧ H c = some (.lst (Ns s.cars)) ∧ OkS n ropes s ∧ ∀ H', Off x H H' → StdI K H' x n ropes s → Q .non H'
def sp__law_integer (K : PySem.W.Frag) : Sp := fun vs H Q _ => ∃ (i : Int), vs = [.int i] ∧ Q (.bl true) H
def sp__law_bag (K : PySem.W.Frag) : Sp := fun vs H Q _ => ∃ (sc : Addr) (ns : List Int) (k : Nat), vs = [.ref sc, nV k] ∧ SqL K H sc (ns.map V.int) ∧ ns.length ≤ 63 ∧ ∀ B H', Ex H H' → H B = none → Bag H' B → Q (.ref B) H'
def sp__law_take (K : PySem.W.Frag) : Sp := fun vs H Q _ => ∃ B m, vs = [.ref B, nV m] ∧ Bag H B ∧ 0 < m ∧ m < 1000000 ∧ ∀ r H', r < m → Bag H' B → Off B H H' → Q (nV r) H'
def sp__law_order (K : PySem.W.Frag) : Sp := fun vs H Q _ => ∃ B n, vs = [.ref B, nV n] ∧ Bag H B ∧ n ≤ 24 ∧ ∀ p H' os, Off B H H' → Bag H' B → H p = none → H' p = some (.lst (Ns os)) → IsOrder n os → Q (.ref p) H'
def sp__law_add_rope (K : PySem.W.Frag) : Sp := fun vs H Q _ => ∃ B N p q a b ropes ahead, vs = [.ref B, .ref N, nV a, nV b] ∧ Bag H B ∧ H N = some (.lst [.ref p, .ref q]) ∧ PairsL H p ropes ∧ H q = some (.lst (Ns ahead)) ∧ p ≠ B ∧ q ≠ B ∧ N ≠ B ∧ p ≠ q ∧ p ≠ N ∧ q ≠ N ∧
  ropes.length ≤ 100 ∧ ahead.length = ropes.length ∧
  ∀ H' ropes' ahead' e, (∀ x o, x ≠ B → x ≠ p → x ≠ q → H x = some o → H' x = some o) → Bag H' B → PairsL H' p ropes' → H' q = some (.lst (Ns ahead')) → ropes'.length = ropes.length + 1 → ahead'.length = ropes.length + 1 →
    (e = (a, b) ∨ e = (b, a)) → (∀ t, t ∈ ropes' ↔ t = e ∨ t ∈ ropes) → (∀ t ∈ ahead', t < 2 ∨ t ∈ ahead) → Q .non H'
def sp__law_net (K : PySem.W.Frag) : Sp := fun vs H Q _ => ∃ B n f, vs = [.ref B, nV n, nV f] ∧ Bag H B ∧ 1 ≤ n ∧ n ≤ 24 ∧ f ≤ 17 ∧
  ∀ W op rp ah H' os ropes ahead, Off B H H' → Bag H' B → H' W = some (.lst [.ref op, .ref rp, .ref ah]) → op ≠ B → ah ≠ B → H' op = some (.lst (Ns os)) → PairsL H' rp ropes → H' ah = some (.lst (Ns ahead)) →
    IsOrder n os → Ok n ropes → ahead.length = ropes.length → c01 ahead → Q (.ref W) H'
def sp__law_guests (K : PySem.W.Frag) : Sp := fun vs H Q _ => ∃ B op m n os, vs = [.ref B, .ref op, nV m] ∧ Bag H B ∧ op ≠ B ∧ H op = some (.lst (Ns os)) ∧ IsOrder n os ∧ 1 ≤ n ∧ n ≤ 24 ∧ 1 ≤ m ∧ m ≤ 30 ∧
  ∀ W r b H' reds blues, Off B H H' → Bag H' B → H' W = some (.lst [.ref r, .ref b]) → r ≠ B → b ≠ B → H' r = some (.lst (Ns reds)) → H' b = some (.lst (Ns blues)) → reds.length = n → blues.length = n → reds.sum + blues.sum ≤ m → Q (.ref W) H'
def sp__law_cars (K : PySem.W.Frag) : Sp := fun vs H Q _ => ∃ B rp ah W r b n ropes ahead reds blues, vs = [.ref B, .ref rp, .ref ah, .ref W] ∧ Bag H B ∧ PairsL H rp ropes ∧ EndsLt n ropes ∧ ropes.length ≤ 40 ∧ ah ≠ B ∧ H ah = some (.lst (Ns ahead)) ∧ ahead.length = ropes.length ∧ c01 ahead ∧
  H W = some (.lst [.ref r, .ref b]) ∧ r ≠ B ∧ b ≠ B ∧ H r = some (.lst (Ns reds)) ∧ H b = some (.lst (Ns blues)) ∧ reds.length = n ∧ blues.length = n ∧
  ∀ c H' cars, Off B H H' → Bag H' B → c ≠ B → H' c = some (.lst (Ns cars)) → cars.length = ropes.length → c01 cars → Q (.ref c) H'
def sp__law_world (K : PySem.W.Frag) : Sp := fun vs H Q _ => ∃ B, vs = [.ref B] ∧ Bag H B ∧ ∀ W H' n ropes s, Off B H H' → Bag H' B → WorldL H' W n ropes s → Ok n ropes → OkS n ropes s → Q (.ref W) H'
def sp__law_standing (K : PySem.W.Frag) : Sp := fun vs H Q _ => ∃ W sv n ropes s0 s, vs = [.ref W, sv] ∧ WorldL H W n ropes s0 ∧ StT H sv s ∧ Ok n ropes ∧ OkS n ropes s ∧ ∀ x H', Ex H H' → StdI K H' x n ropes s → Q (.ref x) H'
def sp__law_shows (K : PySem.W.Frag) : Sp := fun vs H Q _ => ∃ x sv n ropes s, vs = [.ref x, sv] ∧ StdI K H x n ropes s ∧ StT H sv s ∧ Ok n ropes ∧ OkS n ropes s ∧ ∀ H', Ex H H' → Q (.bl true) H'
def sp__law_arrows (K : PySem.W.Frag) : Sp := fun vs H Q _ => ∃ rp c ropes s, vs = [.ref rp, .ref c] ∧ PairsL H rp ropes ∧ H c = some (.tup (Ns s.cars)) ∧ s.cars.length = ropes.length ∧ c01 s.cars ∧ ropes.length ≤ 40 ∧ ∀ p H', Ex H H' → H p = none → PairsL H' p (as ropes s) → Q (.ref p) H'
def sp__law_rides (K : PySem.W.Frag) : Sp := fun vs H Q _ => ∃ rp sv n ropes s, vs = [.ref rp, sv] ∧ PairsL H rp ropes ∧ StT H sv s ∧ Ok n ropes ∧ OkS n ropes s ∧ ∀ p H', Ex H H' → H p = none → RidesL H' p (rides ropes s) → Q (.ref p) H'
def sp__law_ride (K : PySem.W.Frag) : Sp := fun vs H Q _ => ∃ rp sv rv n ropes s r, vs = [.ref rp, sv, rv] ∧ PairsL H rp ropes ∧ StT H sv s ∧ RideT H rv r ∧ Ok n ropes ∧ OkS n ropes s ∧ canR ropes s r = true ∧ ∀ v H', Ex H H' → StT H' v (ride ropes s r) → Q v H'
def sp__law_walked (K : PySem.W.Frag) : Sp := fun vs H Q _ => ∃ B W sv n ropes s0 s, vs = [.ref B, .ref W, sv, .int 12] ∧ Bag H B ∧ WorldL H W n ropes s0 ∧ StT H sv s ∧ Ok n ropes ∧ OkS n ropes s ∧
  ∀ p ra sa H' ss, Off B H H' → Bag H' B → H' p = some (.lst [.ref ra, .ref sa]) → StatesL H' sa ss → ss ≠ [] → ss.length ≤ 1000 → (∀ t ∈ ss, Reach ropes s t) → Q (.ref p) H'
def sp__law_search (K : PySem.W.Frag) : Sp := fun vs H Q _ => ∃ W sv n ropes s0 s, vs = [.ref W, sv, .int 300] ∧ WorldL H W n ropes s0 ∧ StT H sv s ∧ Ok n ropes ∧ OkS n ropes s ∧ (∀ H', Ex H H' → Q .non H') ∧
  ∀ p H' ss, Ex H H' → H p = none → StatesL H' p ss → s ∈ ss → ss.length ≤ 1000 → (∀ t ∈ ss, Reach ropes s t) → (∀ t ∈ ss, ∀ r, canR ropes t r = true → ride ropes t r ∈ ss) → Q (.ref p) H'
def sp__law_both (K : PySem.W.Frag) : Sp := fun vs H Q _ => ∃ sv n ropes s, vs = [sv] ∧ StT H sv s ∧ Ok n ropes ∧ OkS n ropes s ∧ ∀ H', Ex H H' → Q (.bl (both s)) H'
def sp__law_are_rides (K : PySem.W.Frag) : Sp := fun vs H Q _ => ∃ p rp ropes rs, vs = [.ref p, .ref rp] ∧ RidesL H p rs ∧ PairsL H rp ropes ∧ ropes.length ≤ 40 ∧ (∀ r ∈ rs, r.1 < ropes.length) ∧ ∀ H', Ex H H' → Q (.bl true) H'
def sp__law_end (K : PySem.W.Frag) : Sp := fun vs H Q _ => ∃ rp sv p n ropes s rs t, vs = [.ref rp, sv, .ref p] ∧ PairsL H rp ropes ∧ StT H sv s ∧ RidesL H p rs ∧ Ok n ropes ∧ OkS n ropes s ∧ endS ropes s rs = some t ∧ ∀ v H', Ex H H' → StT H' v t → Q v H'
def sp__law_meeting (K : PySem.W.Frag) : Sp := fun vs H Q _ => ∃ W sv n ropes s0 s, vs = [.ref W, sv] ∧ WorldL H W n ropes s0 ∧ StT H sv s ∧ Ok n ropes ∧ OkS n ropes s ∧ ∀ v H', Ex H H' → MeetV H' v (meetS n ropes s) → Q v H'
def sp__law_is_list (K : PySem.W.Frag) : Sp := fun vs H Q _ => ∃ a b xs, vs = [.ref a, .ref b] ∧ H a = some (.lst (Ns xs)) ∧ H b = some (.lst (Ns xs)) ∧ xs.length ≤ 1000 ∧ ∀ H', Ex H H' → Q (.bl true) H'
def sp__law_same (K : PySem.W.Frag) : Sp := fun vs H Q _ => ∃ (a b : Bool), vs = [.bl a, .bl b] ∧ Q (.bl (decide (a = b))) H
def sp__law_row (K : PySem.W.Frag) : Sp := fun vs H Q _ => ∃ W sv x due n ropes s0 s, vs = [.ref W, sv, .ref x, due] ∧ WorldL H W n ropes s0 ∧ StT H sv s ∧ StdI K H x n ropes s ∧ Ok n ropes ∧ OkS n ropes s ∧ MeetV H due (meetS n ropes s) ∧ ∀ H', Ex H H' → Q (.bl true) H'
def sp__law_asked (K : PySem.W.Frag) : Sp := fun vs H Q _ => ∃ W sv n ropes s0 s, vs = [.ref W, sv] ∧ WorldL H W n ropes s0 ∧ StT H sv s ∧ Ok n ropes ∧ OkS n ropes s ∧ ∀ H', Ex H H' → Q (.bl true) H'
def sp_law (K : PySem.W.Frag) : Sp := fun vs H Q _ => ∃ (sc : Addr) (ns : List Int), vs = [.ref sc] ∧ SqL K H sc (ns.map V.int) ∧ ns.length ≤ 63 ∧ ∀ H', Q (.bl true) H'
end
section
variable {K : PySem.W.Frag} {H H' : Hp} {a : Addr}
theorem RidesL.kp {rs : List TM.Rd} (e : Kp H H') (h : RidesL H a rs) : RidesL H' a rs := by
  obtain ⟨vs, q, p⟩ := h
  refine ⟨vs, e _ _ ?_ q, Paired.mapP p fun _ _ z => RideT.kp e z⟩
  cases p with
  | nil => rfl
  | cons h _ =>
    obtain ⟨a, q, _⟩ := h
    rw [q]
    rfl
theorem StatesL.kp {ss : List TM.S} (e : Kp H H') (h : StatesL H a ss) : StatesL H' a ss := by
  obtain ⟨vs, q, p⟩ := h
  refine ⟨vs, e _ _ ?_ q, Paired.mapP p fun _ _ z => StT.kp e z⟩
  cases p with
  | nil => rfl
  | cons h _ =>
    obtain ⟨a, _, _, _, q, _⟩ := h
    rw [q]
    rfl
theorem MeetV.ex {v : V} : ∀ {m : Option (Nat × List Nat)}, Ex H H' → MeetV H v m → MeetV H' v m
  | none, _, h => h
  | some _, e, ⟨a, q, h1, h2, h3⟩ => ⟨a, q, h1, e _ _ h2, e _ _ h3⟩
end
end Tw

/-! small words for the readings -/
namespace Tw
open PySem PySem.Spec PyProof.Rows L2 TM
theorem ifT {c A B : Prop} [Decidable c] (h : c) (a : A) : if c then A else B := by
  rw [if_pos h]
  exact a
theorem ifF {c A B : Prop} [Decidable c] (h : ¬ c) (b : B) : if c then A else B := by
  rw [if_neg h]
  exact b
/-- a test's answer, known -/
theorem dT {p A B : Prop} [Decidable p] (h : p) (a : A) : if decide p = true then A else B := ifT (decide_eq_true h) a
theorem dF {p A B : Prop} [Decidable p] (h : ¬ p) (b : B) : if decide p = true then A else B := ifF (by rw [decide_eq_false h]; decide) b
theorem nT {p A B : Prop} [Decidable p] (h : ¬ p) (a : A) : if (!decide p) = true then A else B := ifT (by rw [decide_eq_false h]; rfl) a
theorem nF {p A B : Prop} [Decidable p] (h : p) (b : B) : if (!decide p) = true then A else B := ifF (by rw [decide_eq_true h]; decide) b
theorem dI {p A B : Prop} [Decidable p] (h1 : p → A) (h2 : ¬ p → B) : if decide p = true then A else B := by
  by_cases c : p
  · exact dT c (h1 c)
  · exact dF c (h2 c)
theorem nI {p A B : Prop} [Decidable p] (h1 : ¬ p → A) (h2 : p → B) : if (!decide p) = true then A else B := by
  by_cases c : p
  · exact nF c (h2 c)
  · exact nT c (h1 c)
theorem sz1 {n : Nat} (h : n ≤ 100000) : n ≤ sizeLine := Nat.le_trans h (by decide)
theorem sz2 {n : Nat} (h : n < 100000) : n < sizeLine := Nat.lt_of_lt_of_le h (by decide)
theorem upd_get {H : Hp} {p q : Addr} {o u : HO} (hp : H p = none) (h : H q = some o) : upd H p u q = some o := by
  rw [upd_ne (ne_of_none h hp)]
  exact h
theorem exn {H : Hp} {p : Addr} {o : HO} (h : H p = none) : Ex H (upd H p o) := Evl.Ex.new h
theorem exr (H : Hp) : Ex H H := fun _ _ h => h
theorem as_nat {Q : VK} {i : Int} {H : Hp} (h0 : 0 ≤ i) (h : Q (nV i.toNat) H) : Q (.int i) H := by
  have e : nV i.toNat = V.int i := by
    show V.int ((i.toNat : Nat) : Int) = V.int i
    rw [Int.toNat_of_nonneg h0]
  rw [← e]
  exact h
theorem as_mod {Q : VK} {x : Int} {m : Nat} {H : Hp} (m0 : 0 < m) (h : ∀ r, r < m → Q (nV r) H) : Q (.int (x % (m : Int))) H := by
  have h1 := Int.emod_nonneg x (b := (m : Int)) (by omega)
  have h2 := Int.emod_lt_of_pos x (b := (m : Int)) (by omega)
  exact as_nat h1 (h _ (by omega))
theorem bag_upd {H : Hp} {B : Addr} {x y z : Int} : Bag (upd H B (.lst [.int x, .int y, .int z])) B := ⟨x, y, z, upd_same⟩
theorem off_upd {H : Hp} {B : Addr} {o : HO} : Off B H (upd H B o) := fun a u ne h => by
  rw [upd_ne ne]
  exact h
theorem take_more {α : Type} : ∀ {l : List α} {i : Nat} {x : α}, l[i]? = some x → l.take (i + 1) = l.take i ++ [x]
  | [], i, x, h => by simp at h
  | a :: l, 0, x, h => by
    have e : a = x := Option.some.inj h
    subst e
    rfl
  | a :: l, i + 1, x, h => by
    have ih := take_more (l := l) (i := i) (x := x) h
    show a :: l.take (i + 1) = a :: l.take i ++ [x]
    rw [ih]
    rfl
theorem for_range0 {n : Nat} {g : TG} {tb : TS} {D : Ends} {σ : L2.St} {H : Hp} (Pv : Nat → L2.St → Hp → Prop) (h0 : Pv 0 σ H)
    (hs : ∀ i σ H, i < n → Pv i σ H → g (nV i) σ H fun σ2 H2 => tb { D with nx := Pv (i + 1), ct := Pv (i + 1), bk := D.nx } σ2 H2) (hd : ∀ σ H, Pv n σ H → D.nx σ H) :
    ∃ W : Nat → Nat → L2.St → Hp → Prop, (∃ m, W 0 m σ H) ∧ ∀ i m σ H, W i m σ H →
      ((Itr 0 n).stop i H ∧ D.nx σ H) ∨ ((Itr 0 n).go i H ∧ ∃ N : L2.St → Hp → Prop, (∀ σ' H', N σ' H' → ∃ m', m' < m ∧ W (i + 1) m' σ' H') ∧ ∀ x H', (Itr 0 n).yld i H x H' → g x σ H' fun σ2 H2 => tb { D with nx := N, ct := N, bk := D.nx } σ2 H2) :=
  for_range Pv h0 (fun i σ H hi p => by
    rw [Int.zero_add]
    exact hs i σ H hi p) hd
theorem lc_range0 {n : Nat} {g : TG} {tt : TT} {te : TE} {vs : List Nat} {σ : L2.St} {H1 : Hp} {D : Addr} {Qd : Hp → Prop} (Pv : Nat → Hp → Prop) (h0 : Pv 0 (upd H1 D (.lst [])))
    (hs : ∀ i H, i < n → Pv i H → g (nV i) (wipe σ vs) H fun σ2 H2 => wipe σ2 vs = wipe σ vs ∧ tt σ2 H2 fun b H3 =>
      if b = true then te σ2 H3 fun y H4 => ∃ acc, H4 D = some (.lst acc) ∧ acc.length < sizeLine ∧ Pv (i + 1) (upd H4 D (.lst (acc ++ [y]))) else Pv (i + 1) H3) (hd : ∀ H, Pv n H → Qd H) :
    ∃ W : Nat → Nat → Hp → Prop, (∃ m, W 0 m (upd H1 D (.lst []))) ∧ ∀ i m H, W i m H →
      ((Itr 0 n).stop i H ∧ Qd H) ∨ ((Itr 0 n).go i H ∧ ∃ Nx : Hp → Prop, (∀ H', Nx H' → ∃ m', m' < m ∧ W (i + 1) m' H') ∧ ∀ x H', (Itr 0 n).yld i H x H' → g x (wipe σ vs) H' fun σ2 H2 => wipe σ2 vs = wipe σ vs ∧ tt σ2 H2 fun b H3 =>
        if b = true then te σ2 H3 fun y H4 => ∃ acc, H4 D = some (.lst acc) ∧ acc.length < sizeLine ∧ Nx (upd H4 D (.lst (acc ++ [y]))) else Nx H3) :=
  lc_range Pv h0 (fun i H hi p => by
    rw [Int.zero_add]
    exact hs i H hi p) hd
theorem off_mut {H H1 : Hp} {B p : Addr} {o : HO} (e : Off B H H1) (hp : H p = none) : Off B H (upd H1 p o) := fun a u ne h => by
  rw [upd_ne (ne_of_none h hp)]
  exact e a u ne h
theorem ex_mut {H H1 : Hp} {p : Addr} {o : HO} (e : Ex H H1) (hp : H p = none) : Ex H (upd H1 p o) := Evl.Ex.mut e hp
theorem bag_keep {H : Hp} {B p : Addr} {o : HO} (b : Bag H B) (ne : p ≠ B) : Bag (upd H p o) B := by
  obtain ⟨x, y, z, h⟩ := b
  exact ⟨x, y, z, by rw [upd_ne (Ne.symm ne)]; exact h⟩
theorem ns_ins (l : List Nat) (j x : Nat) : (Ns l).take j ++ [nV x] ++ (Ns l).drop j = Ns (l.take j ++ [x] ++ l.drop j) := by
  show (l.map _).take j ++ [nV x] ++ (l.map _).drop j = (l.take j ++ [x] ++ l.drop j).map _
  rw [← List.map_take, ← List.map_drop, List.map_append, List.map_append]
  rfl
theorem ins_perm {α : Type} (l : List α) (j : Nat) (x : α) : (l.take j ++ [x] ++ l.drop j).Perm (x :: l) := by
  have h : (l.take j ++ x :: l.drop j).Perm (x :: (l.take j ++ l.drop j)) := List.perm_middle
  rw [List.take_append_drop] at h
  rw [List.append_assoc]
  exact h
theorem Paired.app {α β : Type} {F : α → β → Prop} : ∀ {l1 l2 : List α} {m1 m2 : List β}, Paired F l1 m1 → Paired F l2 m2 → Paired F (l1 ++ l2) (m1 ++ m2)
  | _, _, _, _, .nil, h => h
  | _, _, _, _, .cons a t, h => .cons a (Paired.app t h)
theorem Paired.takeP {α β : Type} {F : α → β → Prop} : ∀ {l : List α} {m : List β} (n : Nat), Paired F l m → Paired F (l.take n) (m.take n)
  | _, _, 0, _ => by
    rw [List.take_zero, List.take_zero]
    exact .nil
  | _, _, _ + 1, .nil => .nil
  | _, _, n + 1, .cons a t => .cons a (Paired.takeP n t)
theorem Paired.dropP {α β : Type} {F : α → β → Prop} : ∀ {l : List α} {m : List β} (n : Nat), Paired F l m → Paired F (l.drop n) (m.drop n)
  | _, _, 0, h => h
  | _, _, _ + 1, .nil => .nil
  | _, _, n + 1, .cons _ t => Paired.dropP n t
theorem for_range1 {n : Nat} {g : TG} {tb : TS} {D : L2.Ends} {σ : L2.St} {H : Hp} (h1 : 1 ≤ n) (Pv : Nat → L2.St → Hp → Prop) (h0 : Pv 1 σ H)
    (hs : ∀ i σ H, 1 ≤ i → i < n → Pv i σ H → g (nV i) σ H fun σ2 H2 => tb { D with nx := Pv (i + 1), ct := Pv (i + 1), bk := D.nx } σ2 H2) (hd : ∀ σ H, Pv n σ H → D.nx σ H) :
    ∃ W : Nat → Nat → L2.St → Hp → Prop, (∃ m, W 0 m σ H) ∧ ∀ i m σ H, W i m σ H →
      ((Itr 1 ((n : Int) - 1).toNat).stop i H ∧ D.nx σ H) ∨ ((Itr 1 ((n : Int) - 1).toNat).go i H ∧ ∃ N : L2.St → Hp → Prop, (∀ σ' H', N σ' H' → ∃ m', m' < m ∧ W (i + 1) m' σ' H') ∧ ∀ x H', (Itr 1 ((n : Int) - 1).toNat).yld i H x H' → g x σ H' fun σ2 H2 => tb { D with nx := N, ct := N, bk := D.nx } σ2 H2) := by
  have e : ((n : Int) - 1).toNat = n - 1 := by omega
  rw [e]
  refine for_range (fun i => Pv (i + 1)) h0 (fun i σ H hi p => ?_) (fun σ H p => ?_)
  · have e2 : (1 : Int) + (i : Int) = ((i + 1 : Nat) : Int) := by omega
    rw [e2]
    exact hs (i + 1) σ H (by omega) (by omega) p
  · have e3 : n - 1 + 1 = n := by omega
    rw [e3] at p
    exact hd σ H p
theorem nV_eq {a : Nat} {i : Int} : nV a = V.int i ↔ (a : Int) = i := by
  constructor
  · intro h
    injection h
  · intro h
    show V.int (a : Int) = V.int i
    rw [h]
theorem v2 {B : Addr} {i : Int} {m : Nat} (h : i = (m : Int)) : ([V.ref B, V.int i] ++ [] : List V) = [V.ref B, nV m] := by
  rw [h]
  rfl
theorem vI {i : Int} {m : Nat} (h : i = (m : Int)) : V.int i = nV m := by rw [h]
theorem rep0 (k : Nat) : (List.replicate k [V.int 0]).flatten = Ns (List.replicate k 0) := by
  induction k with
  | zero => rfl
  | succ k ih =>
    rw [List.replicate_succ, List.replicate_succ, List.flatten_cons, ih]
    rfl
theorem set_ns (g : List Nat) (a v : Nat) : (Ns g).set a (nV v) = Ns (g.set a v) := by
  show (g.map nV).set a (nV v) = (g.set a v).map nV
  rw [List.map_set]
theorem o_lt {n a x : Nat} {os : List Nat} (h : IsOrder n os) (hx : os[a]? = some x) : x < n := (h.2.2 x).mp (List.mem_of_getElem? hx)
theorem ne_bagR {H : Hp} {W B a : Addr} {l : List V} (b : Bag H B) (h : H W = some (.lst (.ref a :: l))) : W ≠ B := fun z => by
  obtain ⟨x, y, u, q⟩ := b
  rw [z, q] at h
  cases h
theorem ns_len (l : List Nat) : (Ns l).length = l.length := List.length_map ..
theorem ns_snoc (l : List Nat) (x : Nat) : Ns l ++ [nV x] = Ns (l ++ [x]) := by
  show l.map nV ++ [nV x] = (l ++ [x]).map nV
  rw [List.map_append]
  rfl
theorem PairsL.get {H : Hp} {a : Addr} {ps : TM.Rp} {i : Nat} {p : Nat × Nat} (h : PairsL H a ps) (hp : ps[i]? = some p) : ∃ vs x, H a = some (.lst vs) ∧ vs.length = ps.length ∧ vs[i]? = some (.ref x) ∧ H x = some (.tup [nV p.1, nV p.2]) := by
  obtain ⟨vs, h1, h2⟩ := h
  obtain ⟨v, hv, x, rfl, hx⟩ := Paired.get h2 hp
  exact ⟨vs, x, h1, Paired.length h2, hv, hx⟩
theorem ns_all (l : List Nat) : (Ns l).all flatV = true := by
  rw [List.all_map]
  exact List.all_eq_true.mpr fun _ _ => rfl
theorem in_ns {x : Nat} {l : List Nat} : inV (nV x) (Ns l) = l.contains x := by
  induction l with
  | nil => rfl
  | cons a l ih =>
    show (_ || inV (nV x) (Ns l)) = _
    rw [ih, List.contains_cons]
    congr 1
    show eqV (nV a) (nV x) = (x == a)
    by_cases c : x = a
    · subst c
      rw [beq_self_eq_true]
      show decide ((x : Int) = (x : Int)) = true
      exact decide_eq_true rfl
    · have c2 : ¬ ((a : Int) = (x : Int)) := by omega
      rw [beq_eq_false_iff_ne.mpr c]
      exact decide_eq_false c2
theorem PairT.ul {H : Hp} {v : V} {p : Nat × Nat} {D : Addr} {xs ys : List V} (h : PairT H v p) (hD : H D = some (.lst xs)) : PairT (upd H D (.lst ys)) v p := by
  obtain ⟨a, rfl, ha⟩ := h
  refine ⟨a, rfl, ?_⟩
  rw [upd_ne (ne_of ha hD (by intro z; cases z))]
  exact ha
theorem RideT.ul {H : Hp} {v : V} {p : TM.Rd} {D : Addr} {xs ys : List V} (h : RideT H v p) (hD : H D = some (.lst xs)) : RideT (upd H D (.lst ys)) v p := by
  obtain ⟨a, rfl, ha⟩ := h
  refine ⟨a, rfl, ?_⟩
  rw [upd_ne (ne_of ha hD (by intro z; cases z))]
  exact ha
theorem StT.ul {H : Hp} {v : V} {s : TM.S} {D : Addr} {xs ys : List V} (h : StT H v s) (hD : H D = some (.lst xs)) : StT (upd H D (.lst ys)) v s := by
  obtain ⟨a, r, b, c, rfl, h1, h2, h3, h4⟩ := h
  refine ⟨a, r, b, c, rfl, ?_, ?_, ?_, ?_⟩
  · rw [upd_ne (ne_of h1 hD (by intro z; cases z))]
    exact h1
  · rw [upd_ne (ne_of h2 hD (by intro z; cases z))]
    exact h2
  · rw [upd_ne (ne_of h3 hD (by intro z; cases z))]
    exact h3
  · rw [upd_ne (ne_of h4 hD (by intro z; cases z))]
    exact h4
theorem make_ex {H1 H' : Hp} {x dx : Addr} {o o' : HO} (hx : H1 x = none) (hdx : H1 dx = none) (e : Off x (upd (upd H1 dx o') x o) H') : Ex H1 H' := fun a u h => e a u (ne_of_none h hx) (by
  rw [upd_ne (ne_of_none h hx), upd_ne (ne_of_none h hdx)]
  exact h)
theorem make_ex0 {H1 : Hp} {x dx : Addr} {o o' : HO} (hx : H1 x = none) (hdx : H1 dx = none) : Ex H1 (upd (upd H1 dx o') x o) := fun a u h => by
  rw [upd_ne (ne_of_none h hx), upd_ne (ne_of_none h hdx)]
  exact h
theorem at_c {a b : V} {c : Nat} (h : c < 2) : atI [a, b] (c : Int) = some (if c = 0 then a else b) := by
  have c01 : c = 0 ∨ c = 1 := by omega
  rcases c01 with rfl | rfl <;> rfl
theorem at_c1 {a b : V} {c : Nat} (h : c < 2) : atI [a, b] (1 - (c : Int)) = some (if c = 0 then b else a) := by
  have c01 : c = 0 ∨ c = 1 := by omega
  rcases c01 with rfl | rfl <;> rfl
theorem if_nV {c a b : Nat} : (if c = 0 then nV a else nV b) = nV (if c = 0 then a else b) := by
  split <;> rfl
theorem ns_ints (xs : List Nat) : Ns xs = (xs.map fun (n : Nat) => (n : Int)).map V.int := by
  show xs.map nV = _
  rw [List.map_map]
  rfl
theorem sum_ints (xs : List Nat) : (xs.map fun (n : Nat) => (n : Int)).sum = (xs.sum : Int) := by
  induction xs with
  | nil => rfl
  | cons a l ih =>
    rw [List.map_cons, List.sum_cons, List.sum_cons, ih]
    omega
theorem back {H H1 : Hp} {p : Addr} (e : Ex H H1) (h : H1 p = none) : H p = none := Evl.fresh_back e h
theorem exk {H H' : Hp} (e : Evl.Ex H H') : Kp H H' := fun a o _ h => e a o h
theorem exo {B : Addr} {H H' : Hp} (e : Evl.Ex H H') : Off B H H' := fun a o _ h => e a o h
theorem putF_len (f : Str) (v : V) : ∀ fs : List (Str × V), (putF f v fs).length ≤ fs.length + 1
  | [] => Nat.le_refl _
  | (g, x) :: r => by
    have ih := putF_len f v r
    unfold putF
    split
    · show r.length + 1 ≤ r.length + 1 + 1
      omega
    · show (putF f v r).length + 1 ≤ r.length + 1 + 1
      omega
theorem pl1 {f1 : Str} {v1 : V} : (putF f1 v1 []).length < 1000 := Nat.lt_of_le_of_lt (putF_len _ _ _) (by decide)
theorem pl2 {f1 f2 : Str} {v1 v2 : V} : (putF f2 v2 (putF f1 v1 [])).length < 1000 := by
  have h1 := putF_len f1 v1 []
  have h2 := putF_len f2 v2 (putF f1 v1 [])
  have h0 : ([] : List (Str × V)).length = 0 := rfl
  omega
theorem pl3 {f1 f2 f3 : Str} {v1 v2 v3 : V} : (putF f3 v3 (putF f2 v2 (putF f1 v1 []))).length < 1000 := by
  have h1 := putF_len f1 v1 []
  have h2 := putF_len f2 v2 (putF f1 v1 [])
  have h3 := putF_len f3 v3 (putF f2 v2 (putF f1 v1 []))
  have h0 : ([] : List (Str × V)).length = 0 := rfl
  omega
/-! ### rides as data -/
def rdD (r : TM.Rd) : PyData := .tuple [.int r.1, .str (colS r.2)]
theorem dp_ride {K : PySem.W.Frag} {H : Hp} {v : V} {r : TM.Rd} (h : RideT H v r) : Dp K H v (rdD r) := by
  obtain ⟨a, rfl, ha⟩ := h
  exact .tup (SqT.of ha) (.cons (.int _) (.cons (.str _) .nil))
theorem dp_ridesAll {K : PySem.W.Frag} {H : Hp} : ∀ {vs : List V} {rs : List TM.Rd}, Paired (RideT H) vs rs → DpAll K H vs (rs.map rdD)
  | _, _, .nil => .nil
  | _, _, .cons h t => .cons (dp_ride h) (dp_ridesAll t)
theorem dp_rides {K : PySem.W.Frag} {H : Hp} {a : Addr} {rs : List TM.Rd} (h : RidesL H a rs) : Dp K H (.ref a) (.list (rs.map rdD)) := by
  obtain ⟨vs, h1, h2⟩ := h
  exact .lst (SqL.of h1) (dp_ridesAll h2)
theorem lay_rd (r : TM.Rd) : (rdD r).canLay0 = true := by
  obtain ⟨k, b⟩ := r
  show (PyData.canLay0 (.int k) && (PyData.canLay0 (.str (colS b)) && true)) = true
  have h : PyData.canLay0 (.str (colS b)) = true := by
    cases b <;> decide +kernel
  rw [h]
  rfl
theorem dep_rd (r : TM.Rd) : (rdD r).depth = 1 := by
  obtain ⟨k, b⟩ := r
  cases b <;> rfl
theorem lay_rds : ∀ rs : List TM.Rd, PyData.canLayAll0 (rs.map rdD) = true
  | [] => rfl
  | r :: rs => by
    show ((rdD r).canLay0 && PyData.canLayAll0 (rs.map rdD)) = true
    rw [lay_rd, lay_rds rs]
    rfl
theorem dep_rds : ∀ rs : List TM.Rd, PyData.depthAll (rs.map rdD) ≤ 1
  | [] => Nat.zero_le _
  | r :: rs => by
    show max (rdD r).depth (PyData.depthAll (rs.map rdD)) ≤ 1
    have := dep_rds rs
    rw [dep_rd]
    omega
theorem shaped_rd (r : TM.Rd) : SeqAt.shaped (rdD r) = true := by
  unfold SeqAt.shaped
  rw [lay_rd, dep_rd]
  rfl
theorem shaped_rds (rs : List TM.Rd) : SeqAt.shaped (.list (rs.map rdD)) = true := by
  unfold SeqAt.shaped
  have h1 : (PyData.list (rs.map rdD)).canLay0 = true := lay_rds rs
  have h2 : (PyData.list (rs.map rdD)).depth ≤ 64 := by
    show PyData.depthAll (rs.map rdD) + 1 ≤ 64
    have := dep_rds rs
    omega
  rw [h1, decide_eq_true h2]
  rfl
theorem col_eq (a b : Bool) : (colS a == colS b) = decide (a = b) := by
  cases a <;> cases b <;> decide +kernel
theorem eqv_rd (a b : TM.Rd) : PyData.eqv (rdD a) (rdD b) = decide (a = b) := by
  obtain ⟨k, x⟩ := a
  obtain ⟨j, y⟩ := b
  show ((k : Int) == (j : Int) && ((colS x == colS y) && true)) = _
  rw [col_eq, Bool.and_true]
  by_cases h1 : k = j
  · subst h1
    by_cases h2 : x = y
    · subst h2
      rw [beq_self_eq_true, decide_eq_true rfl, decide_eq_true rfl]
      rfl
    · rw [decide_eq_false h2, Bool.and_false]
      exact (decide_eq_false fun z => h2 (congrArg Prod.snd z)).symm
  · have h3 : ((k : Int) == (j : Int)) = false := beq_eq_false_iff_ne.mpr (by omega)
    rw [h3, Bool.false_and]
    exact (decide_eq_false fun z => h1 (congrArg Prod.fst z)).symm
theorem any_rd (r : TM.Rd) (rs : List TM.Rd) : ((rs.map rdD).any fun z => PyData.eqv z (rdD r)) = decide (r ∈ rs) := by
  induction rs with
  | nil => exact (decide_eq_false (by simp)).symm
  | cons a rs ih =>
    rw [List.map_cons, List.any_cons, ih, eqv_rd]
    by_cases h : a = r
    · subst h
      rw [decide_eq_true rfl, Bool.true_or]
      exact (decide_eq_true List.mem_cons_self).symm
    · rw [decide_eq_false h, Bool.false_or]
      by_cases h2 : r ∈ rs
      · rw [decide_eq_true h2]
        exact (decide_eq_true (List.mem_cons_of_mem _ h2)).symm
      · rw [decide_eq_false h2]
        exact (decide_eq_false fun z => (List.mem_cons.mp z).elim (fun e => h e.symm) h2).symm
theorem eqv_rds : ∀ rs ss : List TM.Rd, PyData.eqv (.list (rs.map rdD)) (.list (ss.map rdD)) = decide (rs = ss)
  | [], [] => rfl
  | [], _ :: _ => rfl
  | _ :: _, [] => rfl
  | r :: rs, s :: ss => by
    have ih := eqv_rds rs ss
    show (PyData.eqv (rdD r) (rdD s) && PyData.eqv (.list (rs.map rdD)) (.list (ss.map rdD))) = _
    rw [ih, eqv_rd]
    by_cases h1 : r = s
    · subst h1
      by_cases h2 : rs = ss
      · subst h2
        rw [decide_eq_true rfl, decide_eq_true rfl, decide_eq_true rfl]
        rfl
      · rw [decide_eq_false h2, Bool.and_false]
        exact (decide_eq_false fun z => h2 (List.cons.inj z).2).symm
    · rw [decide_eq_false h1, Bool.false_and]
      exact (decide_eq_false fun z => h1 (List.cons.inj z).1).symm
theorem ridesAt_len {ropes : TM.Rp} {s : TM.S} {i : Nat} : (ridesAt ropes s i).length ≤ 2 := by
  unfold ridesAt
  rw [List.length_append]
  split <;> split <;> simp
theorem rides_len {ropes : TM.Rp} {s : TM.S} (i : Nat) : ((List.range i).flatMap (ridesAt ropes s)).length ≤ 2 * i := by
  induction i with
  | zero => exact Nat.le_refl _
  | succ i ih =>
    rw [List.range_succ, List.flatMap_append, List.length_append, List.flatMap_cons, List.flatMap_nil, List.append_nil]
    have := ridesAt_len (ropes := ropes) (s := s) (i := i)
    omega
/-! ### tuples stand -/
def TK (H H' : Hp) : Prop := ∀ b ys, H b = some (.tup ys) → H' b = some (.tup ys)
theorem TK.trans {H H1 H2 : Hp} (e1 : TK H H1) (e2 : TK H1 H2) : TK H H2 := fun b ys h => e2 b ys (e1 b ys h)
theorem tk_ex {H H' : Hp} (e : Evl.Ex H H') : TK H H' := fun b _ h => e b _ h
theorem tk_lst {H : Hp} {D : Addr} {xs ys : List V} (hD : H D = some (.lst xs)) : TK H (upd H D (.lst ys)) := fun b zs h => by
  rw [upd_ne (ne_of h hD (by intro z; cases z))]
  exact h
theorem PairT.tk {H H' : Hp} {v : V} {p : Nat × Nat} (e : TK H H') (h : PairT H v p) : PairT H' v p := by
  obtain ⟨a, rfl, ha⟩ := h
  exact ⟨a, rfl, e _ _ ha⟩
theorem RideT.tk {H H' : Hp} {v : V} {p : TM.Rd} (e : TK H H') (h : RideT H v p) : RideT H' v p := by
  obtain ⟨a, rfl, ha⟩ := h
  exact ⟨a, rfl, e _ _ ha⟩
theorem StT.tk {H H' : Hp} {v : V} {s : TM.S} (e : TK H H') (h : StT H v s) : StT H' v s := by
  obtain ⟨a, r, b, c, rfl, h1, h2, h3, h4⟩ := h
  exact ⟨a, r, b, c, rfl, e _ _ h1, e _ _ h2, e _ _ h3, e _ _ h4⟩
/-! ### lists of bools -/
def fal : List Bool → Nat
  | [] => 0
  | b :: l => (if b then 0 else 1) + fal l
theorem fal_set : ∀ {l : List Bool} {a : Nat} {b : Bool}, l[a]? = some b → fal (l.set a true) + (if b then 0 else 1) = fal l
  | [], a, b, h => by simp at h
  | x :: l, 0, b, h => by
    have e : x = b := Option.some.inj h
    subst e
    show (if true = true then 0 else 1) + fal l + (if x = true then 0 else 1) = (if x = true then 0 else 1) + fal l
    rw [if_pos rfl]
    omega
  | x :: l, a + 1, b, h => by
    have ih := fal_set (l := l) (a := a) (b := b) h
    show (if x = true then 0 else 1) + fal (l.set a true) + (if b = true then 0 else 1) = (if x = true then 0 else 1) + fal l
    omega
abbrev Bs (l : List Bool) : List V := l.map V.bl
theorem bs_get {l : List Bool} {a : Nat} {b : Bool} (h : l[a]? = some b) : (Bs l)[a]? = some (.bl b) := by
  rw [List.getElem?_map, h]
  rfl
theorem set_bs (l : List Bool) (a : Nat) (b : Bool) : (Bs l).set a (.bl b) = Bs (l.set a b) := by
  show (l.map V.bl).set a (V.bl b) = (l.set a b).map V.bl
  rw [List.map_set]
def unB : V → Bool
  | .bl b => b
  | _ => true
theorem bs_un (J : List Bool) : (Bs J).map unB = J := by
  rw [List.map_map]
  exact List.map_id' J
theorem bs_snoc (l : List Bool) (b : Bool) : Bs l ++ [V.bl b] = Bs (l ++ [b]) := by
  show l.map V.bl ++ [V.bl b] = (l ++ [b]).map V.bl
  rw [List.map_append]
  rfl
/-! ### numbers or None -/
theorem oV_eq {o : Option Nat} {k : Nat} : oV o = nV k ↔ o = some k := by
  cases o with
  | none =>
    constructor
    · intro h
      cases h
    · intro h
      cases h
  | some j =>
    constructor
    · intro h
      have := nV_eq.mp h
      rw [show j = k by omega]
    · intro h
      cases h
      rfl
theorem oV_non {o : Option Nat} : oV o = V.non ↔ o = none := by
  cases o with
  | none => exact ⟨fun _ => rfl, fun _ => rfl⟩
  | some j =>
    constructor
    · intro h
      cases h
    · intro h
      cases h
theorem oV_scal (o : Option Nat) (k : Nat) : scal (oV o) (nV k) = true := by
  cases o <;> rfl
theorem oVs_get {ls : List (Option Nat)} {i : Nat} {o : Option Nat} (h : ls[i]? = some o) : (ls.map oV)[i]? = some (oV o) := by
  rw [List.getElem?_map, h]
  rfl
theorem oVs_set (ls : List (Option Nat)) (i : Nat) (o : Option Nat) : (ls.map oV).set i (oV o) = (ls.set i o).map oV := by
  rw [List.map_set]
theorem oVs_flat (ls : List (Option Nat)) : (ls.map oV).all flatV = true := by
  rw [List.all_map]
  refine List.all_eq_true.mpr fun o _ => ?_
  cases o <;> rfl
theorem in_oV {k : Nat} {ls : List (Option Nat)} : inV (nV k) (ls.map oV) = true ↔ some k ∈ ls := by
  unfold inV
  rw [List.any_map, List.any_eq_true]
  constructor
  · rintro ⟨o, ho, h⟩
    cases o with
    | none => cases h
    | some j =>
      have : (j : Int) = (k : Int) := eq_of_beq h
      rw [show k = j by omega]
      exact ho
  · intro h
    refine ⟨some k, h, ?_⟩
    show ((k : Int) == (k : Int)) = true
    exact beq_self_eq_true _
theorem ns_filter (l : List Nat) (p : Nat → Bool) {i x : Nat} (h : l[i]? = some x) : (l.take (i + 1)).filter p = (l.take i).filter p ++ if p x = true then [x] else [] := by
  rw [take_more h, List.filter_append]
  congr 1
  by_cases c : p x = true
  · rw [if_pos c, List.filter_cons_of_pos c, List.filter_nil]
  · rw [if_neg c, List.filter_cons_of_neg c, List.filter_nil]
theorem rg_filter (p : Nat → Bool) (i : Nat) : (List.range (i + 1)).filter p = (List.range i).filter p ++ if p i = true then [i] else [] := by
  rw [List.range_succ, List.filter_append]
  congr 1
  by_cases c : p i = true
  · rw [if_pos c, List.filter_cons_of_pos c, List.filter_nil]
  · rw [if_neg c, List.filter_cons_of_neg c, List.filter_nil]
theorem rg_len (p : Nat → Bool) (i : Nat) : ((List.range i).filter p).length ≤ i := by
  have := List.length_filter_le p (List.range i)
  rw [List.length_range] at this
  exact this
theorem fl_len (l : List Nat) (p : Nat → Bool) (i : Nat) : ((l.take i).filter p).length ≤ l.length := by
  have := List.length_filter_le p (l.take i)
  have h2 : (l.take i).length ≤ l.length := by
    rw [List.length_take]
    omega
  omega
/-! ### a def that may raise; isinstance of the exception that a suite holds -/
structure CalX (P : Program) (w : World) (K : PySem.W.Frag) (mg : Str → Option Value) (base : Heap) (x : Str) (k : Nat) (ps : List Str) (sp : Sp) : Prop where
  ex : ∃ fd, FnOk P w K mg base (L2.CX P w) k (He.ga K x) fd ps sp ∧ Binds K fd ps []
  gl : mg x = some (.ref (He.ga K x))
  kp : PySem.W.keepIn K (.ref (He.ga K x)) = true
def rIsE2 (K : PySem.W.Frag) (D a : Addr) (cls : Value) (d : Option Addr) : List V → Hp → VK → Prop := fun xs H Q => cls = .ref D ∧ d = none ∧ rIsE K D a xs H Q
theorem call_isE2 {X : Cx} {a D : Addr} {cls : Value} {d : Option Addr} {oe : Obj} {pn : List (Addr × Obj)} (C : ExcC X.K D) (hz : Zc cls d oe) (hf : ∃ vs, oe.data = .fields vs) : CallR (X.suite a ((a, oe) :: pn)) (.builtin "isinstance") (rIsE2 X.K D a cls d) := by
  intro pins s σ H xs us Q I r h
  obtain ⟨rfl, rfl, h⟩ := h
  exact call_isE C hz hf pins s σ H xs us Q I r h
theorem meetS_len {n : Nat} {ropes : TM.Rp} {s : TM.S} {u : Nat} {rs : List Nat} (ok : Ok n ropes) (hm : meetS n ropes s = some (u, rs)) : rs.length ≤ n := by
  rcases Nat.lt_or_ge n rs.length with l | l
  · unfold meetS meet at hm
    split at hm
    · rename_i hx
      have e := (Prod.mk.inj (Option.some.inj hm)).2
      have h1 := greedy_len (as := as ropes s) (bl := s.blues) (Classical.choose hx) (near n (as ropes s) s.reds s.blues (Classical.choose hx))
      obtain ⟨⟨v, a1, a2, a3⟩, _⟩ := Classical.choose_spec hx
      have h2 := isD_lt (fun p hp => ⟨(arr_mem (cars := s.cars) ok.ends p hp).1, (arr_mem (cars := s.cars) ok.ends p hp).2.1⟩) a1 (dst_some.mp a3)
      rw [e] at h1
      omega
    · cases hm
  · exact l
theorem meetV_is {H : Hp} {v : V} {m : Option (Nat × List Nat)} (h : MeetV H v m) : (!decide (v = V.non)) = m.isSome := by
  cases m with
  | none =>
    have e : v = .non := h
    subst e
    rfl
  | some p =>
    obtain ⟨a, q, rfl, _⟩ := h
    rfl
theorem bool_iff {a b : Bool} (h : a = true ↔ b = true) : a = b := by
  cases a <;> cases b
  · rfl
  · exact h.mpr rfl
  · exact (h.mp rfl).symm
  · rfl
end Tw

namespace Tw
open PySem PySem.Spec PyProof.Rows L2 TM
theorem sc_check_rope : FnScope ["net", "rope"] ["net", "rope"] (defScope s_check_rope) := ⟨rfl, rfl, rfl, by decide +kernel, rfl, by decide +kernel, by decide +kernel⟩
section
variable {P : Program} {w : World} {K : PySem.W.Frag} {mg : Str → Option Value} {base : Heap}

theorem ok_check_rope (T : Txt K mg) (D : Dfn K mg "check_rope" s_check_rope) :
    Cal P w K mg base "check_rope" 1 ["net", "rope"] (sp_check_rope K) := by
  refine D.cal (k := 0) sc_check_rope (fun vs H Q E h => ?_) (fun _ _ _ _ _ _ us hl => match us, hl with | [_, _], _ => rfl) (fun cdv A outer s H vs Q E hr h => ?_)
  · obtain ⟨_, _, _, _, rfl, _⟩ := h
    rfl
  · obtain ⟨nt, n, ropes, r, rfl, ⟨dx, t, hN, vs, hT, hp⟩, hr1, hq⟩ := h
    refine ⟨_, (pss_one (ps_if (pt_not (pt_chain op_le op_lt pe_int (pv 1) (pe_callB call_len_seq (by rfl) T.b_len (by decide +kernel) (pa_cons (pe_fld (pv 0) rfl) pa_nil)))) (pss_one ps_never) pss_nil)), ?_⟩
    have hl : vs.length = ropes.length := Paired.length hp
    refine ⟨_, rfl, _, _, rfl, rfl, _, rfl, dT (by omega) ⟨_, rfl, _, _, _, _, _, rfl, hN, T.cN, T.nNr, netF_r _ _, _, _, rfl, .inr (SqT.of hT), _, _, rfl, rfl, _, rfl, nF ?_ hq⟩⟩
    show (r : Int) < (vs.length : Int)
    omega
end
end Tw

namespace Tw
open PySem PySem.Spec PyProof.Rows L2 TM
theorem sc_Standing_red_car : FnScope ["self", "rope"] ["self", "rope"] (defScope s_Standing_red_car) := ⟨rfl, rfl, rfl, by decide +kernel, rfl, by decide +kernel, by decide +kernel⟩
section
variable {P : Program} {w : World} {K : PySem.W.Frag} {mg : Str → Option Value} {base : Heap}

theorem ok_Standing_red_car (T : Txt K mg) (D : DfnM K "Standing" "red_car" "Standing.red_car" s_Standing_red_car) (me : Meth K (He.ga K "Standing") "red_car" (He.ma K (He.ga K "Standing") "red_car")) (c_check_rope : Cal P w K mg base "check_rope" 1 ["net", "rope"] (sp_check_rope K)) :
    CalM P w K mg base "Standing" "red_car" 2 ["self", "rope"] (sp_Standing_red_car K) := by
  refine ⟨D.okM (k := 1) sc_Standing_red_car (fun vs H Q E h => ?_) (fun _ _ _ _ _ _ us hl => match us, hl with | [_, _], _ => rfl) (fun cdv A outer s H vs Q E hr h => ?_), me⟩
  · obtain ⟨_, _, _, _, _, _, _, rfl, _⟩ := h
    rfl
  · obtain ⟨st, n, ropes, s0, r, p, c, rfl, ⟨dx, nt, rd, bl, cr, hS, hN, hR, hB, hC⟩, hp, hc, hc2, hq⟩ := h
    obtain ⟨dxn, t, hNi, vs, hT, hps⟩ := id hN
    obtain ⟨v, hv, a, rfl, ha⟩ := Paired.get hps hp
    refine ⟨_, (pss_cons (ps_expr (pe_cal c_check_rope (hr.mono (by decide)) (pa_cons (pe_fld (pv 0) rfl) (pa_cons (pv 1) pa_nil))))
      (pss_one (ps_ret (pe_ix ix_tup (pe_ix ix_tup (pe_fld (pe_fld (pv 0) rfl) rfl) (pv 1) (fun _ _ => rfl)) (pe_ix ix_tup (pe_fld (pv 0) rfl) (pv 1) (fun _ _ => rfl)) (fun _ _ => rfl))))), ?_⟩
    refine ⟨_, rfl, _, _, _, _, _, rfl, hS, T.cS, T.nSn, stdF_n .., _, rfl, _, _, _, _, rfl, hN, lt_of_get hp, ?_⟩
    refine ⟨_, rfl, _, _, _, _, _, rfl, hS, T.cS, T.nSn, stdF_n .., _, _, _, _, _, rfl, hNi, T.cN, T.nNr, netF_r .., _, rfl, _, _, _, _, rfl, rfl, SqT.of hT, atI_nat hv, ?_⟩
    refine ⟨_, rfl, _, _, _, _, _, rfl, hS, T.cS, T.nSc, stdF_c .., _, rfl, _, _, _, _, rfl, rfl, SqT.of hC, atI_nat (ns_get hc), _, _, _, _, rfl, rfl, SqT.of ha, ?_, hq⟩
    have c01 : c = 0 ∨ c = 1 := by omega
    rcases c01 with rfl | rfl
    · rfl
    · rfl
end
end Tw

namespace Tw
open PySem PySem.Spec PyProof.Rows L2 TM
theorem sc_Standing_blue_car : FnScope ["self", "rope"] ["self", "rope"] (defScope s_Standing_blue_car) := ⟨rfl, rfl, rfl, by decide +kernel, rfl, by decide +kernel, by decide +kernel⟩
section
variable {P : Program} {w : World} {K : PySem.W.Frag} {mg : Str → Option Value} {base : Heap}

theorem ok_Standing_blue_car (T : Txt K mg) (D : DfnM K "Standing" "blue_car" "Standing.blue_car" s_Standing_blue_car) (me : Meth K (He.ga K "Standing") "blue_car" (He.ma K (He.ga K "Standing") "blue_car")) (c_check_rope : Cal P w K mg base "check_rope" 1 ["net", "rope"] (sp_check_rope K)) :
    CalM P w K mg base "Standing" "blue_car" 2 ["self", "rope"] (sp_Standing_blue_car K) := by
  refine ⟨D.okM (k := 1) sc_Standing_blue_car (fun vs H Q E h => ?_) (fun _ _ _ _ _ _ us hl => match us, hl with | [_, _], _ => rfl) (fun cdv A outer s H vs Q E hr h => ?_), me⟩
  · obtain ⟨_, _, _, _, _, _, _, rfl, _⟩ := h
    rfl
  · obtain ⟨st, n, ropes, s0, r, p, c, rfl, ⟨dx, nt, rd, bl, cr, hS, hN, hR, hB, hC⟩, hp, hc, hc2, hq⟩ := h
    obtain ⟨dxn, t, hNi, vs, hT, hps⟩ := id hN
    obtain ⟨v, hv, a, rfl, ha⟩ := Paired.get hps hp
    refine ⟨_, (pss_cons (ps_expr (pe_cal c_check_rope (hr.mono (by decide)) (pa_cons (pe_fld (pv 0) rfl) (pa_cons (pv 1) pa_nil))))
      (pss_one (ps_ret (pe_ix ix_tup (pe_ix ix_tup (pe_fld (pe_fld (pv 0) rfl) rfl) (pv 1) (fun _ _ => rfl)) (pe_op op_sub pe_int (pe_ix ix_tup (pe_fld (pv 0) rfl) (pv 1) (fun _ _ => rfl))) (fun _ _ => rfl))))), ?_⟩
    refine ⟨_, rfl, _, _, _, _, _, rfl, hS, T.cS, T.nSn, stdF_n .., _, rfl, _, _, _, _, rfl, hN, lt_of_get hp, ?_⟩
    refine ⟨_, rfl, _, _, _, _, _, rfl, hS, T.cS, T.nSn, stdF_n .., _, _, _, _, _, rfl, hNi, T.cN, T.nNr, netF_r .., _, rfl, _, _, _, _, rfl, rfl, SqT.of hT, atI_nat hv, ?_⟩
    refine ⟨_, rfl, _, _, _, _, _, rfl, hS, T.cS, T.nSc, stdF_c .., _, rfl, _, _, _, _, rfl, rfl, SqT.of hC, atI_nat (ns_get hc), _, _, rfl, rfl, _, _, _, _, rfl, rfl, SqT.of ha, ?_, hq⟩
    have c01 : c = 0 ∨ c = 1 := by omega
    rcases c01 with rfl | rfl
    · rfl
    · rfl
end
end Tw

namespace Tw
open PySem PySem.Spec PyProof.Rows L2 TM
theorem sc_arrows_of : FnScope ["standing", "rope"] ["standing"] (defScope s_arrows_of) := ⟨rfl, rfl, rfl, by decide +kernel, rfl, by decide +kernel, by decide +kernel⟩
section
variable {P : Program} {w : World} {K : PySem.W.Frag} {mg : Str → Option Value} {base : Heap}

theorem ok_arrows_of (T : Txt K mg) (D : Dfn K mg "arrows_of" s_arrows_of) (c_blue_car : CalM P w K mg base "Standing" "blue_car" 2 ["self", "rope"] (sp_Standing_blue_car K)) (c_red_car : CalM P w K mg base "Standing" "red_car" 2 ["self", "rope"] (sp_Standing_red_car K)) :
    Cal P w K mg base "arrows_of" 3 ["standing"] (sp_arrows_of K) := by
  obtain ⟨fd_blue_car, F_blue_car, b_blue_car⟩ := c_blue_car.ex
  obtain ⟨fd_red_car, F_red_car, b_red_car⟩ := c_red_car.ex
  refine D.cal (k := 2) sc_arrows_of (fun vs H Q E h => ?_) (fun _ _ _ _ _ _ us hl => match us, hl with | [_], _ => rfl) (fun cdv A outer s H vs Q E hr h => ?_)
  · obtain ⟨_, _, _, _, rfl, _⟩ := h
    rfl
  · obtain ⟨st, n, ropes, s0, rfl, hS, hl, hc, h40, hq⟩ := h
    obtain ⟨dx, nt, rd, bl, cr, hSi, ⟨dxn, t, hNi, vs, hT, hps⟩, hR, hB, hC⟩ := id hS
    have hvl : vs.length = ropes.length := Paired.length hps
    refine ⟨_, (pss_one (ps_ret (pe_lc (own := [("rope", 1)]) (g := (gName 1)) (tt := tYes) (te := (tTup (tCons (tMeth (He.ga K "Standing") "red_car" (sp_Standing_red_car K) [] E0 (tVar 0) (tCons (tVar 1) tNil)) (tCons (tMeth (He.ga K "Standing") "blue_car" (sp_Standing_blue_car K) [] E0 (tVar 0) (tCons (tVar 1) tNil)) tNil)))) rfl sc_arrows_of.nd (pi_range1 rfl T.b_range (pa_cons (pe_callB call_len_seq (by rfl) T.b_len (by decide +kernel) (pa_cons (pe_fld (pe_fld (pv 0) rfl) rfl) pa_nil)) pa_nil)) (blkOk_by (N := ["standing", "rope"]) (sc := defScope s_arrows_of) (by decide +kernel)) (fun _ _ _ _ _ => (pg_name (i := 1) sc_arrows_of.nd rfl (Or.inl rfl))) (fun _ _ _ _ _ => pts_nil) (fun _ _ _ _ _ => (pe_tup (pa_cons (pe_meth (pv 0) T.cS c_red_car.me F_red_car (hr.mono (by decide)) b_red_car .nil pass0 (pa_cons (pv 1) pa_nil)) (pa_cons (pe_meth (pv 0) T.cS c_blue_car.me F_blue_car (hr.mono (by decide)) b_blue_car .nil pass0 (pa_cons (pv 1) pa_nil)) pa_nil))))))), ?_⟩
    refine ⟨_, rfl, _, _, _, _, _, rfl, hSi, T.cS, T.nSn, stdF_n .., _, _, _, _, _, rfl, hNi, T.cN, T.nNr, netF_r .., _, _, rfl, .inr (SqT.of hT), _, rfl, by omega, by omega, fun D hD => ?_⟩
    refine lc_range (lo := 0) (n := ((vs.length : Int)).toNat) (fun i H' => ∃ acc, Ex H H' ∧ H' D = some (.lst acc) ∧ acc.length = i ∧ PairsV H' acc ((as ropes s0).take i)) ⟨[], exn hD, upd_same, rfl, .nil⟩ (fun i H1 hi ⟨acc, e1, hD1, la, pa⟩ => ?_) (fun H1 ⟨acc, e1, hD1, la, pa⟩ => ?_)
    · have hi' : i < ropes.length := by omega
      obtain ⟨p, hp⟩ := get_of_lt hi'
      obtain ⟨c, hci⟩ := get_of_lt (show i < s0.cars.length by omega)
      have hc2 : c < 2 := hc c (List.mem_of_getElem? hci)
      have hS1 := hS.kp e1.kp
      obtain ⟨dx1, nt1, rd1, bl1, cr1, hSi1, _⟩ := id hS1
      have e0 : V.int ((0 : Int) + (i : Int)) = nV i := by rw [Int.zero_add]
      refine ⟨rfl, ?_⟩
      refine ⟨_, rfl, _, _, _, rfl, hSi1, stdF_no _ _ _ _ (by decide +kernel) (by decide +kernel) (by decide +kernel) (by decide +kernel), _, rfl, st, n, ropes, s0, i, p, c, by rw [e0] <;> rfl, hS1, hp, hci, hc2, ?_⟩
      refine ⟨_, rfl, _, _, _, rfl, hSi1, stdF_no _ _ _ _ (by decide +kernel) (by decide +kernel) (by decide +kernel) (by decide +kernel), _, rfl, st, n, ropes, s0, i, p, c, by rw [e0] <;> rfl, hS1, hp, hci, hc2, ?_⟩
      refine ⟨sz1 (by show 2 ≤ 100000; decide), fun q hq1 => ?_⟩
      have nDq : D ≠ q := ne_of_none hD1 hq1
      have e2 : Ex H1 (upd H1 q (.tup [nV (if c = 0 then p.1 else p.2), nV (if c = 0 then p.2 else p.1)])) := exn hq1
      refine ⟨acc, upd_get hq1 hD1, sz2 (by omega), acc ++ [.ref q], fun b o hb => ?_, upd_same, by rw [List.length_append, la]; rfl, ?_⟩
      · have nb : b ≠ D := ne_of_none hb hD
        rw [upd_ne nb]
        exact e2 b o (e1 b o hb)
      · have ha : (as ropes s0)[i]? = some (if c = 0 then p else (p.2, p.1)) := arr_get hp hci
        rw [take_more ha]
        refine Paired.snoc (Paired.mapP pa fun v x hv => ?_) ⟨q, rfl, ?_⟩
        · obtain ⟨a, rfl, ha2⟩ := hv
          refine ⟨a, rfl, ?_⟩
          rw [upd_ne (ne_of ha2 hD1 (by intro z; cases z))]
          exact upd_get hq1 ha2
        · rw [upd_ne nDq.symm, upd_same]
          by_cases c0 : c = 0
          · rw [if_pos c0, if_pos c0, if_pos c0]
          · rw [if_neg c0, if_neg c0, if_neg c0]
    · have hall : (as ropes s0).take ((vs.length : Int)).toNat = as ropes s0 := List.take_of_length_le (by show (arr ropes s0.cars).length ≤ _; rw [arr_length hl]; omega)
      rw [hall] at pa
      exact hq D H1 e1 hD ⟨acc, hD1, pa⟩
end
end Tw

namespace Tw
open PySem PySem.Spec PyProof.Rows L2 TM
theorem sc_reached_from : FnScope ["pairs", "stations", "starts", "followers", "tail", "head", "reached", "waiting", "start", "_", "station"] ["pairs", "stations", "starts"] (defScope s_reached_from) := ⟨rfl, rfl, rfl, by decide +kernel, rfl, by decide +kernel, by decide +kernel⟩
section
variable {P : Program} {w : World} {K : PySem.W.Frag} {mg : Str → Option Value} {base : Heap}
structure FW (H H' : Hp) (fl : Addr) (as : List Addr) (n : Nat) (ps : TM.Rp) : Prop where
  ex : Ex H H'
  flh : H fl = none
  hfl : H' fl = some (.lst (as.map V.ref))
  len : as.length = n
  nd : as.Nodup
  fr : ∀ a ∈ as, H a = none
  nfl : fl ∉ as
  cont : ∀ u a, as[u]? = some a → ∃ l, H' a = some (.lst (Ns l)) ∧ (∀ v, v ∈ l ↔ (u, v) ∈ ps) ∧ l.length ≤ ps.length
section
variable {H H1 H2 : Hp} {fl p : Addr} {as : List Addr} {n : Nat} {ps : TM.Rp}
theorem FW.mut {o : HO} (x : FW H H1 fl as n ps) (hp : H p = none) (n1 : p ≠ fl) (n2 : p ∉ as) : FW H (upd H1 p o) fl as n ps := by
  refine ⟨ex_mut x.ex hp, x.flh, ?_, x.len, x.nd, x.fr, x.nfl, fun u a hu => ?_⟩
  · rw [upd_ne (Ne.symm n1)]
    exact x.hfl
  · obtain ⟨l, h1, h2⟩ := x.cont u a hu
    refine ⟨l, ?_, h2⟩
    rw [upd_ne (fun z => n2 (by rw [← z]; exact List.mem_of_getElem? hu))]
    exact h1
theorem FW.take (x : FW H H1 fl as n ps) (e : Ex H1 H2) : FW H H2 fl as n ps :=
  ⟨fun a o h => e a o (x.ex a o h), x.flh, e _ _ x.hfl, x.len, x.nd, x.fr, x.nfl, fun u a hu => by
    obtain ⟨l, h1, h2⟩ := x.cont u a hu
    exact ⟨l, e _ _ h1, h2⟩⟩
theorem FW.add {u v : Nat} {a : Addr} {l : List Nat} (x : FW H H1 fl as n ps) (hu : as[u]? = some a) (ha : H1 a = some (.lst (Ns l))) : FW H (upd H1 a (.lst (Ns l ++ [nV v]))) fl as n (ps ++ [(u, v)]) := by
  have hm := List.mem_of_getElem? hu
  refine ⟨ex_mut x.ex (x.fr a hm), x.flh, ?_, x.len, x.nd, x.fr, x.nfl, fun u' a' hu' => ?_⟩
  · rw [upd_ne (fun z => x.nfl (by rw [z]; exact hm))]
    exact x.hfl
  · obtain ⟨l', h1, h2, h3⟩ := x.cont u' a' hu'
    by_cases c : u' = u
    · subst c
      have ea : a' = a := Option.some.inj (hu'.symm.trans hu)
      subst ea
      have el : Ns l' = Ns l := by
        rw [ha] at h1
        have := Option.some.inj h1
        injection this with h
        exact h.symm
      have el2 : l' = l := by
        have hinj : ∀ {a b : List Nat}, Ns a = Ns b → a = b := by
          intro a
          induction a with
          | nil =>
            intro b h
            cases b with
            | nil => rfl
            | cons _ _ => cases h
          | cons x a ih =>
            intro b h
            cases b with
            | nil => cases h
            | cons y b =>
              have q1 : nV x = nV y := (List.cons.inj h).1
              have q2 := nV_eq.mp q1
              rw [ih (List.cons.inj h).2, show x = y by omega]
        exact hinj el
      subst el2
      refine ⟨l' ++ [v], ?_, fun w => ?_, by rw [List.length_append, List.length_append]; simp; omega⟩
      · rw [upd_same, ns_snoc]
      · rw [List.mem_append, List.mem_append, h2, List.mem_singleton, List.mem_singleton]
        constructor
        · rintro (h | rfl)
          · exact .inl h
          · exact .inr rfl
        · rintro (h | h)
          · exact .inl h
          · exact .inr (congrArg Prod.snd h)
    · refine ⟨l', ?_, fun w => ?_, by rw [List.length_append]; omega⟩
      · rw [upd_ne (fun z => c (nd_ix x.nd hu' (by rw [z]; exact hu)))]
        exact h1
      · rw [List.mem_append, h2, List.mem_singleton]
        constructor
        · exact .inl
        · rintro (h | h)
          · exact h
          · exact (c (congrArg Prod.fst h)).elim
end
/-- what the search knows -/
structure RS (as : TM.Rp) (n : Nat) (starts : List Nat) (J : List Bool) (ws : List Nat) : Prop where
  l : J.length = n
  w : ∀ x ∈ ws, J[x]? = some true
  s : ∀ x : Nat, J[x]? = some true → ∃ u ∈ starts, ∃ k, Way as u x k
  i : ∀ u ∈ starts, J[u]? = some true
def Clo (as : TM.Rp) (J : List Bool) (x : Nat) : Prop := ∀ v, (x, v) ∈ as → J[v]? = some true
theorem set_true {J : List Bool} {a x : Nat} (h : J[x]? = some true) : (J.set a true)[x]? = some true := by
  have hl := lt_of_get h
  rw [List.getElem?_set]
  split
  · rw [if_pos (by omega)]
  · exact h
theorem set_here {J : List Bool} {a : Nat} (h : a < J.length) : (J.set a true)[a]? = some true := by
  rw [List.getElem?_set, if_pos rfl, if_pos h]
theorem set_inv {J : List Bool} {a x : Nat} (h : (J.set a true)[x]? = some true) : x = a ∨ J[x]? = some true := by
  rw [List.getElem?_set] at h
  split at h
  · rename_i e
    exact .inl e.symm
  · exact .inr h
theorem clo_set {as : TM.Rp} {J : List Bool} {a x : Nat} (h : Clo as J x) : Clo as (J.set a true) x := fun v hv => set_true (h v hv)
theorem way_in {as : TM.Rp} {J : List Bool} (h : ∀ x : Nat, J[x]? = some true → Clo as J x) : ∀ {u x k : Nat}, Way as u x k → J[u]? = some true → J[x]? = some true := by
  intro u x k w
  induction w with
  | nil => exact id
  | cons e _ ih => exact fun hu => ih (h _ hu _ e)
theorem way_end {as : TM.Rp} {u x y k : Nat} (w : Way as u x k) (e : (x, y) ∈ as) : Way as u y (k + 1) := TM.way_snoc w e
theorem fal_le : ∀ J : List Bool, fal J ≤ J.length
  | [] => Nat.le_refl _
  | b :: l => by
    have := fal_le l
    show (if b = true then 0 else 1) + fal l ≤ l.length + 1
    split <;> omega
theorem fal_rep (n : Nat) : fal (List.replicate n false) = n := by
  induction n with
  | zero => rfl
  | succ n ih =>
    rw [List.replicate_succ]
    show 1 + fal (List.replicate n false) = n + 1
    omega
theorem repF (k : Nat) : (List.replicate k [V.bl false]).flatten = Bs (List.replicate k false) := by
  induction k with
  | zero => rfl
  | succ k ih =>
    rw [List.replicate_succ, List.replicate_succ, List.flatten_cons, ih]
    rfl
def mur (rc wt : Addr) (_ : L2.St) (H : Hp) : Nat := match H rc, H wt with
  | some (.lst l), some (.lst ws) => 2 * fal (l.map unB) + ws.length
  | _, _ => 0
theorem mur_eq {rc wt : Addr} {σ : L2.St} {H : Hp} {J : List Bool} {ws : List Nat} (h1 : H rc = some (.lst (Bs J))) (h2 : H wt = some (.lst (Ns ws))) : mur rc wt σ H = 2 * fal J + ws.length := by
  unfold mur
  rw [h1, h2]
  show 2 * fal ((Bs J).map unB) + (Ns ws).length = _
  rw [bs_un, ns_len]
theorem ok_reached_from (T : Txt K mg) (D : Dfn K mg "reached_from" s_reached_from) :
    Cal P w K mg base "reached_from" 1 ["pairs", "stations", "starts"] (sp_reached_from K) := by
  refine D.cal (k := 0) sc_reached_from (fun vs H Q E h => ?_) (fun _ _ _ _ _ _ us hl => match us, hl with | [_, _, _], _ => rfl) (fun cdv A outer s H vs Q E hr h => ?_)
  · obtain ⟨_, _, _, _, _, rfl, _⟩ := h
    rfl
  · obtain ⟨ap, n, sa, arrows, starts, rfl, hP, hsa, hend, hst, n24, a40, s24, hq⟩ := h
    obtain ⟨vs, hvs, hps⟩ := id hP
    have hvl := Paired.length hps
    refine ⟨_, (pss_cons (ps_setLc (i := 3) (own := [("_", 9)]) (g := (gName 9)) (tt := tYes) (te := (tLst tNil)) rfl sc_reached_from.nd rfl rfl (sw_true rfl rfl rfl (by decide +kernel)) (pi_range1 rfl T.b_range (pa_cons (pv 1) pa_nil)) (blkOk_by (N := ["pairs", "stations", "starts", "followers", "tail", "head", "reached", "waiting", "start", "_", "station"]) (sc := defScope s_reached_from) (by decide +kernel)) (fun _ _ _ _ _ => (pg_name (i := 9) sc_reached_from.nd rfl (Or.inl rfl))) (fun _ _ _ _ _ => pts_nil) (fun _ _ _ _ _ => (pe_lst pa_nil)))
      (pss_cons (ps_for PassesOwn.never rfl (pi_list (pv 0)) (pg_tup rfl (pgs_cons (pg_name (i := 4) sc_reached_from.nd rfl (Or.inl rfl)) (pgs_cons (pg_name (i := 5) sc_reached_from.nd rfl (Or.inl rfl)) pgs_nil))) (pss_one (ps_expr (pe_bm PySem.F.plainAttrs_list PySem.F.slot_list_append PySem.F.type_list_append mt_append (pe_ix ix_list (pv 3) (pv 4) (fun _ _ => rfl)) (pa_cons (pv 5) pa_nil)))))
      (pss_cons (ps_set (i := 6) sc_reached_from.nd rfl (Or.inr rfl) (pe_op op_rep (pe_lst (pa_cons pe_bl pa_nil)) (pv 1)))
      (pss_cons (ps_set (i := 7) sc_reached_from.nd rfl (Or.inl rfl) (pe_lst pa_nil))
      (pss_cons (ps_for PassesOwn.never rfl (pi_list (pv 2)) (pg_name (i := 8) sc_reached_from.nd rfl (Or.inl rfl)) (pss_cons (ps_asg pe_bl (pg_sub (pv 6) (pv 8) set_list))
      (pss_one (ps_expr (pe_bm PySem.F.plainAttrs_list PySem.F.slot_list_append PySem.F.type_list_append mt_append (pv 7) (pa_cons (pv 8) pa_nil))))))
      (pss_cons (ps_while PassesOwn.never (pt_truth (pv 7) (by intro _; rfl)) (pss_cons (ps_set (i := 4) sc_reached_from.nd rfl (Or.inl rfl) (pe_bm0 PySem.F.plainAttrs_list PySem.F.slot_list_pop PySem.F.type_list_pop mt_pop (pv 7)))
      (pss_one (ps_for PassesOwn.never rfl (pi_list (pe_ix ix_list (pv 3) (pv 4) (fun _ _ => rfl))) (pg_name (i := 5) sc_reached_from.nd rfl (Or.inl rfl)) (pss_one (ps_if (pt_not (pt_val (pe_ix ix_list (pv 6) (pv 5) (fun _ _ => rfl)))) (pss_cons (ps_asg pe_bl (pg_sub (pv 6) (pv 5) set_list))
      (pss_one (ps_expr (pe_bm PySem.F.plainAttrs_list PySem.F.slot_list_append PySem.F.type_list_append mt_append (pv 7) (pa_cons (pv 5) pa_nil))))) pss_nil))))))
      (pss_one (ps_ret (pe_lc (own := [("station", 10)]) (g := (gName 10)) (tt := (tB (tOp (rIxL K) (tVar 6) (tVar 10)))) (te := (tVar 10)) rfl sc_reached_from.nd (pi_range1 rfl T.b_range (pa_cons (pv 1) pa_nil)) (blkOk_by (N := ["pairs", "stations", "starts", "followers", "tail", "head", "reached", "waiting", "start", "_", "station"]) (sc := defScope s_reached_from) (by decide +kernel)) (fun _ _ _ _ _ => (pg_name (i := 10) sc_reached_from.nd rfl (Or.inl rfl))) (fun _ _ _ _ _ => pts_one (pt_val (pe_ix ix_list (pv 6) (pv 10) (fun _ _ => rfl)))) (fun _ _ _ _ _ => (pv 10))))))))))), ?_⟩
    refine ⟨_, rfl, n, rfl, by omega, by omega, fun fl hfl => ?_⟩
    refine lc_range0 (n := n) (fun i H' => ∃ as, FW H H' fl as i []) ⟨[], exn hfl, hfl, upd_same, rfl, List.nodup_nil, (fun _ z => nomatch z), (fun z => nomatch z), fun u a h => by simp at h⟩ ?_ ?_
    · rintro i H1 hi ⟨as, w1⟩
      refine ⟨rfl, Nat.zero_le _, fun p hp => ?_⟩
      have e2 : Ex H1 (upd H1 p (.lst [])) := exn hp
      have hpp : upd H1 p (.lst []) p = some (.lst (Ns [])) := upd_same
      have w2 := w1.take e2
      have hpa : p ∉ as := fun z => by
        obtain ⟨u, hu⟩ := List.getElem?_of_mem z
        obtain ⟨l, h1, _⟩ := w1.cont u p hu
        rw [hp] at h1
        cases h1
      have npf : p ≠ fl := (ne_of_none w1.hfl hp).symm
      have hpH : H p = none := back w1.ex hp
      have hlen := w1.len
      generalize upd H1 p (.lst []) = H2 at e2 hpp w2 ⊢
      refine ⟨_, w2.hfl, sz2 (by rw [List.length_map]; omega), as ++ [p], ex_mut w2.ex hfl, hfl, ?_, by rw [List.length_append, hlen]; rfl, ?_, ?_, ?_, ?_⟩
      · rw [upd_same, List.map_append]
        rfl
      · exact List.nodup_append.mpr ⟨w1.nd, List.nodup_cons.mpr ⟨(fun z => nomatch z), List.nodup_nil⟩, fun a ha b hb => by
          rw [List.mem_singleton.mp hb]
          exact fun z => hpa (by rw [← z]; exact ha)⟩
      · intro a ha
        rcases List.mem_append.mp ha with h | h
        · exact w1.fr a h
        · rw [List.mem_singleton.mp h]
          exact hpH
      · intro z
        rcases List.mem_append.mp z with h | h
        · exact w1.nfl h
        · exact npf (List.mem_singleton.mp h).symm
      · intro u a hu
        have na : a ≠ fl := by
          intro z
          subst z
          rcases List.mem_append.mp (List.mem_of_getElem? hu) with h | h
          · exact w1.nfl h
          · exact npf (List.mem_singleton.mp h).symm
        rw [upd_ne na]
        by_cases c : u < as.length
        · rw [List.getElem?_append_left c] at hu
          exact w2.cont u a hu
        · rw [List.getElem?_append_right (by omega)] at hu
          have : a = p := by
            have := List.mem_of_getElem? hu
            exact List.mem_singleton.mp this
          subst this
          exact ⟨[], hpp, fun v => by simp, Nat.zero_le _⟩
    rintro H1 ⟨as, w1⟩
    have hap0 := w1.ex
    refine ⟨_, rfl, _, rfl, ⟨_, SqL.of (w1.ex _ _ hvs)⟩, for_list (K := K) (a := ap) (xs := vs) (fun i σ H' => ∃ g4 g5, σ = [some (.ref ap), some (nV n), some (.ref sa), some (.ref fl), g4, g5, none, none, none, none, none] ∧ FW H H' fl as n (arrows.take i)) ⟨_, _, rfl, w1⟩ (fun i σ H' _ ⟨_, _, _, w⟩ => SqL.of (w.ex _ _ hvs)) ?_ ?_⟩
    · rintro i v σ H2 hi ⟨g4, g5, rfl, w2⟩
      obtain ⟨p, hp, q, rfl, hqq⟩ := Paired.getL hps hi
      obtain ⟨p1, p2⟩ := hend p (List.mem_of_getElem? hp)
      have hlen := w2.len
      obtain ⟨a, ha⟩ := get_of_lt (l := as) (i := p.1) (by omega)
      obtain ⟨l, hl, hlm, hll⟩ := w2.cont p.1 a ha
      have hav : (as.map V.ref)[p.1]? = some (V.ref a) := by
        rw [List.getElem?_map, ha]
        rfl
      have htl := List.length_take_le i arrows
      have hil := lt_of_get hp
      refine ⟨q, _, rfl, SqT.of (w2.ex _ _ hqq), rfl, _, _, rfl, _, _, rfl, rfl, ?_⟩
      refine ⟨_, rfl, _, rfl, _, _, _, _, rfl, rfl, SqL.of w2.hfl, atI_nat hav, .inl ⟨rfl, _, SqL.of hl⟩, _, rfl, _, _, _, rfl, rfl, hl, sz2 (by rw [ns_len]; omega), _, _, rfl, ?_⟩
      rw [take_more hp]
      exact w2.add ha hl
    rintro σ H2 ⟨g4, g5, rfl, w2⟩
    rw [List.take_of_length_le (by omega)] at w2
    refine ⟨sz1 (by show 1 ≤ 100000; decide), fun z hz => ?_⟩
    have e3 : Ex H2 (upd H2 z (.lst [.bl false])) := exn hz
    have h3 : upd H2 z (.lst [.bl false]) z = some (.lst [.bl false]) := upd_same
    generalize upd H2 z (.lst [.bl false]) = H3 at e3 h3 ⊢
    refine ⟨_, rfl, _, _, _, rfl, rfl, h3, by omega, by omega, sz1 (by show 1 * _ ≤ 100000; omega), fun rc hrc => ?_⟩
    have er : (List.replicate ((n : Int)).toNat [V.bl false]).flatten = Bs (List.replicate n false) := repF n
    rw [er]
    have e4 : Ex H3 (upd H3 rc (.lst (Bs (List.replicate n false)))) := exn hrc
    have h4 : upd H3 rc (.lst (Bs (List.replicate n false))) rc = some (.lst (Bs (List.replicate n false))) := upd_same
    generalize upd H3 rc (.lst (Bs (List.replicate n false))) = H4 at e4 h4 ⊢
    refine ⟨Nat.zero_le _, fun wt hwt => ?_⟩
    have e5 : Ex H4 (upd H4 wt (.lst [])) := exn hwt
    have h5 : upd H4 wt (.lst []) wt = some (.lst (Ns [])) := upd_same
    have w5 := ((w2.take e3).take e4).take e5
    have hasn : ∀ {H' : Hp} {p : Addr}, FW H H' fl as n arrows → H' p = none → p ∉ as := fun {H' p} w hp z => by
      obtain ⟨u, hu⟩ := List.getElem?_of_mem z
      obtain ⟨l, h1, _⟩ := w.cont u p hu
      rw [hp] at h1
      cases h1
    have nrc : rc ∉ as := hasn (w2.take e3) hrc
    have nwt : wt ∉ as := hasn ((w2.take e3).take e4) hwt
    have nrf : rc ≠ fl := (ne_of_none (w2.take e3).hfl hrc).symm
    have nwf : wt ≠ fl := (ne_of_none ((w2.take e3).take e4).hfl hwt).symm
    have nrw : rc ≠ wt := ne_of_none h4 hwt
    have hrcH : H rc = none := back (w2.take e3).ex hrc
    have hwtH : H wt = none := back ((w2.take e3).take e4).ex hwt
    have h54 := e5 _ _ h4
    generalize upd H4 wt (.lst []) = H5 at e5 h5 w5 h54 ⊢
    refine ⟨_, rfl, _, rfl, ⟨_, SqL.of (w5.ex _ _ hsa)⟩, for_list (K := K) (a := sa) (xs := Ns starts) (fun i σ H' => ∃ g8 J ws, σ = [some (.ref ap), some (nV n), some (.ref sa), some (.ref fl), g4, g5, some (.ref rc), some (.ref wt), g8, none, none] ∧ FW H H' fl as n arrows ∧ H' rc = some (.lst (Bs J)) ∧ H' wt = some (.lst (Ns ws)) ∧ RS arrows n (starts.take i) J ws ∧ (∀ x : Nat, J[x]? = some true → x ∈ ws) ∧ ws.length ≤ i)
      ⟨_, List.replicate n false, [], rfl, w5, h54, h5, ⟨List.length_replicate .., (fun _ z => nomatch z), fun x h => ?_, fun u z => by rw [List.take_zero] at z; cases z⟩, fun x h => ?_, Nat.le_refl _⟩ (fun i σ H' _ ⟨_, _, _, _, w, _⟩ => SqL.of (w.ex _ _ hsa)) ?_ ?_⟩
    · rw [List.getElem?_replicate] at h
      split at h <;> cases h
    · rw [List.getElem?_replicate] at h
      split at h <;> cases h
    · rintro i v σ H6 hi ⟨g8, J, ws, rfl, w6, hJ, hws, rs, hin, hwl⟩
      obtain ⟨u, hu, rfl⟩ := ns_getL hi
      have hun := hst u (List.mem_of_getElem? hu)
      have hil := lt_of_get hu
      have hJl := rs.l
      refine ⟨_, rfl, _, rfl, _, _, _, _, rfl, rfl, hJ, Evl.ixN_nat (by rw [List.length_map]; omega), ?_⟩
      rw [set_bs]
      have hws7 : upd H6 rc (.lst (Bs (J.set u true))) wt = some (.lst (Ns ws)) := by
        rw [upd_ne (Ne.symm nrw)]
        exact hws
      refine ⟨_, rfl, .inl ⟨rfl, _, SqL.of hws7⟩, _, rfl, _, _, _, rfl, rfl, hws7, sz2 (by rw [ns_len]; omega), ?_⟩
      refine ⟨_, J.set u true, ws ++ [u], rfl, (w6.mut hrcH nrf nrc).mut hwtH nwf nwt, ?_, ?_, ⟨by rw [List.length_set]; exact hJl, fun x hx => ?_, fun x hx => ?_, fun x hx => ?_⟩, fun x hx => ?_, by rw [List.length_append]; simp; omega⟩
      · rw [upd_ne nrw]
        exact upd_same
      · rw [upd_same, ns_snoc]
      · rcases List.mem_append.mp hx with h | h
        · exact set_true (rs.w x h)
        · rw [List.mem_singleton.mp h]
          exact set_here (by omega)
      · rw [take_more hu]
        rcases set_inv hx with rfl | h
        · exact ⟨x, List.mem_append_right _ (List.mem_singleton.mpr rfl), 0, .nil x⟩
        · obtain ⟨y, hy, k, hw⟩ := rs.s x h
          exact ⟨y, List.mem_append_left _ hy, k, hw⟩
      · rw [take_more hu] at hx
        rcases List.mem_append.mp hx with h | h
        · exact set_true (rs.i x h)
        · rw [List.mem_singleton.mp h]
          exact set_here (by omega)
      · rcases set_inv hx with rfl | h
        · exact List.mem_append_right _ (List.mem_singleton.mpr rfl)
        · exact List.mem_append_left _ (hin x h)
    rintro σ H6 ⟨g8, J, ws, rfl, w6, hJ, hws, rs, hin, hwl⟩
    rw [List.take_of_length_le (by rw [ns_len]; exact Nat.le_refl _)] at rs
    rw [ns_len] at hwl
    dsimp only
    unfold tSeq
    refine while_by (fun σ H' => ∃ g4 g5 J ws, σ = [some (.ref ap), some (nV n), some (.ref sa), some (.ref fl), g4, g5, some (.ref rc), some (.ref wt), g8, none, none] ∧ FW H H' fl as n arrows ∧ H' rc = some (.lst (Bs J)) ∧ H' wt = some (.lst (Ns ws)) ∧ RS arrows n starts J ws ∧ (∀ x : Nat, J[x]? = some true → x ∈ ws ∨ Clo arrows J x) ∧ ws.length + fal J ≤ 48) (mur rc wt)
      ⟨_, _, J, ws, rfl, w6, hJ, hws, rs, fun x h => .inl (hin x h), ?_⟩ ?_ ?_
    · have := fal_le J
      have := rs.l
      omega
    rotate_left
    · exact fun σ H Q Q' hh c => by
        obtain ⟨x, h1, k, h2, h3⟩ := c
        exact ⟨x, h1, k, h2, hh _ _ h3⟩
    clear hin hwl rs hws hJ w6 J ws
    rintro _ H7 ⟨g4, g5, J, ws, rfl, w7, hJ, hws, rs, hcl, h48⟩
    refine ⟨_, rfl, !(Ns ws).isEmpty, .inl ⟨_, SqL.of hws, rfl⟩, ?_⟩
    rcases List.eq_nil_or_concat ws with rfl | ⟨ws', t, rfl⟩
    · refine ifF (by decide) ?_
      refine ⟨_, rfl, n, rfl, by omega, by omega, fun D hD => ?_⟩
      have hDH : H D = none := back w7.ex hD
      have ndr : rc ≠ D := ne_of_none hJ hD
      refine lc_range0 (n := n) (fun i H' => ∃ xs, Ex H H' ∧ H' rc = some (.lst (Bs J)) ∧ H' D = some (.lst (Ns xs)) ∧ xs.length ≤ i ∧ ∀ x, x ∈ xs ↔ x < i ∧ J[x]? = some true) ⟨[], fun a o h => exn hD a o (w7.ex a o h), upd_get hD hJ, upd_same, Nat.le_refl _, fun x => by simp⟩ ?_ ?_
      · rintro i H8 hi ⟨xs, e8, hJ8, hD8, hl8, hm8⟩
        obtain ⟨b, hb⟩ := get_of_lt (l := J) (i := i) (by rw [rs.l]; exact hi)
        refine ⟨rfl, _, rfl, _, rfl, _, _, _, _, rfl, rfl, SqL.of hJ8, atI_nat (bs_get hb), b, rfl, ?_⟩
        cases b with
        | true =>
          refine ifT rfl ⟨_, rfl, _, hD8, sz2 (by rw [ns_len]; omega), xs ++ [i], ex_mut e8 hDH, ?_, ?_, by rw [List.length_append]; simp; omega, fun x => ?_⟩
          · rw [upd_ne ndr]
            exact hJ8
          · rw [upd_same, ns_snoc]
          · rw [List.mem_append, List.mem_singleton, hm8]
            constructor
            · rintro (⟨h1, h2⟩ | rfl)
              · exact ⟨by omega, h2⟩
              · exact ⟨by omega, hb⟩
            · rintro ⟨h1, h2⟩
              by_cases c : x = i
              · exact .inr c
              · exact .inl ⟨by omega, h2⟩
        | false =>
          refine ifF (by decide) ⟨xs, e8, hJ8, hD8, by omega, fun x => ?_⟩
          rw [hm8]
          constructor
          · exact fun ⟨h1, h2⟩ => ⟨by omega, h2⟩
          · rintro ⟨h1, h2⟩
            refine ⟨?_, h2⟩
            by_cases c : x = i
            · subst c
              rw [hb] at h2
              cases h2
            · omega
      · rintro H8 ⟨xs, e8, hJ8, hD8, hl8, hm8⟩
        refine hq D H8 xs e8 hDH hD8 hl8 fun x => ?_
        rw [hm8]
        constructor
        · exact fun ⟨h1, h2⟩ => ⟨h1, rs.s x h2⟩
        · rintro ⟨h1, u, hu, k, hw⟩
          exact ⟨h1, way_in (fun y hy => (hcl y hy).resolve_left (fun z => nomatch z)) hw (rs.i u hu)⟩
    · rw [List.concat_eq_append] at hws rs hcl h48 ⊢
      have hne : (!(Ns (ws' ++ [t])).isEmpty) = true := by
        rw [← ns_snoc]
        cases Ns ws' <;> rfl
      rw [hne]
      refine ifT rfl ?_
      have hlast : (Ns (ws' ++ [t]))[(Ns (ws' ++ [t])).length - 1]? = some (nV t) := by
        rw [← ns_snoc, List.length_append]
        simp
      have hdl : (Ns (ws' ++ [t])).dropLast = Ns ws' := by
        rw [← ns_snoc]
        exact List.dropLast_concat
      have hJt := rs.w t (List.mem_append_right _ (List.mem_singleton.mpr rfl))
      have htn : t < n := by
        have := lt_of_get hJt
        rw [rs.l] at this
        exact this
      refine ⟨_, rfl, .inl ⟨rfl, _, SqL.of hws⟩, _, _, _, rfl, rfl, hws, hlast, ?_⟩
      rw [hdl]
      have w8 : FW H (upd H7 wt (.lst (Ns ws'))) fl as n arrows := w7.mut hwtH nwf nwt
      have hJ8 : upd H7 wt (.lst (Ns ws')) rc = some (.lst (Bs J)) := by
        rw [upd_ne nrw]
        exact hJ
      have hws8 : upd H7 wt (.lst (Ns ws')) wt = some (.lst (Ns ws')) := upd_same
      generalize upd H7 wt (.lst (Ns ws')) = H8 at w8 hJ8 hws8 ⊢
      obtain ⟨a, ha⟩ := get_of_lt (l := as) (i := t) (by rw [w8.len]; exact htn)
      obtain ⟨l, hl, hlm, hll⟩ := w8.cont t a ha
      have ham := List.mem_of_getElem? ha
      have hav : (as.map V.ref)[t]? = some (V.ref a) := by
        rw [List.getElem?_map, ha]
        rfl
      have h48' : ws'.length + 1 + fal J ≤ 48 := by
        rw [List.length_append] at h48
        exact h48
      refine ⟨_, rfl, _, rfl, _, _, _, _, rfl, rfl, SqL.of w8.hfl, atI_nat hav, a, rfl, ⟨_, SqL.of hl⟩, for_list (K := K) (a := a) (xs := Ns l) (fun j σ H' => ∃ g5 J' ws2, σ = [some (.ref ap), some (nV n), some (.ref sa), some (.ref fl), some (nV t), g5, some (.ref rc), some (.ref wt), g8, none, none] ∧ FW H H' fl as n arrows ∧ H' a = some (.lst (Ns l)) ∧ H' rc = some (.lst (Bs J')) ∧ H' wt = some (.lst (Ns ws2)) ∧ RS arrows n starts J' ws2 ∧ (∀ x : Nat, J'[x]? = some true → x = t ∨ x ∈ ws2 ∨ Clo arrows J' x) ∧ (∀ j' v, j' < j → l[j']? = some v → J'[v]? = some true) ∧ ws2.length + fal J' ≤ 48 ∧ 2 * fal J' + ws2.length ≤ 2 * fal J + ws'.length ∧ J'[t]? = some true)
        ⟨_, J, ws', rfl, w8, hl, hJ8, hws8, ⟨rs.l, fun x hx => rs.w x (List.mem_append_left _ hx), rs.s, rs.i⟩, fun x hx => ?_, fun j' v hj => by omega, by omega, Nat.le_refl _, hJt⟩ (fun j σ H' _ ⟨_, _, _, _, _, e, _⟩ => SqL.of e) ?_ ?_⟩
      · rcases hcl x hx with h | h
        · rcases List.mem_append.mp h with h | h
          · exact .inr (.inl h)
          · exact .inl (List.mem_singleton.mp h)
        · exact .inr (.inr h)
      · rintro j v σ H9 hj ⟨g5, J', ws2, rfl, w9, hl9, hJ9, hws9, rs9, hcl9, hd9, h489, hmu9, hJt9⟩
        obtain ⟨h, hh, rfl⟩ := ns_getL hj
        have harr := (hlm h).mp (List.mem_of_getElem? hh)
        have hhn := (hend _ harr).2
        obtain ⟨b, hb⟩ := get_of_lt (l := J') (i := h) (by rw [rs9.l]; exact hhn)
        refine ⟨_, rfl, _, rfl, _, _, _, _, rfl, rfl, SqL.of hJ9, atI_nat (bs_get hb), b, rfl, ?_⟩
        cases b with
        | true =>
          refine ifF (by decide) ⟨_, J', ws2, rfl, w9, hl9, hJ9, hws9, rs9, hcl9, fun j' v hj' hv => ?_, h489, hmu9, hJt9⟩
          by_cases c : j' = j
          · subst c
            have : v = h := Option.some.inj (hv.symm.trans hh)
            subst this
            exact hb
          · exact hd9 j' v (by omega) hv
        | false =>
          refine ifT (by decide) ?_
          refine ⟨_, rfl, _, rfl, _, _, _, _, rfl, rfl, hJ9, Evl.ixN_nat (by rw [List.length_map, rs9.l]; exact hhn), ?_⟩
          rw [set_bs]
          have hwsA : upd H9 rc (.lst (Bs (J'.set h true))) wt = some (.lst (Ns ws2)) := by
            rw [upd_ne (Ne.symm nrw)]
            exact hws9
          have hfs := fal_set hb
          rw [if_neg (by decide)] at hfs
          have nra : a ≠ rc := fun z => nrc (by rw [← z]; exact ham)
          have nwa : a ≠ wt := fun z => nwt (by rw [← z]; exact ham)
          refine ⟨_, rfl, .inl ⟨rfl, _, SqL.of hwsA⟩, _, rfl, _, _, _, rfl, rfl, hwsA, sz2 (by rw [ns_len]; omega), ?_⟩
          refine ⟨_, J'.set h true, ws2 ++ [h], rfl, (w9.mut hrcH nrf nrc).mut hwtH nwf nwt, ?_, ?_, ?_, ⟨by rw [List.length_set]; exact rs9.l, fun x hx => ?_, fun x hx => ?_, fun u hu => set_true (rs9.i u hu)⟩, fun x hx => ?_, fun j' v hj' hv => ?_, by rw [List.length_append]; simp; omega, by rw [List.length_append]; simp; omega, set_true hJt9⟩
          · rw [upd_ne nwa, upd_ne nra]
            exact hl9
          · rw [upd_ne nrw]
            exact upd_same
          · rw [upd_same, ns_snoc]
          · rcases List.mem_append.mp hx with h | h
            · exact set_true (rs9.w x h)
            · rw [List.mem_singleton.mp h]
              exact set_here (by rw [rs9.l]; exact hhn)
          · rcases set_inv hx with rfl | h
            · obtain ⟨u, hu, k, hw⟩ := rs9.s t hJt9
              exact ⟨u, hu, k + 1, way_end hw harr⟩
            · exact rs9.s x h
          · rcases set_inv hx with rfl | h
            · exact .inr (.inl (List.mem_append_right _ (List.mem_singleton.mpr rfl)))
            · rcases hcl9 x h with h | h | h
              · exact .inl h
              · exact .inr (.inl (List.mem_append_left _ h))
              · exact .inr (.inr (clo_set h))
          · by_cases c : j' = j
            · subst c
              have : v = h := Option.some.inj (hv.symm.trans hh)
              subst this
              exact set_here (by rw [rs9.l]; exact hhn)
            · exact set_true (hd9 j' v (by omega) hv)
      · rintro σ H9 ⟨g5, J', ws2, rfl, w9, hl9, hJ9, hws9, rs9, hcl9, hd9, h489, hmu9, hJt9⟩
        rw [ns_len] at hd9
        refine ⟨⟨_, _, J', ws2, rfl, w9, hJ9, hws9, rs9, fun x hx => ?_, h489⟩, ?_⟩
        · rcases hcl9 x hx with h | h | h
          · subst h
            refine .inr fun v hv => ?_
            obtain ⟨j', hj'⟩ := List.getElem?_of_mem ((hlm v).mpr hv)
            exact hd9 j' v (lt_of_get hj') hj'
          · exact .inl h
          · exact .inr h
        · rw [mur_eq hJ9 hws9, mur_eq hJ hws, List.length_append]
          simp
          omega
end
end Tw

namespace Tw
open PySem PySem.Spec PyProof.Rows L2 TM
theorem sc_red_reach : FnScope ["standing", "starts", "station", "many"] ["standing"] (defScope s_red_reach) := ⟨rfl, rfl, rfl, by decide +kernel, rfl, by decide +kernel, by decide +kernel⟩
section
variable {P : Program} {w : World} {K : PySem.W.Frag} {mg : Str → Option Value} {base : Heap}

theorem ok_red_reach (T : Txt K mg) (D : Dfn K mg "red_reach" s_red_reach) (c_arrows_of : Cal P w K mg base "arrows_of" 3 ["standing"] (sp_arrows_of K)) (c_reached_from : Cal P w K mg base "reached_from" 1 ["pairs", "stations", "starts"] (sp_reached_from K)) :
    Cal P w K mg base "red_reach" 4 ["standing"] (sp_red_reach K) := by
  refine D.cal (k := 3) sc_red_reach (fun vs H Q E h => ?_) (fun _ _ _ _ _ _ us hl => match us, hl with | [_], _ => rfl) (fun cdv A outer s H vs Q E hr h => ?_)
  · obtain ⟨_, _, _, _, rfl, _⟩ := h
    rfl
  · obtain ⟨st, n, ropes, s0, rfl, hS, ok, os, hq⟩ := h
    obtain ⟨dx, nt, rd, bl, cr, hSi, hN, hR, hB, hC⟩ := id hS
    obtain ⟨dxn, t, hNi, vs, hT, hps⟩ := id hN
    have n24 := ok.n24
    have h40 := ok.m40
    have lr := os.lr
    refine ⟨_, (pss_cons (ps_setLc (i := 1) (own := [("station", 2), ("many", 3)]) (g := (gTup K 2 (gCons (gName 2) (gCons (gName 3) gNil)))) (tt := (tTest (tOp rGt (tVar 3) (tC (.int 0))))) (te := (tVar 2)) rfl sc_red_reach.nd rfl rfl (sw_true rfl rfl rfl (by decide +kernel)) (pi_enumT rfl T.b_enumerate (pa_cons (pe_fld (pv 0) rfl) pa_nil)) (blkOk_by (N := ["standing", "starts", "station", "many"]) (sc := defScope s_red_reach) (by decide +kernel)) (fun _ _ _ _ _ => (pg_tup rfl (pgs_cons (pg_name (i := 2) sc_red_reach.nd rfl (Or.inl rfl)) (pgs_cons (pg_name (i := 3) sc_red_reach.nd rfl (Or.inl rfl)) pgs_nil)))) (fun _ _ _ _ _ => pts_one (pt_cmpR op_gt (pv 3) pe_int (nomark _))) (fun _ _ _ _ _ => (pv 2)))
      (pss_one (ps_ret (pe_cal c_reached_from (hr.mono (by decide)) (pa_cons (pe_cal c_arrows_of (hr.mono (by decide)) (pa_cons (pv 0) pa_nil)) (pa_cons (pe_fld (pe_fld (pv 0) rfl) rfl) (pa_cons (pv 1) pa_nil))))))), ?_⟩
    refine ⟨_, rfl, _, _, _, _, _, rfl, hSi, T.cS, T.nSr, stdF_r .., _, _, rfl, SqT.of hR, fun D hD => ?_⟩
    refine lc_it walk_enumT (fun i H' => ∃ xs, Ex H H' ∧ H' D = some (.lst (Ns xs)) ∧ xs.length ≤ i ∧ ∀ x, x ∈ xs ↔ x < i ∧ 0 < s0.reds.getD x 0) ⟨[], exn hD, upd_same, Nat.le_refl _, fun x => by simp⟩ (fun i H' _ ⟨_, e, _⟩ => SqT.of (e _ _ hR)) ?_ ?_
    · rintro i x H1 H2 hi ⟨xs, e1, hD1, hl, hm⟩ ⟨tp, u, v, rfl, htp, rfl, hu, hv⟩
      have hu' : V.int (i : Int) = u := Option.some.inj hu
      subst hu'
      obtain ⟨k, hk, rfl⟩ := ns_getL hv
      have hkd := getD_of hk
      rw [ns_len] at hi
      have e2 : Ex H1 (upd H1 tp (.tup [V.int (i : Int), nV k])) := exn htp
      refine ⟨tp, _, rfl, SqT.of upd_same, rfl, _, _, rfl, _, _, rfl, rfl, rfl, ?_⟩
      have hD2 := e2 _ _ hD1
      refine ⟨_, rfl, _, _, rfl, rfl, _, rfl, dI (fun c => ?_) (fun c => ?_)⟩
      · refine ⟨_, rfl, _, hD2, sz2 (by rw [ns_len]; omega), xs ++ [i], ex_mut (e1.trans e2) hD, ?_, by rw [List.length_append]; simp; omega, fun x => ?_⟩
        · rw [upd_same]
          exact congrArg some (congrArg HO.lst (ns_snoc xs i))
        · rw [List.mem_append, List.mem_singleton, hm]
          constructor
          · rintro (⟨h1, h2⟩ | rfl)
            · exact ⟨by omega, h2⟩
            · exact ⟨by omega, by omega⟩
          · rintro ⟨h1, h2⟩
            by_cases c : x = i
            · exact .inr c
            · exact .inl ⟨by omega, h2⟩
      · refine ⟨xs, e1.trans e2, hD2, by omega, fun x => ?_⟩
        rw [hm]
        constructor
        · exact fun ⟨h1, h2⟩ => ⟨by omega, h2⟩
        · rintro ⟨h1, h2⟩
          refine ⟨?_, h2⟩
          by_cases c2 : x = i
          · subst c2
            omega
          · omega
    rintro H1 ⟨xs, e1, hD1, hl, hm⟩
    rw [ns_len] at hl hm
    refine ⟨_, rfl, st, n, ropes, s0, rfl, hS.kp (exk e1), os.lc, os.c01, h40, fun ap H2 e2 hap0 hap => ?_⟩
    have e12 : Ex H H2 := e1.trans e2
    refine ⟨_, rfl, _, _, _, _, _, rfl, e12 _ _ hSi, T.cS, T.nSn, stdF_n .., _, _, _, _, _, rfl, e12 _ _ hNi, T.cN, T.nNs, netF_s .., _, rfl, ?_⟩
    have hends := fun p hp => arr_mem (cars := s0.cars) ok.ends p hp
    refine ⟨ap, n, D, as ropes s0, xs, rfl, hap, e2 _ _ hD1, fun p hp => ⟨(hends p hp).1, (hends p hp).2.1⟩, fun x hx => ?_, n24, by rw [show (as ropes s0).length = ropes.length from arr_length os.lc]; exact h40, by omega, fun p H3 ys e3 hp0 hp hyl hym => ?_⟩
    · have := ((hm x).mp hx).1
      omega
    · refine hq p H3 ys (e12.trans e3) (back e12 hp0) hp hyl fun x => ?_
      rw [hym]
      constructor
      · rintro ⟨h1, u, hu, k, hw⟩
        exact ⟨h1, u, k, ((hm u).mp hu).2, hw⟩
      · rintro ⟨h1, u, k, h2, hw⟩
        exact ⟨h1, u, (hm u).mpr ⟨by have := TM.getD_lt h2; omega, h2⟩, k, hw⟩
end
end Tw

namespace Tw
open PySem PySem.Spec PyProof.Rows L2 TM
theorem sc_can_meet : FnScope ["standing", "station"] ["standing"] (defScope s_can_meet) := ⟨rfl, rfl, rfl, by decide +kernel, rfl, by decide +kernel, by decide +kernel⟩
section
variable {P : Program} {w : World} {K : PySem.W.Frag} {mg : Str → Option Value} {base : Heap}

theorem ok_can_meet (T : Txt K mg) (D : Dfn K mg "can_meet" s_can_meet) (c_red_reach : Cal P w K mg base "red_reach" 4 ["standing"] (sp_red_reach K)) :
    Cal P w K mg base "can_meet" 5 ["standing"] (sp_can_meet K) := by
  refine D.cal (k := 4) sc_can_meet (fun vs H Q E h => ?_) (fun _ _ _ _ _ _ us hl => match us, hl with | [_], _ => rfl) (fun cdv A outer s H vs Q E hr h => ?_)
  · obtain ⟨_, _, _, _, rfl, _⟩ := h
    rfl
  · obtain ⟨st, n, ropes, s0, rfl, hS, ok, os, hq⟩ := h
    obtain ⟨dx, nt, rd, bl, cr, hSi, hN, hR, hB, hC⟩ := id hS
    have n24 := ok.n24
    have lb := os.lb
    refine ⟨_, (pss_one (ps_ret (pe_callB (cr_any rfl) (by rfl) T.b_any (by decide +kernel) (pa_cons (pe_lc (own := [("station", 1)]) (g := (gName 1)) (tt := tYes) (te := (tOp rGt (tOp (rIxT K) (tFld K (tVar 0) "blues") (tVar 1)) (tC (.int 0)))) rfl sc_can_meet.nd (pi_list (pe_cal c_red_reach (hr.mono (by decide)) (pa_cons (pv 0) pa_nil))) (blkOk_by (N := ["standing", "station"]) (sc := defScope s_can_meet) (by decide +kernel)) (fun _ _ _ _ _ => (pg_name (i := 1) sc_can_meet.nd rfl (Or.inl rfl))) (fun _ _ _ _ _ => pts_nil) (fun _ _ _ _ _ => (pe_cmpR op_gt (pe_ix ix_tup (pe_fld (pv 0) rfl) (pv 1) (fun _ _ => rfl)) pe_int (nomark _)))) pa_nil)))), ?_⟩
    refine ⟨_, rfl, st, n, ropes, s0, rfl, hS, ok, os, fun p H1 xs e1 hp0 hp hl hm => ?_⟩
    refine ⟨p, rfl, ⟨_, SqL.of hp⟩, fun D hD => ?_⟩
    refine lc_list (K := K) (a := p) (xs := Ns xs) (fun i H' => ∃ bs : List Bool, Ex H1 H' ∧ H' D = some (.lst (Bs bs)) ∧ bs = (xs.take i).map fun x => decide (0 < s0.blues.getD x 0)) ⟨[], exn hD, upd_same, rfl⟩ (fun i H' _ ⟨_, e, _⟩ => SqL.of (e _ _ hp)) ?_ ?_
    · rintro i v H2 hi ⟨bs, e2, hD2, rfl⟩
      obtain ⟨x, hx, rfl⟩ := ns_getL hi
      have hxn := ((hm x).mp (List.mem_of_getElem? hx)).1
      have hu := get_of_getD (l := s0.blues) (i := x) (by omega)
      have e12 : Ex H H2 := e1.trans e2
      refine ⟨rfl, _, rfl, _, _, _, _, _, rfl, e12 _ _ hSi, T.cS, T.nSb, stdF_b .., _, rfl, _, _, _, _, rfl, rfl, SqT.of (e12 _ _ hB), atI_nat (ns_get hu), _, _, rfl, rfl, _, hD2, sz2 ?_, (xs.take i).map (fun x => decide (0 < s0.blues.getD x 0)) ++ [decide (0 < s0.blues.getD x 0)], ex_mut e2 hD, ?_, ?_⟩
      · rw [List.length_map, List.length_map]
        have := List.length_take_le i xs
        have := lt_of_get hx
        have := List.length_take (i := i) (l := xs)
        omega
      · rw [upd_same]
        have ed : decide ((0 : Int) < (s0.blues.getD x 0 : Int)) = decide (0 < s0.blues.getD x 0) := by
          by_cases c : 0 < s0.blues.getD x 0
          · rw [decide_eq_true c, decide_eq_true (by omega)]
          · rw [decide_eq_false c, decide_eq_false (by omega)]
        rw [← ed]
        exact congrArg some (congrArg HO.lst (bs_snoc _ _))
      · rw [take_more hx, List.map_append]
        rfl
    · rintro H2 ⟨bs, e2, hD2, hbs⟩
      rw [List.take_of_length_le (by rw [ns_len]; exact Nat.le_refl _)] at hbs
      refine ⟨_, _, rfl, SqL.of hD2, hq _ H2 (e1.trans e2) ?_⟩
      rw [hbs, List.any_map, List.any_eq_true]
      constructor
      · rintro ⟨x, hx, hb⟩
        have hb2 : 0 < s0.blues.getD x 0 := of_decide_eq_true hb
        obtain ⟨h1, u, k, h2, hw⟩ := (hm x).mp hx
        exact ⟨u, k, h2, x, hw, hb2⟩
      · rintro ⟨u, k, h2, x, hw, hb⟩
        have hxn := TM.getD_lt hb
        exact ⟨x, (hm x).mpr ⟨by omega, u, k, h2, hw⟩, decide_eq_true hb⟩
end
end Tw

namespace Tw
open PySem PySem.Spec PyProof.Rows L2 TM
theorem sc__lengths_to_blue : FnScope ["standing", "pairs", "lengths", "length", "tail", "head", "many"] ["standing", "pairs"] (defScope s__lengths_to_blue) := ⟨rfl, rfl, rfl, by decide +kernel, rfl, by decide +kernel, by decide +kernel⟩
section
variable {P : Program} {w : World} {K : PySem.W.Frag} {mg : Str → Option Value} {base : Heap}
def mul (n : Nat) (σ : L2.St) (_ : Hp) : Nat := match σ with
  | _ :: _ :: _ :: some (V.int z) :: _ => n - z.toNat
  | _ => 0
theorem ok__lengths_to_blue (T : Txt K mg) (D : Dfn K mg "_lengths_to_blue" s__lengths_to_blue) :
    Cal P w K mg base "_lengths_to_blue" 1 ["standing", "pairs"] (sp__lengths_to_blue K) := by
  refine D.cal (k := 0) sc__lengths_to_blue (fun vs H Q E h => ?_) (fun _ _ _ _ _ _ us hl => match us, hl with | [_, _], _ => rfl) (fun cdv A outer s H vs Q E hr h => ?_)
  · obtain ⟨_, _, _, _, _, _, rfl, _⟩ := h
    rfl
  · obtain ⟨st, n, ropes, s0, ap, arrows, rfl, hS, lb, n24, hP, hend, h40, hq⟩ := h
    obtain ⟨dx, nt, rd, bl, cr, hSi, hN, hR, hB, hC⟩ := id hS
    obtain ⟨vs, hvs, hps⟩ := id hP
    have hvl := Paired.length hps
    refine ⟨_, (pss_cons (ps_setLc (i := 2) (own := [("many", 6)]) (g := (gName 6)) (tt := tYes) (te := (tIf (tTest (tOp rGt (tVar 6) (tC (.int 0)))) (tC (.int 0)) (tC .non))) rfl sc__lengths_to_blue.nd rfl rfl (sw_true rfl rfl rfl (by decide +kernel)) (pi_tup (pe_fld (pv 0) rfl)) (blkOk_by (N := ["standing", "pairs", "lengths", "length", "tail", "head", "many"]) (sc := defScope s__lengths_to_blue) (by decide +kernel)) (fun _ _ _ _ _ => (pg_name (i := 6) sc__lengths_to_blue.nd rfl (Or.inl rfl))) (fun _ _ _ _ _ => pts_nil) (fun _ _ _ _ _ => (pe_ifExp (pt_cmpR op_gt (pv 6) pe_int (nomark _)) pe_int pe_non)))
      (pss_cons (ps_set (i := 3) sc__lengths_to_blue.nd rfl (Or.inl rfl) pe_int)
      (pss_cons (ps_while PassesOwn.never (pt_cmpR op_in_seq (pv 3) (pv 2) (by rfl)) (pss_cons (ps_for PassesOwn.never rfl (pi_list (pv 1)) (pg_tup rfl (pgs_cons (pg_name (i := 4) sc__lengths_to_blue.nd rfl (Or.inl rfl)) (pgs_cons (pg_name (i := 5) sc__lengths_to_blue.nd rfl (Or.inl rfl)) pgs_nil))) (pss_one (ps_if (PW.pt (pw_and (pt_cmpR op_eq (pe_ix ix_list (pv 2) (pv 5) (fun _ _ => rfl)) (pv 3) (nomark _)) (pw_and1 (pt_cmpR op_isN (pe_ix ix_list (pv 2) (pv 4) (fun _ _ => rfl)) pe_non (nomark _))))) (pss_one (ps_asg (pe_op op_add (pv 3) pe_int) (pg_sub (pv 2) (pv 4) set_list))) pss_nil)))
      (pss_one (ps_aug (i := 3) sc__lengths_to_blue.nd rfl (Or.inl rfl) pe_int ip_add))))
      (pss_one (ps_ret (pv 2)))))), ?_⟩
    refine ⟨_, rfl, _, _, _, _, _, rfl, hSi, T.cS, T.nSb, stdF_b .., bl, rfl, ⟨_, SqT.of hB⟩, fun D hD => ?_⟩
    refine lc_tup (K := K) (a := bl) (xs := Ns s0.blues) (fun i H' => ∃ ls : List (Option Nat), Ex H H' ∧ H' D = some (.lst (ls.map oV)) ∧ ls.length = i ∧ ∀ u, u < i → ls[u]? = some (lev arrows s0.blues 0 u)) ⟨[], exn hD, upd_same, rfl, fun u hu => by omega⟩ (fun i H' _ ⟨_, e, _⟩ => SqT.of (e _ _ hB)) ?_ ?_
    · rintro i v H1 hi ⟨ls, e1, hD1, hl, hls⟩
      obtain ⟨x, hx, rfl⟩ := ns_getL hi
      have hin := lt_of_get hx
      have hxd := getD_of hx
      have go : ∀ o : Option Nat, o = lev arrows s0.blues 0 i → ∃ acc, H1 D = some (.lst acc) ∧ acc.length < sizeLine ∧ ∃ ls : List (Option Nat), Ex H (upd H1 D (.lst (acc ++ [oV o]))) ∧ upd H1 D (.lst (acc ++ [oV o])) D = some (.lst (ls.map oV)) ∧ ls.length = i + 1 ∧ ∀ u, u < i + 1 → ls[u]? = some (lev arrows s0.blues 0 u) := by
        intro o ho
        refine ⟨_, hD1, sz2 (by rw [List.length_map]; omega), ls ++ [o], ex_mut e1 hD, ?_, by rw [List.length_append, hl]; rfl, fun u hu => ?_⟩
        · rw [upd_same, List.map_append]
          rfl
        · by_cases c : u = i
          · subst c
            rw [List.getElem?_append_right (by omega), hl, Nat.sub_self, ho]
            rfl
          · rw [List.getElem?_append_left (by omega)]
            exact hls u (by omega)
      refine ⟨rfl, _, rfl, _, _, rfl, rfl, _, rfl, dI (fun c => ?_) (fun c => ?_)⟩
      · exact go (some 0) (by rw [lev_zero, hxd, if_pos (by omega)])
      · exact go none (by rw [lev_zero, hxd, if_neg (by omega)])
    rintro H1 ⟨ls, e1, hD1, hl, hls⟩
    rw [ns_len, lb] at hl hls
    refine while_by (fun σ H' => ∃ (L : Nat) (ls : List (Option Nat)) (g4 g5 : Option V), σ = [some (.ref st), some (.ref ap), some (.ref D), some (nV L), g4, g5, none] ∧ Ex H H' ∧ H' D = some (.lst (ls.map oV)) ∧ ls.length = n ∧ ∀ u, u < n → ls[u]? = some (lev arrows s0.blues L u)) (mul n) ⟨0, ls, _, _, rfl, e1, hD1, hl, hls⟩ ?_ ?_
    rotate_left
    · exact fun σ H Q Q' hh c => by
        obtain ⟨x, h1, y, h2, p, xs, h3, h4, h5, h6, k, h7, h8⟩ := c
        exact ⟨x, h1, y, h2, p, xs, h3, h4, h5, h6, k, h7, hh _ _ h8⟩
    clear hls hl hD1 e1 ls
    rintro _ H2 ⟨L, ls, g4, g5, rfl, e2, hD2, hl, hls⟩
    have hin : inV (nV L) (ls.map oV) = true ↔ ∃ u, u < n ∧ dst arrows s0.blues u = some L := by
      rw [in_oV]
      constructor
      · intro h
        obtain ⟨u, hu⟩ := List.getElem?_of_mem h
        have hun := lt_of_get hu
        rw [hl] at hun
        rw [hls u hun] at hu
        exact ⟨u, hun, (lev_some.mp (Option.some.inj hu)).1⟩
      · rintro ⟨u, hun, hd⟩
        have := hls u hun
        rw [lev_some.mpr ⟨hd, Nat.le_refl _⟩] at this
        exact List.mem_of_getElem? this
    refine ⟨_, rfl, _, rfl, D, _, rfl, .inl (SqL.of hD2), rfl, oVs_flat ls, _, rfl, ?_⟩
    by_cases c : inV (nV L) (ls.map oV) = true
    rotate_left
    · refine ifF c ?_
      have hall : ls.map oV = (List.range n).map fun u => oV (dst arrows s0.blues u) := by
        refine List.ext_getElem? fun u => ?_
        rcases Nat.lt_or_ge u n with l | l
        · rw [oVs_get (hls u l), List.getElem?_map, List.getElem?_range l, lev_all hend (fun v hv hd => c (hin.mpr ⟨v, hv, hd⟩)) l]
          rfl
        · rw [List.getElem?_eq_none (by rw [List.length_map]; omega), List.getElem?_eq_none (by rw [List.length_map, List.length_range]; exact l)]
      rw [hall] at hD2
      exact ⟨_, rfl, hq D H2 e2 hD hD2⟩
    · refine ifT c ?_
      obtain ⟨u0, hu0, hd0⟩ := hin.mp c
      have hLn := isD_lt hend hu0 (dst_some.mp hd0)
      refine ⟨_, rfl, _, rfl, ⟨_, SqL.of (e2 _ _ hvs)⟩, for_list (K := K) (a := ap) (xs := vs) (fun i σ H' => ∃ (ls : List (Option Nat)) (g4 g5 : Option V), σ = [some (.ref st), some (.ref ap), some (.ref D), some (nV L), g4, g5, none] ∧ Ex H H' ∧ H' D = some (.lst (ls.map oV)) ∧ ls.length = n ∧ ∀ u, u < n → ls[u]? = some (levI arrows s0.blues i L u)) ⟨ls, _, _, rfl, e2, hD2, hl, fun u hu => by rw [levI_zero]; exact hls u hu⟩ (fun i σ H' _ ⟨_, _, _, _, e, _⟩ => SqL.of (e _ _ hvs)) ?_ ?_⟩
      · clear hin c hls hl hD2 ls
        rintro i v σ H3 hi ⟨ls, g4, g5, rfl, e3, hD3, hl3, hls3⟩
        obtain ⟨p, hp, q, rfl, hqq⟩ := Paired.getL hps hi
        obtain ⟨p1, p2⟩ := hend p (List.mem_of_getElem? hp)
        have hp' : arrows[i]? = some (p.1, p.2) := hp
        have keep : ¬ (dst arrows s0.blues p.2 = some L ∧ levI arrows s0.blues i L p.1 = none) → ∃ (ls : List (Option Nat)) (g4 g5 : Option V), ([some (.ref st), some (.ref ap), some (.ref D), some (nV L), some (nV p.1), some (nV p.2), none] : L2.St) = [some (.ref st), some (.ref ap), some (.ref D), some (nV L), g4, g5, none] ∧ Ex H H3 ∧ H3 D = some (.lst (ls.map oV)) ∧ ls.length = n ∧ ∀ u, u < n → ls[u]? = some (levI arrows s0.blues (i + 1) L u) := fun no =>
          ⟨ls, _, _, rfl, e3, hD3, hl3, fun u hu => by rw [levI_same hp' no]; exact hls3 u hu⟩
        refine ⟨q, _, rfl, SqT.of (e3 _ _ hqq), rfl, _, _, rfl, _, _, rfl, rfl, ?_⟩
        refine ⟨_, rfl, _, rfl, _, _, _, _, rfl, rfl, SqL.of hD3, atI_nat (oVs_get (hls3 _ p2)), _, rfl, oV_scal _ _, _, rfl, dI (fun c1 => ?_) (fun c1 => ?_)⟩
        · have hb := levI_at.mp (oV_eq.mp c1)
          refine ⟨_, rfl, _, rfl, _, _, _, _, rfl, rfl, SqL.of hD3, atI_nat (oVs_get (hls3 _ p1)), rfl, _, rfl, dI (fun c2 => ?_) (fun c2 => ?_)⟩
          · have ha := oV_non.mp c2
            refine ⟨_, rfl, _, _, rfl, rfl, _, rfl, _, rfl, _, _, _, _, rfl, rfl, hD3, Evl.ixN_nat (by rw [List.length_map]; omega), ?_⟩
            refine ⟨ls.set p.1 (some (L + 1)), _, _, rfl, ex_mut e3 hD, ?_, by rw [List.length_set]; exact hl3, fun u hu => ?_⟩
            · rw [upd_same]
              exact congrArg some (congrArg HO.lst (oVs_set ls p.1 (some (L + 1))))
            · rw [levI_set hp' hb ha, List.getElem?_set]
              by_cases e : u = p.1
              · rw [if_pos e, if_pos e.symm, if_pos (by omega)]
              · rw [if_neg e, if_neg (fun z => e z.symm)]
                exact hls3 u hu
          · exact keep fun z => c2 (oV_non.mpr z.2)
        · exact keep fun z => c1 (oV_eq.mpr (levI_at.mpr z.1))
      · rintro σ H3 ⟨ls3, g4, g5, rfl, e3, hD3, hl3, hls3⟩
        refine ⟨_, rfl, _, _, rfl, rfl, ⟨L + 1, ls3, _, _, rfl, e3, hD3, hl3, fun u hu => ?_⟩, ?_⟩
        · rw [hls3 u hu, hvl, levI_full]
        · show n - ((L : Int) + 1).toNat < n - ((L : Int)).toNat
          omega
end
end Tw

namespace Tw
open PySem PySem.Spec PyProof.Rows L2 TM
theorem sc__least_ropes : FnScope ["pairs", "lengths", "starts", "ropes", "places", "remaining", "rope", "tail", "head"] ["pairs", "lengths", "starts"] (defScope s__least_ropes) := ⟨rfl, rfl, rfl, by decide +kernel, rfl, by decide +kernel, by decide +kernel⟩
section
variable {P : Program} {w : World} {K : PySem.W.Frag} {mg : Str → Option Value} {base : Heap}
def mug (σ : L2.St) (_ : Hp) : Nat := match σ with
  | _ :: _ :: _ :: _ :: _ :: some (V.int z) :: _ => z.toNat
  | _ => 0
theorem ok__least_ropes (T : Txt K mg) (D : Dfn K mg "_least_ropes" s__least_ropes) :
    Cal P w K mg base "_least_ropes" 1 ["pairs", "lengths", "starts"] (sp__least_ropes K) := by
  refine D.cal (k := 0) sc__least_ropes (fun vs H Q E h => ?_) (fun _ _ _ _ _ _ us hl => match us, hl with | [_, _, _], _ => rfl) (fun cdv A outer s H vs Q E hr h => ?_)
  · obtain ⟨_, _, _, _, _, _, _, _, rfl, _⟩ := h
    rfl
  · obtain ⟨ap, lp, sa, n, arrows, bl, starts, m, rfl, hP, hend, hlp, hsa, hne, hst, hmn, n24, h40, hq⟩ := h
    obtain ⟨vs, hvs, hps⟩ := id hP
    have hvl := Paired.length hps
    have hlget : ∀ u, u < n → ((List.range n).map fun u => oV (dst arrows bl u))[u]? = some (oV (dst arrows bl u)) := fun u hu => by
      rw [List.getElem?_map, List.getElem?_range hu]
      rfl
    obtain ⟨u0, hu0⟩ : ∃ u0, starts[0]? = some u0 := get_of_lt (List.length_pos_iff.mpr hne)
    obtain ⟨hu0n, hu0d⟩ := hst u0 (List.mem_of_getElem? hu0)
    refine ⟨_, (pss_cons (ps_set (i := 3) sc__least_ropes.nd rfl (Or.inl rfl) (pe_lst pa_nil))
      (pss_cons (ps_set (i := 4) sc__least_ropes.nd rfl (Or.inl rfl) (pv 2))
      (pss_cons (ps_set (i := 5) sc__least_ropes.nd rfl (Or.inl rfl) (pe_ix ix_list (pv 1) (pe_ix ix_list (pv 2) pe_int (fun _ _ => rfl)) (fun _ _ => rfl)))
      (pss_cons (ps_while PassesOwn.never (pt_cmpR op_gt (pv 5) pe_int (nomark _)) (pss_cons (ps_aug (i := 5) sc__least_ropes.nd rfl (Or.inl rfl) pe_int ip_sub)
      (pss_one (ps_for PassesOwn.never rfl (pi_enum rfl T.b_enumerate (pa_cons (pv 0) pa_nil)) (pg_tup rfl (pgs_cons (pg_name (i := 6) sc__least_ropes.nd rfl (Or.inl rfl)) (pgs_cons (pg_tup rfl (pgs_cons (pg_name (i := 7) sc__least_ropes.nd rfl (Or.inl rfl)) (pgs_cons (pg_name (i := 8) sc__least_ropes.nd rfl (Or.inl rfl)) pgs_nil))) pgs_nil))) (pss_one (ps_if (PW.pt (pw_and (pt_cmpR op_in_seq (pv 7) (pv 4) (by rfl)) (pw_and1 (pt_cmpR op_eq (pe_ix ix_list (pv 1) (pv 8) (fun _ _ => rfl)) (pv 5) (nomark _))))) (pss_cons (ps_expr (pe_bm PySem.F.plainAttrs_list PySem.F.slot_list_append PySem.F.type_list_append mt_append (pv 3) (pa_cons (pv 6) pa_nil)))
      (pss_cons (ps_set (i := 4) sc__least_ropes.nd rfl (Or.inl rfl) (pe_lst (pa_cons (pv 8) pa_nil)))
      (pss_one ps_break))) pss_nil))))))
      (pss_one (ps_ret (pv 3))))))), ?_⟩
    refine ⟨Nat.zero_le _, fun r hr => ?_⟩
    have e1 : Ex H (upd H r (.lst [])) := exn hr
    have h1 : upd H r (.lst []) r = some (.lst (Ns [])) := upd_same
    generalize upd H r (.lst []) = H1 at e1 h1 ⊢
    have hget0 := hlget u0 hu0n
    rw [hu0d] at hget0
    refine ⟨_, rfl, _, rfl, _, rfl, _, _, _, _, rfl, rfl, SqL.of (e1 _ _ hsa), atI_nat (j := 0) (ns_get hu0), _, _, _, _, rfl, rfl, SqL.of (e1 _ _ hlp), atI_nat hget0, ?_⟩
    show (tSeq (tWhile _ _) _ _ _ _)
    unfold tSeq
    refine while_by (fun σ H' => ∃ (rem : Nat) (acc pl : List Nat) (pp : Addr) (g6 g7 g8 : Option V), σ = [some (.ref ap), some (.ref lp), some (.ref sa), some (.ref r), some (.ref pp), some (nV rem), g6, g7, g8] ∧ Ex H H' ∧ H' r = some (.lst (Ns acc)) ∧ H' pp = some (.lst (Ns pl)) ∧ pp ≠ r ∧ pl ≠ [] ∧ (∀ q ∈ pl, dst arrows bl q = some rem) ∧ acc ++ greedy arrows bl pl rem = greedy arrows bl starts m ∧ acc.length + rem = m) mug
      ⟨m, [], starts, sa, _, _, _, rfl, e1, h1, e1 _ _ hsa, ne_of_none hsa hr, hne, fun q hq => (hst q hq).2, rfl, Nat.zero_add _⟩ ?_ ?_
    rotate_left
    · exact fun σ H Q Q' hh c => by
        obtain ⟨x, h1, i, j, h2, h3, k, h7, h8⟩ := c
        exact ⟨x, h1, i, j, h2, h3, k, h7, hh _ _ h8⟩
    rintro _ H2 ⟨rem, acc, pl, pp, g6, g7, g8, rfl, e2, hacc, hpl, npr, hpne, hpd, hgr, hlen⟩
    refine ⟨_, rfl, _, _, rfl, rfl, _, rfl, dI (fun c => ?_) (fun c => ?_)⟩
    rotate_left
    · have r0 : rem = 0 := by omega
      subst r0
      have : acc = greedy arrows bl starts m := by
        rw [← hgr]
        exact (List.append_nil _).symm
      subst this
      exact ⟨_, rfl, hq r H2 e2 hr hacc⟩
    · obtain ⟨k, rfl⟩ : ∃ k, rem = k + 1 := ⟨rem - 1, by omega⟩
      have ez : (((k + 1 : Nat) : Int) - 1) = (k : Int) := by omega
      obtain ⟨p0, hp0⟩ := List.exists_mem_of_ne_nil pl hpne
      obtain ⟨i0, t0, h0, hfi, hai, hti, hdi⟩ := fit_ex hp0 (hpd p0 hp0)
      refine ⟨_, rfl, _, _, rfl, rfl, ?_⟩
      refine ⟨_, rfl, _, _, rfl, SqL.of (e2 _ _ hvs), for_it walk_enum (fun j σ H' => ∃ g6 g7 g8, σ = [some (.ref ap), some (.ref lp), some (.ref sa), some (.ref r), some (.ref pp), some (V.int (((k + 1 : Nat) : Int) - 1)), g6, g7, g8] ∧ Ex H H' ∧ H' r = some (.lst (Ns acc)) ∧ H' pp = some (.lst (Ns pl)) ∧ ∀ j' p, j' < j → arrows[j']? = some p → fit arrows bl pl k p = false) ⟨_, _, _, rfl, e2, hacc, hpl, fun j' p hj => by omega⟩ (fun i σ H' _ ⟨_, _, _, _, e, _⟩ => SqL.of (e _ _ hvs)) ?_ ?_⟩
      · rintro j _ σ H3 H4 hj ⟨g6, g7, g8, rfl, e3, hacc3, hpl3, hno⟩ ⟨tp, u, v, rfl, htp, rfl, hu, hv⟩
        have hu' : V.int (j : Int) = u := Option.some.inj hu
        subst hu'
        obtain ⟨p, hp, q, rfl, hqq⟩ := Paired.getL hps hv
        obtain ⟨p1, p2⟩ := hend p (List.mem_of_getElem? hp)
        have e34 : Ex H3 (upd H3 tp (.tup [V.int (j : Int), V.ref q])) := exn htp
        have htv : upd H3 tp (.tup [V.int (j : Int), V.ref q]) tp = some (.tup [V.int (j : Int), V.ref q]) := upd_same
        generalize upd H3 tp (.tup [V.int (j : Int), V.ref q]) = H4 at e34 htv ⊢
        have e4 : Ex H H4 := e3.trans e34
        have hpl4 := e34 _ _ hpl3
        have hacc4 := e34 _ _ hacc3
        have keep : ¬ (p.1 ∈ pl ∧ dst arrows bl p.2 = some k) → ∃ g6 g7 g8, ([some (.ref ap), some (.ref lp), some (.ref sa), some (.ref r), some (.ref pp), some (V.int (((k + 1 : Nat) : Int) - 1)), some (nV j), some (nV p.1), some (nV p.2)] : L2.St) = [some (.ref ap), some (.ref lp), some (.ref sa), some (.ref r), some (.ref pp), some (V.int (((k + 1 : Nat) : Int) - 1)), g6, g7, g8] ∧ Ex H H4 ∧ H4 r = some (.lst (Ns acc)) ∧ H4 pp = some (.lst (Ns pl)) ∧ ∀ j' p, j' < j + 1 → arrows[j']? = some p → fit arrows bl pl k p = false := fun no =>
          ⟨_, _, _, rfl, e4, hacc4, hpl4, fun j' p' hj' hp' => by
            by_cases ej : j' = j
            · subst ej
              have ep : p' = p := Option.some.inj (hp'.symm.trans hp)
              subst ep
              exact fit_false no
            · exact hno j' p' (by omega) hp'⟩
        refine ⟨tp, _, rfl, SqT.of htv, rfl, _, _, rfl, _, _, rfl, q, _, rfl, SqT.of (e4 _ _ hqq), rfl, _, _, rfl, _, _, rfl, rfl, rfl, ?_⟩
        refine ⟨_, rfl, _, rfl, pp, _, rfl, .inl (SqL.of hpl4), rfl, ns_all pl, _, rfl, ?_⟩
        by_cases c1 : p.1 ∈ pl
        · refine ifT (c := inV (nV p.1) (Ns pl) = true) (by rw [in_ns]; exact List.contains_iff_mem.mpr c1) ?_
          refine ⟨_, rfl, _, rfl, _, _, _, _, rfl, rfl, SqL.of (e4 _ _ hlp), atI_nat (hlget _ p2), _, rfl, ?_⟩
          refine ⟨(by
            show scal _ (V.int (((k + 1 : Nat) : Int) - 1)) = true
            rw [ez]
            exact oV_scal _ _), _, rfl, dI (fun c2 => ?_) (fun c2 => ?_)⟩
          · have hd2 := oV_eq.mp (c2.trans (vI ez))
            have hf : fit arrows bl pl k p = true := fit_true.mpr ⟨c1, hd2⟩
            have hfj := findIdx_of hp hf (fun i q hi hq => hno i q hi hq)
            have hgs := greedy_succ (t := p.1) (h := p.2) hfj hp
            have hal := lt_of_get hp
            refine ⟨_, rfl, .inl ⟨rfl, _, SqL.of hacc4⟩, _, rfl, _, _, _, rfl, rfl, hacc4, sz2 (by rw [ns_len]; omega), ?_⟩
            refine ⟨_, rfl, sz1 (by show 1 ≤ 100000; decide), fun p' hp' => ?_⟩
            have e5 : Ex H (upd H4 r (.lst (Ns acc ++ [nV j]))) := ex_mut e4 hr
            have h5 : upd H4 r (.lst (Ns acc ++ [nV j])) r = some (.lst (Ns acc ++ [nV j])) := upd_same
            refine ⟨⟨k, acc ++ [j], [p.2], p', _, _, _, congrArg (fun z => [some (V.ref ap), some (V.ref lp), some (V.ref sa), some (V.ref r), some (V.ref p'), some z, some (nV j), some (nV p.1), some (nV p.2)]) (vI ez), fun a o ha => exn hp' a o (e5 a o ha), ?_, upd_same, (ne_of_none h5 hp').symm, (fun z => nomatch z), fun q hq => ?_, ?_, ?_⟩, ?_⟩
            · rw [← ns_snoc]
              exact upd_get hp' h5
            · rw [List.mem_singleton.mp hq]
              exact hd2
            · rw [List.append_assoc, ← hgr, hgs]
              rfl
            · rw [List.length_append]
              simp
              omega
            · show (((k + 1 : Nat) : Int) - 1).toNat < (((k + 1 : Nat) : Int)).toNat
              omega
          · exact keep fun z => c2 ((oV_eq.mpr z.2).trans (vI ez).symm)
        · refine ifF (c := inV (nV p.1) (Ns pl) = true) (by rw [in_ns]; exact fun z => c1 (List.contains_iff_mem.mp z)) ?_
          exact keep fun z => c1 z.1
      · rintro σ H3 ⟨g6, g7, g8, rfl, e3, hacc3, hpl3, hno⟩
        exact (findIdx_no hfi fun i q hi hq => hno i q (by omega) hq).elim
end
end Tw

namespace Tw
open PySem PySem.Spec PyProof.Rows L2 TM
theorem sc_meeting_way : FnScope ["standing", "pairs", "lengths", "starts", "station", "many", "shortest", "nearest", "ropes"] ["standing"] (defScope s_meeting_way) := ⟨rfl, rfl, rfl, by decide +kernel, rfl, by decide +kernel, by decide +kernel⟩
section
variable {P : Program} {w : World} {K : PySem.W.Frag} {mg : Str → Option Value} {base : Heap}

theorem ok_meeting_way (T : Txt K mg) (D : Dfn K mg "meeting_way" s_meeting_way) (c__least_ropes : Cal P w K mg base "_least_ropes" 1 ["pairs", "lengths", "starts"] (sp__least_ropes K)) (c__lengths_to_blue : Cal P w K mg base "_lengths_to_blue" 1 ["standing", "pairs"] (sp__lengths_to_blue K)) (c_arrows_of : Cal P w K mg base "arrows_of" 3 ["standing"] (sp_arrows_of K)) :
    Cal P w K mg base "meeting_way" 4 ["standing"] (sp_meeting_way K) := by
  refine D.cal (k := 3) sc_meeting_way (fun vs H Q E h => ?_) (fun _ _ _ _ _ _ us hl => match us, hl with | [_], _ => rfl) (fun cdv A outer s H vs Q E hr h => ?_)
  · obtain ⟨_, _, _, _, rfl, _⟩ := h
    rfl
  · obtain ⟨st, n, ropes, s0, rfl, hS, ok, os, hq0, hq1⟩ := h
    obtain ⟨dx, nt, rd, bl, cr, hSi, hN, hR, hB, hC⟩ := id hS
    have n24 := ok.n24
    have h40 := ok.m40
    have lr := os.lr
    have lb := os.lb
    have hends := fun p hp => arr_mem (cars := s0.cars) ok.ends p hp
    have hend : EndsLt n (as ropes s0) := fun p hp => ⟨(hends p hp).1, (hends p hp).2.1⟩
    have hal : (as ropes s0).length = ropes.length := arr_length os.lc
    refine ⟨_, (pss_cons (ps_set (i := 1) sc_meeting_way.nd rfl (Or.inl rfl) (pe_cal c_arrows_of (hr.mono (by decide)) (pa_cons (pv 0) pa_nil)))
      (pss_cons (ps_set (i := 2) sc_meeting_way.nd rfl (Or.inr rfl) (pe_cal c__lengths_to_blue (hr.mono (by decide)) (pa_cons (pv 0) (pa_cons (pv 1) pa_nil))))
      (pss_cons (ps_set (i := 3) sc_meeting_way.nd rfl (Or.inl rfl) (pe_lst pa_nil))
      (pss_cons (ps_for PassesOwn.never rfl (pi_enumT rfl T.b_enumerate (pa_cons (pe_fld (pv 0) rfl) pa_nil)) (pg_tup rfl (pgs_cons (pg_name (i := 4) sc_meeting_way.nd rfl (Or.inl rfl)) (pgs_cons (pg_name (i := 5) sc_meeting_way.nd rfl (Or.inl rfl)) pgs_nil))) (pss_one (ps_if (PW.pt (pw_and (pt_cmpR op_gt (pv 5) pe_int (nomark _)) (pw_and1 (pt_cmpR op_notN (pe_ix ix_list (pv 2) (pv 4) (fun _ _ => rfl)) pe_non (nomark _))))) (pss_one (ps_expr (pe_bm PySem.F.plainAttrs_list PySem.F.slot_list_append PySem.F.type_list_append mt_append (pv 3) (pa_cons (pv 4) pa_nil)))) pss_nil)))
      (pss_cons (ps_if (pt_cmpR op_eq (pe_callB call_len_seq (by rfl) T.b_len (by decide +kernel) (pa_cons (pv 3) pa_nil)) pe_int (nomark _)) (pss_one (ps_ret pe_non)) pss_nil)
      (pss_cons (ps_set (i := 6) sc_meeting_way.nd rfl (Or.inr rfl) (pe_callB (cr_min rfl) (by rfl) T.b_min (by decide +kernel) (pa_cons (pe_lc (own := [("station", 4)]) (g := (gName 4)) (tt := tYes) (te := (tOp (rIxL K) (tVar 2) (tVar 4))) rfl sc_meeting_way.nd (pi_list (pv 3)) (blkOk_by (N := ["standing", "pairs", "lengths", "starts", "station", "many", "shortest", "nearest", "ropes"]) (sc := defScope s_meeting_way) (by decide +kernel)) (fun _ _ _ _ _ => (pg_name (i := 4) sc_meeting_way.nd rfl (Or.inl rfl))) (fun _ _ _ _ _ => pts_nil) (fun _ _ _ _ _ => (pe_ix ix_list (pv 2) (pv 4) (fun _ _ => rfl)))) pa_nil)))
      (pss_cons (ps_setLc (i := 7) (own := [("station", 4)]) (g := (gName 4)) (tt := (tTest (tOp rEq (tOp (rIxL K) (tVar 2) (tVar 4)) (tVar 6)))) (te := (tVar 4)) rfl sc_meeting_way.nd rfl rfl (sw_true rfl rfl rfl (by decide +kernel)) (pi_list (pv 3)) (blkOk_by (N := ["standing", "pairs", "lengths", "starts", "station", "many", "shortest", "nearest", "ropes"]) (sc := defScope s_meeting_way) (by decide +kernel)) (fun _ _ _ _ _ => (pg_name (i := 4) sc_meeting_way.nd rfl (Or.inl rfl))) (fun _ _ _ _ _ => pts_one (pt_cmpR op_eq (pe_ix ix_list (pv 2) (pv 4) (fun _ _ => rfl)) (pv 6) (nomark _))) (fun _ _ _ _ _ => (pv 4)))
      (pss_cons (ps_set (i := 8) sc_meeting_way.nd rfl (Or.inl rfl) (pe_cal c__least_ropes (hr.mono (by decide)) (pa_cons (pv 1) (pa_cons (pv 2) (pa_cons (pv 7) pa_nil)))))
      (pss_cons (ps_if (pt_cmpR op_eq (pv 6) pe_int (nomark _)) (pss_one (ps_ret (pe_tup (pa_cons (pe_ix ix_list (pv 7) pe_int (fun _ _ => rfl)) (pa_cons (pv 8) pa_nil))))) pss_nil)
      (pss_one (ps_ret (pe_tup (pa_cons (pe_ix ix_tup (pe_ix ix_list (pv 1) (pe_ix ix_list (pv 8) pe_int (fun _ _ => rfl)) (fun _ _ => rfl)) pe_int (fun _ _ => rfl)) (pa_cons (pv 8) pa_nil)))))))))))))), ?_⟩
    refine ⟨_, rfl, st, n, ropes, s0, rfl, hS, os.lc, os.c01, h40, fun ap H1 e1 hap0 hap => ?_⟩
    refine ⟨_, rfl, _, rfl, st, n, ropes, s0, ap, as ropes s0, rfl, hS.kp (exk e1), lb, n24, hap, hend, by omega, fun lp H2 e2 hlp0 hlp => ?_⟩
    have e12 : Ex H H2 := e1.trans e2
    have hap2 : PairsL H2 ap (as ropes s0) := hap.kp (exk e2)
    have hlget : ∀ u, u < n → ((List.range n).map fun u => oV (dst (as ropes s0) s0.blues u))[u]? = some (oV (dst (as ropes s0) s0.blues u)) := fun u hu => by
      rw [List.getElem?_map, List.getElem?_range hu]
      rfl
    refine ⟨Nat.zero_le _, fun sp hsp => ?_⟩
    have e3 : Ex H2 (upd H2 sp (.lst [])) := exn hsp
    have h3 : upd H2 sp (.lst []) sp = some (.lst []) := upd_same
    generalize upd H2 sp (.lst []) = H3 at e3 h3 ⊢
    refine ⟨_, rfl, _, _, _, _, _, rfl, (e12.trans e3) _ _ hSi, T.cS, T.nSr, stdF_r .., _, _, rfl, SqT.of ((e12.trans e3) _ _ hR), for_it walk_enumT (fun i σ H' => ∃ g4 g5, σ = [some (.ref st), some (.ref ap), some (.ref lp), some (.ref sp), g4, g5, none, none, none] ∧ Ex H2 H' ∧ H' sp = some (.lst (Ns ((List.range i).filter fun u => decide (0 < s0.reds.getD u 0) && (dst (as ropes s0) s0.blues u).isSome)))) ⟨_, _, rfl, e3, h3⟩ (fun i σ H' _ ⟨_, _, _, e, _⟩ => SqT.of ((e12.trans e) _ _ hR)) ?_ ?_⟩
    · rintro i _ σ H4 H5 hi ⟨g4, g5, rfl, e4, hsp4⟩ ⟨tp, u, v, rfl, htp, rfl, hu, hv⟩
      have hu' : V.int (i : Int) = u := Option.some.inj hu
      subst hu'
      obtain ⟨x, hx, rfl⟩ := ns_getL hv
      have hxd := getD_of hx
      rw [ns_len] at hi
      have e45 : Ex H4 (upd H4 tp (.tup [V.int (i : Int), nV x])) := exn htp
      have htv : upd H4 tp (.tup [V.int (i : Int), nV x]) tp = some (.tup [V.int (i : Int), nV x]) := upd_same
      generalize upd H4 tp (.tup [V.int (i : Int), nV x]) = H5 at e45 htv ⊢
      have e5 : Ex H2 H5 := e4.trans e45
      have hsp5 := e45 _ _ hsp4
      have keep : (decide (0 < s0.reds.getD i 0) && (dst (as ropes s0) s0.blues i).isSome) = false → ∃ g4 g5, ([some (.ref st), some (.ref ap), some (.ref lp), some (.ref sp), some (nV i), some (nV x), none, none, none] : L2.St) = [some (.ref st), some (.ref ap), some (.ref lp), some (.ref sp), g4, g5, none, none, none] ∧ Ex H2 H5 ∧ H5 sp = some (.lst (Ns ((List.range (i + 1)).filter fun u => decide (0 < s0.reds.getD u 0) && (dst (as ropes s0) s0.blues u).isSome))) := fun no =>
        ⟨_, _, rfl, e5, by
          rw [rg_filter, if_neg (by rw [no]; decide), List.append_nil]
          exact hsp5⟩
      refine ⟨tp, _, rfl, SqT.of htv, rfl, _, _, rfl, _, _, rfl, rfl, ?_⟩
      refine ⟨_, rfl, _, _, rfl, rfl, _, rfl, dI (fun c => ?_) (fun c => ?_)⟩
      · refine ⟨_, rfl, _, rfl, _, _, _, _, rfl, rfl, SqL.of (e5 _ _ hlp), atI_nat (hlget i (by omega)), rfl, _, rfl, nI (fun c2 => ?_) (fun c2 => ?_)⟩
        · have hl := rg_len (fun u => decide (0 < s0.reds.getD u 0) && (dst (as ropes s0) s0.blues u).isSome) i
          refine ⟨_, rfl, .inl ⟨rfl, _, SqL.of hsp5⟩, _, rfl, _, _, _, rfl, rfl, hsp5, sz2 (by rw [ns_len]; omega), _, _, rfl, ex_mut e5 hsp, ?_⟩
          have hs : (dst (as ropes s0) s0.blues i).isSome = true := by
            cases q : dst (as ropes s0) s0.blues i with
            | none => exact (c2 (oV_non.mpr q)).elim
            | some _ => rfl
          rw [upd_same, rg_filter, if_pos (by rw [hs, decide_eq_true (show 0 < s0.reds.getD i 0 by omega)]; rfl)]
          exact congrArg some (congrArg HO.lst (ns_snoc _ i))
        · exact keep (by rw [oV_non.mp c2]; simp)
      · exact keep (by rw [decide_eq_false (show ¬ 0 < s0.reds.getD i 0 by omega)]; rfl)
    rintro σ H4 ⟨g4, g5, rfl, e4, hsp4⟩
    rw [ns_len, lr] at hsp4
    obtain ⟨S, hSd⟩ : ∃ S, S = (List.range n).filter fun u => decide (0 < s0.reds.getD u 0) && (dst (as ropes s0) s0.blues u).isSome := ⟨_, rfl⟩
    rw [← hSd] at hsp4
    have hmem : ∀ u, u ∈ S ↔ u < n ∧ 0 < s0.reds.getD u 0 ∧ (dst (as ropes s0) s0.blues u).isSome = true := fun u => by
      rw [hSd, List.mem_filter, List.mem_range, Bool.and_eq_true, decide_eq_true_iff]
    have hSl : S.length ≤ n := by
      rw [hSd]
      exact rg_len _ _
    refine ⟨_, rfl, _, _, rfl, .inl (SqL.of hsp4), rfl, _, rfl, dI (fun c => ?_) (fun c => ?_)⟩
    · have hS0 : S = [] := List.length_eq_zero_iff.mp (by
        have := nV_eq.mp c
        rw [ns_len] at this
        omega)
      refine hq0 (meet_no fun u hu hr => ?_) H4 (e12.trans e4)
      cases q : dst (as ropes s0) s0.blues u with
      | none => rfl
      | some k =>
        have := (hmem u).mpr ⟨hu, hr, by rw [q]; rfl⟩
        rw [hS0] at this
        cases this
    have hSne : 0 < S.length := by
      rcases Nat.eq_zero_or_pos S.length with z | z
      · exact (c (nV_eq.mpr (by rw [ns_len, z]; rfl))).elim
      · exact z
    refine ⟨_, rfl, _, rfl, ⟨_, SqL.of hsp4⟩, fun D hD => ?_⟩
    have hDH2 : H2 D = none := back e4 hD
    refine lc_list (K := K) (a := sp) (xs := Ns S) (fun i H' => Ex H2 H' ∧ H' sp = some (.lst (Ns S)) ∧ H' D = some (.lst (((S.take i).map fun u => (((dst (as ropes s0) s0.blues u).getD 0 : Nat) : Int)).map V.int))) ⟨e4.trans (exn hD), upd_get hD hsp4, upd_same⟩ (fun i H' _ ⟨_, h, _⟩ => SqL.of h) ?_ ?_
    · rintro i v H5 hi ⟨e5, hsp5, hD5⟩
      obtain ⟨u, hu, rfl⟩ := ns_getL hi
      obtain ⟨hun, hur, hud⟩ := (hmem u).mp (List.mem_of_getElem? hu)
      obtain ⟨k, hk⟩ := Option.isSome_iff_exists.mp hud
      have hg := hlget u hun
      rw [hk] at hg
      have nsD : sp ≠ D := ne_of_none hsp4 hD
      have hil := lt_of_get hu
      refine ⟨rfl, _, rfl, _, rfl, _, _, _, _, rfl, rfl, SqL.of (e5 _ _ hlp), atI_nat hg, _, hD5, sz2 ?_, ex_mut e5 hDH2, ?_, ?_⟩
      · rw [List.length_map, List.length_map, List.length_take]
        omega
      · rw [upd_ne nsD]
        exact hsp5
      · rw [upd_same, take_more hu, List.map_append, List.map_append]
        show some (HO.lst (_ ++ [V.int (k : Int)])) = some (HO.lst (_ ++ [V.int (((dst (as ropes s0) s0.blues u).getD 0 : Nat) : Int)]))
        rw [hk]
        rfl
    rintro H5 ⟨e5, hsp5, hD5⟩
    rw [List.take_of_length_le (by rw [ns_len]; exact Nat.le_refl _)] at hD5
    refine ⟨_, _, rfl, SqL.of hD5, by rw [List.length_map]; exact hSne, fun m hm hmin => ?_⟩
    obtain ⟨u0, hu0, rfl⟩ := List.mem_map.mp hm
    obtain ⟨hu0n, hu0r, hu0d⟩ := (hmem u0).mp hu0
    obtain ⟨k, hk⟩ := Option.isSome_iff_exists.mp hu0d
    have hk0 : (dst (as ropes s0) s0.blues u0).getD 0 = k := by
      rw [hk]
      rfl
    rw [hk0] at hmin ⊢
    have hkn : k < n := isD_lt hend hu0n (dst_some.mp hk)
    have hleast : IsLeast n (as ropes s0) s0.reds s0.blues k := by
      refine ⟨⟨u0, hu0n, hu0r, hk⟩, fun u j hu hr hj => ?_⟩
      have := hmin _ (List.mem_map.mpr ⟨u, (hmem u).mpr ⟨hu, hr, by rw [hj]; rfl⟩, rfl⟩)
      rw [hj] at this
      have : (k : Int) ≤ (j : Int) := this
      omega
    have hmeet := meet_of hleast
    have hnear : near n (as ropes s0) s0.reds s0.blues k = S.filter fun u => dst (as ropes s0) s0.blues u == some k := by
      rw [hSd, List.filter_filter]
      unfold near
      refine List.filter_congr fun u _ => ?_
      cases q : dst (as ropes s0) s0.blues u with
      | none => simp
      | some j => simp [Bool.and_comm]
    have hnne := near_ne hleast
    refine ⟨_, rfl, _, rfl, ⟨_, SqL.of hsp5⟩, fun D2 hD2 => ?_⟩
    have hD2H2 : H2 D2 = none := back e5 hD2
    refine lc_list (K := K) (a := sp) (xs := Ns S) (fun i H' => Ex H2 H' ∧ H' sp = some (.lst (Ns S)) ∧ H' D2 = some (.lst (Ns ((S.take i).filter fun u => dst (as ropes s0) s0.blues u == some k)))) ⟨e5.trans (exn hD2), upd_get hD2 hsp5, upd_same⟩ (fun i H' _ ⟨_, h, _⟩ => SqL.of h) ?_ ?_
    · rintro i v H6 hi ⟨e6, hsp6, hD6⟩
      obtain ⟨u, hu, rfl⟩ := ns_getL hi
      obtain ⟨hun, hur, hud⟩ := (hmem u).mp (List.mem_of_getElem? hu)
      have nsD : sp ≠ D2 := ne_of_none hsp5 hD2
      have hil := lt_of_get hu
      refine ⟨rfl, _, rfl, _, rfl, _, _, _, _, rfl, rfl, SqL.of (e6 _ _ hlp), atI_nat (hlget u hun), _, rfl, oV_scal _ _, _, rfl, dI (fun c2 => ?_) (fun c2 => ?_)⟩
      · have hd := oV_eq.mp c2
        refine ⟨_, rfl, _, hD6, sz2 ?_, ex_mut e6 hD2H2, ?_, ?_⟩
        · rw [ns_len]
          have := fl_len S (fun u => dst (as ropes s0) s0.blues u == some k) i
          omega
        · rw [upd_ne nsD]
          exact hsp6
        · rw [upd_same, ns_filter S _ hu, if_pos (by rw [hd]; exact beq_self_eq_true _)]
          exact congrArg some (congrArg HO.lst (ns_snoc _ u))
      · refine ⟨e6, hsp6, ?_⟩
        rw [ns_filter S _ hu, if_neg, List.append_nil]
        · exact hD6
        · intro z
          exact c2 (oV_eq.mpr (beq_iff_eq.mp z))
    rintro H6 ⟨e6, hsp6, hD6⟩
    rw [List.take_of_length_le (by rw [ns_len]; exact Nat.le_refl _), ← hnear] at hD6
    refine ⟨_, rfl, _, rfl, _, rfl, ap, lp, D2, n, as ropes s0, s0.blues, near n (as ropes s0) s0.reds s0.blues k, k, rfl, hap2.kp (exk e6), hend, e6 _ _ hlp, hD6, hnne, fun u hu => ⟨(mem_near.mp hu).1, (mem_near.mp hu).2.2⟩, hkn, n24, by omega, fun rp H7 e7 hrp0 hrp => ?_⟩
    have e27 : Ex H2 H7 := e6.trans e7
    have e07 : Ex H H7 := e12.trans e27
    have hrpH : H rp = none := back (e12.trans e6) hrp0
    refine ⟨_, rfl, rfl, _, rfl, dI (fun c2 => ?_) (fun c2 => ?_)⟩
    · have k0 : k = 0 := by
        have := nV_eq.mp c2
        omega
      subst k0
      obtain ⟨x, hx⟩ : ∃ x, (near n (as ropes s0) s0.reds s0.blues 0)[0]? = some x := get_of_lt (List.length_pos_iff.mpr hnne)
      refine ⟨_, rfl, _, _, _, _, rfl, rfl, SqL.of (e7 _ _ hD6), atI_nat (j := 0) (ns_get hx), _, rfl, sz1 (by show 2 ≤ 100000; decide), fun t ht => ?_⟩
      have et : Ex H7 (upd H7 t (.tup [nV x, .ref rp])) := exn ht
      refine hq1 x _ ?_ t rp _ (e07.trans et) hrpH upd_same (et _ _ hrp)
      have hh : (near n (as ropes s0) s0.reds s0.blues 0).headD 0 = x := by
        cases q : near n (as ropes s0) s0.reds s0.blues 0 with
        | nil => exact (hnne q).elim
        | cons y l =>
          rw [q] at hx
          exact Option.some.inj hx
      unfold meetS
      rw [hmeet, if_pos rfl, hh]
    · obtain ⟨k', rfl⟩ : ∃ k', k = k' + 1 := ⟨k - 1, by
        have : ¬ k = 0 := fun z => c2 (by rw [z]; rfl)
        omega⟩
      obtain ⟨p0, hp0⟩ := List.exists_mem_of_ne_nil _ hnne
      obtain ⟨i0, t0, h0, hfi, hai, hti, hdi⟩ := fit_ex hp0 (mem_near.mp hp0).2.2
      have hgs := greedy_succ hfi hai
      obtain ⟨avs, ax, hav1, hav2, hav3, hav4⟩ := (hap2.kp (exk e27)).get hai
      have hrp0' : (Ns (greedy (as ropes s0) s0.blues (near n (as ropes s0) s0.reds s0.blues (k' + 1)) (k' + 1)))[0]? = some (nV i0) := by
        rw [hgs]
        rfl
      refine ⟨_, rfl, _, rfl, _, _, _, _, rfl, rfl, SqL.of hrp, atI_nat (j := 0) hrp0', _, _, _, _, rfl, rfl, SqL.of hav1, atI_nat hav3, _, _, _, _, rfl, rfl, SqT.of hav4, rfl, _, rfl, sz1 (by show 2 ≤ 100000; decide), fun t ht => ?_⟩
      have et : Ex H7 (upd H7 t (.tup [nV t0, .ref rp])) := exn ht
      refine hq1 t0 _ ?_ t rp _ (e07.trans et) hrpH upd_same (et _ _ hrp)
      unfold meetS
      rw [hmeet, if_neg (by omega), hgs]
      have : (as ropes s0).getD i0 (0, 0) = (t0, h0) := by
        rw [List.getD_eq_getElem?_getD, hai]
        rfl
      show some (((as ropes s0).getD i0 (0, 0)).1, _) = _
      rw [this]
end
end Tw

namespace Tw
open PySem PySem.Spec PyProof.Rows L2 TM
theorem sc_meet_row : FnScope ["standing", "way", "rope"] ["standing"] (defScope s_meet_row) := ⟨rfl, rfl, rfl, by decide +kernel, rfl, by decide +kernel, by decide +kernel⟩

section
variable {P : Program} {w : World} {K : PySem.W.Frag} {mg : Str → Option Value} {base : Heap}
theorem ok_meet_row (T : Txt K mg) (D : Dfn K mg "meet_row" s_meet_row) (c_meeting_way : Cal P w K mg base "meeting_way" 4 ["standing"] (sp_meeting_way K)) : CalX P w K mg base "meet_row" 5 ["standing"] (sp_meet_row K) := by
  obtain ⟨fd, F⟩ := D.fn
  refine ⟨⟨fd, F.ok (CX := L2.CX P w) (k := 4) sc_meet_row (fun vs H Q E h => ?_) (fun cdv A outer s H vs Q E hr h => ?_), F.bindsN (fun _ _ _ _ _ _ us hl => match us, hl with | [_], _ => rfl)⟩, D.gl, F.kp⟩
  · obtain ⟨_, _, _, _, rfl, _⟩ := h
    rfl
  · obtain ⟨st, n, ropes, s0, rfl, hS, ok, os, hq0, hq1⟩ := h
    refine ⟨_, (pss_cons (ps_set (i := 1) sc_meet_row.nd rfl (Or.inl rfl) (pe_cal c_meeting_way (hr.mono (by decide)) (pa_cons (pv 0) pa_nil)))
      (pss_cons (ps_if (pt_cmpR op_isN (pv 1) pe_non (nomark _)) (pss_one (ps_raise rfl (takes_of rfl rfl rfl rfl) (pmk_own PySem.F.excBase_ValueError T.eNM T.gNM T.kNM (raises_own T.sNM T.tNM) rfl))) pss_nil)
      (pss_one (ps_ret (pe_lc (own := [("rope", 2)]) (g := (gName 2)) (tt := tYes) (te := (tTup (tCons (tVar 2) (tCons (tC (.str "red")) tNil)))) rfl sc_meet_row.nd (pi_list (pe_ix ix_tup (pv 1) pe_int (fun _ _ => rfl))) (blkOk_by (N := ["standing", "way", "rope"]) (sc := defScope s_meet_row) (by decide +kernel)) (fun _ _ _ _ _ => (pg_name (i := 2) sc_meet_row.nd rfl (Or.inl rfl))) (fun _ _ _ _ _ => pts_nil) (fun _ _ _ _ _ => (pe_tup (pa_cons (pv 2) (pa_cons pe_str pa_nil))))))))), ?_⟩
    refine ⟨_, rfl, st, n, ropes, s0, rfl, hS, ok, os, fun hm H1 e1 => ?_, fun u rs hm p q H1 e1 hq0' hp hq => ?_⟩
    · exact ⟨_, rfl, rfl, _, rfl, dT rfl (hq0 hm H1 e1)⟩
    · refine ⟨_, rfl, rfl, _, rfl, dF (fun z => nomatch z) ?_⟩
      refine ⟨_, rfl, _, _, _, _, rfl, rfl, SqT.of hp, rfl, q, rfl, ⟨_, SqL.of hq⟩, fun D0 hD => ?_⟩
      have hDH : H D0 = none := back e1 hD
      have hlen : rs.length ≤ n := by
        rcases Nat.lt_or_ge n rs.length with l | l
        · unfold meetS meet at hm
          split at hm
          · rename_i hx
            have e := (Prod.mk.inj (Option.some.inj hm)).2
            have h1 := greedy_len (as := as ropes s0) (bl := s0.blues) (Classical.choose hx) (near n (as ropes s0) s0.reds s0.blues (Classical.choose hx))
            obtain ⟨⟨v, a1, a2, a3⟩, _⟩ := Classical.choose_spec hx
            have h2 := isD_lt (fun p hp => ⟨(arr_mem (cars := s0.cars) ok.ends p hp).1, (arr_mem (cars := s0.cars) ok.ends p hp).2.1⟩) a1 (dst_some.mp a3)
            rw [e] at h1
            omega
          · cases hm
        · exact l
      have n24 := ok.n24
      refine lc_list (K := K) (a := q) (xs := Ns rs) (fun i H' => ∃ acc, Ex H H' ∧ H' q = some (.lst (Ns rs)) ∧ H' D0 = some (.lst acc) ∧ acc.length = i ∧ Paired (RideT H') acc ((rs.take i).map fun i => (i, false))) ⟨[], fun a o h => exn hD a o (e1 a o h), upd_get hD hq, upd_same, rfl, .nil⟩ (fun i H' _ ⟨_, _, h, _⟩ => SqL.of h) ?_ ?_
      · rintro i v H2 hi ⟨acc, e2, hq2, hD2, hl, hac⟩
        obtain ⟨r, hr, rfl⟩ := ns_getL hi
        have hrl := lt_of_get hr
        refine ⟨rfl, _, rfl, sz1 (by show 2 ≤ 100000; decide), fun t ht => ?_⟩
        have et : Ex H2 (upd H2 t (.tup [nV r, .str "red"])) := exn ht
        have hD3 := et _ _ hD2
        have nqD : q ≠ D0 := ne_of_none hq hD
        refine ⟨acc, hD3, sz2 (by omega), acc ++ [.ref t], ex_mut (e2.trans et) hDH, ?_, upd_same, by rw [List.length_append, hl]; rfl, ?_⟩
        · rw [upd_ne nqD]
          exact et _ _ hq2
        · rw [take_more hr, List.map_append]
          exact Paired.snoc (Paired.mapP hac fun v x hv => RideT.ul (hv.kp et.kp) hD3) (RideT.ul ⟨t, rfl, upd_same⟩ hD3)
      · rintro H2 ⟨acc, e2, hq2, hD2, hl, hac⟩
        rw [List.take_of_length_le (by rw [ns_len]; exact Nat.le_refl _)] at hac
        exact hq1 u rs hm D0 H2 e2 hDH ⟨acc, hD2, hac⟩
end
end Tw

namespace Tw
open PySem PySem.Spec PyProof.Rows L2 TM
theorem sc_check_cars : FnScope ["net", "cars", "place", "car"] ["net", "cars"] (defScope s_check_cars) := ⟨rfl, rfl, rfl, by decide +kernel, rfl, by decide +kernel, by decide +kernel⟩
section
variable {P : Program} {w : World} {K : PySem.W.Frag} {mg : Str → Option Value} {base : Heap}

theorem ok_check_cars (T : Txt K mg) (D : Dfn K mg "check_cars" s_check_cars) :
    Cal P w K mg base "check_cars" 1 ["net", "cars"] (sp_check_cars K) := by
  refine D.cal (k := 0) sc_check_cars (fun vs H Q E h => ?_) (fun _ _ _ _ _ _ us hl => match us, hl with | [_, _], _ => rfl) (fun cdv A outer s H vs Q E hr h => ?_)
  · obtain ⟨_, _, _, _, _, rfl, _⟩ := h
    rfl
  · obtain ⟨nt, cp, n, ropes, cars, rfl, hN, hC, hl, h01, hq⟩ := h
    obtain ⟨dxn, t, hNi, vs, hT, hps⟩ := id hN
    refine ⟨_, (pss_cons (ps_if (pt_cmpR op_ne (pe_callB call_len_seq (by rfl) T.b_len (by decide +kernel) (pa_cons (pv 1) pa_nil)) (pe_callB call_len_seq (by rfl) T.b_len (by decide +kernel) (pa_cons (pe_fld (pv 0) rfl) pa_nil)) (nomark _)) (pss_one ps_never) pss_nil)
      (pss_one (ps_for PassesOwn.never rfl (pi_enum rfl T.b_enumerate (pa_cons (pv 1) pa_nil)) (pg_tup rfl (pgs_cons (pg_name (i := 2) sc_check_cars.nd rfl (Or.inl rfl)) (pgs_cons (pg_name (i := 3) sc_check_cars.nd rfl (Or.inl rfl)) pgs_nil))) (pss_one (ps_if (pt_cmpR op_notIn_seq (pv 3) (pe_tup (pa_cons pe_int (pa_cons pe_int pa_nil))) (by rfl)) (pss_one ps_never) pss_nil))))), ?_⟩
    have hvl : vs.length = ropes.length := Paired.length hps
    refine ⟨_, rfl, _, _, rfl, .inl (SqL.of hC), _, rfl, _, _, _, _, _, rfl, hNi, T.cN, T.nNr, netF_r .., _, _, rfl, .inr (SqT.of hT), rfl, _, rfl, nF (by rw [List.length_map, hl, hvl]) ?_⟩
    refine ⟨_, rfl, _, _, rfl, SqL.of hC, for_it walk_enum (fun i σ H' => ∃ a b, σ = [some (.ref nt), some (.ref cp), a, b] ∧ Ex H H') ⟨_, _, rfl, exr H⟩ (fun i σ H' _ ⟨_, _, _, e⟩ => SqL.of (e _ _ hC)) ?_ ?_⟩
    · rintro i x σ H1 H2 hi ⟨a, b, rfl, e1⟩ ⟨tp, u, v, rfl, htp, rfl, hu, hv⟩
      have hu' : V.int (i : Int) = u := Option.some.inj hu
      subst hu'
      obtain ⟨k, hk, rfl⟩ := ns_getL hv
      have hk2 : k < 2 := h01 k (List.mem_of_getElem? hk)
      refine ⟨tp, _, rfl, SqT.of upd_same, rfl, _, _, rfl, _, _, rfl, rfl, ?_⟩
      refine ⟨_, rfl, sz1 (by show 2 ≤ 100000; decide), fun q hq1 => ?_⟩
      refine ⟨q, _, rfl, .inr (SqT.of upd_same), rfl, rfl, _, rfl, ?_⟩
      have hin : inV (nV k) [V.int 0, V.int 1] = true := by
        have k01 : k = 0 ∨ k = 1 := by omega
        rcases k01 with rfl | rfl
        · rfl
        · rfl
      refine ifF ?_ ⟨_, _, rfl, (e1.trans (exn htp)).trans (exn hq1)⟩
      rw [hin]
      decide
    · rintro σ H1 ⟨a, b, rfl, e1⟩
      exact hq H1 e1
end
end Tw

namespace Tw
open PySem PySem.Spec PyProof.Rows L2 TM
theorem sc__cut_off : FnScope ["stations", "ropes", "joined", "growing", "first", "second", "station"] ["stations", "ropes"] (defScope s__cut_off) := ⟨rfl, rfl, rfl, by decide +kernel, rfl, by decide +kernel, by decide +kernel⟩
section
variable {P : Program} {w : World} {K : PySem.W.Frag} {mg : Str → Option Value} {base : Heap}
theorem join_fal {J : List Bool} {a b : Nat} {x y : Bool} (ha : J[a]? = some x) (hb : J[b]? = some y) (ne : x ≠ y) : fal ((J.set a true).set b true) < fal J := by
  have ab : a ≠ b := fun z => by
    subst z
    rw [ha] at hb
    exact ne (Option.some.inj hb)
  have h1 := fal_set ha
  have h2 := fal_set (l := J.set a true) (a := b) (b := y) (by rw [List.getElem?_set_ne ab]; exact hb)
  cases x <;> cases y
  · exact (ne rfl).elim
  · simp at h1 h2
    omega
  · simp at h1 h2
    omega
  · exact (ne rfl).elim
theorem join_zero {J : List Bool} {a b : Nat} (h : J[0]? = some true) (i : Nat) (hi : J[i]? = some true) : ((J.set a true).set b true)[i]? = some true := by
  have hl := lt_of_get hi
  rw [List.getElem?_set]
  split
  · rw [if_pos (by rw [List.length_set]; omega)]
  · rw [List.getElem?_set]
    split
    · rw [if_pos (by omega)]
    · exact hi
def mu (j : Addr) (σ : L2.St) (H : Hp) : Nat := match H j, σ with
  | some (.lst l), _ :: _ :: _ :: some (V.bl g) :: _ => 2 * fal (l.map unB) + (if g then 1 else 0)
  | _, _ => 0
theorem mu_eq {j : Addr} {a b c x y z : Option V} {g : Bool} {H : Hp} {J : List Bool} (h : H j = some (.lst (Bs J))) : mu j [a, b, c, some (.bl g), x, y, z] H = 2 * fal J + (if g then 1 else 0) := by
  have e : (Bs J).map unB = J := bs_un J
  unfold mu
  rw [h]
  show 2 * fal ((Bs J).map unB) + _ = _
  rw [e]
theorem ok__cut_off (T : Txt K mg) (D : Dfn K mg "_cut_off" s__cut_off) :
    Cal P w K mg base "_cut_off" 1 ["stations", "ropes"] (sp__cut_off K) := by
  refine D.cal (k := 0) sc__cut_off (fun vs H Q E h => ?_) (fun _ _ _ _ _ _ us hl => match us, hl with | [_, _], _ => rfl) (fun cdv A outer s H vs Q E hr h => ?_)
  · obtain ⟨_, _, _, rfl, _⟩ := h
    rfl
  · obtain ⟨n, rp, ropes, rfl, hP, ok, hq⟩ := h
    have n1 := ok.n1
    have n24 := ok.n24
    obtain ⟨vs, hvs, hps⟩ := id hP
    have hvl : vs.length = ropes.length := Paired.length hps
    refine ⟨_, (pss_cons (ps_set (i := 2) sc__cut_off.nd rfl (Or.inr rfl) (pe_lc (own := [("station", 6)]) (g := (gName 6)) (tt := tYes) (te := (tOp rEq (tVar 6) (tC (.int 0)))) rfl sc__cut_off.nd (pi_range1 rfl T.b_range (pa_cons (pv 0) pa_nil)) (blkOk_by (N := ["stations", "ropes", "joined", "growing", "first", "second", "station"]) (sc := defScope s__cut_off) (by decide +kernel)) (fun _ _ _ _ _ => (pg_name (i := 6) sc__cut_off.nd rfl (Or.inl rfl))) (fun _ _ _ _ _ => pts_nil) (fun _ _ _ _ _ => (pe_cmpR op_eq (pv 6) pe_int (nomark _)))))
      (pss_cons (ps_set (i := 3) sc__cut_off.nd rfl (Or.inl rfl) pe_bl)
      (pss_cons (ps_while PassesOwn.never (pt_val (pv 3)) (pss_cons (ps_set (i := 3) sc__cut_off.nd rfl (Or.inl rfl) pe_bl)
      (pss_one (ps_for PassesOwn.never rfl (pi_list (pv 1)) (pg_tup rfl (pgs_cons (pg_name (i := 4) sc__cut_off.nd rfl (Or.inl rfl)) (pgs_cons (pg_name (i := 5) sc__cut_off.nd rfl (Or.inl rfl)) pgs_nil))) (pss_one (ps_if (pt_cmpR op_ne (pe_ix ix_list (pv 2) (pv 4) (fun _ _ => rfl)) (pe_ix ix_list (pv 2) (pv 5) (fun _ _ => rfl)) (nomark _)) (pss_cons (ps_asg pe_bl (pg_sub (pv 2) (pv 4) set_list))
      (pss_cons (ps_asg pe_bl (pg_sub (pv 2) (pv 5) set_list))
      (pss_one (ps_set (i := 3) sc__cut_off.nd rfl (Or.inl rfl) pe_bl)))) pss_nil))))))
      (pss_one (ps_ret (pe_lc (own := [("station", 6)]) (g := (gName 6)) (tt := (tNot (tB (tOp (rIxL K) (tVar 2) (tVar 6))))) (te := (tVar 6)) rfl sc__cut_off.nd (pi_range1 rfl T.b_range (pa_cons (pv 0) pa_nil)) (blkOk_by (N := ["stations", "ropes", "joined", "growing", "first", "second", "station"]) (sc := defScope s__cut_off) (by decide +kernel)) (fun _ _ _ _ _ => (pg_name (i := 6) sc__cut_off.nd rfl (Or.inl rfl))) (fun _ _ _ _ _ => pts_one (pt_not (pt_val (pe_ix ix_list (pv 2) (pv 6) (fun _ _ => rfl))))) (fun _ _ _ _ _ => (pv 6)))))))), ?_⟩
    refine ⟨_, rfl, n, rfl, by omega, by omega, fun j hj => ?_⟩
    refine lc_range0 (n := n) (fun i H' => Ex H H' ∧ ∃ J : List Bool, H' j = some (.lst (Bs J)) ∧ J.length = i ∧ (0 < i → J[0]? = some true)) ⟨exn hj, [], upd_same, rfl, fun z => by omega⟩ ?_ ?_
    · rintro i H1 hi ⟨e1, J, hJ, hl, h0⟩
      refine ⟨rfl, _, rfl, rfl, _, hJ, sz2 (by rw [List.length_map]; omega), ex_mut e1 hj, J ++ [decide (nV i = V.int 0)], ?_, ?_, ?_⟩
      · rw [upd_same]
        show some (HO.lst (J.map V.bl ++ [V.bl (decide (nV i = V.int 0))])) = some (HO.lst ((J ++ [decide (nV i = V.int 0)]).map V.bl))
        rw [List.map_append]
        rfl
      · rw [List.length_append, hl]
        rfl
      · intro _
        by_cases c : i = 0
        · subst c
          have : J = [] := List.length_eq_zero_iff.mp hl
          subst this
          rfl
        · rw [List.getElem?_append_left (by omega)]
          exact h0 (by omega)
    rintro H1 ⟨e1, J, hJ, hl, h0⟩
    refine while_by (fun σ H' => ∃ (g : Bool) (J : List Bool) (a b : Option V), σ = [some (nV n), some (.ref rp), some (.ref j), some (.bl g), a, b, none] ∧ Ex H H' ∧ H' j = some (.lst (Bs J)) ∧ J.length = n ∧ J[0]? = some true ∧ (g = false → ∀ p ∈ ropes, J[p.1]? = J[p.2]?))
      (mu j) ⟨true, J, _, _, rfl, e1, hJ, hl, h0 (by omega), fun z => (by cases z)⟩ ?_ ?_
    rotate_left
    · exact fun σ H Q Q' hh c => by
        obtain ⟨x, h1, c, h2, h3⟩ := c
        exact ⟨x, h1, c, h2, hh _ _ h3⟩
    rintro _ H2 ⟨g, J, a, b, rfl, e2, hJ2, hl2, h02, hg2⟩
    refine ⟨_, rfl, _, rfl, ?_⟩
    cases g with
    | false =>
      refine ifF (by decide) ?_
      have allT : ∀ i, i < n → J[i]? = some true := fun i hi => ok.conn (fun x => J[x]? = some true) (fun p hp => by rw [hg2 rfl p hp]) 0 i (by omega) hi h02
      refine ⟨_, rfl, n, rfl, by omega, by omega, fun D hD => ?_⟩
      have hDH : H D = none := back e2 hD
      refine lc_range0 (n := n) (fun i H' => Ex H H' ∧ H' j = some (.lst (Bs J)) ∧ H' D = some (.lst [])) ⟨e2.trans (exn hD), upd_get hD hJ2, upd_same⟩ ?_ (fun H3 ⟨e3, _, h3⟩ => hq D H3 e3 h3)
      rintro i H3 hi ⟨e3, hJ3, h3⟩
      exact ⟨rfl, _, rfl, _, rfl, _, _, _, _, rfl, rfl, SqL.of hJ3, atI_nat (bs_get (allT i hi)), _, rfl, ifF (by decide) ⟨e3, hJ3, h3⟩⟩
    | true =>
      refine ifT rfl ?_
      refine ⟨_, rfl, _, rfl, ⟨_, SqL.of (e2 _ _ hvs)⟩, for_list (K := K) (a := rp) (xs := vs) (fun i σ H' => ∃ (g : Bool) (J' : List Bool) (a b : Option V), σ = [some (nV n), some (.ref rp), some (.ref j), some (.bl g), a, b, none] ∧ Ex H H' ∧ H' j = some (.lst (Bs J')) ∧ J'.length = n ∧ J'[0]? = some true ∧ (g = false → J' = J ∧ ∀ k p, k < i → ropes[k]? = some p → J[p.1]? = J[p.2]?) ∧ (g = true → fal J' < fal J) ∧ fal J' ≤ fal J) ⟨false, J, _, _, rfl, e2, hJ2, hl2, h02, fun _ => ⟨rfl, fun k p hk => by omega⟩, fun z => (by cases z), Nat.le_refl _⟩ (fun i σ H' _ ⟨_, _, _, _, _, e, _⟩ => SqL.of (e _ _ hvs)) ?_ ?_⟩
      · rintro i v σ H3 hi ⟨g, J', a, b, rfl, e3, hJ3, hl3, h03, hgf, hgt, hle⟩
        obtain ⟨p, hp, x, rfl, hx⟩ := Paired.getL hps hi
        have hx3 := e3 _ _ hx
        obtain ⟨p1, p2, p12⟩ := ok.ends p (List.mem_of_getElem? hp)
        obtain ⟨x1, hx1⟩ := get_of_lt (l := J') (i := p.1) (by omega)
        obtain ⟨x2, hx2⟩ := get_of_lt (l := J') (i := p.2) (by omega)
        refine ⟨x, _, rfl, SqT.of hx3, rfl, _, _, rfl, _, _, rfl, rfl, ?_⟩
        refine ⟨_, rfl, _, rfl, _, _, _, _, rfl, rfl, SqL.of hJ3, atI_nat (bs_get hx1), _, rfl, _, rfl, _, _, _, _, rfl, rfl, SqL.of hJ3, atI_nat (bs_get hx2), rfl, _, rfl, nI (fun c => ?_) (fun c => ?_)⟩
        · have ne : x1 ≠ x2 := fun z => c (by rw [z])
          have jf := join_fal hx1 hx2 ne
          refine ⟨_, rfl, _, rfl, _, _, _, _, rfl, rfl, hJ3, Evl.ixN_nat (by rw [List.length_map]; omega), ?_⟩
          rw [set_bs]
          refine ⟨_, rfl, _, rfl, _, _, _, _, rfl, rfl, upd_same, Evl.ixN_nat (by rw [List.length_map, List.length_set]; omega), ?_⟩
          refine ⟨true, (J'.set p.1 true).set p.2 true, _, _, rfl, ex_mut (ex_mut e3 hj) hj, ?_, by rw [List.length_set, List.length_set]; exact hl3, join_zero h03 0 h03, fun z => (by cases z), fun _ => by omega, by omega⟩
          rw [upd_same, set_bs]
        · have e12 : x1 = x2 := by injection c
          refine ⟨g, J', _, _, rfl, e3, hJ3, hl3, h03, fun z => ?_, hgt, hle⟩
          obtain ⟨q1, q2⟩ := hgf z
          refine ⟨q1, fun k p' hk hp' => ?_⟩
          by_cases ck : k = i
          · subst ck
            have epp : p' = p := Option.some.inj (hp'.symm.trans hp)
            subst epp
            rw [← q1, hx1, hx2, e12]
          · exact q2 k p' (by omega) hp'
      · rintro σ H3 ⟨g, J', a', b', rfl, e3, hJ3, hl3, h03, hgf, hgt, hle⟩
        refine ⟨⟨g, J', _, _, rfl, e3, hJ3, hl3, h03, fun z p hp => ?_⟩, ?_⟩
        · obtain ⟨k, hk⟩ := List.getElem?_of_mem hp
          obtain ⟨q1, q2⟩ := hgf z
          rw [q1]
          exact q2 k p (by rw [hvl]; exact lt_of_get hk) hk
        · rw [mu_eq hJ3, mu_eq hJ2]
          cases g with
          | true =>
            have := hgt rfl
            show 2 * fal J' + 1 < 2 * fal J + 1
            omega
          | false =>
            show 2 * fal J' + 0 < 2 * fal J + 1
            omega
end
end Tw

namespace Tw
open PySem PySem.Spec PyProof.Rows L2 TM
theorem sc__check_size : FnScope ["stations", "least"] ["stations", "least"] (defScope s__check_size) := ⟨rfl, rfl, rfl, by decide +kernel, rfl, by decide +kernel, by decide +kernel⟩
section
variable {P : Program} {w : World} {K : PySem.W.Frag} {mg : Str → Option Value} {base : Heap}

theorem ok__check_size (T : Txt K mg) (D : Dfn K mg "_check_size" s__check_size) :
    Cal P w K mg base "_check_size" 1 ["stations", "least"] (sp__check_size K) := by
  refine D.cal (k := 0) sc__check_size (fun vs H Q E h => ?_) (fun _ _ _ _ _ _ us hl => match us, hl with | [_, _], _ => rfl) (fun cdv A outer s H vs Q E hr h => ?_)
  · obtain ⟨_, rfl, _⟩ := h
    rfl
  · obtain ⟨n, rfl, h1, h2, hq⟩ := h
    obtain ⟨u, hu⟩ := T.x.stations
    refine ⟨_, (pss_one (ps_if (pt_not (pt_chain op_le op_le (pv 1) (pv 0) (ClX.pe_cval (pe_glob (v := .ref (He.ga K "Net")) rfl T.gN rfl)))) (pss_one ps_never) pss_nil)), ?_⟩
    refine ⟨_, rfl, _, rfl, _, _, rfl, rfl, _, rfl, dT (by omega) ⟨_, _, _, _, rfl, T.x.read, hu, _, _, rfl, rfl, _, rfl, nF (by omega) hq⟩⟩
end
end Tw

namespace Tw
open PySem PySem.Spec PyProof.Rows L2 TM
theorem sc_Net_init : FnScope ["self", "stations", "ropes", "place", "first", "second", "missing"] ["self", "stations", "ropes"] (defScope s_Net_init) := ⟨rfl, rfl, rfl, by decide +kernel, rfl, by decide +kernel, by decide +kernel⟩
section
variable {P : Program} {w : World} {K : PySem.W.Frag} {mg : Str → Option Value} {base : Heap}

theorem ok_Net_init (T : Txt K mg) (D : DfnM K "Net" "__init__" "Net.__init__" s_Net_init) (mak : Mk K (He.ga K "Net") (He.ma K (He.ga K "Net") "__init__")) (gl : mg "Net" = some (.ref (He.ga K "Net"))) (c__check_size : Cal P w K mg base "_check_size" 1 ["stations", "least"] (sp__check_size K)) (c__cut_off : Cal P w K mg base "_cut_off" 1 ["stations", "ropes"] (sp__cut_off K)) :
    CalI P w K mg base "Net" 2 ["self", "stations", "ropes"] (sp_Net_init K) := by
  refine ⟨D.okM (k := 1) sc_Net_init (fun vs H Q E h => ?_) (fun _ _ _ _ _ _ us hl => match us, hl with | [_, _, _], _ => rfl) (fun cdv A outer s H vs Q E hr h => ?_), mak, gl⟩
  · obtain ⟨_, _, _, _, _, rfl, _⟩ := h
    rfl
  · obtain ⟨x, n, rp, ropes, dx, rfl, hx, hP, ok, hq⟩ := h
    have n1 := ok.n1
    have n24 := ok.n24
    have h40 := ok.m40
    obtain ⟨vs, hvs, hps⟩ := id hP
    have hvl : vs.length = ropes.length := Paired.length hps
    obtain ⟨u, hu⟩ := T.x.ropes
    refine ⟨_, (pss_cons (ps_expr (pe_cal c__check_size (hr.mono (by decide)) (pa_cons (pv 1) (pa_cons pe_int pa_nil))))
      (pss_cons (ps_if (pt_cmpR op_gt (pe_callB call_len_seq (by rfl) T.b_len (by decide +kernel) (pa_cons (pv 2) pa_nil)) (pe_con (pv 0) rfl) (nomark _)) (pss_one ps_never) pss_nil)
      (pss_cons (ps_for PassesOwn.never rfl (pi_enum rfl T.b_enumerate (pa_cons (pv 2) pa_nil)) (pg_tup rfl (pgs_cons (pg_name (i := 3) sc_Net_init.nd rfl (Or.inl rfl)) (pgs_cons (pg_tup rfl (pgs_cons (pg_name (i := 4) sc_Net_init.nd rfl (Or.inl rfl)) (pgs_cons (pg_name (i := 5) sc_Net_init.nd rfl (Or.inl rfl)) pgs_nil))) pgs_nil))) (pss_one (ps_if (PW.pt (pw_or (pt_not (pt_chain op_le op_lt pe_int (pv 4) (pv 1))) (pw_or (pt_not (pt_chain op_le op_lt pe_int (pv 5) (pv 1))) (pw_or1 (pt_cmpR op_eq (pv 4) (pv 5) (nomark _)))))) (pss_one ps_never) pss_nil)))
      (pss_cons (ps_set (i := 6) sc_Net_init.nd rfl (Or.inl rfl) (pe_cal c__cut_off (hr.mono (by decide)) (pa_cons (pv 1) (pa_cons (pv 2) pa_nil))))
      (pss_cons (ps_if (pt_truth (pv 6) (by intro _; rfl)) (pss_one ps_never) pss_nil)
      (pss_cons (ps_fld (pv 0) (pv 1) rfl)
      (pss_one (ps_fld (pv 0) (pe_callTy call_tuple_of (by rfl) T.b_tuple (by decide +kernel) (pa_cons (pe_lc (own := [("first", 4), ("second", 5)]) (g := (gTup K 2 (gCons (gName 4) (gCons (gName 5) gNil)))) (tt := tYes) (te := (tTup (tCons (tVar 4) (tCons (tVar 5) tNil)))) rfl sc_Net_init.nd (pi_list (pv 2)) (blkOk_by (N := ["self", "stations", "ropes", "place", "first", "second", "missing"]) (sc := defScope s_Net_init) (by decide +kernel)) (fun _ _ _ _ _ => (pg_tup rfl (pgs_cons (pg_name (i := 4) sc_Net_init.nd rfl (Or.inl rfl)) (pgs_cons (pg_name (i := 5) sc_Net_init.nd rfl (Or.inl rfl)) pgs_nil)))) (fun _ _ _ _ _ => pts_nil) (fun _ _ _ _ _ => (pe_tup (pa_cons (pv 4) (pa_cons (pv 5) pa_nil))))) pa_nil)) rfl)))))))), ?_⟩
    refine ⟨_, rfl, n, rfl, n1, n24, ?_⟩
    refine ⟨_, rfl, _, _, rfl, .inl (SqL.of hvs), _, rfl, _, _, _, _, _, _, rfl, hx, T.cN, hu, rfl, _, _, rfl, rfl, _, rfl, dF (by omega) ?_⟩
    refine ⟨_, rfl, _, _, rfl, SqL.of hvs, for_it walk_enum (fun i σ H' => ∃ a b c, σ = [some (.ref x), some (nV n), some (.ref rp), a, b, c, none] ∧ Ex H H') ⟨_, _, _, rfl, exr H⟩ (fun i σ H' _ ⟨_, _, _, _, e⟩ => SqL.of (e _ _ hvs)) ?_ ?_⟩
    · rintro i _ σ H1 H2 hi ⟨a, b, c, rfl, e1⟩ ⟨tp, u, v, rfl, htp, rfl, hu, hv⟩
      have hu' : V.int (i : Int) = u := Option.some.inj hu
      subst hu'
      obtain ⟨p, hp, q, rfl, hqq⟩ := Paired.getL hps hv
      obtain ⟨p1, p2, p12⟩ := ok.ends p (List.mem_of_getElem? hp)
      have e2 := e1.trans (exn (o := .tup [V.int (i : Int), V.ref q]) htp)
      refine ⟨tp, _, rfl, SqT.of upd_same, rfl, _, _, rfl, _, _, rfl, q, _, rfl, SqT.of (e2 _ _ hqq), rfl, _, _, rfl, _, _, rfl, rfl, rfl, ?_⟩
      refine ⟨_, rfl, _, _, rfl, rfl, _, rfl, dT (by omega) ⟨_, rfl, _, _, rfl, rfl, _, rfl, nF (by omega) ?_⟩⟩
      refine ⟨_, rfl, _, _, rfl, rfl, _, rfl, dT (by omega) ⟨_, rfl, _, _, rfl, rfl, _, rfl, nF (by omega) ?_⟩⟩
      exact ⟨_, rfl, _, rfl, rfl, _, rfl, dF (fun z => p12 (by have := nV_eq.mp z; omega)) ⟨_, _, _, rfl, e2⟩⟩
    rintro σ H1 ⟨a, b, c, rfl, e1⟩
    refine ⟨_, rfl, _, rfl, n, rp, ropes, rfl, hP.kp e1.kp, ok, fun m H2 e2 hm => ?_⟩
    refine ⟨_, rfl, false, .inl ⟨[], SqL.of hm, rfl⟩, ifF (by decide) ?_⟩
    have e12 := e1.trans e2
    refine ⟨_, rfl, _, rfl, _, _, _, _, rfl, e12 _ _ hx, T.cN, T.nNs, by decide, ?_⟩
    have o3 : Off x H (upd H2 x (.ins (He.ga K "Net") dx (putF "stations" (nV n) []))) := (exo e12).trans off_upd
    have h3 : upd H2 x (.ins (He.ga K "Net") dx (putF "stations" (nV n) [])) x = some (.ins (He.ga K "Net") dx (putF "stations" (nV n) [])) := upd_same
    generalize upd H2 x (.ins (He.ga K "Net") dx (putF "stations" (nV n) [])) = H3 at o3 h3 ⊢
    have nrx : rp ≠ x := ne_of hvs hx (by intro z; cases z)
    have hP3 : PairsV H3 vs ropes := Paired.mapP hps fun v y hv => by
      obtain ⟨w, rfl, hw⟩ := hv
      exact ⟨w, rfl, o3 _ _ (ne_of hw hx (by intro z; cases z)) hw⟩
    have hvs3 := o3 _ _ nrx hvs
    refine ⟨_, rfl, _, rfl, ⟨_, SqL.of hvs3⟩, fun D hD => ?_⟩
    refine lc_list (K := K) (a := rp) (xs := vs) (fun i H' => ∃ acc, Ex H3 H' ∧ H' D = some (.lst acc) ∧ acc.length = i ∧ PairsV H' acc (ropes.take i)) ⟨[], exn hD, upd_same, rfl, .nil⟩ (fun i H' _ ⟨_, e, _⟩ => SqL.of (e _ _ hvs3)) (fun i v H4 hi ⟨acc, e4, hD4, la, pa⟩ => ?_) (fun H4 ⟨acc, e4, hD4, la, pa⟩ => ?_)
    · obtain ⟨p, hp, q, rfl, hqq⟩ := Paired.getL hP3 hi
      refine ⟨q, _, rfl, SqT.of (e4 _ _ hqq), rfl, _, _, rfl, _, _, rfl, rfl, rfl, ?_⟩
      refine ⟨_, rfl, _, rfl, sz1 (by show 2 ≤ 100000; decide), fun t ht => ?_⟩
      have et : Ex H4 (upd H4 t (.tup [nV p.1, nV p.2])) := exn ht
      have hl := lt_of_get hi
      refine ⟨acc, et _ _ hD4, sz2 (by omega), acc ++ [.ref t], ex_mut (e4.trans et) hD, upd_same, by rw [List.length_append, la]; rfl, ?_⟩
      rw [take_more hp]
      exact Paired.snoc (Paired.mapP pa fun v x hv => PairT.ul (hv.kp et.kp) (et _ _ hD4)) (PairT.ul ⟨t, rfl, upd_same⟩ (et _ _ hD4))
    · rw [List.take_of_length_le (by omega)] at pa
      refine ⟨_, _, rfl, .inl ⟨SqL.of hD4, fun t ht => ?_⟩⟩
      have et : Ex H4 (upd H4 t (.tup acc)) := exn ht
      refine ⟨_, rfl, _, _, _, _, rfl, (e4.trans et) _ _ h3, T.cN, T.nNr, pl1, ?_⟩
      refine hq _ ((o3.trans (exo (e4.trans et))).trans off_upd) ⟨dx, t, upd_same, acc, ?_, ?_⟩
      · rw [upd_ne (ne_of upd_same ((e4.trans et) _ _ h3) (by intro z; cases z))]
        exact upd_same
      · refine Paired.mapP pa fun v y hv => ?_
        obtain ⟨w, rfl, hw⟩ := hv.kp et.kp
        refine ⟨w, rfl, ?_⟩
        rw [upd_ne (ne_of hw ((e4.trans et) _ _ h3) (by intro z; cases z))]
        exact hw
end
end Tw

namespace Tw
open PySem PySem.Spec PyProof.Rows L2 TM
theorem sc__check_guests : FnScope ["net", "part", "guests", "place", "count"] ["net", "part", "guests"] (defScope s__check_guests) := ⟨rfl, rfl, rfl, by decide +kernel, rfl, by decide +kernel, by decide +kernel⟩
section
variable {P : Program} {w : World} {K : PySem.W.Frag} {mg : Str → Option Value} {base : Heap}

theorem ok__check_guests (T : Txt K mg) (D : Dfn K mg "_check_guests" s__check_guests) :
    Cal P w K mg base "_check_guests" 1 ["net", "part", "guests"] (sp__check_guests K) := by
  refine D.cal (k := 0) sc__check_guests (fun vs H Q E h => ?_) (fun _ _ _ _ _ _ us hl => match us, hl with | [_, _, _], _ => rfl) (fun cdv A outer s H vs Q E hr h => ?_)
  · obtain ⟨_, _, _, _, _, _, rfl, _⟩ := h
    rfl
  · obtain ⟨nt, part, gp, n, ropes, g, rfl, hN, hG, hl, hq⟩ := h
    obtain ⟨dxn, t, hNi, vs, hT, hps⟩ := id hN
    refine ⟨_, (pss_cons (ps_if (pt_cmpR op_ne (pe_callB call_len_seq (by rfl) T.b_len (by decide +kernel) (pa_cons (pv 2) pa_nil)) (pe_fld (pv 0) rfl) (nomark _)) (pss_one ps_never) pss_nil)
      (pss_one (ps_for PassesOwn.never rfl (pi_enum rfl T.b_enumerate (pa_cons (pv 2) pa_nil)) (pg_tup rfl (pgs_cons (pg_name (i := 3) sc__check_guests.nd rfl (Or.inl rfl)) (pgs_cons (pg_name (i := 4) sc__check_guests.nd rfl (Or.inl rfl)) pgs_nil))) (pss_one (ps_if (pt_cmpR op_lt (pv 4) pe_int (nomark _)) (pss_one ps_never) pss_nil))))), ?_⟩
    refine ⟨_, rfl, _, _, rfl, .inl (SqL.of hG), _, rfl, _, _, _, _, _, rfl, hNi, T.cN, T.nNs, netF_s .., rfl, _, rfl, nF (by rw [List.length_map, hl]) ?_⟩
    refine ⟨_, rfl, _, _, rfl, SqL.of hG, for_it walk_enum (fun i σ H' => ∃ a b, σ = [some (.ref nt), some (.str part), some (.ref gp), a, b] ∧ Ex H H') ⟨_, _, rfl, exr H⟩ (fun i σ H' _ ⟨_, _, _, e⟩ => SqL.of (e _ _ hG)) ?_ ?_⟩
    · rintro i x σ H1 H2 hi ⟨a, b, rfl, e1⟩ ⟨tp, u, v, rfl, htp, rfl, hu, hv⟩
      have hu' : V.int (i : Int) = u := Option.some.inj hu
      subst hu'
      obtain ⟨k, hk, rfl⟩ := ns_getL hv
      refine ⟨tp, _, rfl, SqT.of upd_same, rfl, _, _, rfl, _, _, rfl, rfl, ?_⟩
      refine ⟨_, rfl, _, _, rfl, rfl, _, rfl, dF (by omega) ⟨_, _, rfl, e1.trans (exn htp)⟩⟩
    · rintro σ H1 ⟨a, b, rfl, e1⟩
      exact hq H1 e1
end
end Tw

namespace Tw
open PySem PySem.Spec PyProof.Rows L2 TM
theorem sc_Standing_init : FnScope ["self", "net", "reds", "blues", "cars"] ["self", "net", "reds", "blues", "cars"] (defScope s_Standing_init) := ⟨rfl, rfl, rfl, by decide +kernel, rfl, by decide +kernel, by decide +kernel⟩
section
variable {P : Program} {w : World} {K : PySem.W.Frag} {mg : Str → Option Value} {base : Heap}

theorem ok_Standing_init (T : Txt K mg) (D : DfnM K "Standing" "__init__" "Standing.__init__" s_Standing_init) (mak : Mk K (He.ga K "Standing") (He.ma K (He.ga K "Standing") "__init__")) (gl : mg "Standing" = some (.ref (He.ga K "Standing"))) (c__check_guests : Cal P w K mg base "_check_guests" 1 ["net", "part", "guests"] (sp__check_guests K)) (c_check_cars : Cal P w K mg base "check_cars" 1 ["net", "cars"] (sp_check_cars K)) :
    CalI P w K mg base "Standing" 2 ["self", "net", "reds", "blues", "cars"] (sp_Standing_init K) := by
  refine ⟨D.okM (k := 1) sc_Standing_init (fun vs H Q E h => ?_) (fun _ _ _ _ _ _ us hl => match us, hl with | [_, _, _, _, _], _ => rfl) (fun cdv A outer s H vs Q E hr h => ?_), mak, gl⟩
  · obtain ⟨_, _, _, _, _, _, _, _, _, rfl, _⟩ := h
    rfl
  · obtain ⟨x, nt, rd, bl, cr, n, ropes, s0, dx, rfl, hx, hN, hR, hB, hC, os, hq⟩ := h
    obtain ⟨u, hu⟩ := T.x.guests
    refine ⟨_, (pss_cons (ps_expr (pe_cal c__check_guests (hr.mono (by decide)) (pa_cons (pv 1) (pa_cons pe_str (pa_cons (pv 2) pa_nil)))))
      (pss_cons (ps_expr (pe_cal c__check_guests (hr.mono (by decide)) (pa_cons (pv 1) (pa_cons pe_str (pa_cons (pv 3) pa_nil)))))
      (pss_cons (ps_if (pt_cmpR op_gt (pe_op op_add (pe_callB (cr_sum rfl) (by rfl) T.b_sum (by decide +kernel) (pa_cons (pv 2) pa_nil)) (pe_callB (cr_sum rfl) (by rfl) T.b_sum (by decide +kernel) (pa_cons (pv 3) pa_nil))) (pe_con (pv 0) rfl) (nomark _)) (pss_one ps_never) pss_nil)
      (pss_cons (ps_expr (pe_cal c_check_cars (hr.mono (by decide)) (pa_cons (pv 1) (pa_cons (pv 4) pa_nil))))
      (pss_cons (ps_fld (pv 0) (pv 1) rfl)
      (pss_cons (ps_fld (pv 0) (pe_callTy call_tuple_of (by rfl) T.b_tuple (by decide +kernel) (pa_cons (pv 2) pa_nil)) rfl)
      (pss_cons (ps_fld (pv 0) (pe_callTy call_tuple_of (by rfl) T.b_tuple (by decide +kernel) (pa_cons (pv 3) pa_nil)) rfl)
      (pss_one (ps_fld (pv 0) (pe_callTy call_tuple_of (by rfl) T.b_tuple (by decide +kernel) (pa_cons (pv 4) pa_nil)) rfl))))))))), ?_⟩
    refine ⟨_, rfl, _, rfl, nt, _, rd, n, ropes, s0.reds, rfl, hN, hR, os.lr, fun H1 e1 => ?_⟩
    refine ⟨_, rfl, _, rfl, nt, _, bl, n, ropes, s0.blues, rfl, hN.kp e1.kp, e1 _ _ hB, os.lb, fun H2 e2 => ?_⟩
    have e12 := e1.trans e2
    have hR2 : SqL K H2 rd ((s0.reds.map fun (n : Nat) => (n : Int)).map V.int) := by
      rw [← ns_ints]
      exact SqL.of (e12 _ _ hR)
    have hB2 : SqL K H2 bl ((s0.blues.map fun (n : Nat) => (n : Int)).map V.int) := by
      rw [← ns_ints]
      exact SqL.of (e12 _ _ hB)
    have h30 := os.sum
    refine ⟨_, rfl, _, _, rfl, hR2, _, rfl, _, _, rfl, hB2, _, _, rfl, rfl, _, rfl, _, _, _, _, _, _, rfl, e12 _ _ hx, T.cS, hu, rfl, _, _, rfl, rfl, _, rfl, dF (by rw [sum_ints, sum_ints]; omega) ?_⟩
    refine ⟨_, rfl, _, rfl, nt, cr, n, ropes, s0.cars, rfl, hN.kp (exk e12), e12 _ _ hC, os.lc, os.c01, fun H3 e3 => ?_⟩
    have e13 := e12.trans e3
    refine ⟨_, rfl, _, rfl, _, _, _, _, rfl, e13 _ _ hx, T.cS, T.nSn, by decide, ?_⟩
    have o4 : Off x H (upd H3 x (.ins (He.ga K "Standing") dx (putF "net" (.ref nt) []))) := (exo e13).trans off_upd
    have h4 : upd H3 x (.ins (He.ga K "Standing") dx (putF "net" (.ref nt) [])) x = some (.ins (He.ga K "Standing") dx (putF "net" (.ref nt) [])) := upd_same
    generalize upd H3 x (.ins (He.ga K "Standing") dx (putF "net" (.ref nt) [])) = H4 at o4 h4 ⊢
    have nR : rd ≠ x := ne_of hR hx (by intro z; cases z)
    have nB : bl ≠ x := ne_of hB hx (by intro z; cases z)
    have nC : cr ≠ x := ne_of hC hx (by intro z; cases z)
    refine ⟨_, rfl, _, _, rfl, .inl ⟨SqL.of (o4 _ _ nR hR), fun t1 ht1 => ?_⟩⟩
    have e5 : Ex H4 (upd H4 t1 (.tup (Ns s0.reds))) := exn ht1
    have h5 : upd H4 t1 (.tup (Ns s0.reds)) t1 = some (.tup (Ns s0.reds)) := upd_same
    generalize upd H4 t1 (.tup (Ns s0.reds)) = H5 at e5 h5 ⊢
    refine ⟨_, rfl, _, _, _, _, rfl, e5 _ _ h4, T.cS, T.nSr, pl1, ?_⟩
    have o6 : Off x H4 (upd H5 x (.ins (He.ga K "Standing") dx (putF "reds" (.ref t1) (putF "net" (.ref nt) [])))) := e5.off.trans off_upd
    have h6 : upd H5 x (.ins (He.ga K "Standing") dx (putF "reds" (.ref t1) (putF "net" (.ref nt) []))) x = some (.ins (He.ga K "Standing") dx (putF "reds" (.ref t1) (putF "net" (.ref nt) []))) := upd_same
    have n1x : t1 ≠ x := ne_of h5 (e5 _ _ h4) (by intro z; cases z)
    have h61 : upd H5 x (.ins (He.ga K "Standing") dx (putF "reds" (.ref t1) (putF "net" (.ref nt) []))) t1 = some (.tup (Ns s0.reds)) := off_upd _ _ n1x h5
    generalize upd H5 x (.ins (He.ga K "Standing") dx (putF "reds" (.ref t1) (putF "net" (.ref nt) []))) = H6 at o6 h6 h61 ⊢
    have o46 := o4.trans o6
    refine ⟨_, rfl, _, _, rfl, .inl ⟨SqL.of (o46 _ _ nB hB), fun t2 ht2 => ?_⟩⟩
    have e7 : Ex H6 (upd H6 t2 (.tup (Ns s0.blues))) := exn ht2
    have h7 : upd H6 t2 (.tup (Ns s0.blues)) t2 = some (.tup (Ns s0.blues)) := upd_same
    generalize upd H6 t2 (.tup (Ns s0.blues)) = H7 at e7 h7 ⊢
    refine ⟨_, rfl, _, _, _, _, rfl, e7 _ _ h6, T.cS, T.nSb, pl2, ?_⟩
    have o8 : Off x H6 (upd H7 x (.ins (He.ga K "Standing") dx (putF "blues" (.ref t2) (putF "reds" (.ref t1) (putF "net" (.ref nt) []))))) := e7.off.trans off_upd
    have h8 : upd H7 x (.ins (He.ga K "Standing") dx (putF "blues" (.ref t2) (putF "reds" (.ref t1) (putF "net" (.ref nt) [])))) x = some (.ins (He.ga K "Standing") dx (putF "blues" (.ref t2) (putF "reds" (.ref t1) (putF "net" (.ref nt) [])))) := upd_same
    have n2x : t2 ≠ x := ne_of h7 (e7 _ _ h6) (by intro z; cases z)
    have h82 : upd H7 x (.ins (He.ga K "Standing") dx (putF "blues" (.ref t2) (putF "reds" (.ref t1) (putF "net" (.ref nt) [])))) t2 = some (.tup (Ns s0.blues)) := off_upd _ _ n2x h7
    generalize upd H7 x (.ins (He.ga K "Standing") dx (putF "blues" (.ref t2) (putF "reds" (.ref t1) (putF "net" (.ref nt) [])))) = H8 at o8 h8 h82 ⊢
    have o48 := o46.trans o8
    refine ⟨_, rfl, _, _, rfl, .inl ⟨SqL.of (o48 _ _ nC hC), fun t3 ht3 => ?_⟩⟩
    have e9 : Ex H8 (upd H8 t3 (.tup (Ns s0.cars))) := exn ht3
    have h9 : upd H8 t3 (.tup (Ns s0.cars)) t3 = some (.tup (Ns s0.cars)) := upd_same
    generalize upd H8 t3 (.tup (Ns s0.cars)) = H9 at e9 h9 ⊢
    refine ⟨_, rfl, _, _, _, _, rfl, e9 _ _ h8, T.cS, T.nSc, pl3, ?_⟩
    have n3x : t3 ≠ x := ne_of h9 (e9 _ _ h8) (by intro z; cases z)
    have oA : Off x H8 (upd H9 x (.ins (He.ga K "Standing") dx (stdF nt t1 t2 t3))) := e9.off.trans off_upd
    have oo := o48.trans oA
    refine hq _ oo ⟨dx, nt, t1, t2, t3, upd_same, ?_, (oA _ _ n1x (o8 _ _ n1x h61)), oA _ _ n2x h82, off_upd _ _ n3x h9⟩
    obtain ⟨dn, t, hn1, vs, hn2, hn3⟩ := hN
    have nN : nt ≠ x := fun z => by
      rw [z, hx] at hn1
      injection hn1 with q
      injection q with _ _ q
      have l := netF_s n t
      rw [← q] at l
      cases l
    exact ⟨dn, t, oo _ _ nN hn1, vs, oo _ _ (ne_of hn2 hx (by intro z; cases z)) hn2, Paired.mapP hn3 fun v y hv => by
      obtain ⟨w, rfl, hw⟩ := hv
      exact ⟨w, rfl, oo _ _ (ne_of hw hx (by intro z; cases z)) hw⟩⟩
end
end Tw

namespace Tw
open PySem PySem.Spec PyProof.Rows L2 TM
theorem sc__law_integer : FnScope ["_law_value"] ["_law_value"] (defScope s__law_integer) := ⟨rfl, rfl, rfl, by decide +kernel, rfl, by decide +kernel, by decide +kernel⟩
section
variable {P : Program} {w : World} {K : PySem.W.Frag} {mg : Str → Option Value} {base : Heap}

theorem ok__law_integer (T : Txt K mg) (D : Dfn K mg "_law_integer" s__law_integer) :
    Cal P w K mg base "_law_integer" 1 ["_law_value"] (sp__law_integer K) := by
  refine D.cal (k := 0) sc__law_integer (fun vs H Q E h => ?_) (fun _ _ _ _ _ _ us hl => match us, hl with | [_], _ => rfl) (fun cdv A outer s H vs Q E hr h => ?_)
  · obtain ⟨_, rfl, _⟩ := h
    rfl
  · obtain ⟨i, rfl, hq⟩ := h
    refine ⟨_, (pss_one (ps_ret (pe_and (pe_callB call_isi (by rfl) T.b_isinstance (by decide +kernel) (pa_cons (pv 0) (pa_cons (pe_bltn (v := .ty "int") rfl T.b_int (by decide +kernel) rfl) pa_nil))) (pe_one (pe_not (pe_callB call_isi (by rfl) T.b_isinstance (by decide +kernel) (pa_cons (pv 0) (pa_cons (pe_bltn (v := .ty "bool") rfl T.b_bool (by decide +kernel) rfl) pa_nil)))))))), ?_⟩
    exact ⟨_, rfl, _, _, _, _, true, rfl, .ty _, .base (.int _), kit_ty (by decide +kernel), _, rfl, _, rfl, _, _, _, _, false, rfl, .ty _, .base (.int _), kit_ty (by decide +kernel), _, rfl, hq⟩
end
end Tw

namespace Tw
open PySem PySem.Spec PyProof.Rows L2 TM
theorem sc__law_bag : FnScope ["_law_script", "_law_k", "_law_seed", "_law_item"] ["_law_script", "_law_k"] (defScope s__law_bag) := ⟨rfl, rfl, rfl, by decide +kernel, rfl, by decide +kernel, by decide +kernel⟩
section
variable {P : Program} {w : World} {K : PySem.W.Frag} {mg : Str → Option Value} {base : Heap}

theorem ok__law_bag (T : Txt K mg) (D : Dfn K mg "_law_bag" s__law_bag) :
    Cal P w K mg base "_law_bag" 1 ["_law_script", "_law_k"] (sp__law_bag K) := by
  refine D.cal (k := 0) sc__law_bag (fun vs H Q E h => ?_) (fun _ _ _ _ _ _ us hl => match us, hl with | [_, _], _ => rfl) (fun cdv A outer s H vs Q E hr h => ?_)
  · obtain ⟨_, _, _, rfl, _⟩ := h
    rfl
  · obtain ⟨sc, ns, k, rfl, hS, h63, hq⟩ := h
    refine ⟨_, (pss_cons (ps_set (i := 2) sc__law_bag.nd rfl (Or.inl rfl) (pe_op op_add pe_int (pe_op op_mul pe_int (pv 1))))
      (pss_cons (ps_for PassesOwn.never rfl (pi_list (pe_slice sl_list (pv 0) po_none (po_some pe_int))) (pg_name (i := 3) sc__law_bag.nd rfl (Or.inl rfl)) (pss_one (ps_set (i := 2) sc__law_bag.nd rfl (Or.inl rfl) (pe_op op_mod (pe_callTy call_int1 (by rfl) T.b_int (by decide +kernel) (pa_cons (pe_op op_add (pe_op op_mul (pv 2) pe_int) (pv 3)) pa_nil)) pe_int))))
      (pss_cons (ps_if (PW.pt (pw_and (pt_cmpR op_lt (pv 1) (pe_callB call_len_seq (by rfl) T.b_len (by decide +kernel) (pa_cons (pv 0) pa_nil)) (nomark _)) (pw_and1 (pt_cmpR op_ge (pe_ix ix_list (pv 0) (pv 1) (fun _ _ => rfl)) (pe_op op_pow pe_int pe_int) (nomark _))))) (pss_one (ps_ret (pe_lst (pa_cons (pe_ix ix_list (pv 0) (pv 1) (fun _ _ => rfl)) (pa_cons (pv 2) (pa_cons pe_int pa_nil)))))) pss_nil)
      (pss_one (ps_ret (pe_lst (pa_cons pe_int (pa_cons (pv 2) (pa_cons pe_int pa_nil))))))))), ?_⟩
    refine ⟨_, rfl, _, _, rfl, rfl, .inl ⟨by decide, by decide⟩, _, _, rfl, rfl, ?_⟩
    refine ⟨_, rfl, 63, rfl, sc, _, rfl, hS, fun l hl => ?_⟩
    have hsl : SqL K (upd H l (.lst (cutV (ns.map V.int) none (some 63)))) l (cutV (ns.map V.int) none (some 63)) := SqL.of upd_same
    obtain ⟨ms, hms⟩ : ∃ ms : List Int, cutV (ns.map V.int) none (some 63) = ms.map V.int := by
      unfold cutV
      rw [← List.map_drop, ← List.map_take]
      exact ⟨_, rfl⟩
    rw [hms] at hsl ⊢
    refine ⟨l, rfl, ⟨_, hsl⟩, for_list (K := K) (a := l) (xs := ms.map V.int) (fun i σ H' => ∃ (z : Int) (v : Option V), σ = [some (.ref sc), some (nV k), some (.int z), v] ∧ Ex H H' ∧ H' l = some (.lst (ms.map V.int))) ⟨_, _, rfl, exn hl, upd_same⟩ (fun i σ H' _ ⟨_, _, _, _, e⟩ => SqL.of e) ?_ ?_⟩
    · rintro i x σ H1 hi ⟨z, v, rfl, e1, hl1⟩
      obtain ⟨u, rfl⟩ : ∃ u, x = V.int u := by
        rw [List.getElem?_map] at hi
        cases e : ms[i]? with
        | none =>
          rw [e] at hi
          cases hi
        | some u =>
          rw [e] at hi
          exact ⟨u, (Option.some.inj hi).symm⟩
      exact ⟨_, rfl, _, _, rfl, rfl, .inr ⟨by decide, by decide⟩, _, rfl, _, _, rfl, rfl, .inl ⟨_, rfl, _, _, rfl, rfl, (by show (0 : Int) < 2147483629; decide), _, _, rfl, e1, hl1⟩⟩
    · rintro σ H1 ⟨z, v, rfl, e1, hl1⟩
      have hS1 : SqL K H1 sc (ns.map V.int) := Evl.ex_l e1 hS
      have fin : ∀ (x : Int) p, H1 p = none → Q (.ref p) (upd H1 p (.lst [.int x, .int z, .int 0])) := fun x p hp => hq p _ (e1.trans (exn hp)) (Evl.fresh_back e1 hp) bag_upd
      refine ⟨_, rfl, _, rfl, _, _, rfl, .inl hS1, _, _, rfl, rfl, _, rfl, ?_⟩
      by_cases c : (k : Int) < ((ns.map V.int).length : Int)
      · refine dT c ?_
        obtain ⟨v0, hv0⟩ := get_of_lt (l := ns.map V.int) (i := k) (by omega)
        obtain ⟨u0, rfl⟩ : ∃ u, v0 = V.int u := by
          rw [List.getElem?_map] at hv0
          cases e : ns[k]? with
          | none =>
            rw [e] at hv0
            cases hv0
          | some u =>
            rw [e] at hv0
            exact ⟨u, (Option.some.inj hv0).symm⟩
        refine ⟨_, rfl, _, rfl, _, _, _, _, rfl, rfl, hS1, atI_nat hv0, _, _, rfl, rfl, ⟨by decide, by decide, by decide⟩, _, _, rfl, rfl, _, rfl, dI (fun c2 => ?_) (fun c2 => ?_)⟩
        · exact ⟨_, rfl, _, rfl, _, _, _, _, rfl, rfl, hS1, atI_nat hv0, _, rfl, sz1 (by show 3 ≤ 100000; decide), fun p hp => fin _ p hp⟩
        · exact ⟨_, rfl, sz1 (by show 3 ≤ 100000; decide), fun p hp => fin _ p hp⟩
      · refine dF c ?_
        exact ⟨_, rfl, sz1 (by show 3 ≤ 100000; decide), fun p hp => fin _ p hp⟩
end
end Tw

namespace Tw
open PySem PySem.Spec PyProof.Rows L2 TM
theorem sc__law_take : FnScope ["_law_bag_here", "_law_many", "_law_drawn", "_law_one", "_law_two"] ["_law_bag_here", "_law_many"] (defScope s__law_take) := ⟨rfl, rfl, rfl, by decide +kernel, rfl, by decide +kernel, by decide +kernel⟩
section
variable {P : Program} {w : World} {K : PySem.W.Frag} {mg : Str → Option Value} {base : Heap}

theorem ok__law_take (T : Txt K mg) (D : Dfn K mg "_law_take" s__law_take) :
    Cal P w K mg base "_law_take" 1 ["_law_bag_here", "_law_many"] (sp__law_take K) := by
  refine D.cal (k := 0) sc__law_take (fun vs H Q E h => ?_) (fun _ _ _ _ _ _ us hl => match us, hl with | [_, _], _ => rfl) (fun cdv A outer s H vs Q E hr h => ?_)
  · obtain ⟨_, _, rfl, _⟩ := h
    rfl
  · obtain ⟨B, m, rfl, ⟨x, y, z, hB⟩, m0, m1, hq⟩ := h
    refine ⟨_, (pss_cons (ps_if (pt_cmpR op_gt (pe_ix ix_list (pv 0) pe_int (fun _ _ => rfl)) pe_int (nomark _)) (pss_cons (ps_set (i := 2) sc__law_take.nd rfl (Or.inl rfl) (pe_op op_mod (pe_callTy call_int1 (by rfl) T.b_int (by decide +kernel) (pa_cons (pe_ix ix_list (pv 0) pe_int (fun _ _ => rfl)) pa_nil)) (pv 1)))
      (pss_cons (ps_asg (pe_op op_fdiv (pe_ix ix_list (pv 0) pe_int (fun _ _ => rfl)) (pv 1)) (pg_sub (pv 0) pe_int set_list))
      (pss_one (ps_ret (pv 2))))) pss_nil)
      (pss_cons (ps_asg (pe_op op_add (pe_ix ix_list (pv 0) pe_int (fun _ _ => rfl)) pe_int) (pg_sub (pv 0) pe_int set_list))
      (pss_cons (ps_set (i := 3) sc__law_take.nd rfl (Or.inl rfl) (pe_op op_mod (pe_callTy call_int1 (by rfl) T.b_int (by decide +kernel) (pa_cons (pe_op op_add (pe_op op_mul (pe_ix ix_list (pv 0) pe_int (fun _ _ => rfl)) pe_int) (pe_op op_mul (pe_ix ix_list (pv 0) pe_int (fun _ _ => rfl)) pe_int)) pa_nil)) pe_int))
      (pss_cons (ps_set (i := 4) sc__law_take.nd rfl (Or.inl rfl) (pe_op op_mod (pe_callTy call_int1 (by rfl) T.b_int (by decide +kernel) (pa_cons (pe_op op_mul (pe_op op_add (pe_op op_fdiv (pv 3) pe_int) (pe_ix ix_list (pv 0) pe_int (fun _ _ => rfl))) (pe_op op_add (pe_op op_mod (pv 3) pe_int) pe_int)) pa_nil)) pe_int))
      (pss_one (ps_ret (pe_op op_mod (pe_op op_fdiv (pv 4) pe_int) (pv 1)))))))), ?_⟩
    refine ⟨_, rfl, _, _, _, _, rfl, rfl, SqL.of hB, rfl, _, _, rfl, rfl, _, rfl, dI (fun c => ?_) (fun c => ?_)⟩
    · refine ⟨_, rfl, _, _, _, _, rfl, rfl, SqL.of hB, rfl, .inl ⟨_, rfl, _, rfl, _, _, rfl, rfl, by omega, ?_⟩⟩
      refine ⟨_, rfl, _, _, _, _, rfl, rfl, SqL.of hB, rfl, _, rfl, _, _, rfl, rfl, ⟨by omega, by omega⟩, _, rfl, _, _, _, 0, rfl, rfl, hB, rfl, _, rfl, ?_⟩
      exact as_mod m0 fun r hr => hq r _ hr bag_upd off_upd
    · refine ⟨_, rfl, _, _, _, _, rfl, rfl, SqL.of hB, rfl, _, _, rfl, rfl, _, rfl, _, _, _, 2, rfl, rfl, hB, rfl, ?_⟩
      refine ⟨_, rfl, _, _, _, _, rfl, rfl, SqL.of upd_same, rfl, _, _, rfl, rfl, .inr ⟨by decide, by decide⟩, _, rfl, _, _, _, _, rfl, rfl, SqL.of upd_same, rfl, _, _, rfl, rfl, .inr ⟨by decide, by decide⟩, _, _, rfl, rfl, .inl ⟨_, rfl, _, _, rfl, rfl, (by show (0 : Int) < 2147483647; decide), ?_⟩⟩
      refine ⟨_, rfl, _, _, rfl, rfl, ⟨by decide, by decide⟩, _, rfl, _, _, _, _, rfl, rfl, SqL.of upd_same, rfl, _, _, rfl, rfl, _, rfl, _, _, rfl, rfl, (by show (0 : Int) < 65521; decide), _, _, rfl, rfl, _, _, rfl, rfl, .inr ⟨by omega, by omega⟩, .inl ⟨_, rfl, _, _, rfl, rfl, (by show (0 : Int) < 1000000007; decide), ?_⟩⟩
      refine ⟨_, rfl, _, _, rfl, rfl, ⟨by decide, by decide⟩, _, rfl, _, _, rfl, rfl, by omega, ?_⟩
      exact as_mod m0 fun r hr => hq r _ hr bag_upd off_upd
end
end Tw

namespace Tw
open PySem PySem.Spec PyProof.Rows L2 TM
theorem sc__law_order : FnScope ["_law_bag_here", "_law_many", "_law_order_here", "_law_k", "_law_at"] ["_law_bag_here", "_law_many"] (defScope s__law_order) := ⟨rfl, rfl, rfl, by decide +kernel, rfl, by decide +kernel, by decide +kernel⟩
section
variable {P : Program} {w : World} {K : PySem.W.Frag} {mg : Str → Option Value} {base : Heap}
theorem order_ins {i j : Nat} {os : List Nat} (h : IsOrder i os) : IsOrder (i + 1) (os.take j ++ [i] ++ os.drop j) := by
  obtain ⟨h1, h2, h3⟩ := h
  have p := ins_perm os j i
  refine ⟨by rw [p.length_eq, List.length_cons, h1], p.nodup_iff.mpr (List.nodup_cons.mpr ⟨fun z => ?_, h2⟩), fun x => ?_⟩
  · have := (h3 i).mp z
    omega
  · rw [p.mem_iff, List.mem_cons, h3]
    omega
theorem ok__law_order (T : Txt K mg) (D : Dfn K mg "_law_order" s__law_order) (c__law_take : Cal P w K mg base "_law_take" 1 ["_law_bag_here", "_law_many"] (sp__law_take K)) :
    Cal P w K mg base "_law_order" 2 ["_law_bag_here", "_law_many"] (sp__law_order K) := by
  refine D.cal (k := 1) sc__law_order (fun vs H Q E h => ?_) (fun _ _ _ _ _ _ us hl => match us, hl with | [_, _], _ => rfl) (fun cdv A outer s H vs Q E hr h => ?_)
  · obtain ⟨_, _, rfl, _⟩ := h
    rfl
  · obtain ⟨B, n, rfl, hB, h24, hq⟩ := h
    refine ⟨_, (pss_cons (ps_set (i := 2) sc__law_order.nd rfl (Or.inl rfl) (pe_lst pa_nil))
      (pss_cons (ps_for PassesOwn.never rfl (pi_range1 rfl T.b_range (pa_cons (pv 1) pa_nil)) (pg_name (i := 3) sc__law_order.nd rfl (Or.inl rfl)) (pss_cons (ps_set (i := 4) sc__law_order.nd rfl (Or.inl rfl) (pe_cal c__law_take (hr.mono (by decide)) (pa_cons (pv 0) (pa_cons (pe_op op_add (pv 3) pe_int) pa_nil))))
      (pss_one (ps_expr (pe_bm PySem.F.plainAttrs_list PySem.F.slot_list_insert PySem.F.type_list_insert mt_insert (pv 2) (pa_cons (pv 4) (pa_cons (pv 3) pa_nil)))))))
      (pss_one (ps_ret (pv 2))))), ?_⟩
    refine ⟨Nat.zero_le _, fun p hp => ?_⟩
    have npB : p ≠ B := by
      obtain ⟨x, y, z, e⟩ := hB
      exact (ne_of_none e hp).symm
    refine ⟨_, rfl, n, rfl, by omega, by omega, for_range0 (n := n) (fun i σ H' => ∃ k a os, σ = [some (.ref B), some (nV n), some (.ref p), k, a] ∧ Off B H H' ∧ Bag H' B ∧ H' p = some (.lst (Ns os)) ∧ IsOrder i os) ⟨_, _, [], rfl, off_mut (Off.refl B H) hp, bag_keep hB npB, upd_same, rfl, List.nodup_nil, fun x => by simp⟩ ?_ ?_⟩
    · rintro i σ H1 hi ⟨k, a, os, rfl, e1, b1, hp1, ho⟩
      refine ⟨_, rfl, _, rfl, _, _, rfl, rfl, B, i + 1, rfl, b1, by omega, by omega, fun r H2 hr b2 e2 => ?_⟩
      have hp2 := e2 _ _ npB hp1
      refine ⟨_, rfl, .inl ⟨rfl, _, SqL.of hp2⟩, _, rfl, _, rfl, _, _, _, _, rfl, rfl, hp2, sz2 ?_, by omega, by omega, ?_⟩
      · rw [List.length_map, ho.1]
        omega
      · refine ⟨_, _, _, rfl, off_mut (e1.trans e2) hp, bag_keep b2 npB, ?_, order_ins (j := r) ho⟩
        rw [upd_same]
        show some (HO.lst ((Ns os).take r ++ [nV i] ++ (Ns os).drop r)) = _
        rw [ns_ins]
    · rintro σ H1 ⟨k, a, os, rfl, e1, b1, hp1, ho⟩
      exact ⟨_, rfl, hq p H1 os e1 b1 hp hp1 ho⟩
end
end Tw

namespace Tw
open PySem PySem.Spec PyProof.Rows L2 TM
theorem sc__law_add_rope : FnScope ["_law_bag_here", "_law_net_here", "_law_near", "_law_far", "_law_at", "_law_turned"] ["_law_bag_here", "_law_net_here", "_law_near", "_law_far"] (defScope s__law_add_rope) := ⟨rfl, rfl, rfl, by decide +kernel, rfl, by decide +kernel, by decide +kernel⟩
section
variable {P : Program} {w : World} {K : PySem.W.Frag} {mg : Str → Option Value} {base : Heap}

theorem ok__law_add_rope (T : Txt K mg) (D : Dfn K mg "_law_add_rope" s__law_add_rope) (c__law_take : Cal P w K mg base "_law_take" 1 ["_law_bag_here", "_law_many"] (sp__law_take K)) :
    Cal P w K mg base "_law_add_rope" 2 ["_law_bag_here", "_law_net_here", "_law_near", "_law_far"] (sp__law_add_rope K) := by
  refine D.cal (k := 1) sc__law_add_rope (fun vs H Q E h => ?_) (fun _ _ _ _ _ _ us hl => match us, hl with | [_, _, _, _], _ => rfl) (fun cdv A outer s H vs Q E hr h => ?_)
  · obtain ⟨_, _, _, _, _, _, _, _, rfl, _⟩ := h
    rfl
  · obtain ⟨B, N, p, q, a, b, ropes, ahead, rfl, hB, hN, hp, hq, npB, nqB, nNB, npq, npN, nqN, hl, hla, hQ⟩ := h
    obtain ⟨vs, hpv, hps⟩ := id hp
    have hvl : vs.length = ropes.length := Paired.length hps
    refine ⟨_, (pss_cons (ps_set (i := 4) sc__law_add_rope.nd rfl (Or.inl rfl) (pe_cal c__law_take (hr.mono (by decide)) (pa_cons (pv 0) (pa_cons (pe_op op_add (pe_callB call_len_seq (by rfl) T.b_len (by decide +kernel) (pa_cons (pe_ix ix_list (pv 1) pe_int (fun _ _ => rfl)) pa_nil)) pe_int) pa_nil))))
      (pss_cons (ps_set (i := 5) sc__law_add_rope.nd rfl (Or.inl rfl) (pe_cal c__law_take (hr.mono (by decide)) (pa_cons (pv 0) (pa_cons pe_int pa_nil))))
      (pss_cons (ps_expr (pe_bm PySem.F.plainAttrs_list PySem.F.slot_list_insert PySem.F.type_list_insert mt_insert (pe_ix ix_list (pv 1) pe_int (fun _ _ => rfl)) (pa_cons (pv 4) (pa_cons (pe_ix ix_list (pe_lst (pa_cons (pe_tup (pa_cons (pv 2) (pa_cons (pv 3) pa_nil))) (pa_cons (pe_tup (pa_cons (pv 3) (pa_cons (pv 2) pa_nil))) pa_nil))) (pv 5) (fun _ _ => rfl)) pa_nil))))
      (pss_one (ps_expr (pe_bm PySem.F.plainAttrs_list PySem.F.slot_list_insert PySem.F.type_list_insert mt_insert (pe_ix ix_list (pv 1) pe_int (fun _ _ => rfl)) (pa_cons (pv 4) (pa_cons (pv 5) pa_nil)))))))), ?_⟩
    refine ⟨_, rfl, _, rfl, _, _, _, _, rfl, rfl, SqL.of hN, rfl, _, _, rfl, .inl (SqL.of hpv), _, _, rfl, rfl, B, vs.length + 1, rfl, hB, by omega, by omega, fun r H1 hr b1 e1 => ?_⟩
    refine ⟨_, rfl, B, 2, rfl, b1, by decide, by decide, fun u H2 hu b2 e2 => ?_⟩
    have e12 := e1.trans e2
    have hN2 := e12 _ _ nNB hN
    have hp2 := e12 _ _ npB hpv
    have hq2 := e12 _ _ nqB hq
    refine ⟨_, rfl, _, _, _, _, rfl, rfl, SqL.of hN2, rfl, .inl ⟨rfl, _, SqL.of hp2⟩, _, rfl, _, rfl, _, rfl, sz1 (by show 2 ≤ 100000; decide), fun t1 ht1 => ⟨_, rfl, _, rfl, sz1 (by show 2 ≤ 100000; decide), fun t2 ht2 => ⟨sz1 (by show 2 ≤ 100000; decide), fun l hl3 => ?_⟩⟩⟩
    have n12 : t1 ≠ t2 := ne_of_none upd_same ht2
    generalize hH3 : upd H2 t1 (.tup [nV a, nV b]) = H3 at ht2 hl3 ⊢
    have x3 : Ex H2 H3 := by
      rw [← hH3]
      exact exn ht1
    have h31 : H3 t1 = some (.tup [nV a, nV b]) := by rw [← hH3]; exact upd_same
    generalize hH4 : upd H3 t2 (.tup [nV b, nV a]) = H4 at hl3 ⊢
    have x4 : Ex H3 H4 := by
      rw [← hH4]
      exact exn ht2
    have h42 : H4 t2 = some (.tup [nV b, nV a]) := by rw [← hH4]; exact upd_same
    have h41 := x4 _ _ h31
    generalize hH5 : upd H4 l (.lst [.ref t1, .ref t2]) = H5
    have x5 : Ex H4 H5 := by
      rw [← hH5]
      exact exn hl3
    have x25 : Ex H2 H5 := (x3.trans x4).trans x5
    have h5l : H5 l = some (.lst [.ref t1, .ref t2]) := by rw [← hH5]; exact upd_same
    obtain ⟨t, e, hel, hte, hte2⟩ : ∃ t e, ([.ref t1, .ref t2] : List V)[u]? = some (.ref t) ∧ (e = (a, b) ∨ e = (b, a)) ∧ H5 t = some (.tup [nV e.1, nV e.2]) := by
      have u01 : u = 0 ∨ u = 1 := by omega
      rcases u01 with rfl | rfl
      · exact ⟨t1, (a, b), rfl, .inl rfl, x5 _ _ h41⟩
      · exact ⟨t2, (b, a), rfl, .inr rfl, x5 _ _ h42⟩
    have hp5 := x25 _ _ hp2
    refine ⟨_, rfl, _, _, _, _, rfl, rfl, SqL.of h5l, atI_nat hel, _, _, _, _, rfl, rfl, hp5, sz2 (by omega), by omega, by omega, ?_⟩
    have hN6 : upd H5 p (.lst (vs.take r ++ [.ref t] ++ vs.drop r)) N = some (.lst [.ref p, .ref q]) := by
      rw [upd_ne (Ne.symm npN)]
      exact x25 _ _ hN2
    have hq6 : upd H5 p (.lst (vs.take r ++ [.ref t] ++ vs.drop r)) q = some (.lst (Ns ahead)) := by
      rw [upd_ne (Ne.symm npq)]
      exact x25 _ _ hq2
    refine ⟨_, rfl, _, _, _, _, rfl, rfl, SqL.of hN6, rfl, .inl ⟨rfl, _, SqL.of hq6⟩, _, rfl, _, rfl, _, _, _, _, rfl, rfl, hq6, sz2 ?_, by omega, by omega, ?_⟩
    · rw [List.length_map]
      omega
    have hr' : r ≤ ropes.length := by omega
    have k5 : Kp H H5 := (e12.kp hB).trans x25.kp
    refine hQ _ (ropes.take r ++ [e] ++ ropes.drop r) (ahead.take r ++ [u] ++ ahead.drop r) e ?_ ?_ ?_ ?_ ?_ ?_ hte ?_ ?_
    · intro x o n1 n2 n3 hx
      rw [upd_ne n3, upd_ne n2]
      exact x25 _ _ (e12 _ _ n1 hx)
    · exact bag_keep (bag_keep (b2.ex x25) npB) nqB
    · refine ⟨vs.take r ++ [.ref t] ++ vs.drop r, by rw [upd_ne npq]; exact upd_same, ?_⟩
      have kk : ∀ v x, PairT H v x → PairT (upd (upd H5 p (.lst (vs.take r ++ [.ref t] ++ vs.drop r))) q (.lst ((Ns ahead).take r ++ [nV u] ++ (Ns ahead).drop r))) v x := by
        intro v x hv
        obtain ⟨c, rfl, hc⟩ := hv.kp k5
        refine ⟨c, rfl, ?_⟩
        rw [upd_ne (ne_of hc (x25 _ _ hq2) (by intro z; cases z)), upd_ne (ne_of hc hp5 (by intro z; cases z))]
        exact hc
      refine Paired.app (Paired.app (Paired.takeP r (Paired.mapP hps kk)) (.cons ⟨t, rfl, ?_⟩ .nil)) (Paired.dropP r (Paired.mapP hps kk))
      rw [upd_ne (ne_of hte2 (x25 _ _ hq2) (by intro z; cases z)), upd_ne (ne_of hte2 hp5 (by intro z; cases z))]
      exact hte2
    · rw [upd_same]
      show some (HO.lst ((Ns ahead).take r ++ [nV u] ++ (Ns ahead).drop r)) = _
      rw [ns_ins]
    · rw [(ins_perm ropes r e).length_eq, List.length_cons]
    · rw [(ins_perm ahead r u).length_eq, List.length_cons, hla]
    · intro t
      rw [(ins_perm ropes r e).mem_iff, List.mem_cons]
    · intro t ht
      rw [(ins_perm ahead r u).mem_iff, List.mem_cons] at ht
      rcases ht with rfl | ht
      · exact .inl hu
      · exact .inr ht
end
end Tw

namespace Tw
open PySem PySem.Spec PyProof.Rows L2 TM
theorem sc__law_net : FnScope ["_law_bag_here", "_law_stations", "_law_further", "_law_order_here", "_law_shape", "_law_chain", "_law_net_here", "_law_k", "_law_near", "_law_one", "_law_gap"] ["_law_bag_here", "_law_stations", "_law_further"] (defScope s__law_net) := ⟨rfl, rfl, rfl, by decide +kernel, rfl, by decide +kernel, by decide +kernel⟩
section
variable {P : Program} {w : World} {K : PySem.W.Frag} {mg : Str → Option Value} {base : Heap}
/-- ropes join the first i of the order -/
def Cn (os : List Nat) (i : Nat) (ropes : TM.Rp) : Prop := ∀ P : Nat → Prop, (∀ p ∈ ropes, P p.1 ↔ P p.2) → ∀ a b x y, a < i → b < i → os[a]? = some x → os[b]? = some y → P x → P y
def Ed (n : Nat) (ropes : TM.Rp) : Prop := ∀ p ∈ ropes, p.1 < n ∧ p.2 < n ∧ p.1 ≠ p.2
theorem cn_add {os : List Nat} {i j x y : Nat} {ropes ropes' : TM.Rp} {e : Nat × Nat} (h : Cn os i ropes) (hj : j < i) (hx : os[j]? = some x) (hy : os[i]? = some y) (he : e = (x, y) ∨ e = (y, x)) (hm : ∀ t, t ∈ ropes' ↔ t = e ∨ t ∈ ropes) : Cn os (i + 1) ropes' := by
  intro P hP a b u v ha hb hu hv hPu
  have hP' : ∀ p ∈ ropes, P p.1 ↔ P p.2 := fun p hp => hP p ((hm p).mpr (.inr hp))
  have hxy : P x ↔ P y := by
    have q := hP e ((hm e).mpr (.inl rfl))
    rcases he with rfl | rfl
    · exact q
    · exact q.symm
  have hPx : P x := by
    by_cases c : a = i
    · subst c
      rw [hy] at hu
      cases hu
      exact hxy.mpr hPu
    · exact h P hP' a j u x (by omega) hj hu hx hPu
  by_cases c : b = i
  · subst c
    rw [hy] at hv
    cases hv
    exact hxy.mp hPx
  · exact h P hP' j b x v hj (by omega) hx hv hPx
theorem cn_more {os : List Nat} {i : Nat} {ropes ropes' : TM.Rp} {e : Nat × Nat} (h : Cn os i ropes) (hm : ∀ t, t ∈ ropes' ↔ t = e ∨ t ∈ ropes) : Cn os i ropes' := fun P hP => h P fun p hp => hP p ((hm p).mpr (.inr hp))
theorem ed_add {n x y : Nat} {ropes ropes' : TM.Rp} {e : Nat × Nat} (h : Ed n ropes) (hx : x < n) (hy : y < n) (ne : x ≠ y) (he : e = (x, y) ∨ e = (y, x)) (hm : ∀ t, t ∈ ropes' ↔ t = e ∨ t ∈ ropes) : Ed n ropes' := by
  intro p hp
  rcases (hm p).mp hp with rfl | hp
  · rcases he with rfl | rfl
    · exact ⟨hx, hy, ne⟩
    · exact ⟨hy, hx, ne.symm⟩
  · exact h p hp
theorem order_ne {n a b x y : Nat} {os : List Nat} (h : IsOrder n os) (hx : os[a]? = some x) (hy : os[b]? = some y) (ne : a ≠ b) : x ≠ y := fun e => by
  subst e
  exact ne (nd_ix h.2.1 hx hy)
theorem order_lt {n a x : Nat} {os : List Nat} (h : IsOrder n os) (hx : os[a]? = some x) : x < n := (h.2.2 x).mp (List.mem_of_getElem? hx)
theorem ok_of {n : Nat} {os : List Nat} {ropes : TM.Rp} (h1 : 1 ≤ n) (h24 : n ≤ 24) (h40 : ropes.length ≤ 40) (ho : IsOrder n os) (hc : Cn os n ropes) (he : Ed n ropes) : Ok n ropes := by
  refine ⟨h1, h24, h40, he, fun P hP a b ha hb hPa => ?_⟩
  obtain ⟨i, hi⟩ := List.getElem?_of_mem ((ho.2.2 a).mpr ha)
  obtain ⟨j, hj⟩ := List.getElem?_of_mem ((ho.2.2 b).mpr hb)
  have l1 := lt_of_get hi
  have l2 := lt_of_get hj
  rw [ho.1] at l1 l2
  exact hc P hP i j a b l1 l2 hi hj hPa
/-- the objects of the net while it is made -/
structure NW (H : Hp) (B op p q N : Addr) (os : List Nat) (H' : Hp) (ropes : TM.Rp) (ahead : List Nat) : Prop where
  off : Off B H H'
  bag : Bag H' B
  ord : H' op = some (.lst (Ns os))
  net : H' N = some (.lst [.ref p, .ref q])
  rps : PairsL H' p ropes
  ahd : H' q = some (.lst (Ns ahead))
  len : ahead.length = ropes.length
  c2 : c01 ahead
theorem NW.take {H : Hp} {B op p q N : Addr} {os : List Nat} {H1 H2 : Hp} {ropes : TM.Rp} {ahead : List Nat} (x : NW H B op p q N os H1 ropes ahead) (n1 : op ≠ B) (n2 : q ≠ B) (b : Bag H2 B) (e : Off B H1 H2) (n3 : N ≠ B) : NW H B op p q N os H2 ropes ahead :=
  ⟨x.off.trans e, b, e _ _ n1 x.ord, e _ _ n3 x.net, x.rps.kp (e.kp x.bag), e _ _ n2 x.ahd, x.len, x.c2⟩
theorem NW.add {H : Hp} {B op p q N : Addr} {os : List Nat} {H1 H2 : Hp} {ropes ropes' : TM.Rp} {ahead ahead' : List Nat} (x : NW H B op p q N os H1 ropes ahead) (hp : H p = none) (hq : H q = none) (n1 : op ≠ B) (n2 : op ≠ p) (n3 : op ≠ q) (n4 : N ≠ B) (n5 : N ≠ p) (n6 : N ≠ q)
    (k : ∀ x o, x ≠ B → x ≠ p → x ≠ q → H1 x = some o → H2 x = some o) (b : Bag H2 B) (r : PairsL H2 p ropes') (a : H2 q = some (.lst (Ns ahead'))) (l1 : ropes'.length = ropes.length + 1) (l2 : ahead'.length = ropes.length + 1) (c : ∀ t ∈ ahead', t < 2 ∨ t ∈ ahead) : NW H B op p q N os H2 ropes' ahead' :=
  ⟨fun y o ny hy => k y o ny (ne_of_none hy hp) (ne_of_none hy hq) (x.off y o ny hy), b, k _ _ n1 n2 n3 x.ord, k _ _ n4 n5 n6 x.net, r, a, by omega, fun t ht => (c t ht).elim id fun z => x.c2 t z⟩
theorem ok__law_net (T : Txt K mg) (D : Dfn K mg "_law_net" s__law_net) (c__law_add_rope : Cal P w K mg base "_law_add_rope" 2 ["_law_bag_here", "_law_net_here", "_law_near", "_law_far"] (sp__law_add_rope K)) (c__law_order : Cal P w K mg base "_law_order" 2 ["_law_bag_here", "_law_many"] (sp__law_order K)) (c__law_take : Cal P w K mg base "_law_take" 1 ["_law_bag_here", "_law_many"] (sp__law_take K)) :
    Cal P w K mg base "_law_net" 3 ["_law_bag_here", "_law_stations", "_law_further"] (sp__law_net K) := by
  refine D.cal (k := 2) sc__law_net (fun vs H Q E h => ?_) (fun _ _ _ _ _ _ us hl => match us, hl with | [_, _, _], _ => rfl) (fun cdv A outer s H vs Q E hr h => ?_)
  · obtain ⟨_, _, _, rfl, _⟩ := h
    rfl
  · obtain ⟨B, n, f, rfl, hB, h1, h24, h17, hQ⟩ := h
    refine ⟨_, (pss_cons (ps_set (i := 3) sc__law_net.nd rfl (Or.inl rfl) (pe_cal c__law_order (hr.mono (by decide)) (pa_cons (pv 0) (pa_cons (pv 1) pa_nil))))
      (pss_cons (ps_set (i := 4) sc__law_net.nd rfl (Or.inl rfl) (pe_cal c__law_take (hr.mono (by decide)) (pa_cons (pv 0) (pa_cons pe_int pa_nil))))
      (pss_cons (ps_set (i := 5) sc__law_net.nd rfl (Or.inl rfl) (pe_ix ix_list (pe_lst (pa_cons pe_int (pa_cons (pv 1) (pa_cons pe_int (pa_cons pe_int (pa_cons (pv 1) pa_nil)))))) (pv 4) (fun _ _ => rfl)))
      (Evl.pss_cut (ps_if (PW.pt (pw_and (pt_cmpR op_gt (pv 1) pe_int (nomark _)) (pw_and1 (pt_cmpR op_eq (pv 4) pe_int (nomark _))))) (pss_one (ps_set (i := 5) sc__law_net.nd rfl (Or.inl rfl) (pe_op op_add pe_int (pe_cal c__law_take (hr.mono (by decide)) (pa_cons (pv 0) (pa_cons (pe_op op_sub (pv 1) pe_int) pa_nil)))))) pss_nil)
      (pss_cons (ps_set (i := 6) sc__law_net.nd rfl (Or.inl rfl) (pe_lst (pa_cons (pe_lst pa_nil) (pa_cons (pe_lst pa_nil) pa_nil))))
      (pss_cons (ps_for PassesOwn.never rfl (pi_range2 rfl T.b_range (pa_cons pe_int (pa_cons (pv 1) pa_nil))) (pg_name (i := 7) sc__law_net.nd rfl (Or.inl rfl)) (pss_cons (ps_set (i := 8) sc__law_net.nd rfl (Or.inl rfl) (pe_op op_sub (pv 7) pe_int))
      (Evl.pss_cut (ps_if (pt_cmpR op_ge (pv 7) (pv 5) (nomark _)) (pss_one (ps_set (i := 8) sc__law_net.nd rfl (Or.inl rfl) (pe_cal c__law_take (hr.mono (by decide)) (pa_cons (pv 0) (pa_cons (pv 7) pa_nil))))) pss_nil)
      (pss_one (ps_expr (pe_cal c__law_add_rope (hr.mono (by decide)) (pa_cons (pv 0) (pa_cons (pv 6) (pa_cons (pe_ix ix_list (pv 3) (pv 8) (fun _ _ => rfl)) (pa_cons (pe_ix ix_list (pv 3) (pv 7) (fun _ _ => rfl)) pa_nil))))))))))
      (Evl.pss_cut (ps_if (PW.pt (pw_and (pt_cmpR op_gt (pv 1) pe_int (nomark _)) (pw_and1 (PW.pt (pw_or (pt_cmpR op_eq (pv 4) pe_int (nomark _)) (pw_or1 (pt_cmpR op_eq (pv 4) pe_int (nomark _)))))))) (pss_one (ps_expr (pe_cal c__law_add_rope (hr.mono (by decide)) (pa_cons (pv 0) (pa_cons (pv 6) (pa_cons (pe_ix ix_list (pv 3) (pe_op op_sub (pv 5) pe_int) (fun _ _ => rfl)) (pa_cons (pe_ix ix_list (pv 3) pe_int (fun _ _ => rfl)) pa_nil))))))) pss_nil)
      (pss_cons (ps_if (PW.pt (pw_and (pt_cmpR op_gt (pv 1) pe_int (nomark _)) (pw_and1 (pt_cmpR op_eq (pv 4) pe_int (nomark _))))) (pss_one (ps_for PassesOwn.never rfl (pi_range1 rfl T.b_range (pa_cons (pe_cal c__law_take (hr.mono (by decide)) (pa_cons (pv 0) (pa_cons (pe_op op_add (pv 2) pe_int) pa_nil))) pa_nil)) (pg_name (i := 7) sc__law_net.nd rfl (Or.inl rfl)) (pss_cons (ps_set (i := 9) sc__law_net.nd rfl (Or.inl rfl) (pe_cal c__law_take (hr.mono (by decide)) (pa_cons (pv 0) (pa_cons (pv 1) pa_nil))))
      (pss_cons (ps_set (i := 10) sc__law_net.nd rfl (Or.inl rfl) (pe_op op_add pe_int (pe_cal c__law_take (hr.mono (by decide)) (pa_cons (pv 0) (pa_cons (pe_op op_sub (pv 1) pe_int) pa_nil)))))
      (pss_one (ps_expr (pe_cal c__law_add_rope (hr.mono (by decide)) (pa_cons (pv 0) (pa_cons (pv 6) (pa_cons (pv 9) (pa_cons (pe_op op_mod (pe_callTy call_int1 (by rfl) T.b_int (by decide +kernel) (pa_cons (pe_op op_add (pv 9) (pv 10)) pa_nil)) (pv 1)) pa_nil))))))))))) pss_nil)
      (pss_one (ps_ret (pe_lst (pa_cons (pv 3) (pa_cons (pe_ix ix_list (pv 6) pe_int (fun _ _ => rfl)) (pa_cons (pe_ix ix_list (pv 6) pe_int (fun _ _ => rfl)) pa_nil)))))))))))))), ?_⟩
    refine ⟨_, rfl, _, rfl, B, n, rfl, hB, h24, fun op H1 os e1 b1 hop0 hop ho => ?_⟩
    have nopB : op ≠ B := ne_bag (xs := []) hB hop0
    refine ⟨_, rfl, B, 5, rfl, b1, by decide, by decide, fun sh H2 hsh b2 e2 => ?_⟩
    have e12 := e1.trans e2
    have hop2 := e2 _ _ nopB hop
    refine ⟨_, rfl, _, rfl, sz1 (by show 5 ≤ 100000; decide), fun cl hcl => ?_⟩
    generalize hH3 : upd H2 cl (.lst [.int 1, nV n, .int 1, .int 1, nV n]) = H3
    have x3 : Ex H2 H3 := by
      rw [← hH3]
      exact exn hcl
    have hcl3 : H3 cl = some (.lst [.int 1, nV n, .int 1, .int 1, nV n]) := by rw [← hH3]; exact upd_same
    obtain ⟨c0, hc0, hc0n⟩ : ∃ c0, ([.int 1, nV n, .int 1, .int 1, nV n] : List V)[sh]? = some (nV c0) ∧ (sh = 1 → c0 = n) := by
      have : sh = 0 ∨ sh = 1 ∨ sh = 2 ∨ sh = 3 ∨ sh = 4 := by omega
      rcases this with rfl | rfl | rfl | rfl | rfl
      · exact ⟨1, rfl, fun z => by cases z⟩
      · exact ⟨n, rfl, fun _ => rfl⟩
      · exact ⟨1, rfl, fun z => by cases z⟩
      · exact ⟨1, rfl, fun z => by cases z⟩
      · exact ⟨n, rfl, fun z => by cases z⟩
    refine ⟨_, rfl, _, _, _, _, rfl, rfl, SqL.of hcl3, atI_nat hc0, ?_⟩
    have b3 := b2.ex x3
    have e13 : Off B H H3 := e12.trans x3.off
    have hop3 := x3 _ _ hop2
    refine ⟨fun σ H' => ∃ c, σ = [some (.ref B), some (nV n), some (nV f), some (.ref op), some (nV sh), some (nV c), none, none, none, none, none] ∧ (1 < n → sh = 1 ∨ sh = 3 → 2 ≤ c ∧ c ≤ n) ∧ Off B H H' ∧ Bag H' B ∧ H' op = some (.lst (Ns os)), ?_, ?_⟩
    · refine ⟨_, rfl, _, _, rfl, rfl, _, rfl, dI (fun c1 => ?_) (fun c1 => ?_)⟩
      · refine ⟨_, rfl, rfl, _, rfl, dI (fun c2 => ?_) (fun c2 => ?_)⟩
        · refine ⟨_, rfl, _, rfl, _, _, rfl, rfl, B, n - 1, v2 (by omega), b3, by omega, by omega, fun r H4 hr b4 e4 => ?_⟩
          exact ⟨_, _, rfl, rfl, 2 + r, rfl, fun _ _ => ⟨by omega, by omega⟩, e13.trans e4, b4, e4 _ _ nopB hop3⟩
        · have c2' : ¬ sh = 3 := fun z => c2 (by rw [z]; rfl)
          refine ⟨c0, rfl, fun l o => ?_, e13, b3, hop3⟩
          have : c0 = n := hc0n (o.resolve_right c2')
          omega
      · exact ⟨c0, rfl, fun l => by omega, e13, b3, hop3⟩
    · rintro _ H4 ⟨c, rfl, hcn, e4, b4, hop4⟩
      refine ⟨Nat.zero_le _, fun p hp => ⟨Nat.zero_le _, fun q hq => ⟨sz1 (by show 2 ≤ 100000; decide), fun N hN => ?_⟩⟩⟩
      have npq : p ≠ q := ne_of_none upd_same hq
      have npN : p ≠ N := ne_of_none (upd_get hq upd_same) hN
      have nqN : q ≠ N := ne_of_none upd_same hN
      have hq4 : H4 q = none := by
        rw [upd_ne (Ne.symm npq)] at hq
        exact hq
      have hN4 : H4 N = none := by
        rw [upd_ne (Ne.symm nqN), upd_ne (Ne.symm npN)] at hN
        exact hN
      have npB : p ≠ B := ne_bag (xs := []) b4 hp
      have nqB : q ≠ B := ne_bag (xs := []) b4 hq4
      have nNB : N ≠ B := ne_bag (xs := []) b4 hN4
      have nop : op ≠ p := ne_of_none hop4 hp
      have noq : op ≠ q := ne_of_none hop4 hq4
      have noN : op ≠ N := ne_of_none hop4 hN4
      have hpH : H p = none := fresh_off hB e4 hp b4
      have hqH : H q = none := fresh_off hB e4 hq4 b4
      have hNH : H N = none := fresh_off hB e4 hN4 b4
      have nw0 : NW H B op p q N os (upd (upd (upd H4 p (.lst [])) q (.lst [])) N (.lst [.ref p, .ref q])) [] [] := by
        refine ⟨off_mut (off_mut (off_mut e4 hpH) hqH) hNH, bag_keep (bag_keep (bag_keep b4 npB) nqB) nNB, upd_get hN (upd_get hq (upd_get hp hop4)), upd_same, ⟨[], upd_get hN (upd_get hq upd_same), .nil⟩, upd_get hN upd_same, rfl, fun _ z => nomatch z⟩
      have hon : os.length = n := ho.1
      refine ⟨_, rfl, _, _, rfl, ⟨by decide, by decide, by omega, by omega⟩, for_range1 (n := n) h1 (fun i σ H' => ∃ k nr ropes ahead, σ = [some (.ref B), some (nV n), some (nV f), some (.ref op), some (nV sh), some (nV c), some (.ref N), k, nr, none, none] ∧ NW H B op p q N os H' ropes ahead ∧ ropes.length = i - 1 ∧ Cn os i ropes ∧ Ed n ropes) ⟨none, none, [], [], rfl, nw0, rfl, ?_, fun _ z => nomatch z⟩ ?_ ?_⟩
      · intro P _ a b x y ha hb hx hy hPx
        have : a = b := by omega
        subst this
        rw [hx] at hy
        cases hy
        exact hPx
      · rintro i σ H5 hi1 hi ⟨k, nr, ropes, ahead, rfl, w5, hrl, hcn5, hed5⟩
        refine ⟨_, rfl, _, _, rfl, rfl, ?_⟩
        refine ⟨fun σ H' => ∃ j, σ = [some (.ref B), some (nV n), some (nV f), some (.ref op), some (nV sh), some (nV c), some (.ref N), some (nV i), some (nV j), none, none] ∧ j < i ∧ NW H B op p q N os H' ropes ahead, ?_, ?_⟩
        · refine ⟨_, rfl, _, rfl, _, _, rfl, rfl, _, rfl, dI (fun c1 => ?_) (fun c1 => ?_)⟩
          · refine ⟨_, rfl, _, rfl, B, i, rfl, w5.bag, by omega, by omega, fun r H6 hr b6 e6 => ?_⟩
            exact ⟨r, rfl, hr, w5.take nopB nqB b6 e6 nNB⟩
          · refine ⟨i - 1, ?_, by omega, w5⟩
            have ei : ((i : Nat) : Int) - 1 = ((i - 1 : Nat) : Int) := by omega
            show [_, _, _, _, _, _, _, _, some (V.int (((i : Nat) : Int) - 1)), _, _] = _
            rw [ei]
        · rintro _ H6 ⟨j, rfl, hj, w6⟩
          obtain ⟨x, hx⟩ := get_of_lt (show j < os.length by omega)
          obtain ⟨y, hy⟩ := get_of_lt (show i < os.length by omega)
          refine ⟨_, rfl, _, rfl, _, rfl, _, rfl, _, _, _, _, rfl, rfl, SqL.of w6.ord, atI_nat (ns_get hx), _, rfl, _, rfl, _, _, _, _, rfl, rfl, SqL.of w6.ord, atI_nat (ns_get hy), ?_⟩
          refine ⟨B, N, p, q, x, y, ropes, ahead, rfl, w6.bag, w6.net, w6.rps, w6.ahd, npB, nqB, nNB, npq, npN, nqN, by omega, w6.len, fun H7 ropes' ahead' e k7 b7 r7 a7 l7 l8 he hm hc => ?_⟩
          exact ⟨_, _, ropes', ahead', rfl, w6.add hpH hqH nopB nop noq nNB (Ne.symm npN) (Ne.symm nqN) k7 b7 r7 a7 l7 l8 hc, by omega, cn_add hcn5 hj hx hy he hm, ed_add hed5 (order_lt ho hx) (order_lt ho hy) (order_ne ho hx hy (by omega)) he hm⟩
      · rintro σ H5 ⟨k, nr, ropes, ahead, rfl, w5, hrl, hcn5, hed5⟩
        refine ⟨fun σ H' => ∃ k nr ropes ahead, σ = [some (.ref B), some (nV n), some (nV f), some (.ref op), some (nV sh), some (nV c), some (.ref N), k, nr, none, none] ∧ NW H B op p q N os H' ropes ahead ∧ ropes.length ≤ 23 + (if sh = 2 then 0 else 1) ∧ Cn os n ropes ∧ Ed n ropes, ?_, ?_⟩
        · have same : ∃ k nr ropes ahead, [some (.ref B), some (nV n), some (nV f), some (.ref op), some (nV sh), some (nV c), some (.ref N), k, nr, none, none] = [some (.ref B), some (nV n), some (nV f), some (.ref op), some (nV sh), some (nV c), some (.ref N), k, nr, none, none] ∧ NW H B op p q N os H5 ropes ahead ∧ ropes.length ≤ 23 + (if sh = 2 then 0 else 1) ∧ Cn os n ropes ∧ Ed n ropes :=
            ⟨k, nr, ropes, ahead, rfl, w5, by omega, hcn5, hed5⟩
          have ring : 1 < n → sh = 1 ∨ sh = 3 → (tDrop (tCall (sp__law_add_rope K) [] E0 (tCons (tVar 0) (tCons (tVar 6) (tCons (tOp (rIxL K) (tVar 3) (tOp rSub (tVar 5) (tC (.int 1)))) (tCons (tOp (rIxL K) (tVar 3) (tC (.int 0))) tNil)))))) { nx := fun σ H' => ∃ k nr ropes ahead, σ = [some (.ref B), some (nV n), some (nV f), some (.ref op), some (nV sh), some (nV c), some (.ref N), k, nr, none, none] ∧ NW H B op p q N os H' ropes ahead ∧ ropes.length ≤ 23 + (if sh = 2 then 0 else 1) ∧ Cn os n ropes ∧ Ed n ropes, rt := Q } [some (.ref B), some (nV n), some (nV f), some (.ref op), some (nV sh), some (nV c), some (.ref N), k, nr, none, none] H5 := by
            intro l o
            obtain ⟨q1, q2⟩ := hcn l o
            obtain ⟨x, hx⟩ := get_of_lt (show c - 1 < os.length by omega)
            obtain ⟨y, hy⟩ := get_of_lt (show 0 < os.length by omega)
            refine ⟨_, rfl, _, rfl, _, rfl, _, rfl, _, _, rfl, rfl, _, _, _, _, rfl, rfl, SqL.of w5.ord, at_of (j := c - 1) (by omega) (ns_get hx), _, rfl, _, _, _, _, rfl, rfl, SqL.of w5.ord, at_of (j := 0) (by omega) (ns_get hy), ?_⟩
            refine ⟨B, N, p, q, x, y, ropes, ahead, rfl, w5.bag, w5.net, w5.rps, w5.ahd, npB, nqB, nNB, npq, npN, nqN, by omega, w5.len, fun H7 ropes' ahead' e k7 b7 r7 a7 l7 l8 he hm hc => ?_⟩
            refine ⟨_, _, ropes', ahead', rfl, w5.add hpH hqH nopB nop noq nNB (Ne.symm npN) (Ne.symm nqN) k7 b7 r7 a7 l7 l8 hc, ?_, cn_more hcn5 hm, ed_add hed5 (order_lt ho hx) (order_lt ho hy) (order_ne ho hx hy (by omega)) he hm⟩
            rw [if_neg (by omega)]
            omega
          refine ⟨_, rfl, _, _, rfl, rfl, _, rfl, dI (fun c1 => ?_) (fun c1 => ?_)⟩
          rotate_left
          · exact ⟨k, nr, ropes, ahead, rfl, w5, by omega, hcn5, hed5⟩
          refine ⟨_, rfl, rfl, _, rfl, dI (fun c2 => ?_) (fun c2 => ?_)⟩
          · exact ring (by omega) (.inl (by have := nV_eq.mp c2; omega))
          · refine ⟨_, rfl, rfl, _, rfl, dI (fun c3 => ?_) (fun c3 => ?_)⟩
            rotate_left
            · exact ⟨k, nr, ropes, ahead, rfl, w5, by omega, hcn5, hed5⟩
            exact ring (by omega) (.inr (by have := nV_eq.mp c3; omega))
        · rintro _ H6 ⟨k, nr, ropes, ahead, rfl, w6, hrl6, hcn6, hed6⟩
          have fin : ∀ (k nr a9 a10 : Option V) (ropes : TM.Rp) (ahead : List Nat) (H' : Hp), NW H B op p q N os H' ropes ahead → ropes.length ≤ 40 → Cn os n ropes → Ed n ropes →
              (tRet (tLst (tCons (tVar 3) (tCons (tOp (rIxL K) (tVar 6) (tC (.int 0))) (tCons (tOp (rIxL K) (tVar 6) (tC (.int 1))) tNil))))) { nx := fun _ H' => Q .non H', rt := Q } [some (.ref B), some (nV n), some (nV f), some (.ref op), some (nV sh), some (nV c), some (.ref N), k, nr, a9, a10] H' := by
            intro k nr a9 a10 ropes ahead H' w l40 cn ed
            refine ⟨_, rfl, _, rfl, _, _, _, _, rfl, rfl, SqL.of w.net, rfl, _, rfl, _, _, _, _, rfl, rfl, SqL.of w.net, rfl, sz1 (by show 3 ≤ 100000; decide), fun W hW => ?_⟩
            have xw : Ex H' (upd H' W (.lst [.ref op, .ref p, .ref q])) := exn hW
            exact hQ W op p q _ os ropes ahead (w.off.trans xw.off) (w.bag.ex xw) upd_same nopB nqB (xw _ _ w.ord) (w.rps.kp xw.kp) (xw _ _ w.ahd) ho (ok_of h1 h24 l40 ho cn ed) w.len w.c2
          refine ⟨_, rfl, _, _, rfl, rfl, _, rfl, dI (fun c1 => ?_) (fun c1 => fin _ _ _ _ _ _ _ w6 (by split at hrl6 <;> omega) hcn6 hed6)⟩
          refine ⟨_, rfl, rfl, _, rfl, dI (fun c2 => ?_) (fun c2 => fin _ _ _ _ _ _ _ w6 (by split at hrl6 <;> omega) hcn6 hed6)⟩
          have s2 : sh = 2 := by have := nV_eq.mp c2; omega
          rw [if_pos s2] at hrl6
          refine ⟨_, rfl, _, rfl, _, _, rfl, rfl, B, f + 1, v2 (by omega), w6.bag, by omega, by omega, fun r H7 hr b7 e7 => ?_⟩
          have w7 := w6.take nopB nqB b7 e7 nNB
          refine ⟨r, rfl, by omega, by omega, for_range0 (n := r) (fun i σ H' => ∃ k nr a9 a10 ropes ahead, σ = [some (.ref B), some (nV n), some (nV f), some (.ref op), some (nV sh), some (nV c), some (.ref N), k, nr, a9, a10] ∧ NW H B op p q N os H' ropes ahead ∧ ropes.length ≤ 23 + i ∧ Cn os n ropes ∧ Ed n ropes) ⟨_, _, _, _, ropes, ahead, rfl, w7, hrl6, hcn6, hed6⟩ ?_ ?_⟩
          · rintro i σ H8 hi ⟨k, nr, a9, a10, ropes, ahead, rfl, w8, hl8, cn8, ed8⟩
            refine ⟨_, rfl, _, rfl, B, n, rfl, w8.bag, by omega, by omega, fun r1 H9 hr1 b9 e9 => ?_⟩
            have w9 := w8.take nopB nqB b9 e9 nNB
            refine ⟨_, rfl, _, rfl, _, _, rfl, rfl, B, n - 1, v2 (by omega), w9.bag, by omega, by omega, fun r2 H10 hr2 b10 e10 => ?_⟩
            have w10 := w9.take nopB nqB b10 e10 nNB
            refine ⟨_, _, rfl, rfl, ?_⟩
            refine ⟨_, rfl, _, rfl, _, rfl, _, rfl, _, rfl, _, _, rfl, rfl, .inl ⟨_, rfl, _, rfl, _, _, rfl, rfl, by omega, ?_⟩⟩
            have ey : ((r1 : Int) + (1 + (r2 : Int))) % (n : Int) = (((r1 + 1 + r2) % n : Nat) : Int) := by
              have e : (r1 : Int) + (1 + (r2 : Int)) = ((r1 + 1 + r2 : Nat) : Int) := by omega
              rw [e]
              exact (Int.natCast_emod _ _).symm
            have hy : (r1 + 1 + r2) % n < n := Nat.mod_lt _ (by omega)
            have ny : r1 ≠ (r1 + 1 + r2) % n := by
              intro z
              by_cases l : r1 + 1 + r2 < n
              · rw [Nat.mod_eq_of_lt l] at z
                omega
              · have q : (r1 + 1 + r2) % n = r1 + 1 + r2 - n := by
                  rw [Nat.mod_eq_sub_mod (by omega), Nat.mod_eq_of_lt (by omega)]
                omega
            refine ⟨B, N, p, q, r1, (r1 + 1 + r2) % n, ropes, ahead, ?_, w10.bag, w10.net, w10.rps, w10.ahd, npB, nqB, nNB, npq, npN, nqN, by omega, w10.len, fun H11 ropes' ahead' e k7 b7 r7 a7 l7 l8 he hm hc => ?_⟩
            · show [V.ref B, V.ref N, nV r1, V.int (((r1 : Int) + (1 + (r2 : Int))) % (n : Int))] = _
              rw [ey]
            · exact ⟨_, _, _, _, ropes', ahead', rfl, w10.add hpH hqH nopB nop noq nNB (Ne.symm npN) (Ne.symm nqN) k7 b7 r7 a7 l7 l8 hc, by omega, cn_more cn8 hm, ed_add ed8 hr1 hy ny he hm⟩
          · rintro σ H8 ⟨k, nr, a9, a10, ropes, ahead, rfl, w8, hl8, cn8, ed8⟩
            exact fin _ _ _ _ _ _ _ w8 (by omega) cn8 ed8
end
end Tw

namespace Tw
open PySem PySem.Spec PyProof.Rows L2 TM
theorem sc__law_guests : FnScope ["_law_bag_here", "_law_order_here", "_law_most", "_law_counts", "_law_sort", "_law_many", "_law_k", "_law_at", "_law_dress", "_law_guests_here"] ["_law_bag_here", "_law_order_here", "_law_most"] (defScope s__law_guests) := ⟨rfl, rfl, rfl, by decide +kernel, rfl, by decide +kernel, by decide +kernel⟩
section
variable {P : Program} {w : World} {K : PySem.W.Frag} {mg : Str → Option Value} {base : Heap}
theorem sum0 (n : Nat) : (List.replicate n 0).sum = 0 := by
  induction n with
  | zero => rfl
  | succ n ih =>
    rw [List.replicate_succ, List.sum_cons, ih]
structure GW (H : Hp) (B W r b : Addr) (n i : Nat) (H' : Hp) (reds blues : List Nat) : Prop where
  off : Off B H H'
  bag : Bag H' B
  w : H' W = some (.lst [.ref r, .ref b])
  r : H' r = some (.lst (Ns reds))
  b : H' b = some (.lst (Ns blues))
  lr : reds.length = n
  lb : blues.length = n
  sm : reds.sum + blues.sum ≤ i
theorem GW.take {H H1 H2 : Hp} {B W r b : Addr} {n i : Nat} {reds blues : List Nat} (x : GW H B W r b n i H1 reds blues) (n1 : W ≠ B) (n2 : r ≠ B) (n3 : b ≠ B) (e : Off B H1 H2) (bg : Bag H2 B) : GW H B W r b n i H2 reds blues :=
  ⟨x.off.trans e, bg, e _ _ n1 x.w, e _ _ n2 x.r, e _ _ n3 x.b, x.lr, x.lb, x.sm⟩
theorem ok__law_guests (T : Txt K mg) (D : Dfn K mg "_law_guests" s__law_guests) (c__law_take : Cal P w K mg base "_law_take" 1 ["_law_bag_here", "_law_many"] (sp__law_take K)) :
    Cal P w K mg base "_law_guests" 2 ["_law_bag_here", "_law_order_here", "_law_most"] (sp__law_guests K) := by
  refine D.cal (k := 1) sc__law_guests (fun vs H Q E h => ?_) (fun _ _ _ _ _ _ us hl => match us, hl with | [_, _, _], _ => rfl) (fun cdv A outer s H vs Q E hr h => ?_)
  · obtain ⟨_, _, _, _, _, rfl, _⟩ := h
    rfl
  · obtain ⟨B, op, m, n, os, rfl, hB, nopB, hop, ho, h1, h24, hm1, hm30, hQ⟩ := h
    have hlo : (Ns os).length = n := by rw [ns_len, ho.1]
    refine ⟨_, (pss_cons (ps_set (i := 3) sc__law_guests.nd rfl (Or.inl rfl) (pe_lst (pa_cons (pe_op op_rep (pe_lst (pa_cons pe_int pa_nil)) (pe_callB call_len_seq (by rfl) T.b_len (by decide +kernel) (pa_cons (pv 1) pa_nil))) (pa_cons (pe_op op_rep (pe_lst (pa_cons pe_int pa_nil)) (pe_callB call_len_seq (by rfl) T.b_len (by decide +kernel) (pa_cons (pv 1) pa_nil))) pa_nil))))
      (pss_cons (ps_set (i := 4) sc__law_guests.nd rfl (Or.inl rfl) (pe_cal c__law_take (hr.mono (by decide)) (pa_cons (pv 0) (pa_cons pe_int pa_nil))))
      (pss_cons (ps_set (i := 5) sc__law_guests.nd rfl (Or.inl rfl) (pe_op op_add pe_int (pe_cal c__law_take (hr.mono (by decide)) (pa_cons (pv 0) (pa_cons (pv 2) pa_nil)))))
      (Evl.pss_cut (ps_if (pt_cmpR op_eq (pv 4) pe_int (nomark _)) (pss_one (ps_set (i := 5) sc__law_guests.nd rfl (Or.inl rfl) pe_int)) pss_nil)
      (pss_cons (ps_for PassesOwn.never rfl (pi_range1 rfl T.b_range (pa_cons (pv 5) pa_nil)) (pg_name (i := 6) sc__law_guests.nd rfl (Or.inl rfl)) (pss_cons (ps_set (i := 7) sc__law_guests.nd rfl (Or.inl rfl) (pe_cal c__law_take (hr.mono (by decide)) (pa_cons (pv 0) (pa_cons (pe_callB call_len_seq (by rfl) T.b_len (by decide +kernel) (pa_cons (pv 1) pa_nil)) pa_nil))))
      (pss_cons (ps_set (i := 8) sc__law_guests.nd rfl (Or.inl rfl) (pe_cal c__law_take (hr.mono (by decide)) (pa_cons (pv 0) (pa_cons pe_int pa_nil))))
      (Evl.pss_cut (ps_if (PW.pt (pw_or (pt_cmpR op_eq (pv 4) pe_int (nomark _)) (pw_or1 (pt_cmpR op_eq (pv 4) pe_int (nomark _))))) (pss_one (ps_set (i := 8) sc__law_guests.nd rfl (Or.inl rfl) (pe_op op_sub (pv 4) pe_int))) pss_nil)
      (Evl.pss_cut (ps_if (PW.pt (pw_or (pt_cmpR op_eq (pv 4) pe_int (nomark _)) (pw_or1 (pt_cmpR op_eq (pv 4) pe_int (nomark _))))) (pss_one (ps_set (i := 7) sc__law_guests.nd rfl (Or.inl rfl) (pe_ix ix_list (pv 1) (pe_ix ix_list (pe_lst (pa_cons pe_int (pa_cons (pe_op op_sub (pe_callB call_len_seq (by rfl) T.b_len (by decide +kernel) (pa_cons (pv 1) pa_nil)) pe_int) pa_nil))) (pe_op op_mod (pe_callTy call_int1 (by rfl) T.b_int (by decide +kernel) (pa_cons (pe_op op_add (pv 4) (pv 8)) pa_nil)) pe_int) (fun _ _ => rfl)) (fun _ _ => rfl)))) pss_nil)
      (pss_cons (ps_set (i := 9) sc__law_guests.nd rfl (Or.inl rfl) (pe_ix ix_list (pv 3) (pv 8) (fun _ _ => rfl)))
      (pss_one (ps_asg (pe_op op_add (pe_ix ix_list (pv 9) (pv 7) (fun _ _ => rfl)) pe_int) (pg_sub (pv 9) (pv 7) set_list)))))))))
      (pss_one (ps_ret (pv 3)))))))), ?_⟩
    refine ⟨sz1 (by show 1 ≤ 100000; decide), fun z1 hz1 => ?_⟩
    have x1 : Ex H (upd H z1 (.lst [.int 0])) := exn hz1
    have hz1' : upd H z1 (.lst [.int 0]) z1 = some (.lst [.int 0]) := upd_same
    generalize upd H z1 (.lst [.int 0]) = H1 at x1 hz1' ⊢
    refine ⟨_, rfl, _, _, rfl, .inl (SqL.of (x1 _ _ hop)), _, _, _, rfl, rfl, hz1', by omega, by omega, sz1 (by show 1 * _ ≤ 100000; omega), fun r hr => ?_⟩
    have er : (List.replicate (((Ns os).length : Int)).toNat [V.int 0]).flatten = Ns (List.replicate n 0) := by
      rw [hlo]
      exact rep0 n
    rw [er]
    have x2 : Ex H (upd H1 r (.lst (Ns (List.replicate n 0)))) := x1.trans (exn hr)
    have hrv : upd H1 r (.lst (Ns (List.replicate n 0))) r = some (.lst (Ns (List.replicate n 0))) := upd_same
    generalize upd H1 r (.lst (Ns (List.replicate n 0))) = H2 at x2 hrv ⊢
    refine ⟨sz1 (by show 1 ≤ 100000; decide), fun z2 hz2 => ?_⟩
    have x3 : Ex H2 (upd H2 z2 (.lst [.int 0])) := exn hz2
    have hz2' : upd H2 z2 (.lst [.int 0]) z2 = some (.lst [.int 0]) := upd_same
    generalize upd H2 z2 (.lst [.int 0]) = H3 at x3 hz2' ⊢
    refine ⟨_, rfl, _, _, rfl, .inl (SqL.of ((x2.trans x3) _ _ hop)), _, _, _, rfl, rfl, hz2', by omega, by omega, sz1 (by show 1 * _ ≤ 100000; omega), fun b hb => ?_⟩
    rw [er]
    have x4 : Ex H3 (upd H3 b (.lst (Ns (List.replicate n 0)))) := exn hb
    have hbv : upd H3 b (.lst (Ns (List.replicate n 0))) b = some (.lst (Ns (List.replicate n 0))) := upd_same
    generalize upd H3 b (.lst (Ns (List.replicate n 0))) = H4 at x4 hbv ⊢
    refine ⟨sz1 (by show 2 ≤ 100000; decide), fun W hW => ?_⟩
    have x5 : Ex H4 (upd H4 W (.lst [.ref r, .ref b])) := exn hW
    have hWv : upd H4 W (.lst [.ref r, .ref b]) W = some (.lst [.ref r, .ref b]) := upd_same
    generalize upd H4 W (.lst [.ref r, .ref b]) = H5 at x5 hWv ⊢
    have hrH : H r = none := Evl.fresh_back x1 hr
    have hbH : H b = none := Evl.fresh_back (x2.trans x3) hb
    have hWH : H W = none := Evl.fresh_back ((x2.trans x3).trans x4) hW
    have nrB : r ≠ B := ne_bag (xs := []) hB hrH
    have nbB : b ≠ B := ne_bag (xs := []) hB hbH
    have nWB : W ≠ B := ne_bag (xs := []) hB hWH
    have nrb : r ≠ b := ne_of_none (x3 _ _ hrv) hb
    have nrW : r ≠ W := ne_of_none ((x3.trans x4) _ _ hrv) hW
    have nbW : b ≠ W := ne_of_none hbv hW
    have x05 : Ex H H5 := ((x2.trans x3).trans x4).trans x5
    have w5 : GW H B W r b n 0 H5 (List.replicate n 0) (List.replicate n 0) := ⟨x05.off, hB.ex x05, hWv, ((x3.trans x4).trans x5) _ _ hrv, x5 _ _ hbv, List.length_replicate .., List.length_replicate .., by
      have := sum0 n
      omega⟩
    clear x05 hWv hbv hrv x4 x5 x3 hW hb hr x2 x1 hz1 hz2 hz1' hz2'
    refine ⟨_, rfl, B, 8, rfl, w5.bag, by decide, by decide, fun sort H6 hs b6 e6 => ?_⟩
    have w6 := w5.take nWB nrB nbB e6 b6
    refine ⟨_, rfl, _, rfl, B, m, rfl, w6.bag, by omega, by omega, fun r7 H7 hr7 b7 e7 => ⟨_, _, rfl, rfl, ?_⟩⟩
    have w7 := w6.take nWB nrB nbB e7 b7
    refine ⟨fun σ H' => ∃ k : Nat, σ = [some (.ref B), some (.ref op), some (nV m), some (.ref W), some (nV sort), some (nV k), none, none, none, none] ∧ k ≤ m ∧ H' = H7, ?_, ?_⟩
    · exact ⟨_, rfl, rfl, _, rfl, dI (fun c => ⟨0, rfl, by omega, rfl⟩) (fun c => ⟨1 + r7, rfl, by omega, rfl⟩)⟩
    rintro _ H7 ⟨k, rfl, hk, rfl⟩
    refine ⟨_, rfl, k, rfl, by omega, by omega, for_range0 (n := k) (fun i σ H' => ∃ g6 g7 g8 g9 reds blues, σ = [some (.ref B), some (.ref op), some (nV m), some (.ref W), some (nV sort), some (nV k), g6, g7, g8, g9] ∧ GW H B W r b n i H' reds blues) ⟨_, _, _, _, _, _, rfl, w7⟩ ?_ ?_⟩
    · rintro i σ H8 hi ⟨g6, g7, g8, g9, reds, blues, rfl, w8⟩
      refine ⟨_, rfl, _, rfl, _, _, rfl, .inl (SqL.of (w8.off _ _ nopB hop)), B, (Ns os).length, rfl, w8.bag, by omega, by omega, fun at0 H9 hat0 b9 e9 => ?_⟩
      have w9 := w8.take nWB nrB nbB e9 b9
      refine ⟨_, rfl, B, 2, rfl, b9, by decide, by decide, fun d0 HA hd0 bA eA => ?_⟩
      have wA := w9.take nWB nrB nbB eA bA
      have hopA := wA.off _ _ nopB hop
      refine ⟨fun σ H' => ∃ (z : Int) (d : Nat), σ = [some (.ref B), some (.ref op), some (nV m), some (.ref W), some (nV sort), some (nV k), some (nV i), some (nV at0), some (.int z), g9] ∧ z = d ∧ d < 2 ∧ H' = HA, ?_, ?_⟩
      · refine ⟨_, rfl, rfl, _, rfl, dI (fun c => ?_) (fun c => ?_)⟩
        · have := nV_eq.mp c
          exact ⟨_, rfl, _, _, rfl, rfl, _, sort - 1, rfl, by omega, by omega, rfl⟩
        · refine ⟨_, rfl, rfl, _, rfl, dI (fun c => ?_) (fun c => ?_)⟩
          · have := nV_eq.mp c
            exact ⟨_, rfl, _, _, rfl, rfl, _, sort - 1, rfl, by omega, by omega, rfl⟩
          · exact ⟨_, d0, rfl, rfl, hd0, rfl⟩
      rintro _ HA ⟨_, d, rfl, rfl, hd, rfl⟩
      refine ⟨fun σ H' => ∃ a : Nat, σ = [some (.ref B), some (.ref op), some (nV m), some (.ref W), some (nV sort), some (nV k), some (nV i), some (nV a), some (nV d), g9] ∧ a < n ∧ GW H B W r b n i H' reds blues, ?_, ?_⟩
      · have go : (tAsg (tOp (rIxL K) (tVar 1) (tOp (rIxL K) (tLst (tCons (tC (.int 0)) (tCons (tOp rSub (tCB (rLenS K) (tCons (tVar 1) tNil)) (tC (.int 1))) tNil))) (tOp rMod (tCB rInt (tCons (tOp rAdd (tVar 4) (tVar 8)) tNil)) (tC (.int 2))))) (gName 7)) { nx := fun σ H' => ∃ a : Nat, σ = [some (.ref B), some (.ref op), some (nV m), some (.ref W), some (nV sort), some (nV k), some (nV i), some (nV a), some (nV d), g9] ∧ a < n ∧ GW H B W r b n i H' reds blues, rt := Q } [some (.ref B), some (.ref op), some (nV m), some (.ref W), some (nV sort), some (nV k), some (nV i), some (nV at0), some (nV d), g9] HA := by
          refine ⟨_, rfl, _, rfl, _, _, rfl, .inl (SqL.of hopA), _, _, rfl, rfl, sz1 (by show 2 ≤ 100000; decide), fun p hp => ?_⟩
          obtain ⟨j, hj, hat⟩ : ∃ j : Nat, j < n ∧ atI [V.int 0, V.int (((Ns os).length : Int) - 1)] (((sort : Int) + (d : Int)) % 2) = some (nV j) := by
            have h2 : ((sort : Int) + (d : Int)) % 2 = 0 ∨ ((sort : Int) + (d : Int)) % 2 = 1 := by omega
            rcases h2 with h2 | h2
            · rw [h2]
              exact ⟨0, by omega, rfl⟩
            · rw [h2]
              refine ⟨n - 1, by omega, ?_⟩
              show some (V.int (((Ns os).length : Int) - 1)) = _
              rw [vI (i := ((Ns os).length : Int) - 1) (m := n - 1) (by omega)]
          obtain ⟨y, hy⟩ := get_of_lt (l := os) (i := j) (by rw [ho.1]; exact hj)
          have xA : Ex HA (upd HA p (.lst [V.int 0, V.int (((Ns os).length : Int) - 1)])) := exn hp
          exact ⟨_, rfl, _, rfl, _, _, rfl, rfl, .inl ⟨_, rfl, _, _, rfl, rfl, (by show (0 : Int) < 2; decide), _, _, _, _, rfl, rfl, SqL.of upd_same, hat, _, _, _, _, rfl, rfl, SqL.of (xA _ _ hopA), atI_nat (ns_get hy), y, rfl, o_lt ho hy, wA.take nWB nrB nbB xA.off (wA.bag.ex xA)⟩⟩
        refine ⟨_, rfl, rfl, _, rfl, dI (fun c => ?_) (fun c => ?_)⟩
        · exact go
        · refine ⟨_, rfl, rfl, _, rfl, dI (fun c => ?_) (fun c => ?_)⟩
          · exact go
          · exact ⟨at0, rfl, by omega, wA⟩
      rintro _ HB ⟨a, rfl, ha, wB⟩
      have hd01 : d = 0 ∨ d = 1 := by omega
      rcases hd01 with rfl | rfl
      · obtain ⟨x, hx⟩ := get_of_lt (l := reds) (i := a) (by rw [wB.lr]; exact ha)
        refine ⟨_, rfl, _, rfl, _, _, _, _, rfl, rfl, SqL.of wB.w, rfl, _, rfl, _, rfl, _, _, _, _, rfl, rfl, SqL.of wB.r, atI_nat (ns_get hx), _, _, rfl, rfl, _, rfl, _, rfl, _, _, _, _, rfl, rfl, wB.r, Evl.ixN_nat (by rw [ns_len, wB.lr]; exact ha), ?_⟩
        refine ⟨_, _, _, _, reds.set a (x + 1), blues, rfl, ⟨off_mut wB.off hrH, bag_keep wB.bag nrB, ?_, ?_, ?_, ?_, wB.lb, ?_⟩⟩
        · rw [upd_ne (Ne.symm nrW)]
          exact wB.w
        · rw [upd_same]
          exact congrArg some (congrArg HO.lst (set_ns reds a (x + 1)))
        · rw [upd_ne (Ne.symm nrb)]
          exact wB.b
        · rw [List.length_set]
          exact wB.lr
        · have := TM.sum_set (xs := reds) (a := a) (v := x + 1) (by rw [wB.lr]; exact ha)
          rw [getD_of hx] at this
          have := wB.sm
          omega
      · obtain ⟨x, hx⟩ := get_of_lt (l := blues) (i := a) (by rw [wB.lb]; exact ha)
        refine ⟨_, rfl, _, rfl, _, _, _, _, rfl, rfl, SqL.of wB.w, rfl, _, rfl, _, rfl, _, _, _, _, rfl, rfl, SqL.of wB.b, atI_nat (ns_get hx), _, _, rfl, rfl, _, rfl, _, rfl, _, _, _, _, rfl, rfl, wB.b, Evl.ixN_nat (by rw [ns_len, wB.lb]; exact ha), ?_⟩
        refine ⟨_, _, _, _, reds, blues.set a (x + 1), rfl, ⟨off_mut wB.off hbH, bag_keep wB.bag nbB, ?_, ?_, ?_, wB.lr, ?_, ?_⟩⟩
        · rw [upd_ne (Ne.symm nbW)]
          exact wB.w
        · rw [upd_ne nrb]
          exact wB.r
        · rw [upd_same]
          exact congrArg some (congrArg HO.lst (set_ns blues a (x + 1)))
        · rw [List.length_set]
          exact wB.lb
        · have := TM.sum_set (xs := blues) (a := a) (v := x + 1) (by rw [wB.lb]; exact ha)
          rw [getD_of hx] at this
          have := wB.sm
          omega
    · rintro σ H8 ⟨g6, g7, g8, g9, reds, blues, rfl, w8⟩
      exact ⟨_, rfl, hQ W r b H8 reds blues w8.off w8.bag w8.w nrB nbB w8.r w8.b w8.lr w8.lb (Nat.le_trans w8.sm hk)⟩
end
end Tw

namespace Tw
open PySem PySem.Spec PyProof.Rows L2 TM
theorem sc__law_cars : FnScope ["_law_bag_here", "_law_ropes", "_law_ahead", "_law_counts", "_law_way", "_law_cars_here", "_law_k", "_law_pair", "_law_car"] ["_law_bag_here", "_law_ropes", "_law_ahead", "_law_counts"] (defScope s__law_cars) := ⟨rfl, rfl, rfl, by decide +kernel, rfl, by decide +kernel, by decide +kernel⟩
section
variable {P : Program} {w : World} {K : PySem.W.Frag} {mg : Str → Option Value} {base : Heap}
structure CW (H : Hp) (B c : Addr) (i : Nat) (H' : Hp) (cars : List Nat) : Prop where
  off : Off B H H'
  bag : Bag H' B
  c : H' c = some (.lst (Ns cars))
  l : cars.length = i
  c2 : c01 cars
theorem CW.take {H H1 H2 : Hp} {B c : Addr} {i : Nat} {cars : List Nat} (x : CW H B c i H1 cars) (n1 : c ≠ B) (e : Off B H1 H2) (b : Bag H2 B) : CW H B c i H2 cars := ⟨x.off.trans e, b, e _ _ n1 x.c, x.l, x.c2⟩
theorem ok__law_cars (T : Txt K mg) (D : Dfn K mg "_law_cars" s__law_cars) (c__law_take : Cal P w K mg base "_law_take" 1 ["_law_bag_here", "_law_many"] (sp__law_take K)) :
    Cal P w K mg base "_law_cars" 2 ["_law_bag_here", "_law_ropes", "_law_ahead", "_law_counts"] (sp__law_cars K) := by
  refine D.cal (k := 1) sc__law_cars (fun vs H Q E h => ?_) (fun _ _ _ _ _ _ us hl => match us, hl with | [_, _, _, _], _ => rfl) (fun cdv A outer s H vs Q E hr h => ?_)
  · obtain ⟨_, _, _, _, _, _, _, _, _, _, _, rfl, _⟩ := h
    rfl
  · obtain ⟨B, rp, ah, W, r, b, n, ropes, ahead, reds, blues, rfl, hB, hrp, hend, h40, nahB, hah, hal, hac, hW, nrB, nbB, hrd, hbl, hlr, hlb, hQ⟩ := h
    have nWB : W ≠ B := ne_bagR hB hW
    have hps : ∀ {H'}, Off B H H' → PairsL H' rp ropes := fun e => hrp.kp (e.kp hB)
    refine ⟨_, (pss_cons (ps_set (i := 4) sc__law_cars.nd rfl (Or.inl rfl) (pe_cal c__law_take (hr.mono (by decide)) (pa_cons (pv 0) (pa_cons pe_int pa_nil))))
      (pss_cons (ps_set (i := 5) sc__law_cars.nd rfl (Or.inl rfl) (pe_lst pa_nil))
      (pss_cons (ps_for PassesOwn.never rfl (pi_range1 rfl T.b_range (pa_cons (pe_callB call_len_seq (by rfl) T.b_len (by decide +kernel) (pa_cons (pv 1) pa_nil)) pa_nil)) (pg_name (i := 6) sc__law_cars.nd rfl (Or.inl rfl)) (pss_cons (ps_set (i := 7) sc__law_cars.nd rfl (Or.inl rfl) (pe_ix ix_list (pv 1) (pv 6) (fun _ _ => rfl)))
      (pss_cons (ps_set (i := 8) sc__law_cars.nd rfl (Or.inl rfl) (pe_cal c__law_take (hr.mono (by decide)) (pa_cons (pv 0) (pa_cons pe_int pa_nil))))
      (Evl.pss_cut (ps_if (pt_cmpR op_lt (pv 4) pe_int (nomark _)) (pss_one (ps_set (i := 8) sc__law_cars.nd rfl (Or.inl rfl) (pe_ix ix_list (pe_lst (pa_cons (pe_ix ix_list (pv 2) (pv 6) (fun _ _ => rfl)) (pa_cons (pe_op op_sub pe_int (pe_ix ix_list (pv 2) (pv 6) (fun _ _ => rfl))) pa_nil))) (pv 4) (fun _ _ => rfl)))) pss_nil)
      (Evl.pss_cut (ps_if (PW.pt (pw_and (pt_cmpR op_eq (pv 4) pe_int (nomark _)) (pw_and1 (pt_cmpR op_ne (pe_cmpR op_gt (pe_ix ix_list (pe_ix ix_list (pv 3) pe_int (fun _ _ => rfl)) (pe_ix ix_tup (pv 7) pe_int (fun _ _ => rfl)) (fun _ _ => rfl)) pe_int (nomark _)) (pe_cmpR op_gt (pe_ix ix_list (pe_ix ix_list (pv 3) pe_int (fun _ _ => rfl)) (pe_ix ix_tup (pv 7) pe_int (fun _ _ => rfl)) (fun _ _ => rfl)) pe_int (nomark _)) (nomark _))))) (pss_one (ps_set (i := 8) sc__law_cars.nd rfl (Or.inl rfl) (pe_callTy call_int1 (by rfl) T.b_int (by decide +kernel) (pa_cons (pe_cmpR op_gt (pe_ix ix_list (pe_ix ix_list (pv 3) pe_int (fun _ _ => rfl)) (pe_ix ix_tup (pv 7) pe_int (fun _ _ => rfl)) (fun _ _ => rfl)) pe_int (nomark _)) pa_nil)))) pss_nil)
      (Evl.pss_cut (ps_if (PW.pt (pw_and (pt_cmpR op_eq (pv 4) pe_int (nomark _)) (pw_and1 (pt_cmpR op_ne (pe_cmpR op_gt (pe_ix ix_list (pe_ix ix_list (pv 3) pe_int (fun _ _ => rfl)) (pe_ix ix_tup (pv 7) pe_int (fun _ _ => rfl)) (fun _ _ => rfl)) pe_int (nomark _)) (pe_cmpR op_gt (pe_ix ix_list (pe_ix ix_list (pv 3) pe_int (fun _ _ => rfl)) (pe_ix ix_tup (pv 7) pe_int (fun _ _ => rfl)) (fun _ _ => rfl)) pe_int (nomark _)) (nomark _))))) (pss_one (ps_set (i := 8) sc__law_cars.nd rfl (Or.inl rfl) (pe_callTy call_int1 (by rfl) T.b_int (by decide +kernel) (pa_cons (pe_cmpR op_gt (pe_ix ix_list (pe_ix ix_list (pv 3) pe_int (fun _ _ => rfl)) (pe_ix ix_tup (pv 7) pe_int (fun _ _ => rfl)) (fun _ _ => rfl)) pe_int (nomark _)) pa_nil)))) pss_nil)
      (pss_one (ps_expr (pe_bm PySem.F.plainAttrs_list PySem.F.slot_list_append PySem.F.type_list_append mt_append (pv 5) (pa_cons (pv 8) pa_nil))))))))))
      (pss_one (ps_ret (pv 5)))))), ?_⟩
    refine ⟨_, rfl, B, 6, rfl, hB, by decide, by decide, fun way H1 hway b1 e1 => ⟨Nat.zero_le _, fun c hc => ?_⟩⟩
    have hcH : H c = none := fresh_off hB e1 hc b1
    have ncB : c ≠ B := ne_bag (xs := []) hB hcH
    have w1 : CW H B c 0 (upd H1 c (.lst [])) [] := ⟨off_mut e1 hcH, bag_keep b1 ncB, upd_same, rfl, fun _ z => nomatch z⟩
    obtain ⟨vs0, hvs0, hpv0⟩ := hps w1.off
    have hvl : vs0.length = ropes.length := Paired.length hpv0
    refine ⟨_, rfl, _, _, rfl, .inl (SqL.of hvs0), vs0.length, rfl, by omega, by omega, for_range0 (n := vs0.length) (fun i σ H' => ∃ g6 g7 g8 cars, σ = [some (.ref B), some (.ref rp), some (.ref ah), some (.ref W), some (nV way), some (.ref c), g6, g7, g8] ∧ CW H B c i H' cars) ⟨_, _, _, _, rfl, w1⟩ ?_ ?_⟩
    · rintro i σ H2 hi ⟨g6, g7, g8, cars, rfl, w2⟩
      obtain ⟨p, hp⟩ := get_of_lt (l := ropes) (i := i) (by omega)
      obtain ⟨vs, x, hvs, hl2, hvi, hx⟩ := (hps w2.off).get hp
      obtain ⟨hp1, hp2⟩ := hend p (List.mem_of_getElem? hp)
      obtain ⟨a, ha⟩ := get_of_lt (l := ahead) (i := i) (by omega)
      have ha2 : a < 2 := hac a (List.mem_of_getElem? ha)
      obtain ⟨u1, hu1⟩ := get_of_lt (l := reds) (i := p.1) (by omega)
      obtain ⟨u2, hu2⟩ := get_of_lt (l := reds) (i := p.2) (by omega)
      obtain ⟨v1, hv1⟩ := get_of_lt (l := blues) (i := p.1) (by omega)
      obtain ⟨v2, hv2⟩ := get_of_lt (l := blues) (i := p.2) (by omega)
      refine ⟨_, rfl, _, rfl, _, _, _, _, rfl, rfl, SqL.of hvs, atI_nat hvi, _, rfl, B, 2, rfl, w2.bag, by decide, by decide, fun c0 H3 hc0 b3 e3 => ?_⟩
      have w3 := w2.take ncB e3 b3
      refine ⟨fun σ H' => ∃ (z : Int) (d : Nat), σ = [some (.ref B), some (.ref rp), some (.ref ah), some (.ref W), some (nV way), some (.ref c), some (nV i), some (.ref x), some (.int z)] ∧ z = d ∧ d < 2 ∧ CW H B c i H' cars ∧ H' x = some (.tup [nV p.1, nV p.2]), ?_, ?_⟩
      · have hx3 := (e3.kp w2.bag).tup hx
        refine ⟨_, rfl, _, _, rfl, rfl, _, rfl, dI (fun c1 => ?_) (fun c1 => ⟨_, c0, rfl, rfl, hc0, w3, hx3⟩)⟩
        have hah3 := w3.off _ _ nahB hah
        refine ⟨_, rfl, _, rfl, _, _, _, _, rfl, rfl, SqL.of hah3, atI_nat (ns_get ha), _, rfl, _, rfl, _, _, _, _, rfl, rfl, SqL.of hah3, atI_nat (ns_get ha), _, _, rfl, rfl, sz1 (by show 2 ≤ 100000; decide), fun l hl => ?_⟩
        have x4 : Ex H3 (upd H3 l (.lst [nV a, V.int (1 - (a : Int))])) := exn hl
        have w4 := w3.take ncB x4.off (w3.bag.ex x4)
        have way2 : way = 0 ∨ way = 1 := by omega
        rcases way2 with rfl | rfl
        · exact ⟨_, rfl, _, _, _, _, rfl, rfl, SqL.of upd_same, rfl, _, a, rfl, rfl, ha2, w4, x4 _ _ hx3⟩
        · exact ⟨_, rfl, _, _, _, _, rfl, rfl, SqL.of upd_same, rfl, _, 1 - a, rfl, by omega, by omega, w4, x4 _ _ hx3⟩
      rintro _ H5 ⟨_, d, rfl, rfl, hd, w5, hx5⟩
      refine ⟨fun σ H' => ∃ (z : Int) (d : Nat), σ = [some (.ref B), some (.ref rp), some (.ref ah), some (.ref W), some (nV way), some (.ref c), some (nV i), some (.ref x), some (.int z)] ∧ z = d ∧ d < 2 ∧ H' = H5, ?_, ?_⟩
      · refine ⟨_, rfl, rfl, _, rfl, dI (fun c1 => ?_) (fun c1 => ⟨_, d, rfl, rfl, hd, rfl⟩)⟩
        have hW5 := w5.off _ _ nWB hW
        have hb5 := w5.off _ _ nbB hbl
        refine ⟨_, rfl, _, _, _, _, rfl, rfl, SqL.of hW5, rfl, _, rfl, _, _, _, _, rfl, rfl, SqT.of hx5, rfl, _, _, _, _, rfl, rfl, SqL.of hb5, atI_nat (ns_get hv1), _, _, rfl, rfl, ?_⟩
        refine ⟨_, rfl, _, _, _, _, rfl, rfl, SqL.of hW5, rfl, _, rfl, _, _, _, _, rfl, rfl, SqT.of hx5, rfl, _, _, _, _, rfl, rfl, SqL.of hb5, atI_nat (ns_get hv2), _, _, rfl, rfl, ?_⟩
        refine ⟨rfl, _, rfl, nI (fun c2 => ?_) (fun c2 => ⟨_, d, rfl, rfl, hd, rfl⟩)⟩
        refine ⟨_, rfl, _, _, _, _, rfl, rfl, SqL.of hW5, rfl, _, rfl, _, _, _, _, rfl, rfl, SqT.of hx5, rfl, _, _, _, _, rfl, rfl, SqL.of hb5, atI_nat (ns_get hv2), _, _, rfl, rfl, .inr ⟨_, rfl, ?_⟩⟩
        exact ⟨_, if decide ((0 : Int) < (v2 : Int)) = true then 1 else 0, rfl, by split <;> rfl, by split <;> omega, rfl⟩
      rintro _ H5 ⟨_, d, rfl, rfl, hd, rfl⟩
      refine ⟨fun σ H' => ∃ (z : Int) (d : Nat), σ = [some (.ref B), some (.ref rp), some (.ref ah), some (.ref W), some (nV way), some (.ref c), some (nV i), some (.ref x), some (.int z)] ∧ z = d ∧ d < 2 ∧ H' = H5, ?_, ?_⟩
      · refine ⟨_, rfl, rfl, _, rfl, dI (fun c1 => ?_) (fun c1 => ⟨_, d, rfl, rfl, hd, rfl⟩)⟩
        have hW5 := w5.off _ _ nWB hW
        have hr5 := w5.off _ _ nrB hrd
        refine ⟨_, rfl, _, _, _, _, rfl, rfl, SqL.of hW5, rfl, _, rfl, _, _, _, _, rfl, rfl, SqT.of hx5, rfl, _, _, _, _, rfl, rfl, SqL.of hr5, atI_nat (ns_get hu1), _, _, rfl, rfl, ?_⟩
        refine ⟨_, rfl, _, _, _, _, rfl, rfl, SqL.of hW5, rfl, _, rfl, _, _, _, _, rfl, rfl, SqT.of hx5, rfl, _, _, _, _, rfl, rfl, SqL.of hr5, atI_nat (ns_get hu2), _, _, rfl, rfl, ?_⟩
        refine ⟨rfl, _, rfl, nI (fun c2 => ?_) (fun c2 => ⟨_, d, rfl, rfl, hd, rfl⟩)⟩
        refine ⟨_, rfl, _, _, _, _, rfl, rfl, SqL.of hW5, rfl, _, rfl, _, _, _, _, rfl, rfl, SqT.of hx5, rfl, _, _, _, _, rfl, rfl, SqL.of hr5, atI_nat (ns_get hu1), _, _, rfl, rfl, .inr ⟨_, rfl, ?_⟩⟩
        exact ⟨_, if decide ((0 : Int) < (u1 : Int)) = true then 1 else 0, rfl, by split <;> rfl, by split <;> omega, rfl⟩
      rintro _ H5 ⟨_, d, rfl, rfl, hd, rfl⟩
      refine ⟨_, rfl, .inl ⟨rfl, _, SqL.of w5.c⟩, _, rfl, _, _, _, rfl, rfl, w5.c, sz2 (show (Ns cars).length < 100000 by have := ns_len cars; have := w5.l; omega), ?_⟩
      refine ⟨_, _, _, cars ++ [d], rfl, off_mut w5.off hcH, bag_keep w5.bag ncB, ?_, ?_, ?_⟩
      · rw [upd_same]
        exact congrArg some (congrArg HO.lst (ns_snoc cars d))
      · rw [List.length_append, w5.l]
        rfl
      · intro t ht
        rcases List.mem_append.mp ht with h | h
        · exact w5.c2 t h
        · rw [List.mem_singleton.mp h]
          exact hd
    · rintro σ H2 ⟨g6, g7, g8, cars, rfl, w2⟩
      exact ⟨_, rfl, hQ c H2 cars w2.off w2.bag ncB w2.c (by rw [w2.l, hvl]) w2.c2⟩
end
end Tw

namespace Tw
open PySem PySem.Spec PyProof.Rows L2 TM
theorem sc__law_world : FnScope ["_law_bag_here", "_law_stations", "_law_most", "_law_net_here", "_law_counts", "_law_cars_here"] ["_law_bag_here"] (defScope s__law_world) := ⟨rfl, rfl, rfl, by decide +kernel, rfl, by decide +kernel, by decide +kernel⟩
section
variable {P : Program} {w : World} {K : PySem.W.Frag} {mg : Str → Option Value} {base : Heap}

theorem ok__law_world (T : Txt K mg) (D : Dfn K mg "_law_world" s__law_world) (c__law_cars : Cal P w K mg base "_law_cars" 2 ["_law_bag_here", "_law_ropes", "_law_ahead", "_law_counts"] (sp__law_cars K)) (c__law_guests : Cal P w K mg base "_law_guests" 2 ["_law_bag_here", "_law_order_here", "_law_most"] (sp__law_guests K)) (c__law_net : Cal P w K mg base "_law_net" 3 ["_law_bag_here", "_law_stations", "_law_further"] (sp__law_net K)) (c__law_take : Cal P w K mg base "_law_take" 1 ["_law_bag_here", "_law_many"] (sp__law_take K)) :
    Cal P w K mg base "_law_world" 4 ["_law_bag_here"] (sp__law_world K) := by
  refine D.cal (k := 3) sc__law_world (fun vs H Q E h => ?_) (fun _ _ _ _ _ _ us hl => match us, hl with | [_], _ => rfl) (fun cdv A outer s H vs Q E hr h => ?_)
  · obtain ⟨_, rfl, _⟩ := h
    rfl
  · obtain ⟨B, rfl, hB, hQ⟩ := h
    refine ⟨_, (pss_cons (ps_set (i := 1) sc__law_world.nd rfl (Or.inl rfl) (pe_ix ix_list (pe_lst (pa_cons pe_int (pa_cons pe_int (pa_cons pe_int (pa_cons pe_int (pa_cons pe_int (pa_cons pe_int (pa_cons pe_int (pa_cons pe_int pa_nil))))))))) (pe_cal c__law_take (hr.mono (by decide)) (pa_cons (pv 0) (pa_cons pe_int pa_nil))) (fun _ _ => rfl)))
      (pss_cons (ps_set (i := 2) sc__law_world.nd rfl (Or.inl rfl) (pe_lst (pa_cons pe_int (pa_cons pe_int pa_nil))))
      (Evl.pss_cut (ps_if (pt_cmpR op_eq (pe_cal c__law_take (hr.mono (by decide)) (pa_cons (pv 0) (pa_cons pe_int pa_nil))) pe_int (nomark _)) (pss_cons (ps_set (i := 1) sc__law_world.nd rfl (Or.inl rfl) (pe_op op_add pe_int (pe_cal c__law_take (hr.mono (by decide)) (pa_cons (pv 0) (pa_cons pe_int pa_nil)))))
      (pss_one (ps_set (i := 2) sc__law_world.nd rfl (Or.inl rfl) (pe_lst (pa_cons pe_int (pa_cons pe_int pa_nil)))))) pss_nil)
      (pss_cons (ps_set (i := 3) sc__law_world.nd rfl (Or.inl rfl) (pe_cal c__law_net (hr.mono (by decide)) (pa_cons (pv 0) (pa_cons (pv 1) (pa_cons (pe_ix ix_list (pv 2) pe_int (fun _ _ => rfl)) pa_nil)))))
      (pss_cons (ps_set (i := 4) sc__law_world.nd rfl (Or.inl rfl) (pe_cal c__law_guests (hr.mono (by decide)) (pa_cons (pv 0) (pa_cons (pe_ix ix_list (pv 3) pe_int (fun _ _ => rfl)) (pa_cons (pe_ix ix_list (pv 2) pe_int (fun _ _ => rfl)) pa_nil)))))
      (pss_cons (ps_set (i := 5) sc__law_world.nd rfl (Or.inl rfl) (pe_cal c__law_cars (hr.mono (by decide)) (pa_cons (pv 0) (pa_cons (pe_ix ix_list (pv 3) pe_int (fun _ _ => rfl)) (pa_cons (pe_ix ix_list (pv 3) pe_int (fun _ _ => rfl)) (pa_cons (pv 4) pa_nil))))))
      (pss_one (ps_ret (pe_lst (pa_cons (pv 1) (pa_cons (pe_ix ix_list (pv 3) pe_int (fun _ _ => rfl)) (pa_cons (pe_tup (pa_cons (pe_callTy call_tuple_of (by rfl) T.b_tuple (by decide +kernel) (pa_cons (pe_ix ix_list (pv 4) pe_int (fun _ _ => rfl)) pa_nil)) (pa_cons (pe_callTy call_tuple_of (by rfl) T.b_tuple (by decide +kernel) (pa_cons (pe_ix ix_list (pv 4) pe_int (fun _ _ => rfl)) pa_nil)) (pa_cons (pe_callTy call_tuple_of (by rfl) T.b_tuple (by decide +kernel) (pa_cons (pv 5) pa_nil)) pa_nil)))) pa_nil)))))))))))), ?_⟩
    refine ⟨sz1 (by show 8 ≤ 100000; decide), fun l0 hl0 => ?_⟩
    have x1 : Ex H (upd H l0 (.lst [.int 1, .int 2, .int 3, .int 4, .int 4, .int 5, .int 5, .int 6])) := exn hl0
    have h1v : upd H l0 (.lst [.int 1, .int 2, .int 3, .int 4, .int 4, .int 5, .int 5, .int 6]) l0 = some (.lst [.int 1, .int 2, .int 3, .int 4, .int 4, .int 5, .int 5, .int 6]) := upd_same
    generalize upd H l0 (.lst [.int 1, .int 2, .int 3, .int 4, .int 4, .int 5, .int 5, .int 6]) = H1 at x1 h1v ⊢
    have n0B : l0 ≠ B := ne_bag (xs := []) hB hl0
    refine ⟨_, rfl, B, 8, rfl, hB.ex x1, by decide, by decide, fun r1 H2 hr1 b2 e2 => ?_⟩
    have o2 : Off B H H2 := x1.off.trans e2
    obtain ⟨n0, hn0, n1, n6⟩ : ∃ n0 : Nat, ([.int 1, .int 2, .int 3, .int 4, .int 4, .int 5, .int 5, .int 6] : List V)[r1]? = some (nV n0) ∧ 1 ≤ n0 ∧ n0 ≤ 6 := by
      have : r1 = 0 ∨ r1 = 1 ∨ r1 = 2 ∨ r1 = 3 ∨ r1 = 4 ∨ r1 = 5 ∨ r1 = 6 ∨ r1 = 7 := by omega
      rcases this with rfl | rfl | rfl | rfl | rfl | rfl | rfl | rfl
      · exact ⟨1, rfl, by decide, by decide⟩
      · exact ⟨2, rfl, by decide, by decide⟩
      · exact ⟨3, rfl, by decide, by decide⟩
      · exact ⟨4, rfl, by decide, by decide⟩
      · exact ⟨4, rfl, by decide, by decide⟩
      · exact ⟨5, rfl, by decide, by decide⟩
      · exact ⟨5, rfl, by decide, by decide⟩
      · exact ⟨6, rfl, by decide, by decide⟩
    refine ⟨_, _, _, _, rfl, rfl, SqL.of (e2 _ _ n0B h1v), atI_nat hn0, sz1 (by show 2 ≤ 100000; decide), fun m0 hm0 => ?_⟩
    have x3 : Ex H2 (upd H2 m0 (.lst [.int 2, .int 6])) := exn hm0
    have h3v : upd H2 m0 (.lst [.int 2, .int 6]) m0 = some (.lst [.int 2, .int 6]) := upd_same
    generalize upd H2 m0 (.lst [.int 2, .int 6]) = H3 at x3 h3v ⊢
    have nm0 : m0 ≠ B := ne_bag (xs := []) b2 hm0
    refine ⟨fun σ H' => ∃ (n f g : Nat) (mp : Addr), σ = [some (.ref B), some (nV n), some (.ref mp), none, none, none] ∧ 1 ≤ n ∧ n ≤ 24 ∧ f ≤ 17 ∧ 1 ≤ g ∧ g ≤ 30 ∧ H' mp = some (.lst [nV f, nV g]) ∧ mp ≠ B ∧ Off B H H' ∧ Bag H' B, ?_, ?_⟩
    · refine ⟨_, rfl, B, 8, rfl, b2.ex x3, by decide, by decide, fun r4 H4 hr4 b4 e4 => ⟨rfl, _, rfl, dI (fun c => ?_) (fun c => ?_)⟩⟩
      · refine ⟨_, rfl, B, 24, rfl, b4, by decide, by decide, fun r5 H5 hr5 b5 e5 => ⟨_, _, rfl, rfl, sz1 (by show 2 ≤ 100000; decide), fun m1 hm1 => ?_⟩⟩
        have x6 : Ex H5 (upd H5 m1 (.lst [.int 17, .int 30])) := exn hm1
        exact ⟨1 + r5, 17, 30, m1, rfl, by omega, by omega, by decide, by decide, by decide, upd_same, ne_bag (xs := []) b5 hm1, (((o2.trans x3.off).trans e4).trans e5).trans x6.off, b5.ex x6⟩
      · exact ⟨n0, 2, 6, m0, rfl, n1, by omega, by decide, by decide, by decide, e4 _ _ nm0 h3v, nm0, (o2.trans x3.off).trans e4, b4⟩
    rintro _ H4 ⟨n, f, g, mp, rfl, hn1, hn24, hf, hg1, hg30, hmp, nmp, o4, b4⟩
    refine ⟨_, rfl, _, rfl, _, rfl, _, _, _, _, rfl, rfl, SqL.of hmp, rfl, B, n, f, rfl, b4, hn1, hn24, hf, fun W op rp ah H5 os ropes ahead e5 b5 hW nop nah hop hrp hah ho hok hal hac => ?_⟩
    have nWB : W ≠ B := ne_bagR b5 hW
    refine ⟨_, rfl, _, rfl, _, _, _, _, rfl, rfl, SqL.of hW, rfl, _, rfl, _, _, _, _, rfl, rfl, SqL.of (e5 _ _ nmp hmp), rfl, B, op, g, n, os, rfl, b5, nop, hop, ho, hn1, hn24, hg1, hg30, fun W2 r b H6 reds blues e6 b6 hW2 nr nb hr hb lr lb sm => ?_⟩
    have nW2 : W2 ≠ B := ne_bagR b6 hW2
    have hW6 := e6 _ _ nWB hW
    have hrp6 : PairsL H6 rp ropes := hrp.kp (e6.kp b5)
    refine ⟨_, rfl, _, rfl, _, _, _, _, rfl, rfl, SqL.of hW6, rfl, _, rfl, _, _, _, _, rfl, rfl, SqL.of hW6, rfl, _, rfl, B, rp, ah, W2, r, b, n, ropes, ahead, reds, blues, rfl, b6, hrp6, fun p hp => ⟨(hok.ends p hp).1, (hok.ends p hp).2.1⟩, hok.m40, nah, e6 _ _ nah hah, hal, hac, hW2, nr, nb, hr, hb, lr, lb, fun c H7 cars e7 b7 nc hc lc c2 => ?_⟩
    have hW7 := e7 _ _ nWB hW6
    have hW27 := e7 _ _ nW2 hW2
    have hr7 := e7 _ _ nr hr
    have hb7 := e7 _ _ nb hb
    have hrp7 : PairsL H7 rp ropes := hrp6.kp (e7.kp b6)
    refine ⟨_, rfl, _, rfl, _, _, _, _, rfl, rfl, SqL.of hW7, rfl, _, rfl, _, _, _, _, rfl, rfl, SqL.of hW27, rfl, _, _, rfl, .inl ⟨SqL.of hr7, fun t1 ht1 => ?_⟩⟩
    have x8 : Ex H7 (upd H7 t1 (.tup (Ns reds))) := exn ht1
    have h8 : upd H7 t1 (.tup (Ns reds)) t1 = some (.tup (Ns reds)) := upd_same
    generalize upd H7 t1 (.tup (Ns reds)) = H8 at x8 h8 ⊢
    refine ⟨_, rfl, _, _, _, _, rfl, rfl, SqL.of (x8 _ _ hW27), rfl, _, _, rfl, .inl ⟨SqL.of (x8 _ _ hb7), fun t2 ht2 => ?_⟩⟩
    have x9 : Ex H8 (upd H8 t2 (.tup (Ns blues))) := exn ht2
    have h9 : upd H8 t2 (.tup (Ns blues)) t2 = some (.tup (Ns blues)) := upd_same
    generalize upd H8 t2 (.tup (Ns blues)) = H9 at x9 h9 ⊢
    have x79 := x8.trans x9
    refine ⟨_, rfl, _, _, rfl, .inl ⟨SqL.of (x79 _ _ hc), fun t3 ht3 => ?_⟩⟩
    have x10 : Ex H9 (upd H9 t3 (.tup (Ns cars))) := exn ht3
    have h10 : upd H9 t3 (.tup (Ns cars)) t3 = some (.tup (Ns cars)) := upd_same
    generalize upd H9 t3 (.tup (Ns cars)) = HA at x10 h10 ⊢
    refine ⟨sz1 (by show 3 ≤ 100000; decide), fun st hst => ?_⟩
    have x11 : Ex HA (upd HA st (.tup [.ref t1, .ref t2, .ref t3])) := exn hst
    have h11 : upd HA st (.tup [.ref t1, .ref t2, .ref t3]) st = some (.tup [.ref t1, .ref t2, .ref t3]) := upd_same
    generalize upd HA st (.tup [.ref t1, .ref t2, .ref t3]) = HB at x11 h11 ⊢
    refine ⟨sz1 (by show 3 ≤ 100000; decide), fun w0 hw0 => ?_⟩
    have x12 : Ex HB (upd HB w0 (.lst [nV n, .ref rp, .ref st])) := exn hw0
    have xx : Ex H7 (upd HB w0 (.lst [nV n, .ref rp, .ref st])) := ((x79.trans x10).trans x11).trans x12
    refine hQ w0 _ n ropes ⟨reds, blues, cars⟩ ((((o4.trans e5).trans e6).trans e7).trans xx.off) (b7.ex xx) ⟨rp, .ref st, upd_same, hrp7.kp xx.kp, st, t1, t2, t3, rfl, x12 _ _ h11, ?_, ?_, ?_⟩ hok ⟨lr, lb, lc, c2, Nat.le_trans sm hg30⟩
    · exact ((x9.trans x10).trans (x11.trans x12)) _ _ h8
    · exact (x10.trans (x11.trans x12)) _ _ h9
    · exact (x11.trans x12) _ _ h10
end
end Tw

namespace Tw
open PySem PySem.Spec PyProof.Rows L2 TM
theorem sc__law_standing : FnScope ["_law_world_here", "_law_state", "_law_net_here"] ["_law_world_here", "_law_state"] (defScope s__law_standing) := ⟨rfl, rfl, rfl, by decide +kernel, rfl, by decide +kernel, by decide +kernel⟩
section
variable {P : Program} {w : World} {K : PySem.W.Frag} {mg : Str → Option Value} {base : Heap}

theorem ok__law_standing (T : Txt K mg) (D : Dfn K mg "_law_standing" s__law_standing) (c_Net_init : CalI P w K mg base "Net" 2 ["self", "stations", "ropes"] (sp_Net_init K)) (c_Standing_init : CalI P w K mg base "Standing" 2 ["self", "net", "reds", "blues", "cars"] (sp_Standing_init K)) :
    Cal P w K mg base "_law_standing" 4 ["_law_world_here", "_law_state"] (sp__law_standing K) := by
  refine D.cal (k := 3) sc__law_standing (fun vs H Q E h => ?_) (fun _ _ _ _ _ _ us hl => match us, hl with | [_, _], _ => rfl) (fun cdv A outer s H vs Q E hr h => ?_)
  · obtain ⟨_, _, _, _, _, _, rfl, _⟩ := h
    rfl
  · obtain ⟨W, sv, n, ropes, s0, s1, rfl, hW, hS, ok, os, hq⟩ := h
    obtain ⟨rp, sv0, hw, hP, hS0⟩ := id hW
    obtain ⟨vs, hvs, hps⟩ := id hP
    obtain ⟨st, rd, bl, cr, rfl, hst, hrd, hbl, hcr⟩ := id hS
    refine ⟨_, (pss_cons (ps_set (i := 2) sc__law_standing.nd rfl (Or.inl rfl) (pe_cali c_Net_init (hr.mono (by decide)) (pa_cons (pe_ix ix_list (pv 0) pe_int (fun _ _ => rfl)) (pa_cons (pe_callTy call_list_of (by rfl) T.b_list (by decide +kernel) (pa_cons (pe_ix ix_list (pv 0) pe_int (fun _ _ => rfl)) pa_nil)) pa_nil))))
      (pss_one (ps_ret (pe_cali c_Standing_init (hr.mono (by decide)) (pa_cons (pv 2) (pa_cons (pe_callTy call_list_of (by rfl) T.b_list (by decide +kernel) (pa_cons (pe_ix ix_tup (pv 1) pe_int (fun _ _ => rfl)) pa_nil)) (pa_cons (pe_callTy call_list_of (by rfl) T.b_list (by decide +kernel) (pa_cons (pe_ix ix_tup (pv 1) pe_int (fun _ _ => rfl)) pa_nil)) (pa_cons (pe_callTy call_list_of (by rfl) T.b_list (by decide +kernel) (pa_cons (pe_ix ix_tup (pv 1) pe_int (fun _ _ => rfl)) pa_nil)) pa_nil)))))))), ?_⟩
    refine ⟨_, rfl, _, _, _, _, rfl, rfl, SqL.of hw, rfl, _, rfl, _, _, _, _, rfl, rfl, SqL.of hw, rfl, _, _, rfl, .inl (SqL.of hvs), fun l hl x dx hx hdx ne => ?_⟩
    have e1 : Ex H (upd H l (.lst vs)) := exn hl
    have h1 : upd H l (.lst vs) l = some (.lst vs) := upd_same
    generalize upd H l (.lst vs) = H1 at e1 h1 hx hdx ⊢
    have e2 : Ex H1 (upd (upd H1 dx (.own x)) x (.ins (He.ga K "Net") dx [])) := make_ex0 hx hdx
    refine ⟨x, n, l, ropes, dx, rfl, upd_same, ⟨vs, e2 _ _ h1, hps.kp (exk (e1.trans e2))⟩, ok, fun H2 o2 hnet => ⟨rfl, ?_⟩⟩
    have e12 : Ex H H2 := e1.trans (make_ex hx hdx o2)
    refine ⟨_, rfl, _, rfl, _, _, _, _, rfl, rfl, SqT.of (e12 _ _ hst), rfl, _, _, rfl, .inr (SqT.of (e12 _ _ hrd)), fun l1 hl1 => ?_⟩
    have e3 : Ex H2 (upd H2 l1 (.lst (Ns s1.reds))) := exn hl1
    have h3 : upd H2 l1 (.lst (Ns s1.reds)) l1 = some (.lst (Ns s1.reds)) := upd_same
    generalize upd H2 l1 (.lst (Ns s1.reds)) = H3 at e3 h3 ⊢
    have e13 := e12.trans e3
    refine ⟨_, rfl, _, _, _, _, rfl, rfl, SqT.of (e13 _ _ hst), rfl, _, _, rfl, .inr (SqT.of (e13 _ _ hbl)), fun l2 hl2 => ?_⟩
    have e4 : Ex H3 (upd H3 l2 (.lst (Ns s1.blues))) := exn hl2
    have h4 : upd H3 l2 (.lst (Ns s1.blues)) l2 = some (.lst (Ns s1.blues)) := upd_same
    generalize upd H3 l2 (.lst (Ns s1.blues)) = H4 at e4 h4 ⊢
    have e14 := e13.trans e4
    refine ⟨_, rfl, _, _, _, _, rfl, rfl, SqT.of (e14 _ _ hst), rfl, _, _, rfl, .inr (SqT.of (e14 _ _ hcr)), fun l3 hl3 y dy hy hdy ney => ?_⟩
    have e5 : Ex H4 (upd H4 l3 (.lst (Ns s1.cars))) := exn hl3
    have h5 : upd H4 l3 (.lst (Ns s1.cars)) l3 = some (.lst (Ns s1.cars)) := upd_same
    generalize upd H4 l3 (.lst (Ns s1.cars)) = H5 at e5 h5 hy hdy ⊢
    have e6 : Ex H5 (upd (upd H5 dy (.own y)) y (.ins (He.ga K "Standing") dy [])) := make_ex0 hy hdy
    refine ⟨y, x, l1, l2, l3, n, ropes, s1, dy, rfl, upd_same, hnet.kp (exk (((e3.trans e4).trans e5).trans e6)), ((e4.trans e5).trans e6) _ _ h3, (e5.trans e6) _ _ h4, e6 _ _ h5, os, fun H6 o6 hstd => ⟨rfl, ?_⟩⟩
    exact hq y H6 ((e14.trans e5).trans (make_ex hy hdy o6)) hstd
end
end Tw

namespace Tw
open PySem PySem.Spec PyProof.Rows L2 TM
theorem sc__law_shows : FnScope ["_law_standing_here", "_law_state", "_law_told", "_law_k", "_law_at"] ["_law_standing_here", "_law_state"] (defScope s__law_shows) := ⟨rfl, rfl, rfl, by decide +kernel, rfl, by decide +kernel, by decide +kernel⟩
section
variable {P : Program} {w : World} {K : PySem.W.Frag} {mg : Str → Option Value} {base : Heap}

theorem ok__law_shows (T : Txt K mg) (D : Dfn K mg "_law_shows" s__law_shows) (c__law_integer : Cal P w K mg base "_law_integer" 1 ["_law_value"] (sp__law_integer K)) :
    Cal P w K mg base "_law_shows" 2 ["_law_standing_here", "_law_state"] (sp__law_shows K) := by
  refine D.cal (k := 1) sc__law_shows (fun vs H Q E h => ?_) (fun _ _ _ _ _ _ us hl => match us, hl with | [_, _], _ => rfl) (fun cdv A outer s H vs Q E hr h => ?_)
  · obtain ⟨_, _, _, _, _, rfl, _⟩ := h
    rfl
  · obtain ⟨x, sv, n, ropes, s0, rfl, hX, hS, ok, os, hq⟩ := h
    obtain ⟨dx, nt, ar, ab, ac, hx, hN, hR, hB, hC⟩ := id hX
    obtain ⟨st, rd, bl, cr, rfl, hst, hrd, hbl, hcr⟩ := id hS
    have n24 := ok.n24
    have h40 := ok.m40
    have lr := os.lr
    have lb := os.lb
    have lc := os.lc
    refine ⟨_, (pss_cons (ps_if (pt_not (pt_val (pe_callB call_isi (by rfl) T.b_isinstance (by decide +kernel) (pa_cons (pv 0) (pa_cons (pe_glob (v := .ref (He.ga K "Standing")) rfl T.gS rfl) pa_nil))))) (pss_one (ps_ret pe_bl)) pss_nil)
      (pss_cons (ps_set (i := 2) sc__law_shows.nd rfl (Or.inl rfl) (pe_lst (pa_cons (pe_fld (pv 0) rfl) (pa_cons (pe_fld (pv 0) rfl) (pa_cons (pe_fld (pv 0) rfl) pa_nil)))))
      (pss_cons (ps_for PassesOwn.never rfl (pi_range1 rfl T.b_range (pa_cons pe_int pa_nil)) (pg_name (i := 3) sc__law_shows.nd rfl (Or.inl rfl)) (pss_cons (ps_if (PW.pt (pw_or (pt_not (pt_val (pe_callB call_isi (by rfl) T.b_isinstance (by decide +kernel) (pa_cons (pe_ix ix_list (pv 2) (pv 3) (fun _ _ => rfl)) (pa_cons (pe_bltn (v := .ty "tuple") rfl T.b_tuple (by decide +kernel) rfl) pa_nil))))) (pw_or1 (pt_cmpR op_ne (pe_callB call_len_seq (by rfl) T.b_len (by decide +kernel) (pa_cons (pe_ix ix_list (pv 2) (pv 3) (fun _ _ => rfl)) pa_nil)) (pe_callB call_len_seq (by rfl) T.b_len (by decide +kernel) (pa_cons (pe_ix ix_tup (pv 1) (pv 3) (fun _ _ => rfl)) pa_nil)) (nomark _))))) (pss_one (ps_ret pe_bl)) pss_nil)
      (pss_one (ps_for PassesOwn.never rfl (pi_range1 rfl T.b_range (pa_cons (pe_callB call_len_seq (by rfl) T.b_len (by decide +kernel) (pa_cons (pe_ix ix_tup (pv 1) (pv 3) (fun _ _ => rfl)) pa_nil)) pa_nil)) (pg_name (i := 4) sc__law_shows.nd rfl (Or.inl rfl)) (pss_one (ps_if (PW.pt (pw_or (pt_not (pt_val (pe_cal c__law_integer (hr.mono (by decide)) (pa_cons (pe_ix ix_tup (pe_ix ix_list (pv 2) (pv 3) (fun _ _ => rfl)) (pv 4) (fun _ _ => rfl)) pa_nil)))) (pw_or1 (pt_cmpR op_ne (pe_ix ix_tup (pe_ix ix_list (pv 2) (pv 3) (fun _ _ => rfl)) (pv 4) (fun _ _ => rfl)) (pe_ix ix_tup (pe_ix ix_tup (pv 1) (pv 3) (fun _ _ => rfl)) (pv 4) (fun _ _ => rfl)) (nomark _))))) (pss_one (ps_ret pe_bl)) pss_nil))))))
      (pss_one (ps_ret pe_bl))))), ?_⟩
    refine ⟨_, rfl, _, _, _, _, true, rfl, .own _, .base (.ins hx T.cS T.x.ins.ha T.x.ins.hn T.x.ins.htk T.x.ins.hm), T.x.k4, _, rfl, ifF (by decide) ?_⟩
    refine ⟨_, rfl, _, _, _, _, _, rfl, hx, T.cS, T.nSr, stdF_r .., _, rfl, _, _, _, _, _, rfl, hx, T.cS, T.nSb, stdF_b .., _, rfl, _, _, _, _, _, rfl, hx, T.cS, T.nSc, stdF_c .., sz1 (by show 3 ≤ 100000; decide), fun l hl => ?_⟩
    have e1 : Ex H (upd H l (.lst [.ref ar, .ref ab, .ref ac])) := exn hl
    have h1 : upd H l (.lst [.ref ar, .ref ab, .ref ac]) l = some (.lst [.ref ar, .ref ab, .ref ac]) := upd_same
    generalize upd H l (.lst [.ref ar, .ref ab, .ref ac]) = H1 at e1 h1 ⊢
    refine ⟨3, rfl, by decide, by decide, for_range0 (n := 3) (fun i σ H' => ∃ a b, σ = [some (.ref x), some (.ref st), some (.ref l), a, b] ∧ H' = H1) ⟨_, _, rfl, rfl⟩ ?_ ?_⟩
    · rintro i σ _ hi ⟨a, b, rfl, rfl⟩
      rename_i H1
      obtain ⟨xs, a1, a2, ha1, ha2, hh1, hh2, hxl⟩ : ∃ xs a1 a2, ([.ref ar, .ref ab, .ref ac] : List V)[i]? = some (.ref a1) ∧ ([.ref rd, .ref bl, .ref cr] : List V)[i]? = some (.ref a2) ∧ H a1 = some (.tup (Ns xs)) ∧ H a2 = some (.tup (Ns xs)) ∧ xs.length ≤ 40 := by
        have : i = 0 ∨ i = 1 ∨ i = 2 := by omega
        rcases this with rfl | rfl | rfl
        · exact ⟨s0.reds, ar, rd, rfl, rfl, hR, hrd, by omega⟩
        · exact ⟨s0.blues, ab, bl, rfl, rfl, hB, hbl, by omega⟩
        · exact ⟨s0.cars, ac, cr, rfl, rfl, hC, hcr, by omega⟩
      have g1 := e1 _ _ hh1
      have g2 := e1 _ _ hh2
      have gs := e1 _ _ hst
      refine ⟨_, rfl, _, rfl, _, _, _, _, rfl, rfl, SqL.of h1, atI_nat ha1, _, _, _, _, true, rfl, .ty _, .base (.tup g1), kit_ty (by decide +kernel), _, rfl, ifF (by decide) ?_⟩
      refine ⟨_, rfl, _, rfl, _, _, _, _, rfl, rfl, SqL.of h1, atI_nat ha1, _, _, rfl, .inr (SqT.of g1), _, rfl, _, rfl, _, _, _, _, rfl, rfl, SqT.of gs, atI_nat ha2, _, _, rfl, .inr (SqT.of g2), rfl, _, rfl, nF rfl ?_⟩
      refine ⟨_, rfl, _, rfl, _, _, _, _, rfl, rfl, SqT.of gs, atI_nat ha2, _, _, rfl, .inr (SqT.of g2), (Ns xs).length, rfl, by omega, by rw [ns_len]; omega, for_range0 (n := (Ns xs).length) (fun j σ H' => ∃ b, σ = [some (.ref x), some (.ref st), some (.ref l), some (nV i), b] ∧ H' = H1) ⟨_, rfl, rfl⟩ ?_ ?_⟩
      · rintro j σ _ hj ⟨b, rfl, rfl⟩
        rename_i H1
        rw [ns_len] at hj
        obtain ⟨z, hz⟩ := get_of_lt hj
        refine ⟨_, rfl, _, rfl, _, _, _, _, rfl, rfl, SqL.of h1, atI_nat ha1, _, rfl, _, _, _, _, rfl, rfl, SqT.of g1, atI_nat (ns_get hz), _, rfl, _, rfl, ifF (by decide) ?_⟩
        exact ⟨_, rfl, _, rfl, _, _, _, _, rfl, rfl, SqL.of h1, atI_nat ha1, _, rfl, _, _, _, _, rfl, rfl, SqT.of g1, atI_nat (ns_get hz), _, rfl, _, rfl, _, _, _, _, rfl, rfl, SqT.of gs, atI_nat ha2, _, rfl, _, _, _, _, rfl, rfl, SqT.of g2, atI_nat (ns_get hz), rfl, _, rfl, nF rfl ⟨_, rfl, rfl⟩⟩
      · rintro σ _ ⟨b, rfl, rfl⟩
        exact ⟨_, _, rfl, rfl⟩
    · rintro σ _ ⟨a, b, rfl, rfl⟩
      exact hq _ e1
end
end Tw

namespace Tw
open PySem PySem.Spec PyProof.Rows L2 TM
theorem sc__law_arrows : FnScope ["_law_ropes", "_law_cars_here", "_law_k"] ["_law_ropes", "_law_cars_here"] (defScope s__law_arrows) := ⟨rfl, rfl, rfl, by decide +kernel, rfl, by decide +kernel, by decide +kernel⟩
section
variable {P : Program} {w : World} {K : PySem.W.Frag} {mg : Str → Option Value} {base : Heap}

theorem ok__law_arrows (T : Txt K mg) (D : Dfn K mg "_law_arrows" s__law_arrows) :
    Cal P w K mg base "_law_arrows" 1 ["_law_ropes", "_law_cars_here"] (sp__law_arrows K) := by
  refine D.cal (k := 0) sc__law_arrows (fun vs H Q E h => ?_) (fun _ _ _ _ _ _ us hl => match us, hl with | [_, _], _ => rfl) (fun cdv A outer s H vs Q E hr h => ?_)
  · obtain ⟨_, _, _, _, rfl, _⟩ := h
    rfl
  · obtain ⟨rp, cr, ropes, s0, rfl, hP, hC, hl, hc, h40, hq⟩ := h
    obtain ⟨vs, hvs, hps⟩ := id hP
    have hvl : vs.length = ropes.length := Paired.length hps
    refine ⟨_, (pss_one (ps_ret (pe_lc (own := [("_law_k", 2)]) (g := (gName 2)) (tt := tYes) (te := (tTup (tCons (tOp (rIxT K) (tOp (rIxL K) (tVar 0) (tVar 2)) (tOp (rIxT K) (tVar 1) (tVar 2))) (tCons (tOp (rIxT K) (tOp (rIxL K) (tVar 0) (tVar 2)) (tOp rSub (tC (.int 1)) (tOp (rIxT K) (tVar 1) (tVar 2)))) tNil)))) rfl sc__law_arrows.nd (pi_range1 rfl T.b_range (pa_cons (pe_callB call_len_seq (by rfl) T.b_len (by decide +kernel) (pa_cons (pv 0) pa_nil)) pa_nil)) (blkOk_by (N := ["_law_ropes", "_law_cars_here", "_law_k"]) (sc := defScope s__law_arrows) (by decide +kernel)) (fun _ _ _ _ _ => (pg_name (i := 2) sc__law_arrows.nd rfl (Or.inl rfl))) (fun _ _ _ _ _ => pts_nil) (fun _ _ _ _ _ => (pe_tup (pa_cons (pe_ix ix_tup (pe_ix ix_list (pv 0) (pv 2) (fun _ _ => rfl)) (pe_ix ix_tup (pv 1) (pv 2) (fun _ _ => rfl)) (fun _ _ => rfl)) (pa_cons (pe_ix ix_tup (pe_ix ix_list (pv 0) (pv 2) (fun _ _ => rfl)) (pe_op op_sub pe_int (pe_ix ix_tup (pv 1) (pv 2) (fun _ _ => rfl))) (fun _ _ => rfl)) pa_nil))))))), ?_⟩
    refine ⟨_, rfl, _, _, rfl, .inl (SqL.of hvs), _, rfl, by omega, by omega, fun D hD => ?_⟩
    refine lc_range0 (n := vs.length) (fun i H' => ∃ acc, Ex H H' ∧ H' D = some (.lst acc) ∧ acc.length = i ∧ PairsV H' acc ((as ropes s0).take i)) ⟨[], exn hD, upd_same, rfl, .nil⟩ (fun i H1 hi ⟨acc, e1, hD1, la, pa⟩ => ?_) (fun H1 ⟨acc, e1, hD1, la, pa⟩ => ?_)
    · have hi' : i < ropes.length := by omega
      obtain ⟨p, hp⟩ := get_of_lt hi'
      obtain ⟨c, hci⟩ := get_of_lt (show i < s0.cars.length by omega)
      have hc2 : c < 2 := hc c (List.mem_of_getElem? hci)
      obtain ⟨vs1, x, h1, h2, h3, h4⟩ := (hP.kp e1.kp).get hp
      have hC1 := e1 _ _ hC
      refine ⟨rfl, ?_⟩
      refine ⟨_, rfl, _, rfl, _, _, _, _, rfl, rfl, SqL.of h1, atI_nat h3, _, rfl, _, rfl, _, _, _, _, rfl, rfl, SqT.of hC1, atI_nat (ns_get hci), _, _, _, _, rfl, rfl, SqT.of h4, at_c hc2, ?_⟩
      refine ⟨_, rfl, _, rfl, _, _, _, _, rfl, rfl, SqL.of h1, atI_nat h3, _, rfl, _, rfl, _, _, _, _, rfl, rfl, SqT.of hC1, atI_nat (ns_get hci), _, _, rfl, rfl, _, _, _, _, rfl, rfl, SqT.of h4, at_c1 hc2, ?_⟩
      refine ⟨sz1 (by show 2 ≤ 100000; decide), fun q hq1 => ?_⟩
      rw [if_nV, if_nV]
      have e2 : Ex H1 (upd H1 q (.tup [nV (if c = 0 then p.1 else p.2), nV (if c = 0 then p.2 else p.1)])) := exn hq1
      have hq2 : upd H1 q (.tup [nV (if c = 0 then p.1 else p.2), nV (if c = 0 then p.2 else p.1)]) q = some (.tup [nV (if c = 0 then p.1 else p.2), nV (if c = 0 then p.2 else p.1)]) := upd_same
      refine ⟨acc, e2 _ _ hD1, sz2 (by omega), acc ++ [.ref q], ex_mut (e1.trans e2) hD, upd_same, by rw [List.length_append, la]; rfl, ?_⟩
      have ha : (as ropes s0)[i]? = some (if c = 0 then p else (p.2, p.1)) := arr_get hp hci
      rw [take_more ha]
      refine Paired.snoc (Paired.mapP pa fun v x hv => PairT.ul (hv.kp e2.kp) (e2 _ _ hD1)) (PairT.ul ⟨q, rfl, ?_⟩ (e2 _ _ hD1))
      rw [hq2]
      by_cases c0 : c = 0
      · rw [if_pos c0, if_pos c0, if_pos c0]
      · rw [if_neg c0, if_neg c0, if_neg c0]
    · have hall : (as ropes s0).take vs.length = as ropes s0 := List.take_of_length_le (by show (arr ropes s0.cars).length ≤ _; rw [arr_length hl]; omega)
      rw [hall] at pa
      exact hq D H1 e1 hD ⟨acc, hD1, pa⟩
end
end Tw

namespace Tw
open PySem PySem.Spec PyProof.Rows L2 TM
theorem sc__law_rides : FnScope ["_law_ropes", "_law_state", "_law_arrows_here", "_law_found", "_law_rope"] ["_law_ropes", "_law_state"] (defScope s__law_rides) := ⟨rfl, rfl, rfl, by decide +kernel, rfl, by decide +kernel, by decide +kernel⟩
section
variable {P : Program} {w : World} {K : PySem.W.Frag} {mg : Str → Option Value} {base : Heap}
theorem canR_red {ropes : TM.Rp} {s : TM.S} {i : Nat} {p : Nat × Nat} (h : (as ropes s)[i]? = some p) : canR ropes s (i, false) = decide (0 < s.reds.getD p.1 0) := by
  unfold canR
  rw [h]
  rfl
theorem canR_blue {ropes : TM.Rp} {s : TM.S} {i : Nat} {p : Nat × Nat} (h : (as ropes s)[i]? = some p) : canR ropes s (i, true) = decide (0 < s.blues.getD p.2 0) := by
  unfold canR
  rw [h]
  rfl
theorem ok__law_rides (T : Txt K mg) (D : Dfn K mg "_law_rides" s__law_rides) (c__law_arrows : Cal P w K mg base "_law_arrows" 1 ["_law_ropes", "_law_cars_here"] (sp__law_arrows K)) :
    Cal P w K mg base "_law_rides" 2 ["_law_ropes", "_law_state"] (sp__law_rides K) := by
  refine D.cal (k := 1) sc__law_rides (fun vs H Q E h => ?_) (fun _ _ _ _ _ _ us hl => match us, hl with | [_, _], _ => rfl) (fun cdv A outer s H vs Q E hr h => ?_)
  · obtain ⟨_, _, _, _, _, rfl, _⟩ := h
    rfl
  · obtain ⟨rp, sv, n, ropes, s0, rfl, hP, hS, ok, os, hq⟩ := h
    obtain ⟨st, rd, bl, cr, rfl, hst, hrd, hbl, hcr⟩ := id hS
    have h40 := ok.m40
    refine ⟨_, (pss_cons (ps_set (i := 2) sc__law_rides.nd rfl (Or.inl rfl) (pe_cal c__law_arrows (hr.mono (by decide)) (pa_cons (pv 0) (pa_cons (pe_ix ix_tup (pv 1) pe_int (fun _ _ => rfl)) pa_nil))))
      (pss_cons (ps_set (i := 3) sc__law_rides.nd rfl (Or.inl rfl) (pe_lst pa_nil))
      (pss_cons (ps_for PassesOwn.never rfl (pi_range1 rfl T.b_range (pa_cons (pe_callB call_len_seq (by rfl) T.b_len (by decide +kernel) (pa_cons (pv 0) pa_nil)) pa_nil)) (pg_name (i := 4) sc__law_rides.nd rfl (Or.inl rfl)) (Evl.pss_cut (ps_if (pt_cmpR op_gt (pe_ix ix_tup (pe_ix ix_tup (pv 1) pe_int (fun _ _ => rfl)) (pe_ix ix_tup (pe_ix ix_list (pv 2) (pv 4) (fun _ _ => rfl)) pe_int (fun _ _ => rfl)) (fun _ _ => rfl)) pe_int (nomark _)) (pss_one (ps_expr (pe_bm PySem.F.plainAttrs_list PySem.F.slot_list_append PySem.F.type_list_append mt_append (pv 3) (pa_cons (pe_tup (pa_cons (pv 4) (pa_cons pe_str pa_nil))) pa_nil)))) pss_nil)
      (pss_one (ps_if (pt_cmpR op_gt (pe_ix ix_tup (pe_ix ix_tup (pv 1) pe_int (fun _ _ => rfl)) (pe_ix ix_tup (pe_ix ix_list (pv 2) (pv 4) (fun _ _ => rfl)) pe_int (fun _ _ => rfl)) (fun _ _ => rfl)) pe_int (nomark _)) (pss_one (ps_expr (pe_bm PySem.F.plainAttrs_list PySem.F.slot_list_append PySem.F.type_list_append mt_append (pv 3) (pa_cons (pe_tup (pa_cons (pv 4) (pa_cons pe_str pa_nil))) pa_nil)))) pss_nil))))
      (pss_one (ps_ret (pv 3)))))), ?_⟩
    refine ⟨_, rfl, _, rfl, _, _, _, _, rfl, rfl, SqT.of hst, rfl, rp, cr, ropes, s0, rfl, hP, hcr, os.lc, os.c01, h40, fun ap H1 e1 hap0 hap => ?_⟩
    refine ⟨Nat.zero_le _, fun f hf => ?_⟩
    have hfH : H f = none := back e1 hf
    have e2 : Ex H (upd H1 f (.lst [])) := e1.trans (exn hf)
    have hap2 : PairsL (upd H1 f (.lst [])) ap (as ropes s0) := hap.kp (exn hf).kp
    have hff : upd H1 f (.lst []) f = some (.lst []) := upd_same
    have nfa : ap ≠ f := by
      obtain ⟨_, h, _⟩ := hap
      exact ne_of_none h hf
    obtain ⟨vs, hvs, hps⟩ := hP.kp e2.kp
    have hvl : vs.length = ropes.length := Paired.length hps
    have hal : (as ropes s0).length = ropes.length := arr_length os.lc
    have hends := fun p hp => arr_mem (cars := s0.cars) ok.ends p hp
    obtain ⟨avs, havs, haps⟩ := id hap2
    refine ⟨_, rfl, _, _, rfl, .inl (SqL.of hvs), vs.length, rfl, by omega, by omega, for_range0 (n := vs.length) (fun i σ H' => ∃ g, σ = [some (.ref rp), some (.ref st), some (.ref ap), some (.ref f), g] ∧ Ex H H' ∧ PairsL H' ap (as ropes s0) ∧ RidesL H' f ((List.range i).flatMap (ridesAt ropes s0))) ⟨_, rfl, e2, hap2, [], hff, .nil⟩ ?_ ?_⟩
    · rintro i σ H2 hi ⟨g, rfl, e, hap, hfl⟩
      obtain ⟨p, hp⟩ := get_of_lt (l := as ropes s0) (i := i) (by omega)
      obtain ⟨hp1, hp2, _⟩ := hends p (List.mem_of_getElem? hp)
      have lr := os.lr
      have lb := os.lb
      have hu := get_of_getD (l := s0.reds) (i := p.1) (by omega)
      have hv := get_of_getD (l := s0.blues) (i := p.2) (by omega)
      have hlen := rides_len (ropes := ropes) (s := s0) i
      refine ⟨fun σ H' => σ = [some (.ref rp), some (.ref st), some (.ref ap), some (.ref f), some (nV i)] ∧ Ex H H' ∧ PairsL H' ap (as ropes s0) ∧ RidesL H' f ((List.range i).flatMap (ridesAt ropes s0) ++ if canR ropes s0 (i, false) = true then [(i, false)] else []), ?_, ?_⟩
      · obtain ⟨as1, x, h1, h2, h3, h4⟩ := hap.get hp
        refine ⟨_, rfl, _, _, _, _, rfl, rfl, SqT.of (e _ _ hst), rfl, _, rfl, _, rfl, _, _, _, _, rfl, rfl, SqL.of h1, atI_nat h3, _, _, _, _, rfl, rfl, SqT.of h4, rfl, _, _, _, _, rfl, rfl, SqT.of (e _ _ hrd), atI_nat (ns_get hu), _, _, rfl, rfl, _, rfl, dI (fun c => ?_) (fun c => ?_)⟩
        · obtain ⟨fv, hfv, hfp⟩ := hfl
          have hfvl := Paired.length hfp
          refine ⟨_, rfl, .inl ⟨rfl, _, SqL.of hfv⟩, _, rfl, sz1 (by show 2 ≤ 100000; decide), fun t ht => ?_⟩
          have et : Ex H2 (upd H2 t (.tup [nV i, .str "red"])) := exn ht
          refine ⟨_, _, _, rfl, rfl, et _ _ hfv, sz2 (by omega), rfl, ex_mut (e.trans et) hfH, ?_, ?_⟩
          · obtain ⟨av, hav, hpav⟩ := hap
            refine ⟨av, ?_, Paired.mapP hpav fun v x hv => PairT.ul (hv.kp et.kp) (et _ _ hfv)⟩
            rw [upd_ne nfa]
            exact et _ _ hav
          · rw [canR_red hp, if_pos (decide_eq_true (by omega))]
            exact ⟨_, upd_same, Paired.snoc (Paired.mapP hfp fun v x hv => RideT.ul (hv.kp et.kp) (et _ _ hfv)) (RideT.ul ⟨t, rfl, upd_same⟩ (et _ _ hfv))⟩
        · refine ⟨rfl, e, hap, ?_⟩
          rw [canR_red hp, if_neg (by rw [decide_eq_true_eq]; omega), List.append_nil]
          exact hfl
      rintro _ H2 ⟨rfl, e, hap, hfl⟩
      obtain ⟨as1, x, h1, h2, h3, h4⟩ := hap.get hp
      have hmore : (List.range (i + 1)).flatMap (ridesAt ropes s0) = ((List.range i).flatMap (ridesAt ropes s0) ++ if canR ropes s0 (i, false) = true then [(i, false)] else []) ++ if canR ropes s0 (i, true) = true then [(i, true)] else [] := by
        rw [List.range_succ, List.flatMap_append, List.flatMap_cons, List.flatMap_nil, List.append_nil, List.append_assoc]
        rfl
      refine ⟨_, rfl, _, _, _, _, rfl, rfl, SqT.of (e _ _ hst), rfl, _, rfl, _, rfl, _, _, _, _, rfl, rfl, SqL.of h1, atI_nat h3, _, _, _, _, rfl, rfl, SqT.of h4, rfl, _, _, _, _, rfl, rfl, SqT.of (e _ _ hbl), atI_nat (ns_get hv), _, _, rfl, rfl, _, rfl, dI (fun c => ?_) (fun c => ?_)⟩
      · obtain ⟨fv, hfv, hfp⟩ := hfl
        have hfvl := Paired.length hfp
        rw [List.length_append] at hfvl
        have hl1 : (if canR ropes s0 (i, false) = true then [(i, false)] else [] : List TM.Rd).length ≤ 1 := by split <;> simp
        refine ⟨_, rfl, .inl ⟨rfl, _, SqL.of hfv⟩, _, rfl, sz1 (by show 2 ≤ 100000; decide), fun t ht => ?_⟩
        have et : Ex H2 (upd H2 t (.tup [nV i, .str "blue"])) := exn ht
        refine ⟨_, _, _, rfl, rfl, et _ _ hfv, sz2 (by omega), _, rfl, ex_mut (e.trans et) hfH, ?_, ?_⟩
        · obtain ⟨av, hav, hpav⟩ := hap
          refine ⟨av, ?_, Paired.mapP hpav fun v x hv => PairT.ul (hv.kp et.kp) (et _ _ hfv)⟩
          rw [upd_ne nfa]
          exact et _ _ hav
        · rw [hmore, canR_blue hp, if_pos (decide_eq_true (show 0 < s0.blues.getD p.2 0 by omega))]
          exact ⟨_, upd_same, Paired.snoc (Paired.mapP hfp fun v x hv => RideT.ul (hv.kp et.kp) (et _ _ hfv)) (RideT.ul ⟨t, rfl, upd_same⟩ (et _ _ hfv))⟩
      · refine ⟨_, rfl, e, hap, ?_⟩
        rw [hmore, canR_blue hp, if_neg (c := decide (0 < s0.blues.getD p.2 0) = true) (by rw [decide_eq_true_eq]; omega), List.append_nil]
        exact hfl
    · rintro σ H2 ⟨g, rfl, e, hap, hfl⟩
      rw [hvl] at hfl
      exact ⟨_, rfl, hq f H2 e hfH hfl⟩
end
end Tw

namespace Tw
open PySem PySem.Spec PyProof.Rows L2 TM
theorem sc__law_ride : FnScope ["_law_ropes", "_law_state", "_law_ride_here", "_law_pair", "_law_side", "_law_counts", "_law_guests_here", "_law_cars_here"] ["_law_ropes", "_law_state", "_law_ride_here"] (defScope s__law_ride) := ⟨rfl, rfl, rfl, by decide +kernel, rfl, by decide +kernel, by decide +kernel⟩
section
variable {P : Program} {w : World} {K : PySem.W.Frag} {mg : Str → Option Value} {base : Heap}
theorem ride_eq {ropes : TM.Rp} {s : TM.S} {k : Nat} {b : Bool} {p : Nat × Nat} (h : (as ropes s)[k]? = some p) : ride ropes s (k, b) = if b = true then ⟨s.reds, move s.blues p.2 p.1, s.cars.set k (1 - s.cars.getD k 0)⟩ else ⟨move s.reds p.1 p.2, s.blues, s.cars.set k (1 - s.cars.getD k 0)⟩ := by
  unfold ride
  rw [h]
theorem ok__law_ride (T : Txt K mg) (D : Dfn K mg "_law_ride" s__law_ride) :
    Cal P w K mg base "_law_ride" 1 ["_law_ropes", "_law_state", "_law_ride_here"] (sp__law_ride K) := by
  refine D.cal (k := 0) sc__law_ride (fun vs H Q E h => ?_) (fun _ _ _ _ _ _ us hl => match us, hl with | [_, _, _], _ => rfl) (fun cdv A outer s H vs Q E hr h => ?_)
  · obtain ⟨_, _, _, _, _, _, _, rfl, _⟩ := h
    rfl
  · obtain ⟨rp, sv, rv, n, ropes, s0, ⟨k, b⟩, rfl, hP, hS, hR, ok, os, hcan, hq⟩ := h
    obtain ⟨st, rd, bl, cr, rfl, hst, hrd, hbl, hcr⟩ := id hS
    obtain ⟨ra, rfl, hra⟩ := id hR
    obtain ⟨a, hak, hpos⟩ := canR_some hcan
    have hak' : (as ropes s0)[k]? = some a := hak
    obtain ⟨p, c, hp, hc, ha⟩ := arr_get_inv hak'
    obtain ⟨vs, x, hvs, hvl, hvk, hx⟩ := hP.get hp
    have hc2 : c < 2 := os.c01 c (List.mem_of_getElem? hc)
    obtain ⟨ha1, ha2, ha12⟩ := arr_mem (cars := s0.cars) ok.ends a (List.mem_of_getElem? hak')
    have lr := os.lr
    have lb := os.lb
    refine ⟨_, (pss_cons (ps_set (i := 3) sc__law_ride.nd rfl (Or.inl rfl) (pe_ix ix_list (pv 0) (pe_ix ix_tup (pv 2) pe_int (fun _ _ => rfl)) (fun _ _ => rfl)))
      (pss_cons (ps_set (i := 4) sc__law_ride.nd rfl (Or.inl rfl) (pe_ix ix_tup (pe_ix ix_tup (pv 1) pe_int (fun _ _ => rfl)) (pe_ix ix_tup (pv 2) pe_int (fun _ _ => rfl)) (fun _ _ => rfl)))
      (Evl.pss_cut (ps_if (pt_cmpR op_eq (pe_ix ix_tup (pv 2) pe_int (fun _ _ => rfl)) pe_str (nomark _)) (pss_one (ps_set (i := 4) sc__law_ride.nd rfl (Or.inl rfl) (pe_op op_sub pe_int (pv 4)))) pss_nil)
      (pss_cons (ps_set (i := 5) sc__law_ride.nd rfl (Or.inl rfl) (pe_lst (pa_cons (pe_callTy call_list_of (by rfl) T.b_list (by decide +kernel) (pa_cons (pe_ix ix_tup (pv 1) pe_int (fun _ _ => rfl)) pa_nil)) (pa_cons (pe_callTy call_list_of (by rfl) T.b_list (by decide +kernel) (pa_cons (pe_ix ix_tup (pv 1) pe_int (fun _ _ => rfl)) pa_nil)) pa_nil))))
      (pss_cons (ps_set (i := 6) sc__law_ride.nd rfl (Or.inl rfl) (pe_ix ix_list (pv 5) (pe_callTy call_int1 (by rfl) T.b_int (by decide +kernel) (pa_cons (pe_cmpR op_eq (pe_ix ix_tup (pv 2) pe_int (fun _ _ => rfl)) pe_str (nomark _)) pa_nil)) (fun _ _ => rfl)))
      (pss_cons (ps_asg (pe_op op_sub (pe_ix ix_list (pv 6) (pe_ix ix_tup (pv 3) (pv 4) (fun _ _ => rfl)) (fun _ _ => rfl)) pe_int) (pg_sub (pv 6) (pe_ix ix_tup (pv 3) (pv 4) (fun _ _ => rfl)) set_list))
      (pss_cons (ps_asg (pe_op op_add (pe_ix ix_list (pv 6) (pe_ix ix_tup (pv 3) (pe_op op_sub pe_int (pv 4)) (fun _ _ => rfl)) (fun _ _ => rfl)) pe_int) (pg_sub (pv 6) (pe_ix ix_tup (pv 3) (pe_op op_sub pe_int (pv 4)) (fun _ _ => rfl)) set_list))
      (pss_cons (ps_set (i := 7) sc__law_ride.nd rfl (Or.inl rfl) (pe_callTy call_list_of (by rfl) T.b_list (by decide +kernel) (pa_cons (pe_ix ix_tup (pv 1) pe_int (fun _ _ => rfl)) pa_nil)))
      (pss_cons (ps_asg (pe_op op_sub pe_int (pe_ix ix_list (pv 7) (pe_ix ix_tup (pv 2) pe_int (fun _ _ => rfl)) (fun _ _ => rfl))) (pg_sub (pv 7) (pe_ix ix_tup (pv 2) pe_int (fun _ _ => rfl)) set_list))
      (pss_one (ps_ret (pe_tup (pa_cons (pe_callTy call_tuple_of (by rfl) T.b_tuple (by decide +kernel) (pa_cons (pe_ix ix_list (pv 5) pe_int (fun _ _ => rfl)) pa_nil)) (pa_cons (pe_callTy call_tuple_of (by rfl) T.b_tuple (by decide +kernel) (pa_cons (pe_ix ix_list (pv 5) pe_int (fun _ _ => rfl)) pa_nil)) (pa_cons (pe_callTy call_tuple_of (by rfl) T.b_tuple (by decide +kernel) (pa_cons (pv 7) pa_nil)) pa_nil))))))))))))))), ?_⟩
    refine ⟨_, rfl, _, rfl, _, _, _, _, rfl, rfl, SqT.of hra, rfl, _, _, _, _, rfl, rfl, SqL.of hvs, atI_nat hvk, ?_⟩
    refine ⟨_, rfl, _, _, _, _, rfl, rfl, SqT.of hst, rfl, _, rfl, _, _, _, _, rfl, rfl, SqT.of hra, rfl, _, _, _, _, rfl, rfl, SqT.of hcr, atI_nat (ns_get hc), ?_⟩
    -- d: the side the guest leaves by
    refine ⟨fun σ H' => ∃ (z : Int) (d : Nat), σ = [some (.ref rp), some (.ref st), some (.ref ra), some (.ref x), some (.int z), none, none, none] ∧ z = d ∧ d < 2 ∧ d = (if b = true then 1 - c else c) ∧ H' = H, ?_, ?_⟩
    · refine ⟨_, rfl, _, _, _, _, rfl, rfl, SqT.of hra, rfl, rfl, _, rfl, ?_⟩
      cases b with
      | true => exact dT rfl ⟨_, rfl, _, _, rfl, rfl, _, 1 - c, rfl, by omega, by omega, (by rw [if_pos rfl]), rfl⟩
      | false => exact dF (by show ¬ V.str "red" = V.str "blue"; decide +kernel) ⟨_, c, rfl, rfl, hc2, (by rw [if_neg (by decide)]), rfl⟩
    rintro _ H0 ⟨_, d, rfl, rfl, hd2, hd, e0⟩
    have hdat : atI [nV p.1, nV p.2] (d : Int) = some (nV (if b = true then a.2 else a.1)) := by
      rw [at_c hd2, hd, ha]
      have c01 : c = 0 ∨ c = 1 := by omega
      cases b <;> rcases c01 with rfl | rfl <;> rfl
    have hdat1 : atI [nV p.1, nV p.2] (1 - (d : Int)) = some (nV (if b = true then a.1 else a.2)) := by
      rw [at_c1 hd2, hd, ha]
      have c01 : c = 0 ∨ c = 1 := by omega
      cases b <;> rcases c01 with rfl | rfl <;> rfl
    clear hd hpos
    subst e0
    refine ⟨_, rfl, _, _, _, _, rfl, rfl, SqT.of hst, rfl, _, _, rfl, .inr (SqT.of hrd), fun l1 hl1 => ?_⟩
    have x1 : Ex H0 (upd H0 l1 (.lst (Ns s0.reds))) := exn hl1
    have h1 : upd H0 l1 (.lst (Ns s0.reds)) l1 = some (.lst (Ns s0.reds)) := upd_same
    generalize upd H0 l1 (.lst (Ns s0.reds)) = H1 at x1 h1 ⊢
    refine ⟨_, rfl, _, _, _, _, rfl, rfl, SqT.of (x1 _ _ hst), rfl, _, _, rfl, .inr (SqT.of (x1 _ _ hbl)), fun l2 hl2 => ?_⟩
    have x2 : Ex H1 (upd H1 l2 (.lst (Ns s0.blues))) := exn hl2
    have h2 : upd H1 l2 (.lst (Ns s0.blues)) l2 = some (.lst (Ns s0.blues)) := upd_same
    generalize upd H1 l2 (.lst (Ns s0.blues)) = H2 at x2 h2 ⊢
    refine ⟨sz1 (by show 2 ≤ 100000; decide), fun cl hcl => ?_⟩
    have x3 : Ex H2 (upd H2 cl (.lst [.ref l1, .ref l2])) := exn hcl
    have h3 : upd H2 cl (.lst [.ref l1, .ref l2]) cl = some (.lst [.ref l1, .ref l2]) := upd_same
    generalize upd H2 cl (.lst [.ref l1, .ref l2]) = H3 at x3 h3 ⊢
    have x03 : Ex H0 H3 := (x1.trans x2).trans x3
    have n12 : l1 ≠ l2 := ne_of_none h1 hl2
    have n1c : l1 ≠ cl := ne_of_none (x2 _ _ h1) hcl
    have n2c : l2 ≠ cl := ne_of_none h2 hcl
    have hl1H : H0 l1 = none := hl1
    have hl2H : H0 l2 = none := back x1 hl2
    have hclH : H0 cl = none := back (x1.trans x2) hcl
    have h31 := (x2.trans x3) _ _ h1
    have h32 := x3 _ _ h2
    refine ⟨_, rfl, _, rfl, _, _, _, _, rfl, rfl, SqT.of (x03 _ _ hra), rfl, rfl, .inr ⟨_, rfl, ?_⟩⟩
    -- the list that changes: g, with content xs
    obtain ⟨g, xs, hgi, hg, hgH, ngc, hxl⟩ : ∃ g xs, atI [V.ref l1, V.ref l2] (if decide (V.str (colS b) = V.str "blue") = true then 1 else 0) = some (V.ref g) ∧ (g = (if b = true then l2 else l1) ∧ xs = (if b = true then s0.blues else s0.reds)) ∧ H3 g = some (.lst (Ns xs)) ∧ g ≠ cl ∧ xs.length = n := by
      cases b with
      | true => exact ⟨l2, s0.blues, rfl, ⟨rfl, rfl⟩, h32, n2c, lb⟩
      | false => exact ⟨l1, s0.reds, rfl, ⟨rfl, rfl⟩, h31, n1c, lr⟩
    have hgf : H0 g = none := by
      rw [hg.1]
      cases b
      · exact hl1H
      · exact hl2H
    refine ⟨_, _, _, _, rfl, rfl, SqL.of h3, hgi, ?_⟩
    have hfrom : (if b = true then a.2 else a.1) < n := by split <;> assumption
    have hto : (if b = true then a.1 else a.2) < n := by split <;> assumption
    generalize hu : (if b = true then a.2 else a.1) = u at hdat hfrom
    generalize hv : (if b = true then a.1 else a.2) = v at hdat1 hto
    have hxu := get_of_getD (l := xs) (i := u) (by omega)
    have hxpos : 0 < xs.getD u 0 := by
      rw [hg.2, ← hu]
      obtain ⟨a', ha', hp'⟩ := canR_some hcan
      have ea : a' = a := Option.some.inj (ha'.symm.trans hak)
      subst ea
      cases b with
      | true => exact hp'
      | false => exact hp'
    -- g[u] -= 1
    have hx3 := x03 _ _ hx
    refine ⟨_, rfl, _, rfl, _, rfl, _, _, _, _, rfl, rfl, SqT.of hx3, hdat, _, _, _, _, rfl, rfl, SqL.of hgH, atI_nat (ns_get hxu), _, _, rfl, rfl, ?_⟩
    refine ⟨_, rfl, _, rfl, _, rfl, _, _, _, _, rfl, rfl, SqT.of hx3, hdat, _, _, _, _, rfl, rfl, hgH, Evl.ixN_nat (by rw [ns_len, hxl]; exact hfrom), ?_⟩
    have e4 : upd H3 g (.lst ((Ns xs).set u (V.int ((xs.getD u 0 : Int) - 1)))) = upd H3 g (.lst (Ns (xs.set u (xs.getD u 0 - 1)))) := by
      rw [vI (i := (xs.getD u 0 : Int) - 1) (m := xs.getD u 0 - 1) (by omega), set_ns]
    show (_ : Prop)
    rw [e4]
    have x4 : Ex H0 (upd H3 g (.lst (Ns (xs.set u (xs.getD u 0 - 1))))) := ex_mut x03 hgf
    have h4g : upd H3 g (.lst (Ns (xs.set u (xs.getD u 0 - 1)))) g = some (.lst (Ns (xs.set u (xs.getD u 0 - 1)))) := upd_same
    have h4o : ∀ q o, q ≠ g → H3 q = some o → upd H3 g (.lst (Ns (xs.set u (xs.getD u 0 - 1)))) q = some o := fun q o ne hq => by
      rw [upd_ne ne]
      exact hq
    generalize upd H3 g (.lst (Ns (xs.set u (xs.getD u 0 - 1)))) = H4 at x4 h4g h4o ⊢
    have hx4 := x4 _ _ hx
    have hxv := get_of_getD (l := xs.set u (xs.getD u 0 - 1)) (i := v) (by rw [List.length_set]; omega)
    refine ⟨_, rfl, _, rfl, _, rfl, _, _, rfl, rfl, _, _, _, _, rfl, rfl, SqT.of hx4, hdat1, _, _, _, _, rfl, rfl, SqL.of h4g, atI_nat (ns_get hxv), _, _, rfl, rfl, ?_⟩
    refine ⟨_, rfl, _, rfl, _, rfl, _, _, rfl, rfl, _, _, _, _, rfl, rfl, SqT.of hx4, hdat1, _, _, _, _, rfl, rfl, h4g, Evl.ixN_nat (by rw [ns_len, List.length_set, hxl]; exact hto), ?_⟩
    have e5 : upd H4 g (.lst ((Ns (xs.set u (xs.getD u 0 - 1))).set v (V.int (((xs.set u (xs.getD u 0 - 1)).getD v 0 : Int) + 1)))) = upd H4 g (.lst (Ns (move xs u v))) :=
      congrArg (fun l => upd H4 g (.lst l)) (set_ns _ v ((xs.set u (xs.getD u 0 - 1)).getD v 0 + 1))
    rw [e5]
    have x5 : Ex H0 (upd H4 g (.lst (Ns (move xs u v)))) := ex_mut x4 hgf
    have h5g : upd H4 g (.lst (Ns (move xs u v))) g = some (.lst (Ns (move xs u v))) := upd_same
    have h5o : ∀ q o, q ≠ g → H3 q = some o → upd H4 g (.lst (Ns (move xs u v))) q = some o := fun q o ne hq => by
      rw [upd_ne ne]
      exact h4o q o ne hq
    generalize upd H4 g (.lst (Ns (move xs u v))) = H5 at x5 h5g h5o ⊢
    refine ⟨_, rfl, _, _, _, _, rfl, rfl, SqT.of (x5 _ _ hst), rfl, _, _, rfl, .inr (SqT.of (x5 _ _ hcr)), fun l3 hl3 => ?_⟩
    have hl3H : H0 l3 = none := back x5 hl3
    have x6 : Ex H5 (upd H5 l3 (.lst (Ns s0.cars))) := exn hl3
    have h6 : upd H5 l3 (.lst (Ns s0.cars)) l3 = some (.lst (Ns s0.cars)) := upd_same
    generalize upd H5 l3 (.lst (Ns s0.cars)) = H6 at x6 h6 ⊢
    have n3g : g ≠ l3 := ne_of_none h5g hl3
    have n3c : cl ≠ l3 := ne_of_none (h5o cl _ (Ne.symm ngc) h3) hl3
    have hck : k < s0.cars.length := lt_of_get hc
    have hra6 := (x5.trans x6) _ _ hra
    refine ⟨_, rfl, _, rfl, _, _, _, _, rfl, rfl, SqT.of hra6, rfl, _, _, _, _, rfl, rfl, SqL.of h6, atI_nat (ns_get hc), _, _, rfl, rfl, ?_⟩
    refine ⟨_, rfl, _, rfl, _, _, _, _, rfl, rfl, SqT.of hra6, rfl, _, _, _, _, rfl, rfl, h6, Evl.ixN_nat (by rw [ns_len]; exact hck), ?_⟩
    have e7 : upd H6 l3 (.lst ((Ns s0.cars).set k (V.int (1 - (c : Int))))) = upd H6 l3 (.lst (Ns (s0.cars.set k (1 - c)))) := by
      rw [vI (i := 1 - (c : Int)) (m := 1 - c) (by omega), set_ns]
    rw [e7]
    have x7 : Ex H0 (upd H6 l3 (.lst (Ns (s0.cars.set k (1 - c))))) := ex_mut (x5.trans x6) hl3H
    have h7 : upd H6 l3 (.lst (Ns (s0.cars.set k (1 - c)))) l3 = some (.lst (Ns (s0.cars.set k (1 - c)))) := upd_same
    have h7o : ∀ q o, q ≠ l3 → H5 q = some o → upd H6 l3 (.lst (Ns (s0.cars.set k (1 - c)))) q = some o := fun q o ne hq => by
      rw [upd_ne ne]
      exact x6 _ _ hq
    generalize upd H6 l3 (.lst (Ns (s0.cars.set k (1 - c)))) = H7 at x7 h7 h7o ⊢
    have h7c : H7 cl = some (.lst [.ref l1, .ref l2]) := h7o _ _ n3c (h5o cl _ (Ne.symm ngc) h3)
    obtain ⟨R, Bl, h71, h72, hres⟩ : ∃ R Bl, H7 l1 = some (.lst (Ns R)) ∧ H7 l2 = some (.lst (Ns Bl)) ∧ ride ropes s0 (k, b) = ⟨R, Bl, s0.cars.set k (1 - c)⟩ := by
      have h7g := h7o _ _ n3g h5g
      rw [ride_eq hak', getD_of hc]
      obtain ⟨hg1, hg2⟩ := hg
      cases b with
      | true =>
        have eu : a.2 = u := hu
        have ev : a.1 = v := hv
        have eg : g = l2 := hg1
        have ex' : xs = s0.blues := hg2
        subst eg eu ev
        rw [ex'] at h7g
        exact ⟨s0.reds, _, h7o _ _ (ne_of_none (h5o l1 _ n12 h31) hl3) (h5o l1 _ n12 h31), h7g, rfl⟩
      | false =>
        have eu : a.1 = u := hu
        have ev : a.2 = v := hv
        have eg : g = l1 := hg1
        have ex' : xs = s0.reds := hg2
        subst eg eu ev
        rw [ex'] at h7g
        exact ⟨_, s0.blues, h7g, h7o _ _ (ne_of_none (h5o l2 _ (Ne.symm n12) h32) hl3) (h5o l2 _ (Ne.symm n12) h32), rfl⟩
    refine ⟨_, rfl, _, _, _, _, rfl, rfl, SqL.of h7c, rfl, _, _, rfl, .inl ⟨SqL.of h71, fun t1 ht1 => ?_⟩⟩
    have x8 : Ex H7 (upd H7 t1 (.tup (Ns R))) := exn ht1
    have h8 : upd H7 t1 (.tup (Ns R)) t1 = some (.tup (Ns R)) := upd_same
    generalize upd H7 t1 (.tup (Ns R)) = H8 at x8 h8 ⊢
    refine ⟨_, rfl, _, _, _, _, rfl, rfl, SqL.of (x8 _ _ h7c), rfl, _, _, rfl, .inl ⟨SqL.of (x8 _ _ h72), fun t2 ht2 => ?_⟩⟩
    have x9 : Ex H8 (upd H8 t2 (.tup (Ns Bl))) := exn ht2
    have h9 : upd H8 t2 (.tup (Ns Bl)) t2 = some (.tup (Ns Bl)) := upd_same
    generalize upd H8 t2 (.tup (Ns Bl)) = H9 at x9 h9 ⊢
    refine ⟨_, rfl, _, _, rfl, .inl ⟨SqL.of ((x8.trans x9) _ _ h7), fun t3 ht3 => ?_⟩⟩
    have x10 : Ex H9 (upd H9 t3 (.tup (Ns (s0.cars.set k (1 - c))))) := exn ht3
    have h10 : upd H9 t3 (.tup (Ns (s0.cars.set k (1 - c)))) t3 = some (.tup (Ns (s0.cars.set k (1 - c)))) := upd_same
    generalize upd H9 t3 (.tup (Ns (s0.cars.set k (1 - c)))) = HA at x10 h10 ⊢
    refine ⟨sz1 (by show 3 ≤ 100000; decide), fun t0 ht0 => ?_⟩
    have x11 : Ex HA (upd HA t0 (.tup [.ref t1, .ref t2, .ref t3])) := exn ht0
    refine hq (.ref t0) _ ((((x7.trans x8).trans x9).trans x10).trans x11) ?_
    rw [hres]
    exact ⟨t0, t1, t2, t3, rfl, upd_same, ((x9.trans x10).trans x11) _ _ h8, (x10.trans x11) _ _ h9, x11 _ _ h10⟩
end
end Tw

namespace Tw
open PySem PySem.Spec PyProof.Rows L2 TM
theorem sc__law_walked : FnScope ["_law_bag_here", "_law_world_here", "_law_state", "_law_many", "_law_rides_here", "_law_states", "_law_k", "_law_free", "_law_ride_here"] ["_law_bag_here", "_law_world_here", "_law_state", "_law_many"] (defScope s__law_walked) := ⟨rfl, rfl, rfl, by decide +kernel, rfl, by decide +kernel, by decide +kernel⟩
section
variable {P : Program} {w : World} {K : PySem.W.Frag} {mg : Str → Option Value} {base : Heap}
theorem rides_nobag {H : Hp} {vs : List V} {rs : List TM.Rd} (h : Paired (RideT H) vs rs) : isBag (.lst vs) = false := by
  cases h with
  | nil => rfl
  | cons h _ =>
    obtain ⟨_, q, _⟩ := h
    rw [q]
    rfl
theorem ok__law_walked (T : Txt K mg) (D : Dfn K mg "_law_walked" s__law_walked) (c__law_ride : Cal P w K mg base "_law_ride" 1 ["_law_ropes", "_law_state", "_law_ride_here"] (sp__law_ride K)) (c__law_rides : Cal P w K mg base "_law_rides" 2 ["_law_ropes", "_law_state"] (sp__law_rides K)) (c__law_take : Cal P w K mg base "_law_take" 1 ["_law_bag_here", "_law_many"] (sp__law_take K)) :
    Cal P w K mg base "_law_walked" 3 ["_law_bag_here", "_law_world_here", "_law_state", "_law_many"] (sp__law_walked K) := by
  refine D.cal (k := 2) sc__law_walked (fun vs H Q E h => ?_) (fun _ _ _ _ _ _ us hl => match us, hl with | [_, _, _, _], _ => rfl) (fun cdv A outer s H vs Q E hr h => ?_)
  · obtain ⟨_, _, _, _, _, _, _, rfl, _⟩ := h
    rfl
  · obtain ⟨B, W, sv, n, ropes, s0, s1, rfl, hB, hW, hS, ok, os, hq⟩ := h
    have h40 := ok.m40
    refine ⟨_, (pss_cons (ps_set (i := 4) sc__law_walked.nd rfl (Or.inl rfl) (pe_lst pa_nil))
      (pss_cons (ps_set (i := 5) sc__law_walked.nd rfl (Or.inl rfl) (pe_lst (pa_cons (pv 2) pa_nil)))
      (pss_cons (ps_for PassesOwn.never rfl (pi_range1 rfl T.b_range (pa_cons (pv 3) pa_nil)) (pg_name (i := 6) sc__law_walked.nd rfl (Or.inl rfl)) (pss_cons (ps_set (i := 7) sc__law_walked.nd rfl (Or.inl rfl) (pe_cal c__law_rides (hr.mono (by decide)) (pa_cons (pe_ix ix_list (pv 1) pe_int (fun _ _ => rfl)) (pa_cons (pe_ix ix_list (pv 5) (pe_un un_neg pe_int) (fun _ _ => rfl)) pa_nil))))
      (pss_cons (ps_if (pt_cmpR (op_eqD (room64 hr)) (pv 7) (pe_lst pa_nil) (nomark _)) (pss_one ps_break) pss_nil)
      (pss_cons (ps_set (i := 8) sc__law_walked.nd rfl (Or.inl rfl) (pe_ix ix_list (pv 7) (pe_cal c__law_take (hr.mono (by decide)) (pa_cons (pv 0) (pa_cons (pe_callB call_len_seq (by rfl) T.b_len (by decide +kernel) (pa_cons (pv 7) pa_nil)) pa_nil))) (fun _ _ => rfl)))
      (pss_cons (ps_expr (pe_bm PySem.F.plainAttrs_list PySem.F.slot_list_append PySem.F.type_list_append mt_append (pv 4) (pa_cons (pv 8) pa_nil)))
      (pss_one (ps_expr (pe_bm PySem.F.plainAttrs_list PySem.F.slot_list_append PySem.F.type_list_append mt_append (pv 5) (pa_cons (pe_cal c__law_ride (hr.mono (by decide)) (pa_cons (pe_ix ix_list (pv 1) pe_int (fun _ _ => rfl)) (pa_cons (pe_ix ix_list (pv 5) (pe_un un_neg pe_int) (fun _ _ => rfl)) (pa_cons (pv 8) pa_nil)))) pa_nil)))))))))
      (pss_one (ps_ret (pe_lst (pa_cons (pv 4) (pa_cons (pv 5) pa_nil)))))))), ?_⟩
    refine ⟨Nat.zero_le _, fun ra hra => ?_⟩
    have e1 : Ex H (upd H ra (.lst [])) := exn hra
    have h1 : upd H ra (.lst []) ra = some (.lst []) := upd_same
    generalize upd H ra (.lst []) = H1 at e1 h1 ⊢
    refine ⟨_, rfl, sz1 (by show 1 ≤ 100000; decide), fun sa hsa => ?_⟩
    have e2 : Ex H1 (upd H1 sa (.lst [sv])) := exn hsa
    have h2 : upd H1 sa (.lst [sv]) sa = some (.lst [sv]) := upd_same
    have n12 : ra ≠ sa := ne_of_none h1 hsa
    have hsaH : H sa = none := back e1 hsa
    generalize upd H1 sa (.lst [sv]) = H2 at e2 h2 ⊢
    have e02 : Ex H H2 := e1.trans e2
    have nrB : ra ≠ B := ne_bag (xs := []) hB hra
    have nsB : sa ≠ B := ne_bag (xs := []) hB hsaH
    have fin : ∀ (g6 g7 g8 : Option V) (rv : List V) (ss : List TM.S) (H' : Hp), Off B H H' → Bag H' B → StatesL H' sa ss → ss ≠ [] → ss.length ≤ 1000 → (∀ t ∈ ss, Reach ropes s1 t) →
        (tRet (tLst (tCons (tVar 4) (tCons (tVar 5) tNil)))) { nx := fun _ H' => Q .non H', rt := Q } [some (.ref B), some (.ref W), some sv, some (.int 12), some (.ref ra), some (.ref sa), g6, g7, g8] H' := by
      intro g6 g7 g8 rv ss H' o b st ne l r
      refine ⟨_, rfl, _, rfl, sz1 (by show 2 ≤ 100000; decide), fun p hp => ?_⟩
      have e : Ex H' (upd H' p (.lst [.ref ra, .ref sa])) := exn hp
      exact hq p ra sa _ ss (o.trans e.off) (b.ex e) upd_same (st.kp e.kp) ne l r
    refine ⟨_, rfl, 12, rfl, by decide, by decide, for_range0 (n := 12) (fun i σ H' => ∃ g6 g7 g8 rv vs v ss t, σ = [some (.ref B), some (.ref W), some sv, some (.int 12), some (.ref ra), some (.ref sa), g6, g7, g8] ∧ Off B H H' ∧ Bag H' B ∧ H' ra = some (.lst rv) ∧ rv.length ≤ i ∧ H' sa = some (.lst (vs ++ [v])) ∧ Paired (StT H') vs ss ∧ StT H' v t ∧ ss.length = i ∧ (∀ x ∈ ss, Reach ropes s1 x) ∧ Reach ropes s1 t)
      ⟨_, _, _, [], [], sv, [], s1, rfl, e02.off, hB.ex e02, e2 _ _ h1, Nat.le_refl _, h2, .nil, hS.kp e02.kp, rfl, (fun _ z => nomatch z), .refl⟩ ?_ ?_⟩
    · rintro i σ H3 hi ⟨g6, g7, g8, rv, vs, v, ss, t, rfl, o3, b3, hrv, hrl, hsv, hps, ht, hsl, hreach, hrt⟩
      have hW3 := hW.kp (o3.kp hB)
      obtain ⟨rp, sv0, hw, hP, hS0⟩ := id hW3
      have ost := reach_ok ok os hrt
      have hvl := Paired.length hps
      refine ⟨_, rfl, _, _, _, _, rfl, rfl, SqL.of hw, rfl, _, rfl, _, rfl, _, _, _, _, rfl, rfl, SqL.of hsv, atI_last vs v, rp, v, n, ropes, t, rfl, hP, ht, ok, ost, fun f H4 e4 hf0 hf => ?_⟩
      refine ⟨_, rfl, Nat.zero_le _, fun z hz => ?_⟩
      have e5 : Ex H4 (upd H4 z (.lst [])) := exn hz
      have h5 : upd H4 z (.lst []) z = some (.lst []) := upd_same
      generalize upd H4 z (.lst []) = H5 at e5 h5 ⊢
      have e35 : Ex H3 H5 := e4.trans e5
      have hf5 : RidesL H5 f (rides ropes t) := hf.kp e5.kp
      have o5 := o3.trans e35.off
      have b5 := b3.ex e35
      have hz5 : RidesL H5 z [] := ⟨[], h5, .nil⟩
      refine ⟨_, _, dp_rides hf5, dp_rides hz5, shaped_rds _, shaped_rds _, _, rfl, ?_⟩
      rw [eqv_rds]
      refine dI (fun c => ?_) (fun c => ?_)
      · exact fin _ _ _ rv (ss ++ [t]) H5 o5 b5 ⟨vs ++ [v], e35 _ _ hsv, Paired.snoc (Paired.mapP hps fun _ _ h => h.kp e35.kp) (ht.kp e35.kp)⟩ (by simp) (by rw [List.length_append, hsl]; simp; omega) (fun x hx => by
          rcases List.mem_append.mp hx with h | h
          · exact hreach x h
          · rw [List.mem_singleton.mp h]
            exact hrt)
      · obtain ⟨fv, hfv, hfp⟩ := id hf5
        have hfl := Paired.length hfp
        have hr80 : (rides ropes t).length ≤ 2 * ropes.length := rides_len _
        have hpos := List.length_pos_iff.mpr c
        refine ⟨_, rfl, _, rfl, _, rfl, _, _, rfl, .inl (SqL.of hfv), B, fv.length, rfl, b5, by omega, by omega, fun k H6 hk b6 o6 => ?_⟩
        obtain ⟨rd, hrd⟩ := get_of_lt hk
        obtain ⟨r, hr, hrt5⟩ := Paired.getL hfp hrd
        have hcan := (mem_rides ost.lc).mp (List.mem_of_getElem? hr)
        have kp6 := o6.kp b5
        have o36 := (exo e35).trans o6
        have hrv6 := o36 _ _ nrB hrv
        have hrd6 : RideT H6 rd r := hrt5.kp kp6
        refine ⟨_, _, _, _, rfl, rfl, SqL.of (kp6 _ _ (rides_nobag hfp) hfv), atI_nat hrd, ?_⟩
        refine ⟨_, rfl, .inl ⟨rfl, _, SqL.of hrv6⟩, _, rfl, _, _, _, rfl, rfl, hrv6, sz2 (by omega), ?_⟩
        have tk7 : TK H6 (upd H6 ra (.lst (rv ++ [rd]))) := tk_lst hrv6
        have h7o : ∀ q o, q ≠ ra → H6 q = some o → upd H6 ra (.lst (rv ++ [rd])) q = some o := fun q o ne hq => by
          rw [upd_ne ne]
          exact hq
        have h7 : upd H6 ra (.lst (rv ++ [rd])) ra = some (.lst (rv ++ [rd])) := upd_same
        have o7 : Off B H (upd H6 ra (.lst (rv ++ [rd]))) := off_mut (o3.trans o36) hra
        have b7 : Bag (upd H6 ra (.lst (rv ++ [rd]))) B := bag_keep b6 nrB
        generalize upd H6 ra (.lst (rv ++ [rd])) = H7 at tk7 h7o h7 o7 b7 ⊢
        have hsv6 := o36 _ _ nsB hsv
        have hsv7 := h7o _ _ (Ne.symm n12) hsv6
        have tk37 : TK H3 H7 := fun b ys h => tk7 b ys (kp6.tup (e35 _ _ h))
        obtain ⟨rp', sv0', hw7, hP7, hS7⟩ := hW.kp (o7.kp hB)
        refine ⟨_, rfl, .inl ⟨rfl, _, SqL.of hsv7⟩, _, rfl, _, _, _, _, rfl, rfl, SqL.of hw7, rfl, _, rfl, _, rfl, _, _, _, _, rfl, rfl, SqL.of hsv7, atI_last vs v, _, rfl, rp', v, rd, n, ropes, t, r, rfl, hP7, ht.tk tk37, hrd6.tk tk7, ok, ost, hcan, fun v' H8 e8 hS8 => ?_⟩
        have hsv8 := e8 _ _ hsv7
        have tk8 : TK H8 (upd H8 sa (.lst (vs ++ [v] ++ [v']))) := tk_lst hsv8
        have tk38 := (tk37.trans (tk_ex e8)).trans tk8
        refine ⟨_, _, _, rfl, rfl, hsv8, sz2 (by rw [List.length_append]; simp; omega), _, _, _, rv ++ [rd], vs ++ [v], v', ss ++ [t], ride ropes t r, rfl, off_mut (o7.trans e8.off) hsaH, bag_keep (b7.ex e8) nsB, ?_, ?_, upd_same, Paired.snoc (Paired.mapP hps fun _ _ h => h.tk tk38) (ht.tk tk38), hS8.tk tk8, ?_, ?_, .step hrt hcan⟩
        · rw [upd_ne n12]
          exact e8 _ _ h7
        · rw [List.length_append]
          simp
          omega
        · rw [List.length_append, hsl]
          rfl
        · intro x hx
          rcases List.mem_append.mp hx with h | h
          · exact hreach x h
          · rw [List.mem_singleton.mp h]
            exact hrt
    · rintro σ H3 ⟨g6, g7, g8, rv, vs, v, ss, t, rfl, o3, b3, hrv, hrl, hsv, hps, ht, hsl, hreach, hrt⟩
      exact fin _ _ _ rv (ss ++ [t]) H3 o3 b3 ⟨vs ++ [v], hsv, Paired.snoc hps ht⟩ (by simp) (by rw [List.length_append, hsl]; simp) (fun x hx => by
          rcases List.mem_append.mp hx with h | h
          · exact hreach x h
          · rw [List.mem_singleton.mp h]
            exact hrt)
end
end Tw

namespace Tw
open PySem PySem.Spec PyProof.Rows L2 TM
theorem sc__law_search : FnScope ["_law_world_here", "_law_state", "_law_most", "_law_found", "_law_known", "_law_at", "_law_here", "_law_ride_here", "_law_there"] ["_law_world_here", "_law_state", "_law_most"] (defScope s__law_search) := ⟨rfl, rfl, rfl, by decide +kernel, rfl, by decide +kernel, by decide +kernel⟩
section
variable {P : Program} {w : World} {K : PySem.W.Frag} {mg : Str → Option Value} {base : Heap}
abbrev zs (xs : List Nat) : List Int := xs.map fun (n : Nat) => (n : Int)
def ks (s : TM.S) : List (List Int) := [zs s.reds, zs s.blues, zs s.cars]
theorem zs_inj : ∀ {a b : List Nat}, zs a = zs b → a = b
  | [], [], _ => rfl
  | [], _ :: _, h => by cases h
  | _ :: _, [], h => by cases h
  | x :: a, y :: b, h => by
    have h1 : (x : Int) = (y : Int) := (List.cons.inj h).1
    have h2 : zs a = zs b := (List.cons.inj h).2
    rw [zs_inj h2, show x = y by omega]
theorem ks_inj {s t : TM.S} (h : ks s = ks t) : s = t := by
  obtain ⟨a, b, c⟩ := s
  obtain ⟨x, y, z⟩ := t
  have h1 : zs a = zs x := (List.cons.inj h).1
  have h' := (List.cons.inj h).2
  have h2 : zs b = zs y := (List.cons.inj h').1
  have h'' := (List.cons.inj h').2
  have h3 : zs c = zs z := (List.cons.inj h'').1
  rw [zs_inj h1, zs_inj h2, zs_inj h3]
theorem t2_of {H : Hp} {v : V} {s : TM.S} (h : StT H v s) : ∃ a, v = .ref a ∧ T2 H a (ks s) := by
  obtain ⟨a, r, b, c, rfl, h1, h2, h3, h4⟩ := h
  rw [ns_ints] at h2 h3 h4
  exact ⟨a, rfl, [r, b, c], h1, .cons h2 (.cons h3 (.cons h4 .nil))⟩
structure SW (P : Program) (w : World) (H0 H' : Hp) (ropes : TM.Rp) (s1 : TM.S) (f d : Addr) (ss : List TM.S) (xs : Tab2) : Prop where
  ex : Ex H0 H'
  f : StatesL H' f ss
  d : H' d = some (Dict2 P w d xs)
  k : Keys2 H' xs
  m : ∀ t, ks t ∈ xs.map (·.1) ↔ t ∈ ss
  l : xs.length = ss.length
  h0 : s1 ∈ ss
  r : ∀ t ∈ ss, Reach ropes s1 t
theorem SW.take {P : Program} {w : World} {H0 H1 H2 : Hp} {ropes : TM.Rp} {s1 : TM.S} {f d : Addr} {ss : List TM.S} {xs : Tab2} (x : SW P w H0 H1 ropes s1 f d ss xs) (e : Ex H1 H2) : SW P w H0 H2 ropes s1 f d ss xs :=
  ⟨fun a o h => e a o (x.ex a o h), x.f.kp (exk e), e _ _ x.d, x.k.keeps (tk_ex e), x.m, x.l, x.h0, x.r⟩
theorem tk_dict {P : Program} {w : World} {H : Hp} {d : Addr} {xs : Tab2} {o : HO} (h : H d = some (Dict2 P w d xs)) : TK H (upd H d o) := fun b ys hb => by
  rw [upd_ne (ne_of hb h (by unfold Dict2; intro z; cases z))]
  exact hb
theorem SW.add {P : Program} {w : World} {H0 H1 : Hp} {ropes : TM.Rp} {s1 t : TM.S} {f d b : Addr} {ss : List TM.S} {xs : Tab2} {vs : List V} (x : SW P w H0 H1 ropes s1 f d ss xs) (hd : H0 d = none) (hf : H0 f = none) (hv : H1 f = some (.lst vs)) (hp : Paired (StT H1) vs ss)
    (hs : StT H1 (.ref b) t) (h2 : T2 H1 b (ks t)) (hr : Reach ropes s1 t) (nfd : f ≠ d) : SW P w H0 (upd (upd H1 d (Dict2 P w d (xs ++ [(ks t, b)]))) f (.lst (vs ++ [.ref b]))) ropes s1 f d (ss ++ [t]) (xs ++ [(ks t, b)]) := by
  have t1 : TK H1 (upd H1 d (Dict2 P w d (xs ++ [(ks t, b)]))) := tk_dict x.d
  have hv2 : upd H1 d (Dict2 P w d (xs ++ [(ks t, b)])) f = some (.lst vs) := by
    rw [upd_ne nfd]
    exact hv
  have t2 : TK H1 (upd (upd H1 d (Dict2 P w d (xs ++ [(ks t, b)]))) f (.lst (vs ++ [.ref b]))) := t1.trans (tk_lst hv2)
  refine ⟨ex_mut (ex_mut x.ex hd) hf, ⟨_, upd_same, Paired.snoc (Paired.mapP hp fun _ _ h => h.tk t2) (hs.tk t2)⟩, ?_, ?_, fun u => ?_, ?_, List.mem_append_left _ x.h0, fun u hu => ?_⟩
  · rw [upd_ne (Ne.symm nfd)]
    exact upd_same
  · intro y hy
    rcases List.mem_append.mp hy with h | h
    · exact x.k.keeps t2 y h
    · rw [List.mem_singleton.mp h]
      exact h2.keeps t2
  · rw [List.map_append, List.mem_append, x.m, List.mem_append]
    constructor
    · rintro (h | h)
      · exact .inl h
      · exact .inr (List.mem_singleton.mpr (ks_inj (List.mem_singleton.mp h)))
    · rintro (h | h)
      · exact .inl h
      · rw [List.mem_singleton.mp h]
        exact .inr (List.mem_singleton.mpr rfl)
  · rw [List.length_append, List.length_append, x.l]
    rfl
  · rcases List.mem_append.mp hu with h | h
    · exact x.r u h
    · rw [List.mem_singleton.mp h]
      exact hr
theorem ok__law_search (T : Txt K mg) (D : Dfn K mg "_law_search" s__law_search) (c__law_ride : Cal P w K mg base "_law_ride" 1 ["_law_ropes", "_law_state", "_law_ride_here"] (sp__law_ride K)) (c__law_rides : Cal P w K mg base "_law_rides" 2 ["_law_ropes", "_law_state"] (sp__law_rides K)) :
    Cal P w K mg base "_law_search" 3 ["_law_world_here", "_law_state", "_law_most"] (sp__law_search K) := by
  refine D.cal (k := 2) sc__law_search (fun vs H Q E h => ?_) (fun _ _ _ _ _ _ us hl => match us, hl with | [_, _, _], _ => rfl) (fun cdv A outer s H vs Q E hr h => ?_)
  · obtain ⟨_, _, _, _, _, _, rfl, _⟩ := h
    rfl
  · obtain ⟨W, sv, n, ropes, s0, s1, rfl, hW, hS, ok, os, hN, hq⟩ := h
    obtain ⟨rp, sv0, hw, hP, hS0⟩ := id hW
    obtain ⟨vs, hvs, hps⟩ := id hP
    obtain ⟨st, rd, bl, cr, rfl, hst, hrd, hbl, hcr⟩ := id hS
    have h40 := ok.m40
    have hrd' : SqT K H rd ((zs s1.reds).map V.int) := by
      rw [← ns_ints]
      exact SqT.of hrd
    have hbl' : SqT K H bl ((zs s1.blues).map V.int) := by
      rw [← ns_ints]
      exact SqT.of hbl
    refine ⟨_, (pss_cons (ps_if (PW.pt (pw_or (pt_cmpR op_gt (pe_ix ix_list (pv 0) pe_int (fun _ _ => rfl)) pe_int (nomark _)) (pw_or (pt_cmpR op_gt (pe_callB call_len_seq (by rfl) T.b_len (by decide +kernel) (pa_cons (pe_ix ix_list (pv 0) pe_int (fun _ _ => rfl)) pa_nil)) pe_int (nomark _)) (pw_or1 (pt_cmpR op_gt (pe_op op_add (pe_callB (cr_sumT rfl) (by rfl) T.b_sum (by decide +kernel) (pa_cons (pe_ix ix_tup (pv 1) pe_int (fun _ _ => rfl)) pa_nil)) (pe_callB (cr_sumT rfl) (by rfl) T.b_sum (by decide +kernel) (pa_cons (pe_ix ix_tup (pv 1) pe_int (fun _ _ => rfl)) pa_nil))) pe_int (nomark _)))))) (pss_one (ps_ret pe_non)) pss_nil)
      (pss_cons (ps_set (i := 3) sc__law_search.nd rfl (Or.inl rfl) (pe_lst (pa_cons (pv 1) pa_nil)))
      (pss_cons (ps_set (i := 4) sc__law_search.nd rfl (Or.inl rfl) (pe_disp2 (room4 hr) (pv 1) pe_bl))
      (pss_cons (ps_for PassesOwn.never rfl (pi_range1 rfl T.b_range (pa_cons (pv 2) pa_nil)) (pg_name (i := 5) sc__law_search.nd rfl (Or.inl rfl)) (pss_cons (ps_if (pt_cmpR op_eq (pv 5) (pe_callB call_len_seq (by rfl) T.b_len (by decide +kernel) (pa_cons (pv 3) pa_nil)) (nomark _)) (pss_one ps_break) pss_nil)
      (pss_cons (ps_set (i := 6) sc__law_search.nd rfl (Or.inl rfl) (pe_ix ix_list (pv 3) (pv 5) (fun _ _ => rfl)))
      (pss_cons (ps_for PassesOwn.never rfl (pi_list (pe_cal c__law_rides (hr.mono (by decide)) (pa_cons (pe_ix ix_list (pv 0) pe_int (fun _ _ => rfl)) (pa_cons (pv 6) pa_nil)))) (pg_name (i := 7) sc__law_search.nd rfl (Or.inl rfl)) (pss_cons (ps_set (i := 8) sc__law_search.nd rfl (Or.inl rfl) (pe_cal c__law_ride (hr.mono (by decide)) (pa_cons (pe_ix ix_list (pv 0) pe_int (fun _ _ => rfl)) (pa_cons (pv 6) (pa_cons (pv 7) pa_nil)))))
      (pss_one (ps_if (pt_cmp (pc_notin2 (room4 hr) (pv 8) (pv 4)) rfl) (pss_cons (ps_put2 (room4 hr) (pv 4) (pv 8) pe_bl rfl)
      (pss_one (ps_expr (pe_bm PySem.F.plainAttrs_list PySem.F.slot_list_append PySem.F.type_list_append mt_append (pv 3) (pa_cons (pv 8) pa_nil))))) pss_nil))))
      (pss_one (ps_if (pt_cmpR op_gt (pe_callB call_len_seq (by rfl) T.b_len (by decide +kernel) (pa_cons (pv 3) pa_nil)) (pv 2) (nomark _)) (pss_one (ps_ret pe_non)) pss_nil))))))
      (pss_one (ps_ret (pv 3))))))), ?_⟩
    refine ⟨_, rfl, _, _, _, _, rfl, rfl, SqL.of hw, rfl, _, _, rfl, rfl, _, rfl, dI (fun c => hN H (exr H)) (fun c => ?_)⟩
    refine ⟨_, rfl, _, _, _, _, rfl, rfl, SqL.of hw, rfl, _, _, rfl, .inl (SqL.of hvs), _, _, rfl, rfl, _, rfl, dI (fun c => hN H (exr H)) (fun c => ?_)⟩
    refine ⟨_, rfl, _, _, _, _, rfl, rfl, SqT.of hst, rfl, _, _, rfl, hrd', _, rfl, _, _, _, _, rfl, rfl, SqT.of hst, rfl, _, _, rfl, hbl', _, _, rfl, rfl, _, _, rfl, rfl, _, rfl, dI (fun c => hN H (exr H)) (fun c => ?_)⟩
    refine ⟨_, rfl, sz1 (by show 1 ≤ 100000; decide), fun f hf => ?_⟩
    have e1 : Ex H (upd H f (.lst [.ref st])) := exn hf
    have h1 : upd H f (.lst [.ref st]) f = some (.lst [.ref st]) := upd_same
    generalize upd H f (.lst [.ref st]) = H1 at e1 h1 ⊢
    intro d hd
    have e2 : Ex H1 (upd H1 d (Dict2 P w d [])) := exn hd
    have hdH : H d = none := back e1 hd
    have nfd : f ≠ d := ne_of_none h1 hd
    obtain ⟨_, est, ht2⟩ := t2_of (hS.kp (exk (e1.trans e2)))
    cases est
    refine ⟨_, rfl, st, ks s1, rfl, rfl, upd_same, ht2, ?_⟩
    have w3 : SW P w H (upd (upd H1 d (Dict2 P w d [])) d (Dict2 P w d [(ks s1, st)])) ropes s1 f d [s1] [(ks s1, st)] := by
      have tk : TK (upd H1 d (Dict2 P w d [])) (upd (upd H1 d (Dict2 P w d [])) d (Dict2 P w d [(ks s1, st)])) := tk_dict (P := P) (w := w) (xs := []) upd_same
      refine ⟨ex_mut (e1.trans e2) hdH, ⟨[.ref st], ?_, .cons ((hS.kp (exk (e1.trans e2))).tk tk) .nil⟩, upd_same, ?_, fun t => ?_, rfl, List.mem_singleton.mpr rfl, fun t ht => ?_⟩
      · rw [upd_ne nfd, upd_ne nfd]
        exact h1
      · intro y hy
        rw [List.mem_singleton.mp hy]
        exact ht2.keeps tk
      · constructor
        · exact fun h => List.mem_singleton.mpr (ks_inj (List.mem_singleton.mp h))
        · intro h
          rw [List.mem_singleton.mp h]
          exact List.mem_singleton.mpr rfl
      · rw [List.mem_singleton.mp ht]
        exact .refl
    have fin : ∀ (ss : List TM.S) (xs : Tab2) (H' : Hp), SW P w H H' ropes s1 f d ss xs → ss.length ≤ 300 → (∀ j t, ss[j]? = some t → ∀ r, canR ropes t r = true → ride ropes t r ∈ ss) → Q (.ref f) H' := fun ss xs H' x l c =>
      hq f H' ss x.ex hf x.f x.h0 (by omega) x.r fun t ht r hr => by
        obtain ⟨j, hj⟩ := List.getElem?_of_mem ht
        exact c j t hj r hr
    refine ⟨_, rfl, 300, rfl, by decide, by decide, for_range0 (n := 300) (fun i σ H' => ∃ g5 g6 g7 g8 ss xs, σ = [some (.ref W), some (.ref st), some (.int 300), some (.ref f), some (.ref d), g5, g6, g7, g8] ∧ SW P w H H' ropes s1 f d ss xs ∧ i ≤ ss.length ∧ ss.length ≤ 300 ∧ ∀ j t, j < i → ss[j]? = some t → ∀ r, canR ropes t r = true → ride ropes t r ∈ ss)
      ⟨_, _, _, _, _, _, rfl, w3, Nat.zero_le _, (by show 1 ≤ 300; decide), fun j t hj => by omega⟩ ?_ ?_⟩
    · rintro i σ H4 hi ⟨g5, g6, g7, g8, ss, xs, rfl, w4, hil, hl, hcl⟩
      obtain ⟨fv, hfv, hfp⟩ := w4.f
      have hfl := Paired.length hfp
      refine ⟨_, rfl, _, rfl, _, _, rfl, .inl (SqL.of hfv), rfl, _, rfl, dI (fun c => ?_) (fun c => ?_)⟩
      · have c' : i = fv.length := by
          have := nV_eq.mp c
          omega
        exact ⟨_, rfl, fin ss xs H4 w4 hl fun j t hj => hcl j t (by have := lt_of_get hj; omega) hj⟩
      have hil2 : i < ss.length := by
        rcases Nat.lt_or_ge i ss.length with l | l
        · exact l
        · exact (c (nV_eq.mpr (by omega))).elim
      obtain ⟨t, ht⟩ := get_of_lt hil2
      obtain ⟨v, hv, hvt⟩ := Paired.get hfp ht
      have hreach := w4.r t (List.mem_of_getElem? ht)
      have ost := reach_ok ok os hreach
      have hw4 := w4.ex _ _ hw
      refine ⟨_, rfl, _, rfl, _, _, _, _, rfl, rfl, SqL.of hfv, atI_nat hv, ?_⟩
      refine ⟨_, rfl, _, _, _, _, rfl, rfl, SqL.of hw4, rfl, _, rfl, rp, v, n, ropes, t, rfl, hP.kp (exk w4.ex), hvt, ok, ost, fun q H5 e5 hq0 hql => ?_⟩
      obtain ⟨qv, hqv, hqp⟩ := hql
      have w5 := w4.take e5
      have hvt5 := hvt.kp (exk e5)
      have hrl : (rides ropes t).length ≤ 2 * ropes.length := rides_len _
      have hqvl := Paired.length hqp
      refine ⟨q, rfl, ⟨_, SqL.of hqv⟩, for_list (K := K) (a := q) (xs := qv) (fun j σ H' => ∃ g7 g8 ss' xs' more, σ = [some (.ref W), some (.ref st), some (.int 300), some (.ref f), some (.ref d), some (nV i), some v, g7, g8] ∧ SW P w H H' ropes s1 f d ss' xs' ∧ TK H5 H' ∧ H' q = some (.lst qv) ∧ ss' = ss ++ more ∧ ss'.length ≤ 300 + j ∧ ∀ j' r, j' < j → (rides ropes t)[j']? = some r → ride ropes t r ∈ ss')
        ⟨_, _, _, _, [], rfl, w5, fun _ _ h => h, hqv, (List.append_nil _).symm, by omega, fun j' r hj' => by omega⟩ (fun j σ H' _ ⟨_, _, _, _, _, _, _, _, e, _⟩ => SqL.of e) ?_ ?_⟩
      · rintro j rv σ H6 hj ⟨g7, g8, ss', xs', more, rfl, w6, tk6, hq6, hmore, hl6, hin6⟩
        obtain ⟨r, hr, hrt⟩ := Paired.getL hqp hj
        have hcan := (mem_rides ost.lc).mp (List.mem_of_getElem? hr)
        have hjl := lt_of_get hr
        refine ⟨_, rfl, _, _, _, _, rfl, rfl, SqL.of (w6.ex _ _ hw), rfl, _, rfl, _, rfl, rp, v, rv, n, ropes, t, r, rfl, hP.kp (exk w6.ex), hvt5.tk tk6, hrt.tk tk6, ok, ost, hcan, fun v' H7 e7 hS7 => ?_⟩
        have w7 := w6.take e7
        have tk7 := tk6.trans (tk_ex e7)
        have hq7 := e7 _ _ hq6
        obtain ⟨b, rfl, hT7⟩ := t2_of hS7
        have hmem : ks (ride ropes t r) ∈ xs'.map (·.1) ↔ ride ropes t r ∈ ss' := w7.m _
        refine ⟨_, rfl, _, rfl, d, b, xs', ks (ride ropes t r), rfl, w7.d, w7.k, rfl, hT7, _, rfl, nI (fun c => ?_) (fun c => ?_)⟩
        · have c' : ride ropes t r ∉ ss' := fun z => c (hmem.mpr z)
          have hxl := w7.l
          obtain ⟨fv7, hfv7, hfp7⟩ := w7.f
          have hfl7 := Paired.length hfp7
          have nqd : q ≠ d := by
            refine ne_of hq7 w7.d ?_
            unfold Dict2
            intro z
            cases z
          refine ⟨_, rfl, _, rfl, d, b, xs', ks (ride ropes t r), rfl, rfl, w7.d, w7.k, rfl, hT7, c, sz2 (by omega), ?_⟩
          have hfv8 : upd H7 d (Dict2 P w d (xs' ++ [(ks (ride ropes t r), b)])) f = some (.lst fv7) := by
            rw [upd_ne nfd]
            exact hfv7
          have w9 := w7.add hdH hf hfv7 hfp7 hS7 hT7 (.step hreach hcan) nfd
          have tk9 : TK H7 (upd (upd H7 d (Dict2 P w d (xs' ++ [(ks (ride ropes t r), b)]))) f (.lst (fv7 ++ [.ref b]))) := (tk_dict w7.d).trans (tk_lst hfv8)
          have nqf : q ≠ f := fun z => by
            subst z
            have := w5.f
            exact absurd hf (fun _ => by
              have h4f : H4 q = none := hq0
              rw [hfv] at h4f
              cases h4f)
          refine ⟨_, rfl, .inl ⟨rfl, _, SqL.of hfv8⟩, _, rfl, _, _, _, rfl, rfl, hfv8, sz2 (by omega), ?_⟩
          refine ⟨_, _, ss' ++ [ride ropes t r], _, more ++ [ride ropes t r], rfl, w9, tk7.trans tk9, ?_, by rw [hmore, List.append_assoc], by rw [List.length_append]; simp; omega, fun j' r' hj' hr' => ?_⟩
          · rw [upd_ne nqf, upd_ne nqd]
            exact hq7
          · by_cases cj : j' = j
            · subst cj
              have er : r' = r := Option.some.inj (hr'.symm.trans hr)
              subst er
              exact List.mem_append_right _ (List.mem_singleton.mpr rfl)
            · exact List.mem_append_left _ (hin6 j' r' (by omega) hr')
        · refine ⟨_, _, ss', xs', more, rfl, w7, tk7, hq7, hmore, by omega, fun j' r' hj' hr' => ?_⟩
          by_cases cj : j' = j
          · subst cj
            have er : r' = r := Option.some.inj (hr'.symm.trans hr)
            subst er
            exact hmem.mp c
          · exact hin6 j' r' (by omega) hr'
      · rintro σ H6 ⟨g7, g8, ss', xs', more, rfl, w6, tk6, hq6, hmore, hl6, hin6⟩
        obtain ⟨fv6, hfv6, hfp6⟩ := w6.f
        have hfl6 := Paired.length hfp6
        refine ⟨_, rfl, _, _, rfl, .inl (SqL.of hfv6), _, rfl, _, _, rfl, rfl, _, rfl, dI (fun c => hN H6 w6.ex) (fun c => ?_)⟩
        refine ⟨_, _, _, _, ss', xs', rfl, w6, by rw [hmore, List.length_append]; omega, by omega, fun j u hj hu r hr => ?_⟩
        by_cases cj : j = i
        · subst cj
          have eu : u = t := by
            rw [hmore, List.getElem?_append_left hil2, ht] at hu
            exact (Option.some.inj hu).symm
          subst eu
          obtain ⟨j', hj'⟩ := List.getElem?_of_mem ((mem_rides ost.lc).mpr hr)
          exact hin6 j' r (by rw [hqvl]; exact lt_of_get hj') hj'
        · have hu' : ss[j]? = some u := by
            rw [hmore, List.getElem?_append_left (by omega)] at hu
            exact hu
          rw [hmore]
          exact List.mem_append_left _ (hcl j u (by omega) hu' r hr)
    · rintro σ H4 ⟨g5, g6, g7, g8, ss, xs, rfl, w4, hil, hl, hcl⟩
      exact ⟨_, rfl, fin ss xs H4 w4 hl fun j t hj => hcl j t (by have := lt_of_get hj; omega) hj⟩
end
end Tw

namespace Tw
open PySem PySem.Spec PyProof.Rows L2 TM
theorem sc__law_both : FnScope ["_law_state", "_law_at"] ["_law_state"] (defScope s__law_both) := ⟨rfl, rfl, rfl, by decide +kernel, rfl, by decide +kernel, by decide +kernel⟩
section
variable {P : Program} {w : World} {K : PySem.W.Frag} {mg : Str → Option Value} {base : Heap}
theorem both_mem {s : TM.S} {xs : List Nat} (h : ∀ x, x ∈ xs ↔ x < s.reds.length ∧ 0 < s.reds.getD x 0 ∧ 0 < s.blues.getD x 0) : both s = decide ((0 : Int) < (xs.length : Int)) := by
  cases e : both s with
  | true =>
    obtain ⟨u, h1, h2⟩ := both_iff.mp e
    have hm := (h u).mpr ⟨TM.getD_lt h1, h1, h2⟩
    have := List.length_pos_of_mem hm
    exact (decide_eq_true (by omega)).symm
  | false =>
    have : xs = [] := by
      refine List.eq_nil_iff_forall_not_mem.mpr fun x hx => ?_
      obtain ⟨_, h1, h2⟩ := (h x).mp hx
      rw [both_iff.mpr ⟨x, h1, h2⟩] at e
      cases e
    subst this
    rfl
theorem ok__law_both (T : Txt K mg) (D : Dfn K mg "_law_both" s__law_both) :
    Cal P w K mg base "_law_both" 1 ["_law_state"] (sp__law_both K) := by
  refine D.cal (k := 0) sc__law_both (fun vs H Q E h => ?_) (fun _ _ _ _ _ _ us hl => match us, hl with | [_], _ => rfl) (fun cdv A outer s H vs Q E hr h => ?_)
  · obtain ⟨_, _, _, _, rfl, _⟩ := h
    rfl
  · obtain ⟨sv, n, ropes, s0, rfl, hS, ok, os, hq⟩ := h
    obtain ⟨st, rd, bl, cr, rfl, hst, hrd, hbl, hcr⟩ := id hS
    have n24 := ok.n24
    have lr := os.lr
    have lb := os.lb
    refine ⟨_, (pss_one (ps_ret (pe_cmpR op_gt (pe_callB call_len_seq (by rfl) T.b_len (by decide +kernel) (pa_cons (pe_lc (own := [("_law_at", 1)]) (g := (gName 1)) (tt := (tAnd (tTest (tOp rGt (tOp (rIxT K) (tOp (rIxT K) (tVar 0) (tC (.int 0))) (tVar 1)) (tC (.int 0)))) (tTest (tOp rGt (tOp (rIxT K) (tOp (rIxT K) (tVar 0) (tC (.int 1))) (tVar 1)) (tC (.int 0)))))) (te := (tVar 1)) rfl sc__law_both.nd (pi_range1 rfl T.b_range (pa_cons (pe_callB call_len_seq (by rfl) T.b_len (by decide +kernel) (pa_cons (pe_ix ix_tup (pv 0) pe_int (fun _ _ => rfl)) pa_nil)) pa_nil)) (blkOk_by (N := ["_law_state", "_law_at"]) (sc := defScope s__law_both) (by decide +kernel)) (fun _ _ _ _ _ => (pg_name (i := 1) sc__law_both.nd rfl (Or.inl rfl))) (fun _ _ _ _ _ => pts_one (PW.pt (pw_and (pt_cmpR op_gt (pe_ix ix_tup (pe_ix ix_tup (pv 0) pe_int (fun _ _ => rfl)) (pv 1) (fun _ _ => rfl)) pe_int (nomark _)) (pw_and1 (pt_cmpR op_gt (pe_ix ix_tup (pe_ix ix_tup (pv 0) pe_int (fun _ _ => rfl)) (pv 1) (fun _ _ => rfl)) pe_int (nomark _)))))) (fun _ _ _ _ _ => (pv 1))) pa_nil)) pe_int (nomark _)))), ?_⟩
    refine ⟨_, rfl, _, _, _, _, rfl, rfl, SqT.of hst, rfl, _, _, rfl, .inr (SqT.of hrd), (Ns s0.reds).length, rfl, by omega, by rw [ns_len]; omega, fun D hD => ?_⟩
    refine lc_range0 (n := (Ns s0.reds).length) (fun i H' => ∃ xs, Ex H H' ∧ H' D = some (.lst (Ns xs)) ∧ xs.length ≤ i ∧ ∀ x, x ∈ xs ↔ x < i ∧ 0 < s0.reds.getD x 0 ∧ 0 < s0.blues.getD x 0) ⟨[], exn hD, upd_same, Nat.le_refl _, fun x => by simp⟩ (fun i H1 hi ⟨xs, e1, hD1, hl, hm⟩ => ?_) (fun H1 ⟨xs, e1, hD1, hl, hm⟩ => ?_)
    · rw [ns_len] at hi
      have hu := get_of_getD (l := s0.reds) (i := i) hi
      have hv := get_of_getD (l := s0.blues) (i := i) (by omega)
      have keep : ¬ (0 < s0.reds.getD i 0 ∧ 0 < s0.blues.getD i 0) → ∃ xs, Ex H H1 ∧ H1 D = some (.lst (Ns xs)) ∧ xs.length ≤ i + 1 ∧ ∀ x, x ∈ xs ↔ x < i + 1 ∧ 0 < s0.reds.getD x 0 ∧ 0 < s0.blues.getD x 0 := fun no =>
        ⟨xs, e1, hD1, by omega, fun x => ⟨fun h => ⟨by have := ((hm x).mp h).1; omega, ((hm x).mp h).2⟩, fun ⟨h1, h2⟩ => by
          by_cases c : x = i
          · subst c
            exact (no h2).elim
          · exact (hm x).mpr ⟨by omega, h2⟩⟩⟩
      refine ⟨rfl, _, rfl, _, _, _, _, rfl, rfl, SqT.of (e1 _ _ hst), rfl, _, rfl, _, _, _, _, rfl, rfl, SqT.of (e1 _ _ hrd), atI_nat (ns_get hu), _, _, rfl, rfl, _, rfl, dI (fun c1 => ?_) (fun c1 => ?_)⟩
      · refine ⟨_, rfl, _, _, _, _, rfl, rfl, SqT.of (e1 _ _ hst), rfl, _, rfl, _, _, _, _, rfl, rfl, SqT.of (e1 _ _ hbl), atI_nat (ns_get hv), _, _, rfl, rfl, _, rfl, dI (fun c2 => ?_) (fun c2 => ?_)⟩
        · refine ⟨_, rfl, _, hD1, sz2 (by rw [ns_len]; omega), xs ++ [i], ex_mut e1 hD, ?_, by rw [List.length_append]; simp; omega, fun x => ?_⟩
          · rw [upd_same]
            exact congrArg some (congrArg HO.lst (ns_snoc xs i))
          · rw [List.mem_append, List.mem_singleton, hm]
            constructor
            · rintro (⟨h1, h2⟩ | rfl)
              · exact ⟨by omega, h2⟩
              · exact ⟨by omega, by omega, by omega⟩
            · rintro ⟨h1, h2⟩
              by_cases c : x = i
              · exact .inr c
              · exact .inl ⟨by omega, h2⟩
        · exact keep (fun z => c2 (by omega))
      · exact keep (fun z => c1 (by omega))
    · rw [ns_len] at hm
      refine ⟨_, _, rfl, .inl (SqL.of hD1), _, _, rfl, rfl, ?_⟩
      show Q (.bl (decide ((0 : Int) < ((Ns xs).length : Int)))) H1
      rw [ns_len, ← both_mem hm]
      exact hq H1 e1
end
end Tw

namespace Tw
open PySem PySem.Spec PyProof.Rows L2 TM
theorem sc__law_are_rides : FnScope ["_law_told", "_law_ropes", "_law_ride_here"] ["_law_told", "_law_ropes"] (defScope s__law_are_rides) := ⟨rfl, rfl, rfl, by decide +kernel, rfl, by decide +kernel, by decide +kernel⟩
section
variable {P : Program} {w : World} {K : PySem.W.Frag} {mg : Str → Option Value} {base : Heap}

theorem ok__law_are_rides (T : Txt K mg) (D : Dfn K mg "_law_are_rides" s__law_are_rides) (c__law_integer : Cal P w K mg base "_law_integer" 1 ["_law_value"] (sp__law_integer K)) :
    Cal P w K mg base "_law_are_rides" 2 ["_law_told", "_law_ropes"] (sp__law_are_rides K) := by
  refine D.cal (k := 1) sc__law_are_rides (fun vs H Q E h => ?_) (fun _ _ _ _ _ _ us hl => match us, hl with | [_, _], _ => rfl) (fun cdv A outer s H vs Q E hr h => ?_)
  · obtain ⟨_, _, _, _, rfl, _⟩ := h
    rfl
  · obtain ⟨p, rp, ropes, rs, rfl, hR, hP, h40, hr2, hq⟩ := h
    obtain ⟨rv, hrv, hrp⟩ := id hR
    obtain ⟨vs, hvs, hps⟩ := id hP
    have hvl : vs.length = ropes.length := Paired.length hps
    refine ⟨_, (pss_cons (ps_if (pt_not (pt_val (pe_callB call_isi (by rfl) T.b_isinstance (by decide +kernel) (pa_cons (pv 0) (pa_cons (pe_bltn (v := .ty "list") rfl T.b_list (by decide +kernel) rfl) pa_nil))))) (pss_one (ps_ret pe_bl)) pss_nil)
      (pss_cons (ps_for PassesOwn.never rfl (pi_list (pv 0)) (pg_name (i := 2) sc__law_are_rides.nd rfl (Or.inl rfl)) (pss_cons (ps_if (PW.pt (pw_or (pt_not (pt_val (pe_callB call_isi (by rfl) T.b_isinstance (by decide +kernel) (pa_cons (pv 2) (pa_cons (pe_bltn (v := .ty "tuple") rfl T.b_tuple (by decide +kernel) rfl) pa_nil))))) (pw_or (pt_cmpR op_ne (pe_callB call_len_seq (by rfl) T.b_len (by decide +kernel) (pa_cons (pv 2) pa_nil)) pe_int (nomark _)) (pw_or1 (pt_not (pt_val (pe_cal c__law_integer (hr.mono (by decide)) (pa_cons (pe_ix ix_tup (pv 2) pe_int (fun _ _ => rfl)) pa_nil)))))))) (pss_one (ps_ret pe_bl)) pss_nil)
      (pss_cons (ps_if (PW.pt (pw_or (pt_not (pt_val (pe_callB call_isi (by rfl) T.b_isinstance (by decide +kernel) (pa_cons (pe_ix ix_tup (pv 2) pe_int (fun _ _ => rfl)) (pa_cons (pe_bltn (v := .ty "str") rfl T.b_str (by decide +kernel) rfl) pa_nil))))) (pw_or1 (pt_cmpR op_notIn_seq (pe_ix ix_tup (pv 2) pe_int (fun _ _ => rfl)) (pe_lst (pa_cons pe_str (pa_cons pe_str pa_nil))) (by rfl))))) (pss_one (ps_ret pe_bl)) pss_nil)
      (pss_one (ps_if (PW.pt (pw_or (pt_cmpR op_lt (pe_ix ix_tup (pv 2) pe_int (fun _ _ => rfl)) pe_int (nomark _)) (pw_or1 (pt_cmpR op_ge (pe_ix ix_tup (pv 2) pe_int (fun _ _ => rfl)) (pe_callB call_len_seq (by rfl) T.b_len (by decide +kernel) (pa_cons (pv 1) pa_nil)) (nomark _))))) (pss_one (ps_ret pe_bl)) pss_nil)))))
      (pss_one (ps_ret pe_bl)))), ?_⟩
    refine ⟨_, rfl, _, _, _, _, true, rfl, .ty _, .base (.lst hrv), kit_ty (by decide +kernel), _, rfl, ifF (by decide) ?_⟩
    refine ⟨_, rfl, _, rfl, ⟨_, SqL.of hrv⟩, for_list (K := K) (a := p) (xs := rv) (fun i σ H' => ∃ z, σ = [some (.ref p), some (.ref rp), z] ∧ Ex H H') ⟨_, rfl, exr H⟩ (fun i σ H' _ ⟨_, _, e⟩ => SqL.of (e _ _ hrv)) ?_ ?_⟩
    · rintro i v σ H1 hi ⟨z, rfl, e1⟩
      obtain ⟨r, hr, t, rfl, ht⟩ := Paired.getL hrp hi
      have ht1 := e1 _ _ ht
      have hl := hr2 r (List.mem_of_getElem? hr)
      refine ⟨_, rfl, _, _, _, _, true, rfl, .ty _, .base (.tup ht1), kit_ty (by decide +kernel), _, rfl, ifF (by decide) ?_⟩
      refine ⟨_, rfl, _, _, rfl, .inr (SqT.of ht1), rfl, _, rfl, nF rfl ?_⟩
      refine ⟨_, rfl, _, _, _, _, rfl, rfl, SqT.of ht1, rfl, _, rfl, _, rfl, ifF (by decide) ?_⟩
      refine ⟨_, rfl, _, _, _, _, rfl, rfl, SqT.of ht1, rfl, _, _, _, _, true, rfl, .ty _, .base (.str _), kit_ty (by decide +kernel), _, rfl, ifF (by decide) ?_⟩
      refine ⟨_, rfl, _, _, _, _, rfl, rfl, SqT.of ht1, rfl, sz1 (by show 2 ≤ 100000; decide), fun q hq1 => ?_⟩
      have e2 : Ex H1 (upd H1 q (.lst [.str "red", .str "blue"])) := exn hq1
      have hin : inV (V.str (colS r.2)) [V.str "red", V.str "blue"] = true := by
        cases r.2 <;> decide +kernel
      refine ⟨q, _, rfl, .inl (SqL.of upd_same), rfl, rfl, _, rfl, ifF (by rw [hin]; decide) ?_⟩
      have e12 := e1.trans e2
      refine ⟨_, rfl, _, _, _, _, rfl, rfl, SqT.of (e12 _ _ ht), rfl, _, _, rfl, rfl, _, rfl, dF (by omega) ?_⟩
      exact ⟨_, rfl, _, _, _, _, rfl, rfl, SqT.of (e12 _ _ ht), rfl, _, rfl, _, _, rfl, .inl (SqL.of (e12 _ _ hvs)), _, _, rfl, rfl, _, rfl, dF (by omega) ⟨_, rfl, e12⟩⟩
    · rintro σ H1 ⟨z, rfl, e1⟩
      exact hq _ e1
end
end Tw

namespace Tw
open PySem PySem.Spec PyProof.Rows L2 TM
theorem sc__law_end : FnScope ["_law_ropes", "_law_state", "_law_rides_here", "_law_ride_here"] ["_law_ropes", "_law_state", "_law_rides_here"] (defScope s__law_end) := ⟨rfl, rfl, rfl, by decide +kernel, rfl, by decide +kernel, by decide +kernel⟩
section
variable {P : Program} {w : World} {K : PySem.W.Frag} {mg : Str → Option Value} {base : Heap}

theorem ok__law_end (T : Txt K mg) (D : Dfn K mg "_law_end" s__law_end) (c__law_ride : Cal P w K mg base "_law_ride" 1 ["_law_ropes", "_law_state", "_law_ride_here"] (sp__law_ride K)) (c__law_rides : Cal P w K mg base "_law_rides" 2 ["_law_ropes", "_law_state"] (sp__law_rides K)) :
    Cal P w K mg base "_law_end" 3 ["_law_ropes", "_law_state", "_law_rides_here"] (sp__law_end K) := by
  refine D.cal (k := 2) sc__law_end (fun vs H Q E h => ?_) (fun _ _ _ _ _ _ us hl => match us, hl with | [_, _, _], _ => rfl) (fun cdv A outer s H vs Q E hr h => ?_)
  · obtain ⟨_, _, _, _, _, _, _, _, rfl, _⟩ := h
    rfl
  · obtain ⟨rp, sv, p, n, ropes, s0, rs, t, rfl, hP, hS, hR, ok, os, hend, hq⟩ := h
    obtain ⟨rv, hrv, hrp⟩ := id hR
    refine ⟨_, (pss_cons (ps_for PassesOwn.never rfl (pi_list (pv 2)) (pg_name (i := 3) sc__law_end.nd rfl (Or.inl rfl)) (pss_cons (ps_if (pt_cmpR (op_notInD (room65 hr)) (pv 3) (pe_cal c__law_rides (hr.mono (by decide)) (pa_cons (pv 0) (pa_cons (pv 1) pa_nil))) (by rfl)) (pss_one (ps_ret pe_non)) pss_nil)
      (pss_one (ps_set (i := 1) sc__law_end.nd rfl (Or.inl rfl) (pe_cal c__law_ride (hr.mono (by decide)) (pa_cons (pv 0) (pa_cons (pv 1) (pa_cons (pv 3) pa_nil))))))))
      (pss_one (ps_ret (pv 1)))), ?_⟩
    refine ⟨_, rfl, _, rfl, ⟨_, SqL.of hrv⟩, for_list (K := K) (a := p) (xs := rv) (fun i σ H' => ∃ sv' s' z, σ = [some (.ref rp), some sv', some (.ref p), z] ∧ Ex H H' ∧ StT H' sv' s' ∧ OkS n ropes s' ∧ endS ropes s' (rs.drop i) = some t) ⟨_, _, _, rfl, exr H, hS, os, hend⟩ (fun i σ H' _ ⟨_, _, _, _, e, _⟩ => SqL.of (e _ _ hrv)) ?_ ?_⟩
    · rintro i v σ H1 hi ⟨sv', s', z, rfl, e1, hS1, os1, hend1⟩
      obtain ⟨r, hr, hrt⟩ := Paired.getL hrp hi
      have hdrop : rs.drop i = r :: rs.drop (i + 1) := by
        have hl := lt_of_get hr
        rw [List.drop_eq_getElem_cons hl]
        congr 1
        exact (List.getElem?_eq_some_iff.mp hr).2
      rw [hdrop] at hend1
      have hcan : canR ropes s' r = true := by
        cases c : canR ropes s' r with
        | true => rfl
        | false =>
          have : (if canR ropes s' r = true then endS ropes (ride ropes s' r) (rs.drop (i + 1)) else none) = some t := hend1
          rw [c, if_neg (by decide)] at this
          cases this
      have hend2 : endS ropes (ride ropes s' r) (rs.drop (i + 1)) = some t := by
        have : (if canR ropes s' r = true then endS ropes (ride ropes s' r) (rs.drop (i + 1)) else none) = some t := hend1
        rw [if_pos hcan] at this
        exact this
      refine ⟨_, rfl, _, rfl, _, rfl, rp, sv', n, ropes, s', rfl, hP.kp (exk e1), hS1, ok, os1, fun q H2 e2 hq2 hql => ?_⟩
      have e12 : Ex H H2 := e1.trans e2
      have hr2 : RideT H2 v r := hrt.kp (exk e12)
      refine ⟨_, _, dp_ride hr2, dp_rides hql, shaped_rd _, shaped_rds _, _, rfl, ifF ?_ ?_⟩
      · rw [any_rd, decide_eq_true ((mem_rides os1.lc).mpr hcan)]
        decide
      refine ⟨_, rfl, _, rfl, _, rfl, rp, sv', v, n, ropes, s', r, rfl, hP.kp (exk e12), hS1.kp (exk e2), hr2, ok, os1, hcan, fun v' H3 e3 hS3 => ?_⟩
      exact ⟨_, _, _, rfl, e12.trans e3, hS3, ride_ok ok os1 hcan, hend2⟩
    · rintro σ H1 ⟨sv', s', z, rfl, e1, hS1, os1, hend1⟩
      have : rs.drop rv.length = [] := List.drop_eq_nil_of_le (by rw [Paired.length hrp]; exact Nat.le_refl _)
      rw [this] at hend1
      have es : s' = t := Option.some.inj hend1
      subst es
      exact ⟨_, rfl, hq _ _ e1 hS1⟩
end
end Tw

namespace Tw
open PySem PySem.Spec PyProof.Rows L2 TM
theorem sc__law_meeting : FnScope ["_law_world_here", "_law_state", "_law_stations", "_law_arrows_here", "_law_far", "_law_steps_to", "_law_turn", "_law_pair", "_law_least", "_law_here", "_law_start", "_law_ropes", "_law_k", "_law_rope", "_law_open_ropes", "_law_count", "_law_at"] ["_law_world_here", "_law_state"] (defScope s__law_meeting) := ⟨rfl, rfl, rfl, by decide +kernel, rfl, by decide +kernel, by decide +kernel⟩
section
variable {P : Program} {w : World} {K : PySem.W.Frag} {mg : Str → Option Value} {base : Heap}
theorem frs_head {n : Nat} {A : TM.Rp} {bl pl : List Nat} {m : Nat} (hm : m ≤ n) : (((List.range A.length).filter fun r => pl.contains (A.getD r (0, 0)).1).filter fun r => fr n A bl (A.getD r (0, 0)).2 == m) = (List.range A.length).filter fun r => fit A bl pl m (A.getD r (0, 0)) := by
  rw [List.filter_filter]
  refine List.filter_congr fun r _ => ?_
  unfold fit
  rw [Bool.and_comm]
  congr 1
  by_cases c : dst A bl (A.getD r (0, 0)).2 = some m
  · rw [fr_some c, c]
    simp
  · have h1 : ¬ fr n A bl (A.getD r (0, 0)).2 = m := fun z => c ((fr_eq hm).mp z)
    rw [beq_eq_false_iff_ne.mpr h1]
    exact (beq_eq_false_iff_ne.mpr c).symm
theorem zs_cons (a : Int) (l : List Nat) : [V.int a] ++ Ns l = (a :: l.map fun (n : Nat) => (n : Int)).map V.int := by
  rw [ns_ints]
  rfl
theorem ok__law_meeting (T : Txt K mg) (D : Dfn K mg "_law_meeting" s__law_meeting) (c__law_arrows : Cal P w K mg base "_law_arrows" 1 ["_law_ropes", "_law_cars_here"] (sp__law_arrows K)) :
    Cal P w K mg base "_law_meeting" 2 ["_law_world_here", "_law_state"] (sp__law_meeting K) := by
  refine D.cal (k := 1) sc__law_meeting (fun vs H Q E h => ?_) (fun _ _ _ _ _ _ us hl => match us, hl with | [_, _], _ => rfl) (fun cdv A outer s H vs Q E hr h => ?_)
  · obtain ⟨_, _, _, _, _, _, rfl, _⟩ := h
    rfl
  · obtain ⟨W, sv, n, ropes, s0, s1, rfl, hW, hS, ok, os, hq⟩ := h
    obtain ⟨rp, sv0, hw, hP, hS0⟩ := id hW
    obtain ⟨st, rd, bl, cr, rfl, hst, hrd, hbl, hcr⟩ := id hS
    have n24 := ok.n24
    have n1 := ok.n1
    have h40 := ok.m40
    have lr := os.lr
    have lb := os.lb
    have hends := fun p hp => arr_mem (cars := s1.cars) ok.ends p hp
    have hend : ∀ p ∈ as ropes s1, p.1 < n ∧ p.2 < n := fun p hp => ⟨(hends p hp).1, (hends p hp).2.1⟩
    have hal : (as ropes s1).length = ropes.length := arr_length os.lc
    refine ⟨_, (pss_cons (ps_set (i := 2) sc__law_meeting.nd rfl (Or.inl rfl) (pe_ix ix_list (pv 0) pe_int (fun _ _ => rfl)))
      (pss_cons (ps_set (i := 3) sc__law_meeting.nd rfl (Or.inr rfl) (pe_cal c__law_arrows (hr.mono (by decide)) (pa_cons (pe_ix ix_list (pv 0) pe_int (fun _ _ => rfl)) (pa_cons (pe_ix ix_tup (pv 1) pe_int (fun _ _ => rfl)) pa_nil))))
      (pss_cons (ps_set (i := 4) sc__law_meeting.nd rfl (Or.inr rfl) (pe_op op_add (pv 2) pe_int))
      (pss_cons (ps_set (i := 5) sc__law_meeting.nd rfl (Or.inr rfl) (pe_lc (own := [("_law_count", 15)]) (g := (gName 15)) (tt := tYes) (te := (tOp rMul (tVar 4) (tCB rInt (tCons (tOp rEq (tVar 15) (tC (.int 0))) tNil)))) rfl sc__law_meeting.nd (pi_tup (pe_ix ix_tup (pv 1) pe_int (fun _ _ => rfl))) (blkOk_by (N := ["_law_world_here", "_law_state", "_law_stations", "_law_arrows_here", "_law_far", "_law_steps_to", "_law_turn", "_law_pair", "_law_least", "_law_here", "_law_start", "_law_ropes", "_law_k", "_law_rope", "_law_open_ropes", "_law_count", "_law_at"]) (sc := defScope s__law_meeting) (by decide +kernel)) (fun _ _ _ _ _ => (pg_name (i := 15) sc__law_meeting.nd rfl (Or.inl rfl))) (fun _ _ _ _ _ => pts_nil) (fun _ _ _ _ _ => (pe_op op_mul (pv 4) (pe_callTy call_int1 (by rfl) T.b_int (by decide +kernel) (pa_cons (pe_cmpR op_eq (pv 15) pe_int (nomark _)) pa_nil))))))
      (pss_cons (ps_for PassesOwn.never rfl (pi_range1 rfl T.b_range (pa_cons (pv 2) pa_nil)) (pg_name (i := 6) sc__law_meeting.nd rfl (Or.inl rfl)) (pss_one (ps_for PassesOwn.never rfl (pi_list (pv 3)) (pg_name (i := 7) sc__law_meeting.nd rfl (Or.inl rfl)) (pss_one (ps_asg (pe_callB (call_min2 rfl) (by rfl) T.b_min (by decide +kernel) (pa_cons (pe_ix ix_list (pv 5) (pe_ix ix_tup (pv 7) pe_int (fun _ _ => rfl)) (fun _ _ => rfl)) (pa_cons (pe_op op_add (pe_ix ix_list (pv 5) (pe_ix ix_tup (pv 7) pe_int (fun _ _ => rfl)) (fun _ _ => rfl)) pe_int) pa_nil))) (pg_sub (pv 5) (pe_ix ix_tup (pv 7) pe_int (fun _ _ => rfl)) set_list))))))
      (pss_cons (ps_set (i := 8) sc__law_meeting.nd rfl (Or.inr rfl) (pe_callB (cr_min rfl) (by rfl) T.b_min (by decide +kernel) (pa_cons (pe_op op_cat (pe_lst (pa_cons (pv 4) pa_nil)) (pe_lc (own := [("_law_at", 16)]) (g := (gName 16)) (tt := (tTest (tOp rGt (tOp (rIxT K) (tOp (rIxT K) (tVar 1) (tC (.int 0))) (tVar 16)) (tC (.int 0))))) (te := (tOp (rIxL K) (tVar 5) (tVar 16))) rfl sc__law_meeting.nd (pi_range1 rfl T.b_range (pa_cons (pv 2) pa_nil)) (blkOk_by (N := ["_law_world_here", "_law_state", "_law_stations", "_law_arrows_here", "_law_far", "_law_steps_to", "_law_turn", "_law_pair", "_law_least", "_law_here", "_law_start", "_law_ropes", "_law_k", "_law_rope", "_law_open_ropes", "_law_count", "_law_at"]) (sc := defScope s__law_meeting) (by decide +kernel)) (fun _ _ _ _ _ => (pg_name (i := 16) sc__law_meeting.nd rfl (Or.inl rfl))) (fun _ _ _ _ _ => pts_one (pt_cmpR op_gt (pe_ix ix_tup (pe_ix ix_tup (pv 1) pe_int (fun _ _ => rfl)) (pv 16) (fun _ _ => rfl)) pe_int (nomark _))) (fun _ _ _ _ _ => (pe_ix ix_list (pv 5) (pv 16) (fun _ _ => rfl))))) pa_nil)))
      (pss_cons (ps_if (pt_cmpR op_eq (pv 8) (pv 4) (nomark _)) (pss_one (ps_ret pe_non)) pss_nil)
      (pss_cons (ps_set (i := 9) sc__law_meeting.nd rfl (Or.inr rfl) (pe_lc (own := [("_law_at", 16)]) (g := (gName 16)) (tt := (tAnd (tTest (tOp rGt (tOp (rIxT K) (tOp (rIxT K) (tVar 1) (tC (.int 0))) (tVar 16)) (tC (.int 0)))) (tTest (tOp rEq (tOp (rIxL K) (tVar 5) (tVar 16)) (tVar 8))))) (te := (tVar 16)) rfl sc__law_meeting.nd (pi_range1 rfl T.b_range (pa_cons (pv 2) pa_nil)) (blkOk_by (N := ["_law_world_here", "_law_state", "_law_stations", "_law_arrows_here", "_law_far", "_law_steps_to", "_law_turn", "_law_pair", "_law_least", "_law_here", "_law_start", "_law_ropes", "_law_k", "_law_rope", "_law_open_ropes", "_law_count", "_law_at"]) (sc := defScope s__law_meeting) (by decide +kernel)) (fun _ _ _ _ _ => (pg_name (i := 16) sc__law_meeting.nd rfl (Or.inl rfl))) (fun _ _ _ _ _ => pts_one (PW.pt (pw_and (pt_cmpR op_gt (pe_ix ix_tup (pe_ix ix_tup (pv 1) pe_int (fun _ _ => rfl)) (pv 16) (fun _ _ => rfl)) pe_int (nomark _)) (pw_and1 (pt_cmpR op_eq (pe_ix ix_list (pv 5) (pv 16) (fun _ _ => rfl)) (pv 8) (nomark _)))))) (fun _ _ _ _ _ => (pv 16))))
      (pss_cons (ps_set (i := 10) sc__law_meeting.nd rfl (Or.inl rfl) (pe_ix ix_list (pv 9) pe_int (fun _ _ => rfl)))
      (pss_cons (ps_set (i := 11) sc__law_meeting.nd rfl (Or.inl rfl) (pe_lst pa_nil))
      (pss_cons (ps_for PassesOwn.never rfl (pi_range1 rfl T.b_range (pa_cons (pv 8) pa_nil)) (pg_name (i := 12) sc__law_meeting.nd rfl (Or.inr rfl)) (pss_cons (ps_setLc (i := 14) (own := [("_law_rope", 13)]) (g := (gName 13)) (tt := (tTest (tOp (rIn K false) (tOp (rIxT K) (tOp (rIxL K) (tVar 3) (tVar 13)) (tC (.int 0))) (tVar 9)))) (te := (tVar 13)) rfl sc__law_meeting.nd rfl rfl (sw_true rfl rfl rfl (by decide +kernel)) (pi_range1 rfl T.b_range (pa_cons (pe_callB call_len_seq (by rfl) T.b_len (by decide +kernel) (pa_cons (pv 3) pa_nil)) pa_nil)) (blkOk_by (N := ["_law_world_here", "_law_state", "_law_stations", "_law_arrows_here", "_law_far", "_law_steps_to", "_law_turn", "_law_pair", "_law_least", "_law_here", "_law_start", "_law_ropes", "_law_k", "_law_rope", "_law_open_ropes", "_law_count", "_law_at"]) (sc := defScope s__law_meeting) (by decide +kernel)) (fun _ _ _ _ _ => (pg_name (i := 13) sc__law_meeting.nd rfl (Or.inl rfl))) (fun _ _ _ _ _ => pts_one (pt_cmpR op_in_seq (pe_ix ix_tup (pe_ix ix_list (pv 3) (pv 13) (fun _ _ => rfl)) pe_int (fun _ _ => rfl)) (pv 9) (by rfl))) (fun _ _ _ _ _ => (pv 13)))
      (pss_cons (ps_set (i := 13) sc__law_meeting.nd rfl (Or.inl rfl) (pe_ix ix_list (pe_lc (own := [("_law_at", 16)]) (g := (gName 16)) (tt := (tTest (tOp rEq (tOp (rIxL K) (tVar 5) (tOp (rIxT K) (tOp (rIxL K) (tVar 3) (tVar 16)) (tC (.int 1)))) (tOp rSub (tOp rSub (tVar 8) (tVar 12)) (tC (.int 1)))))) (te := (tVar 16)) rfl sc__law_meeting.nd (pi_list (pv 14)) (blkOk_by (N := ["_law_world_here", "_law_state", "_law_stations", "_law_arrows_here", "_law_far", "_law_steps_to", "_law_turn", "_law_pair", "_law_least", "_law_here", "_law_start", "_law_ropes", "_law_k", "_law_rope", "_law_open_ropes", "_law_count", "_law_at"]) (sc := defScope s__law_meeting) (by decide +kernel)) (fun _ _ _ _ _ => (pg_name (i := 16) sc__law_meeting.nd rfl (Or.inl rfl))) (fun _ _ _ _ _ => pts_one (pt_cmpR op_eq (pe_ix ix_list (pv 5) (pe_ix ix_tup (pe_ix ix_list (pv 3) (pv 16) (fun _ _ => rfl)) pe_int (fun _ _ => rfl)) (fun _ _ => rfl)) (pe_op op_sub (pe_op op_sub (pv 8) (pv 12)) pe_int) (nomark _))) (fun _ _ _ _ _ => (pv 16))) pe_int (fun _ _ => rfl)))
      (Evl.pss_cut (ps_if (pt_cmpR op_eq (pv 12) pe_int (nomark _)) (pss_one (ps_set (i := 10) sc__law_meeting.nd rfl (Or.inl rfl) (pe_ix ix_tup (pe_ix ix_list (pv 3) (pv 13) (fun _ _ => rfl)) pe_int (fun _ _ => rfl)))) pss_nil)
      (pss_cons (ps_expr (pe_bm PySem.F.plainAttrs_list PySem.F.slot_list_append PySem.F.type_list_append mt_append (pv 11) (pa_cons (pv 13) pa_nil)))
      (pss_one (ps_set (i := 9) sc__law_meeting.nd rfl (Or.inr rfl) (pe_lst (pa_cons (pe_ix ix_tup (pe_ix ix_list (pv 3) (pv 13) (fun _ _ => rfl)) pe_int (fun _ _ => rfl)) pa_nil)))))))))
      (pss_one (ps_ret (pe_tup (pa_cons (pv 10) (pa_cons (pv 11) pa_nil)))))))))))))))), ?_⟩
    refine ⟨_, rfl, _, _, _, _, rfl, rfl, SqL.of hw, rfl, ?_⟩
    refine ⟨_, rfl, _, _, _, _, rfl, rfl, SqL.of hw, rfl, _, rfl, _, _, _, _, rfl, rfl, SqT.of hst, rfl, rp, cr, ropes, s1, rfl, hP, hcr, os.lc, os.c01, h40, fun ap H1 e1 hap0 hap => ?_⟩
    obtain ⟨avs, havs, haps⟩ := id hap
    have havl := Paired.length haps
    refine ⟨_, rfl, _, _, rfl, rfl, ?_⟩
    have hst1 := e1 _ _ hst
    have hbl1 := e1 _ _ hbl
    have hrd1 := e1 _ _ hrd
    refine ⟨_, rfl, _, _, _, _, rfl, rfl, SqT.of hst1, rfl, bl, rfl, ⟨_, SqT.of hbl1⟩, fun D hD => ?_⟩
    refine lc_tup (K := K) (a := bl) (xs := Ns s1.blues) (fun i H' => ∃ ls : List Nat, Ex H1 H' ∧ H' D = some (.lst (Ns ls)) ∧ ls.length = i ∧ ∀ u, u < i → ls.getD u 0 = if s1.blues.getD u 0 = 0 then n + 1 else 0) ⟨[], exn hD, upd_same, rfl, fun u hu => by omega⟩ (fun i H' _ ⟨_, e, _⟩ => SqT.of (e _ _ hbl1)) ?_ ?_
    · rintro i v H2 hi ⟨ls, e2, hD2, hl, hls⟩
      obtain ⟨x, hx, rfl⟩ := ns_getL hi
      have hil := lt_of_get hx
      have hxd := getD_of hx
      refine ⟨rfl, _, rfl, _, rfl, rfl, .inr ⟨_, rfl, _, _, rfl, rfl, .inl ⟨by omega, by omega⟩, _, hD2, sz2 (by rw [ns_len]; omega), ls ++ [if x = 0 then n + 1 else 0], ex_mut e2 hD, ?_, by rw [List.length_append, hl]; rfl, fun u hu => ?_⟩⟩
      · have ev : ((n : Int) + 1) * (if decide (nV x = V.int 0) = true then 1 else 0) = ((if x = 0 then n + 1 else 0 : Nat) : Int) := by
          by_cases c : x = 0
          · subst c
            rw [if_pos (show decide (nV 0 = V.int 0) = true from decide_eq_true rfl), if_pos rfl]
            omega
          · rw [if_neg (by rw [decide_eq_true_iff]; exact fun z => c (by have := nV_eq.mp z; omega)), if_neg c]
            omega
        show upd H2 D (HO.lst (Ns ls ++ [V.int (((n : Int) + 1) * (if decide (nV x = V.int 0) = true then 1 else 0))])) D = _
        rw [vI ev, upd_same]
        exact congrArg some (congrArg HO.lst (ns_snoc ls _))
      · by_cases c : u = i
        · subst c
          rw [hxd, List.getD_eq_getElem?_getD, List.getElem?_append_right (by omega), hl, Nat.sub_self]
          rfl
        · rw [List.getD_eq_getElem?_getD, List.getElem?_append_left (by omega), ← List.getD_eq_getElem?_getD]
          exact hls u (by omega)
    rintro H2 ⟨ls, e2, hD2, hl, hls⟩
    rw [ns_len, lb] at hl hls
    refine ⟨_, rfl, n, rfl, by omega, by omega, for_range0 (n := n) (fun t σ H' => ∃ (ls : List Nat) (g6 g7 : Option V), σ = [some (.ref W), some (.ref st), some (nV n), some (.ref ap), some (V.int ((n : Int) + 1)), some (.ref D), g6, g7, none, none, none, none, none, none, none, none, none] ∧ Ex H1 H' ∧ H' D = some (.lst (Ns ls)) ∧ BF n (as ropes s1) s1.blues t ls) ⟨ls, _, _, rfl, e2, hD2, bf_zero hl hls⟩ ?_ ?_⟩
    · clear hls hl hD2 e2 ls
      rintro t σ H3 ht ⟨ls, g6, g7, rfl, e3, hD3, bf⟩
      refine ⟨_, rfl, ap, rfl, ⟨_, SqL.of (e3 _ _ havs)⟩, for_list (K := K) (a := ap) (xs := avs) (fun i σ H' => ∃ (ls' : List Nat) (g7 : Option V), σ = [some (.ref W), some (.ref st), some (nV n), some (.ref ap), some (V.int ((n : Int) + 1)), some (.ref D), some (nV t), g7, none, none, none, none, none, none, none, none, none] ∧ Ex H1 H' ∧ H' D = some (.lst (Ns ls')) ∧ BI n (as ropes s1) s1.blues ls i ls') ⟨ls, _, rfl, e3, hD3, bi_zero bf⟩ (fun i σ H' _ ⟨_, _, _, e, _⟩ => SqL.of (e _ _ havs)) ?_ ?_⟩
      · rintro i v σ H4 hi ⟨ls', g7, rfl, e4, hD4, bi⟩
        obtain ⟨p, hp, q, rfl, hqq⟩ := Paired.getL haps hi
        obtain ⟨p1, p2⟩ := hend p (List.mem_of_getElem? hp)
        have hq4 := e4 _ _ hqq
        have ha := get_of_getD (l := ls') (i := p.1) (by rw [bi.len]; exact p1)
        have hb := get_of_getD (l := ls') (i := p.2) (by rw [bi.len]; exact p2)
        refine ⟨_, rfl, _, rfl, _, _, _, _, rfl, rfl, SqT.of hq4, rfl, _, _, _, _, rfl, rfl, SqL.of hD4, atI_nat (ns_get ha), ?_⟩
        refine ⟨_, rfl, _, rfl, _, _, _, _, rfl, rfl, SqT.of hq4, rfl, _, _, _, _, rfl, rfl, SqL.of hD4, atI_nat (ns_get hb), _, _, rfl, rfl, _, _, rfl, ?_⟩
        refine ⟨_, rfl, _, rfl, _, _, _, _, rfl, rfl, SqT.of hq4, rfl, _, _, _, _, rfl, rfl, hD4, Evl.ixN_nat (by rw [ns_len, bi.len]; exact p1), ?_⟩
        have ev : (if ((ls'.getD p.2 0 : Nat) : Int) + 1 < ((ls'.getD p.1 0 : Nat) : Int) then ((ls'.getD p.2 0 : Nat) : Int) + 1 else ((ls'.getD p.1 0 : Nat) : Int)) = ((min (ls'.getD p.1 0) (ls'.getD p.2 0 + 1) : Nat) : Int) := by
          split <;> omega
        refine ⟨ls'.set p.1 (min (ls'.getD p.1 0) (ls'.getD p.2 0 + 1)), _, rfl, ex_mut e4 hD, ?_, bi_step bi hp p1 p2⟩
        rw [upd_same, vI ev, set_ns]
      · rintro σ H4 ⟨ls', g7, rfl, e4, hD4, bi⟩
        rw [havl] at bi
        exact ⟨ls', _, _, rfl, e4, hD4, bi_end bf bi hend⟩
    clear hls hl hD2 e2 ls
    rintro σ H3 ⟨ls, g6, g7, rfl, e3, hD3, bf⟩
    have hfr : ∀ u, u < n → ls[u]? = some (fr n (as ropes s1) s1.blues u) := fun u hu => by
      rw [get_of_getD (by rw [bf.len]; exact hu), bf_fr bf hend hu]
    -- the least
    refine ⟨_, rfl, sz1 (by show 1 ≤ 100000; decide), fun l hlf => ?_⟩
    have e4 : Ex H3 (upd H3 l (.lst [V.int ((n : Int) + 1)])) := exn hlf
    have hl4 : upd H3 l (.lst [V.int ((n : Int) + 1)]) l = some (.lst [V.int ((n : Int) + 1)]) := upd_same
    generalize upd H3 l (.lst [V.int ((n : Int) + 1)]) = H4 at e4 hl4 ⊢
    refine ⟨_, rfl, n, rfl, by omega, by omega, fun D2 hD2f => ?_⟩
    refine lc_range0 (n := n) (fun i H' => Ex H4 H' ∧ H' D2 = some (.lst (Ns (((List.range i).filter fun u => decide (0 < s1.reds.getD u 0)).map (fr n (as ropes s1) s1.blues))))) ⟨exn hD2f, upd_same⟩ ?_ ?_
    · rintro i H5 hi ⟨e5, hD5⟩
      have hu := get_of_getD (l := s1.reds) (i := i) (by omega)
      have e35 : Ex H3 H5 := e4.trans e5
      have e15 : Ex H1 H5 := fun a o h => e35 a o (e3 a o h)
      refine ⟨rfl, _, rfl, _, _, _, _, rfl, rfl, SqT.of (e15 _ _ hst1), rfl, _, rfl, _, _, _, _, rfl, rfl, SqT.of (e15 _ _ hrd1), atI_nat (ns_get hu), _, _, rfl, rfl, _, rfl, dI (fun c => ?_) (fun c => ?_)⟩
      · refine ⟨_, rfl, _, rfl, _, _, _, _, rfl, rfl, SqL.of (e35 _ _ hD3), atI_nat (ns_get (hfr i hi)), _, hD5, sz2 ?_, ex_mut e5 hD2f, ?_⟩
        · rw [ns_len, List.length_map]
          have := rg_len (fun u => decide (0 < s1.reds.getD u 0)) i
          omega
        · rw [upd_same, rg_filter, if_pos (decide_eq_true (by omega)), List.map_append]
          exact congrArg some (congrArg HO.lst (ns_snoc _ _))
      · refine ⟨e5, ?_⟩
        rw [rg_filter, if_neg (by rw [decide_eq_true_iff]; omega), List.append_nil]
        exact hD5
    rintro H5 ⟨e5, hD5⟩
    obtain ⟨L, hL⟩ : ∃ L, L = (((List.range n).filter fun u => decide (0 < s1.reds.getD u 0)).map (fr n (as ropes s1) s1.blues)) := ⟨_, rfl⟩
    rw [← hL] at hD5
    have hLl : L.length ≤ n := by
      rw [hL, List.length_map]
      exact rg_len _ _
    have hLm : ∀ z, z ∈ L ↔ ∃ u, u < n ∧ 0 < s1.reds.getD u 0 ∧ fr n (as ropes s1) s1.blues u = z := fun z => by
      rw [hL, List.mem_map]
      constructor
      · rintro ⟨u, hu, e⟩
        rw [List.mem_filter, List.mem_range, decide_eq_true_iff] at hu
        exact ⟨u, hu.1, hu.2, e⟩
      · rintro ⟨u, h1, h2, e⟩
        exact ⟨u, by rw [List.mem_filter, List.mem_range, decide_eq_true_iff]; exact ⟨h1, h2⟩, e⟩
    refine ⟨_, _, _, _, rfl, rfl, e5 _ _ hl4, hD5, sz1 (by show 1 + (Ns L).length ≤ 100000; rw [ns_len]; omega), fun p hp => ?_⟩
    rw [zs_cons]
    have e6 : Ex H5 (upd H5 p (.lst ((((n : Int) + 1) :: L.map fun (n : Nat) => (n : Int)).map V.int))) := exn hp
    have hp6 : upd H5 p (.lst ((((n : Int) + 1) :: L.map fun (n : Nat) => (n : Int)).map V.int)) p = some (.lst ((((n : Int) + 1) :: L.map fun (n : Nat) => (n : Int)).map V.int)) := upd_same
    generalize upd H5 p (.lst ((((n : Int) + 1) :: L.map fun (n : Nat) => (n : Int)).map V.int)) = H6 at e6 hp6 ⊢
    refine ⟨_, _, rfl, SqL.of hp6, by rw [List.length_cons]; omega, fun m hm hmin => ?_⟩
    have e36 : Ex H3 H6 := (e4.trans e5).trans e6
    have e16 : Ex H1 H6 := fun a o h => e36 a o (e3 a o h)
    have e06 : Ex H H6 := e1.trans e16
    have hminL : ∀ u, u < n → 0 < s1.reds.getD u 0 → m ≤ (fr n (as ropes s1) s1.blues u : Int) := fun u h1 h2 => hmin _ (List.mem_cons_of_mem _ (List.mem_map.mpr ⟨_, (hLm _).mpr ⟨u, h1, h2, rfl⟩, rfl⟩))
    refine ⟨_, rfl, _, rfl, rfl, _, rfl, dI (fun c => ?_) (fun c => ?_)⟩
    · have em : m = (n : Int) + 1 := by
        injection c
      refine hq .non H6 e06 ?_
      have : meetS n ropes s1 = none := meet_no fun u h1 h2 => by
        cases q : dst (as ropes s1) s1.blues u with
        | none => rfl
        | some k =>
          have h3 := hminL u h1 h2
          rw [fr_some q, em] at h3
          have := isD_lt hend h1 (dst_some.mp q)
          omega
      rw [this]
      rfl
    have hmn : m ≠ (n : Int) + 1 := fun z => c (by rw [z])
    obtain ⟨k, rfl, u0, hu0, hr0, hf0⟩ : ∃ k : Nat, m = (k : Int) ∧ ∃ u, u < n ∧ 0 < s1.reds.getD u 0 ∧ fr n (as ropes s1) s1.blues u = k := by
      rcases List.mem_cons.mp hm with h | h
      · exact (hmn h).elim
      · obtain ⟨k, hk, e⟩ := List.mem_map.mp h
        obtain ⟨u, h1, h2, h3⟩ := (hLm k).mp hk
        exact ⟨k, e.symm, u, h1, h2, h3⟩
    have hd0 : dst (as ropes s1) s1.blues u0 = some k := by
      cases q : dst (as ropes s1) s1.blues u0 with
      | none =>
        rw [fr_none q] at hf0
        exact (hmn (by omega)).elim
      | some j =>
        rw [fr_some q] at hf0
        rw [hf0]
    have hkn : k < n := isD_lt hend hu0 (dst_some.mp hd0)
    have hleast : IsLeast n (as ropes s1) s1.reds s1.blues k := ⟨⟨u0, hu0, hr0, hd0⟩, fun u j hu hr hj => by
      have := hminL u hu hr
      rw [fr_some hj] at this
      omega⟩
    have hmeet := meet_of hleast
    have hnne := near_ne hleast
    obtain ⟨N, hN⟩ : ∃ N, N = near n (as ropes s1) s1.reds s1.blues k := ⟨_, rfl⟩
    rw [← hN] at hmeet hnne
    have hNd : ∀ q ∈ N, dst (as ropes s1) s1.blues q = some k := fun q hq => by
      rw [hN] at hq
      exact (mem_near.mp hq).2.2
    -- here
    refine ⟨_, rfl, n, rfl, by omega, by omega, fun D3 hD3f => ?_⟩
    have hD6 := e36 _ _ hD3
    refine lc_range0 (n := n) (fun i H' => Ex H6 H' ∧ H' D3 = some (.lst (Ns ((List.range i).filter fun u => decide (0 < s1.reds.getD u 0) && (dst (as ropes s1) s1.blues u == some k))))) ⟨exn hD3f, upd_same⟩ ?_ ?_
    · rintro i H7 hi ⟨e7, hD7⟩
      have hu := get_of_getD (l := s1.reds) (i := i) (by omega)
      have e17 : Ex H1 H7 := fun a o h => e7 a o (e16 a o h)
      have no : (decide (0 < s1.reds.getD i 0) && (dst (as ropes s1) s1.blues i == some k)) = false → Ex H6 H7 ∧ H7 D3 = some (.lst (Ns ((List.range (i + 1)).filter fun u => decide (0 < s1.reds.getD u 0) && (dst (as ropes s1) s1.blues u == some k)))) := fun z => ⟨e7, by
        rw [rg_filter, if_neg (by rw [z]; decide), List.append_nil]
        exact hD7⟩
      refine ⟨rfl, _, rfl, _, _, _, _, rfl, rfl, SqT.of (e17 _ _ hst1), rfl, _, rfl, _, _, _, _, rfl, rfl, SqT.of (e17 _ _ hrd1), atI_nat (ns_get hu), _, _, rfl, rfl, _, rfl, dI (fun c1 => ?_) (fun c1 => ?_)⟩
      · refine ⟨_, rfl, _, rfl, _, _, _, _, rfl, rfl, SqL.of (e7 _ _ hD6), atI_nat (ns_get (hfr i hi)), _, rfl, rfl, _, rfl, dI (fun c2 => ?_) (fun c2 => ?_)⟩
        · have c2' : fr n (as ropes s1) s1.blues i = k := by
            have := nV_eq.mp c2
            omega
          have hd := (fr_eq (by omega)).mp c2'
          refine ⟨_, rfl, _, hD7, sz2 ?_, ex_mut e7 hD3f, ?_⟩
          · rw [ns_len]
            have := rg_len (fun u => decide (0 < s1.reds.getD u 0) && (dst (as ropes s1) s1.blues u == some k)) i
            omega
          · rw [upd_same, rg_filter, if_pos (by rw [decide_eq_true (show 0 < s1.reds.getD i 0 by omega), hd]; simp)]
            exact congrArg some (congrArg HO.lst (ns_snoc _ _))
        · refine no ?_
          rw [show (dst (as ropes s1) s1.blues i == some k) = false from beq_eq_false_iff_ne.mpr fun z => c2 (by rw [fr_some z]), Bool.and_false]
      · refine no ?_
        rw [decide_eq_false (show ¬ 0 < s1.reds.getD i 0 by omega), Bool.false_and]
    rintro H7 ⟨e7, hD7⟩
    have hD7' : H7 D3 = some (.lst (Ns N)) := by
      rw [hN]
      exact hD7
    clear hD7
    obtain ⟨x0, hx0⟩ : ∃ x, N[0]? = some x := get_of_lt (List.length_pos_iff.mpr hnne)
    have hx0h : N.headD 0 = x0 := by
      cases q : N with
      | nil => exact (hnne q).elim
      | cons y l =>
        rw [q] at hx0
        exact Option.some.inj hx0
    refine ⟨_, rfl, _, _, _, _, rfl, rfl, SqL.of hD7', atI_nat (j := 0) (ns_get hx0), ?_⟩
    refine ⟨Nat.zero_le _, fun R hR => ?_⟩
    have e8 : Ex H7 (upd H7 R (.lst [])) := exn hR
    have hR8 : upd H7 R (.lst []) R = some (.lst (Ns [])) := upd_same
    generalize upd H7 R (.lst []) = H8 at e8 hR8 ⊢
    have e17 : Ex H1 H7 := fun a o h => e7 a o (e16 a o h)
    have e07 : Ex H H7 := e1.trans e17
    have hRH : H R = none := back e07 hR
    have hR3 : H7 R = none := hR
    refine ⟨_, rfl, k, rfl, by omega, by omega, for_range0 (n := k) (fun i σ H' => ∃ (hp0 : Addr) (pl acc : List Nat) (s : Nat) (g12 g13 g14 : Option V), σ = [some (.ref W), some (.ref st), some (nV n), some (.ref ap), some (V.int ((n : Int) + 1)), some (.ref D), g6, g7, some (nV k), some (.ref hp0), some (nV s), some (.ref R), g12, g13, g14, none, none] ∧ Ex H7 H' ∧ H' R = some (.lst (Ns acc)) ∧ H' hp0 = some (.lst (Ns pl)) ∧ hp0 ≠ R ∧ pl ≠ [] ∧ (∀ q ∈ pl, dst (as ropes s1) s1.blues q = some (k - i)) ∧ acc ++ greedy (as ropes s1) s1.blues pl (k - i) = greedy (as ropes s1) s1.blues N k ∧ acc.length = i ∧ (i = 0 → s = x0) ∧ (0 < i → s = ((as ropes s1).getD ((greedy (as ropes s1) s1.blues N k).headD 0) (0, 0)).1))
      ⟨D3, N, [], x0, _, _, _, rfl, e8, hR8, e8 _ _ hD7', ne_of_none hD7' hR, hnne, hNd, rfl, rfl, fun _ => rfl, fun z => by omega⟩ ?_ ?_⟩
    · rintro i σ H9 hi ⟨hp0, pl, acc, s, g12, g13, g14, rfl, e9, hR9, hp9, npR, hpne, hpd, hgr, hal9, hs0, hs1⟩
      obtain ⟨r, hr⟩ : ∃ r, k - i = r + 1 := ⟨k - i - 1, by omega⟩
      rw [hr] at hpd hgr
      obtain ⟨p0, hp0m⟩ := List.exists_mem_of_ne_nil pl hpne
      obtain ⟨i0, t0, h0, hfi, hai, hti, hdi⟩ := fit_ex hp0m (hpd p0 hp0m)
      have hgs := greedy_succ hfi hai
      have e19 : Ex H1 H9 := fun a o h => e9 a o (e17 a o h)
      have hap9 : PairsL H9 ap (as ropes s1) := hap.kp (exk e19)
      refine ⟨_, rfl, _, _, rfl, .inl (SqL.of (e19 _ _ havs)), avs.length, rfl, by omega, by omega, fun D4 hD4f => ?_⟩
      refine lc_range0 (n := avs.length) (fun j H' => Ex H9 H' ∧ H' D4 = some (.lst (Ns ((List.range j).filter fun r => pl.contains ((as ropes s1).getD r (0, 0)).1)))) ⟨exn hD4f, upd_same⟩ ?_ ?_
      · rintro j HA hj ⟨eA, hDA⟩
        obtain ⟨a, ha⟩ := get_of_lt (l := as ropes s1) (i := j) (by omega)
        obtain ⟨av, ax, hv1, hv2, hv3, hv4⟩ := (hap9.kp (exk eA)).get ha
        have hgd : (as ropes s1).getD j (0, 0) = a := by
          rw [List.getD_eq_getElem?_getD, ha]
          rfl
        refine ⟨rfl, _, rfl, _, rfl, _, _, _, _, rfl, rfl, SqL.of hv1, atI_nat hv3, _, _, _, _, rfl, rfl, SqT.of hv4, rfl, _, rfl, hp0, _, rfl, .inl (SqL.of (eA _ _ hp9)), rfl, ns_all pl, _, rfl, ?_⟩
        by_cases c1 : pl.contains a.1 = true
        · refine ifT (c := inV (nV a.1) (Ns pl) = true) (by rw [in_ns]; exact c1) ?_
          refine ⟨_, rfl, _, hDA, sz2 ?_, ex_mut eA hD4f, ?_⟩
          · rw [ns_len]
            have := rg_len (fun r => pl.contains ((as ropes s1).getD r (0, 0)).1) j
            omega
          · rw [upd_same, rg_filter, if_pos (by rw [hgd]; exact c1)]
            exact congrArg some (congrArg HO.lst (ns_snoc _ _))
        · refine ifF (c := inV (nV a.1) (Ns pl) = true) (by rw [in_ns]; exact c1) ⟨eA, ?_⟩
          rw [rg_filter, if_neg (by rw [hgd]; exact c1), List.append_nil]
          exact hDA
      rintro HA ⟨eA, hDA⟩
      rw [havl] at hDA
      obtain ⟨O, hO⟩ : ∃ O, O = (List.range (as ropes s1).length).filter fun r => pl.contains ((as ropes s1).getD r (0, 0)).1 := ⟨_, rfl⟩
      rw [← hO] at hDA
      have hOl : O.length ≤ (as ropes s1).length := by
        rw [hO]
        exact rg_len _ _
      have hOm : ∀ z ∈ O, z < (as ropes s1).length := fun z hz => by
        rw [hO] at hz
        exact List.mem_range.mp (List.mem_filter.mp hz).1
      have e7A : Ex H7 HA := e9.trans eA
      have e1A : Ex H1 HA := fun a o h => e7A a o (e17 a o h)
      have hDA7 := e7A _ _ (e7 _ _ hD6)
      refine ⟨_, rfl, D4, rfl, ⟨_, SqL.of hDA⟩, fun D5 hD5f => ?_⟩
      refine lc_list (K := K) (a := D4) (xs := Ns O) (fun j H' => Ex HA H' ∧ H' D5 = some (.lst (Ns ((O.take j).filter fun z => fr n (as ropes s1) s1.blues ((as ropes s1).getD z (0, 0)).2 == r)))) ⟨exn hD5f, upd_same⟩ (fun j H' _ ⟨e, _⟩ => SqL.of (e _ _ hDA)) ?_ ?_
      · rintro j v HB hj ⟨eB, hDB⟩
        obtain ⟨z, hz, rfl⟩ := ns_getL hj
        have hzl := hOm z (List.mem_of_getElem? hz)
        obtain ⟨a, ha⟩ := get_of_lt hzl
        have hgd : (as ropes s1).getD z (0, 0) = a := by
          rw [List.getD_eq_getElem?_getD, ha]
          rfl
        have e1B : Ex H1 HB := fun a o h => eB a o (e1A a o h)
        obtain ⟨av, ax, hv1, hv2, hv3, hv4⟩ := (hap.kp (exk e1B)).get ha
        have ha2 := (hend a (List.mem_of_getElem? ha)).2
        have erk : ((k : Int) - (i : Int) - 1) = (r : Int) := by omega
        refine ⟨rfl, _, rfl, _, rfl, _, rfl, _, _, _, _, rfl, rfl, SqL.of hv1, atI_nat hv3, _, _, _, _, rfl, rfl, SqT.of hv4, rfl, _, _, _, _, rfl, rfl, SqL.of (eB _ _ hDA7), atI_nat (ns_get (hfr a.2 ha2)), ?_⟩
        refine ⟨_, rfl, _, rfl, _, _, rfl, rfl, _, _, rfl, rfl, rfl, _, rfl, dI (fun c2 => ?_) (fun c2 => ?_)⟩
        · have c2' : fr n (as ropes s1) s1.blues a.2 = r := by
            have : ((fr n (as ropes s1) s1.blues a.2 : Nat) : Int) = (k : Int) - (i : Int) - 1 := nV_eq.mp c2
            omega
          refine ⟨_, rfl, _, hDB, sz2 ?_, ex_mut eB hD5f, ?_⟩
          · rw [ns_len]
            have := fl_len O (fun z => fr n (as ropes s1) s1.blues ((as ropes s1).getD z (0, 0)).2 == r) j
            omega
          · rw [upd_same, ns_filter O _ hz, if_pos (by rw [hgd, c2']; exact beq_self_eq_true _)]
            exact congrArg some (congrArg HO.lst (ns_snoc _ _))
        · refine ⟨eB, ?_⟩
          rw [ns_filter O _ hz, if_neg, List.append_nil]
          · exact hDB
          · rw [hgd]
            intro w
            have w' : fr n (as ropes s1) s1.blues a.2 = r := beq_iff_eq.mp w
            exact c2 (nV_eq.mpr (by rw [w']; omega))
      rintro HB ⟨eB, hDB⟩
      rw [List.take_of_length_le (by rw [ns_len]; exact Nat.le_refl _), hO, frs_head (by omega)] at hDB
      have hff := first_fit (d := ((0, 0) : Nat × Nat)) hfi
      obtain ⟨rest, hrest⟩ : ∃ rest, ((List.range (as ropes s1).length).filter fun r_1 => fit (as ropes s1) s1.blues pl r ((as ropes s1).getD r_1 (0, 0))) = i0 :: rest := by
        cases q : ((List.range (as ropes s1).length).filter fun r_1 => fit (as ropes s1) s1.blues pl r ((as ropes s1).getD r_1 (0, 0))) with
        | nil =>
          rw [q] at hff
          cases hff
        | cons y l =>
          rw [q] at hff
          exact ⟨l, by rw [Option.some.inj hff]⟩
      rw [hrest] at hDB
      refine ⟨_, _, _, _, rfl, rfl, SqL.of hDB, atI_nat (j := 0) (v := nV i0) rfl, ?_⟩
      have e9B : Ex H9 HB := eA.trans eB
      have e7B : Ex H7 HB := e9.trans e9B
      have e1B : Ex H1 HB := fun a o h => e7B a o (e17 a o h)
      obtain ⟨av, ax, hv1, hv2, hv3, hv4⟩ := (hap.kp (exk e1B)).get hai
      have hi0 := lt_of_get hai
      have hgd0 : (as ropes s1).getD i0 (0, 0) = (t0, h0) := by
        rw [List.getD_eq_getElem?_getD, hai]
        rfl
      refine ⟨fun σ H' => ∃ s : Nat, σ = [some (.ref W), some (.ref st), some (nV n), some (.ref ap), some (V.int ((n : Int) + 1)), some (.ref D), g6, g7, some (nV k), some (.ref hp0), some (nV s), some (.ref R), some (nV i), some (nV i0), some (.ref D4), none, none] ∧ H' = HB ∧ s = ((as ropes s1).getD ((greedy (as ropes s1) s1.blues N k).headD 0) (0, 0)).1, ?_, ?_⟩
      · refine ⟨_, rfl, rfl, _, rfl, dI (fun c3 => ?_) (fun c3 => ?_)⟩
        · have i00 : i = 0 := by
            have := nV_eq.mp c3
            omega
          refine ⟨_, rfl, _, rfl, _, _, _, _, rfl, rfl, SqL.of hv1, atI_nat hv3, _, _, _, _, rfl, rfl, SqT.of hv4, rfl, t0, rfl, rfl, ?_⟩
          have : acc = [] := List.length_eq_zero_iff.mp (by omega)
          rw [this, hgs] at hgr
          rw [← hgr]
          show t0 = ((as ropes s1).getD i0 (0, 0)).1
          rw [hgd0]
        · refine ⟨s, rfl, rfl, hs1 ?_⟩
          rcases Nat.eq_zero_or_pos i with z | z
          · exact (c3 (by rw [z]; rfl)).elim
          · exact z
      rintro _ _ ⟨s', rfl, rfl, hs'⟩
      rename_i HB
      have hRB := e9B _ _ hR9
      refine ⟨_, rfl, .inl ⟨rfl, _, SqL.of hRB⟩, _, rfl, _, _, _, rfl, rfl, hRB, sz2 (by rw [ns_len]; omega), ?_⟩
      have nRx : ∀ {q : Addr} {o : HO}, H7 q = some o → q ≠ R := fun h => ne_of_none h hR3
      have eC : Ex H7 (upd HB R (.lst (Ns acc ++ [nV i0]))) := ex_mut e7B hR3
      have hRC : upd HB R (.lst (Ns acc ++ [nV i0])) R = some (.lst (Ns (acc ++ [i0]))) := by
        rw [upd_same]
        exact congrArg some (congrArg HO.lst (ns_snoc _ _))
      generalize upd HB R (.lst (Ns acc ++ [nV i0])) = HC at eC hRC ⊢
      have e1C : Ex H1 HC := fun a o h => eC a o (e17 a o h)
      obtain ⟨av', ax', hw1, hw2, hw3, hw4⟩ := (hap.kp (exk e1C)).get hai
      refine ⟨_, rfl, _, rfl, _, _, _, _, rfl, rfl, SqL.of hw1, atI_nat hw3, _, _, _, _, rfl, rfl, SqT.of hw4, rfl, sz1 (by show 1 ≤ 100000; decide), fun P5 hP5 => ?_⟩
      have hki : k - (i + 1) = r := by omega
      refine ⟨P5, [h0], acc ++ [i0], s', _, _, _, rfl, fun a o h => exn hP5 a o (eC a o h), upd_get hP5 hRC, upd_same, (ne_of_none hRC hP5).symm, (fun z => nomatch z), fun q hq => ?_, ?_, by rw [List.length_append, hal9]; rfl, fun z => by omega, fun _ => hs'⟩
      · rw [List.mem_singleton.mp hq, hki]
        exact hdi
      · rw [List.append_assoc, ← hgr, hgs, hki]
        rfl
    · rintro σ H9 ⟨hp0, pl, acc, s, g12, g13, g14, rfl, e9, hR9, hp9, npR, hpne, hpd, hgr, hal9, hs0, hs1⟩
      rw [Nat.sub_self] at hgr
      have hacc : acc = greedy (as ropes s1) s1.blues N k := by
        rw [← hgr]
        exact (List.append_nil _).symm
      refine ⟨_, rfl, _, rfl, sz1 (by show 2 ≤ 100000; decide), fun t ht => ?_⟩
      have et : Ex H9 (upd H9 t (.tup [nV s, .ref R])) := exn ht
      refine hq (.ref t) _ ((e07.trans e9).trans et) ?_
      have hms : meetS n ropes s1 = some (s, acc) := by
        unfold meetS
        rw [hmeet, hacc]
        by_cases ck : k = 0
        · rw [if_pos ck, hs0 ck]
          subst ck
          rw [← hN, hx0h]
        · rw [if_neg ck, hs1 (by omega)]
      rw [hms]
      exact ⟨t, R, rfl, upd_same, et _ _ hR9⟩
end
end Tw

namespace Tw
open PySem PySem.Spec PyProof.Rows L2 TM
theorem sc__law_is_list : FnScope ["_law_told", "_law_due", "_law_k"] ["_law_told", "_law_due"] (defScope s__law_is_list) := ⟨rfl, rfl, rfl, by decide +kernel, rfl, by decide +kernel, by decide +kernel⟩
section
variable {P : Program} {w : World} {K : PySem.W.Frag} {mg : Str → Option Value} {base : Heap}

theorem ok__law_is_list (T : Txt K mg) (D : Dfn K mg "_law_is_list" s__law_is_list) (c__law_integer : Cal P w K mg base "_law_integer" 1 ["_law_value"] (sp__law_integer K)) :
    Cal P w K mg base "_law_is_list" 2 ["_law_told", "_law_due"] (sp__law_is_list K) := by
  refine D.cal (k := 1) sc__law_is_list (fun vs H Q E h => ?_) (fun _ _ _ _ _ _ us hl => match us, hl with | [_, _], _ => rfl) (fun cdv A outer s H vs Q E hr h => ?_)
  · obtain ⟨_, _, _, rfl, _⟩ := h
    rfl
  · obtain ⟨a, b, xs, rfl, ha, hb, hx, hq⟩ := h
    refine ⟨_, (pss_cons (ps_if (PW.pt (pw_or (pt_not (pt_val (pe_callB call_isi (by rfl) T.b_isinstance (by decide +kernel) (pa_cons (pv 0) (pa_cons (pe_bltn (v := .ty "list") rfl T.b_list (by decide +kernel) rfl) pa_nil))))) (pw_or1 (pt_cmpR op_ne (pe_callB call_len_seq (by rfl) T.b_len (by decide +kernel) (pa_cons (pv 0) pa_nil)) (pe_callB call_len_seq (by rfl) T.b_len (by decide +kernel) (pa_cons (pv 1) pa_nil)) (nomark _))))) (pss_one (ps_ret pe_bl)) pss_nil)
      (pss_cons (ps_for PassesOwn.never rfl (pi_range1 rfl T.b_range (pa_cons (pe_callB call_len_seq (by rfl) T.b_len (by decide +kernel) (pa_cons (pv 1) pa_nil)) pa_nil)) (pg_name (i := 2) sc__law_is_list.nd rfl (Or.inl rfl)) (pss_one (ps_if (PW.pt (pw_or (pt_not (pt_val (pe_cal c__law_integer (hr.mono (by decide)) (pa_cons (pe_ix ix_list (pv 0) (pv 2) (fun _ _ => rfl)) pa_nil)))) (pw_or1 (pt_cmpR op_ne (pe_ix ix_list (pv 0) (pv 2) (fun _ _ => rfl)) (pe_ix ix_list (pv 1) (pv 2) (fun _ _ => rfl)) (nomark _))))) (pss_one (ps_ret pe_bl)) pss_nil)))
      (pss_one (ps_ret pe_bl)))), ?_⟩
    refine ⟨_, rfl, _, _, _, _, true, rfl, .ty _, .base (.lst ha), kit_ty (by decide +kernel), _, rfl, ifF (by decide) ?_⟩
    refine ⟨_, rfl, _, _, rfl, .inl (SqL.of ha), _, rfl, _, _, rfl, .inl (SqL.of hb), rfl, _, rfl, nF rfl ?_⟩
    refine ⟨_, rfl, _, _, rfl, .inl (SqL.of hb), (Ns xs).length, rfl, by omega, by rw [ns_len]; omega, for_range0 (n := (Ns xs).length) (fun j σ H' => ∃ z, σ = [some (.ref a), some (.ref b), z] ∧ H' = H) ⟨_, rfl, rfl⟩ ?_ ?_⟩
    · rintro j σ _ hj ⟨z, rfl, rfl⟩
      rw [ns_len] at hj
      obtain ⟨y, hy⟩ := get_of_lt hj
      refine ⟨_, rfl, _, rfl, _, _, _, _, rfl, rfl, SqL.of ha, atI_nat (ns_get hy), _, rfl, _, rfl, ifF (by decide) ?_⟩
      exact ⟨_, rfl, _, rfl, _, _, _, _, rfl, rfl, SqL.of ha, atI_nat (ns_get hy), _, rfl, _, rfl, _, _, _, _, rfl, rfl, SqL.of hb, atI_nat (ns_get hy), rfl, _, rfl, nF rfl ⟨_, rfl, rfl⟩⟩
    · rintro σ _ ⟨z, rfl, rfl⟩
      exact hq _ (exr _)
end
end Tw

namespace Tw
open PySem PySem.Spec PyProof.Rows L2 TM
theorem sc__law_same : FnScope ["_law_told", "_law_due"] ["_law_told", "_law_due"] (defScope s__law_same) := ⟨rfl, rfl, rfl, by decide +kernel, rfl, by decide +kernel, by decide +kernel⟩
section
variable {P : Program} {w : World} {K : PySem.W.Frag} {mg : Str → Option Value} {base : Heap}

theorem ok__law_same (T : Txt K mg) (D : Dfn K mg "_law_same" s__law_same) :
    Cal P w K mg base "_law_same" 1 ["_law_told", "_law_due"] (sp__law_same K) := by
  refine D.cal (k := 0) sc__law_same (fun vs H Q E h => ?_) (fun _ _ _ _ _ _ us hl => match us, hl with | [_, _], _ => rfl) (fun cdv A outer s H vs Q E hr h => ?_)
  · obtain ⟨_, _, rfl, _⟩ := h
    rfl
  · obtain ⟨a, b, rfl, hq⟩ := h
    refine ⟨_, (pss_one (ps_ret (pe_and (pe_callB call_isi (by rfl) T.b_isinstance (by decide +kernel) (pa_cons (pv 0) (pa_cons (pe_bltn (v := .ty "bool") rfl T.b_bool (by decide +kernel) rfl) pa_nil))) (pe_one (pe_cmpR op_eq (pv 0) (pv 1) (nomark _)))))), ?_⟩
    refine ⟨_, rfl, _, _, _, _, true, rfl, .ty _, .base (.bl _), kit_ty (by decide +kernel), _, rfl, _, rfl, _, rfl, rfl, ?_⟩
    have e : decide (V.bl a = V.bl b) = decide (a = b) := by
      cases a <;> cases b <;> rfl
    rw [e]
    exact hq
end
end Tw

namespace Tw
open PySem PySem.Spec PyProof.Rows L2 TM
theorem sc__law_row : FnScope ["_law_world_here", "_law_state", "_law_standing_here", "_law_due", "_law_rides_here", "fault", "_law_last", "_law_rope"] ["_law_world_here", "_law_state", "_law_standing_here", "_law_due"] (defScope s__law_row) := ⟨rfl, rfl, rfl, by decide +kernel, rfl, by decide +kernel, by decide +kernel⟩

def t_suite (K : PySem.W.Frag) : Addr → Value → Option Addr → TS := fun a cls d =>
  tSeq (tIfS (tOr (tNot (tB (tCB (rIsE2 K (He.ga K "NeverMeet") a cls d) (tCons (tVar 5) (tCons (tC (.ref (He.ga K "RopeError"))) tNil))))) (tNot (tB (tCB (rIsE2 K (He.ga K "NeverMeet") a cls d) (tCons (tVar 5) (tCons (tC (.ty "ValueError")) tNil)))))) (tRet (tC (.bl false))) tNext)
  (tRet (tAndV (tOp rIsN (tVar 3) (tC .non)) (tNotV (tCB (rIsE2 K (He.ga K "NeverMeet") a cls d) (tCons (tVar 5) (tCons (tC (.ref (He.ga K "CanMeet"))) tNil))))))
section
variable {P : Program} {w : World} {K : PySem.W.Frag} {mg : Str → Option Value} {base : Heap}
theorem ok__law_row (T : Txt K mg) (D : Dfn K mg "_law_row" s__law_row) (c__law_are_rides : Cal P w K mg base "_law_are_rides" 2 ["_law_told", "_law_ropes"] (sp__law_are_rides K)) (c__law_both : Cal P w K mg base "_law_both" 1 ["_law_state"] (sp__law_both K)) (c__law_end : Cal P w K mg base "_law_end" 3 ["_law_ropes", "_law_state", "_law_rides_here"] (sp__law_end K)) (c_meet_row : CalX P w K mg base "meet_row" 5 ["standing"] (sp_meet_row K)) : Cal P w K mg base "_law_row" 6 ["_law_world_here", "_law_state", "_law_standing_here", "_law_due"] (sp__law_row K) := by
  obtain ⟨fd_meet_row, F_meet_row, b_meet_row⟩ := c_meet_row.ex
  refine D.cal (k := 5) sc__law_row (fun vs H Q E h => ?_) (fun _ _ _ _ _ _ us hl => match us, hl with | [_, _, _, _], _ => rfl) (fun cdv A outer s H vs Q E hr h => ?_)
  · obtain ⟨_, _, _, _, _, _, _, _, rfl, _⟩ := h
    rfl
  · obtain ⟨W, sv, x, due, n, ropes, s0, s1, rfl, hW, hS, hX, ok, os, hdue, hq⟩ := h
    obtain ⟨rp, sv0, hw, hP, hS0⟩ := id hW
    have h40 := ok.m40
    have n24 := ok.n24
    refine ⟨_, (pss_cons (ps_try_as (i := 5) (tb := fun W => tAsg (tCallS (sp_meet_row K) (WE W) (tCons (tVar 2) tNil)) (gName 4)) (ts := t_suite K) (Wout := fun _ _ _ _ => False) rfl rfl sc__law_row.nd rfl rfl ⟨rfl, by decide, Or.inl T.gNM⟩ takes0
      (fun W pn xe tk _ => pss_one (ps_set (i := 4) sc__law_row.nd rfl (Or.inl rfl) (by exact (pe_callS F_meet_row (hr.mono (by decide)) rfl c_meet_row.gl c_meet_row.kp b_meet_row (fun σ => passAt tk σ) (by exact (pa_cons (pv 2) pa_nil))))))
      (fun a oe cls d pn hz hf => by exact (pss_cons (ps_if (PW.pt (pw_or (pt_not (pt_val (pe_callB (call_isE2 T.x.exc hz hf) (by rfl) T.b_isinstance (by decide +kernel) (pa_cons (pv 5) (pa_cons (pe_glob (v := .ref (He.ga K "RopeError")) rfl T.gRE rfl) pa_nil))))) (pw_or1 (pt_not (pt_val (pe_callB (call_isE2 T.x.exc hz hf) (by rfl) T.b_isinstance (by decide +kernel) (pa_cons (pv 5) (pa_cons (pe_bltn (v := .ty "ValueError") rfl T.b_ValueError (by decide +kernel) rfl) pa_nil)))))))) (pss_one (ps_ret pe_bl)) pss_nil)
      (pss_one (ps_ret (pe_and (pe_cmpR op_isN (pv 3) pe_non (nomark _)) (pe_one (pe_not (pe_callB (call_isE2 T.x.exc hz hf) (by rfl) T.b_isinstance (by decide +kernel) (pa_cons (pv 5) (pa_cons (pe_glob (v := .ref (He.ga K "CanMeet")) rfl T.gCM rfl) pa_nil)))))))))))
      (pss_cons (ps_if (PW.pt (pw_or (pt_cmpR op_isN (pv 3) pe_non (nomark _)) (pw_or1 (pt_not (pt_val (pe_cal c__law_are_rides (hr.mono (by decide)) (pa_cons (pv 4) (pa_cons (pe_ix ix_list (pv 0) pe_int (fun _ _ => rfl)) pa_nil)))))))) (pss_one (ps_ret pe_bl)) pss_nil)
      (pss_cons (ps_if (pt_cmpR (op_neD (room64 hr)) (pv 4) (pe_lc (own := [("_law_rope", 7)]) (g := (gName 7)) (tt := tYes) (te := (tTup (tCons (tVar 7) (tCons (tC (.str "red")) tNil)))) rfl sc__law_row.nd (pi_list (pe_ix ix_tup (pv 3) pe_int (fun _ _ => rfl))) (blkOk_by (N := ["_law_world_here", "_law_state", "_law_standing_here", "_law_due", "_law_rides_here", "fault", "_law_last", "_law_rope"]) (sc := defScope s__law_row) (by decide +kernel)) (fun _ _ _ _ _ => (pg_name (i := 7) sc__law_row.nd rfl (Or.inl rfl))) (fun _ _ _ _ _ => pts_nil) (fun _ _ _ _ _ => (pe_tup (pa_cons (pv 7) (pa_cons pe_str pa_nil))))) (nomark _)) (pss_one (ps_ret pe_bl)) pss_nil)
      (pss_cons (ps_set (i := 6) sc__law_row.nd rfl (Or.inl rfl) (pe_cal c__law_end (hr.mono (by decide)) (pa_cons (pe_ix ix_list (pv 0) pe_int (fun _ _ => rfl)) (pa_cons (pv 1) (pa_cons (pv 4) pa_nil)))))
      (pss_cons (ps_expr (pe_bm PySem.F.plainAttrs_list PySem.F.slot_list_append PySem.F.type_list_append mt_append (pv 4) (pa_cons (pe_tup (pa_cons pe_int (pa_cons pe_str pa_nil))) pa_nil)))
      (pss_one (ps_ret (pe_and (pe_cmpR op_notN (pv 6) pe_non (nomark _)) (pe_one (pe_cal c__law_both (hr.mono (by decide)) (pa_cons (pv 6) pa_nil))))))))))), ?_⟩
    refine ⟨_, rfl, x, n, ropes, s1, rfl, hX, ok, os, fun hm H1 e1 => ?_, fun u rs hm p H1 e1 hp0 hp => ?_⟩
    · have hd : due = .non := by
        rw [hm] at hdue
        exact hdue
      subst hd
      refine ⟨true, T.xNM, fun _ a ha => ?_, fun q => Bool.noConfusion q⟩
      refine ⟨_, rfl, rfl, rfl, _, _, true, rfl, fun _ h => h, T.x.k1, _, rfl, ifF (by decide) ?_⟩
      refine ⟨_, rfl, rfl, rfl, _, _, true, rfl, fun _ h => h, T.x.k2, _, rfl, ifF (by decide) ?_⟩
      refine ⟨_, rfl, rfl, _, rfl, dT rfl ?_⟩
      exact ⟨_, rfl, rfl, rfl, _, _, false, rfl, fun _ h => h, T.x.k3, _, rfl, hq H1 e1⟩
    · rw [hm] at hdue
      obtain ⟨da, dq, rfl, hda, hdq⟩ := hdue
      obtain ⟨t, hend, hboth⟩ := meet_walk ok os hm
      have hlt := meet_lt hm
      have hal : (as ropes s1).length = ropes.length := arr_length os.lc
      have hw1 := e1 _ _ hw
      refine ⟨_, rfl, rfl, _, rfl, dF (fun z => nomatch z) ?_⟩
      refine ⟨_, rfl, _, rfl, _, _, _, _, rfl, rfl, SqL.of hw1, rfl, p, rp, ropes, rs.map (fun i => (i, false)), rfl, hp, hP.kp (exk e1), h40, fun r hr => ?_, fun H2 e2 => ⟨_, rfl, ifF (by decide) ?_⟩⟩
      · obtain ⟨i, hi, rfl⟩ := List.mem_map.mp hr
        have := hlt i hi
        show i < ropes.length
        omega
      have e12 : Ex H H2 := e1.trans e2
      refine ⟨_, rfl, _, rfl, _, _, _, _, rfl, rfl, SqT.of (e12 _ _ hda), rfl, dq, rfl, ⟨_, SqL.of (e12 _ _ hdq)⟩, fun D0 hD => ?_⟩
      have hDH : H D0 = none := back e12 hD
      have hDH1 : H1 D0 = none := back e2 hD
      have hlen : rs.length ≤ n := by
        rcases Nat.lt_or_ge n rs.length with l | l
        · unfold meetS meet at hm
          split at hm
          · rename_i hx
            have e := (Prod.mk.inj (Option.some.inj hm)).2
            have h1 := greedy_len (as := as ropes s1) (bl := s1.blues) (Classical.choose hx) (near n (as ropes s1) s1.reds s1.blues (Classical.choose hx))
            obtain ⟨⟨v, a1, a2, a3⟩, _⟩ := Classical.choose_spec hx
            have h2 := isD_lt (fun p hp => ⟨(arr_mem (cars := s1.cars) ok.ends p hp).1, (arr_mem (cars := s1.cars) ok.ends p hp).2.1⟩) a1 (dst_some.mp a3)
            rw [e] at h1
            omega
          · cases hm
        · exact l
      refine lc_list (K := K) (a := dq) (xs := Ns rs) (fun i H' => ∃ acc, Ex H1 H' ∧ H' D0 = some (.lst acc) ∧ acc.length = i ∧ Paired (RideT H') acc ((rs.take i).map fun i => (i, false))) ⟨[], fun a o h => exn hD a o (e2 a o h), upd_same, rfl, .nil⟩ (fun i H' _ ⟨_, e, _⟩ => SqL.of (e _ _ (e1 _ _ hdq))) ?_ ?_
      · rintro i v H3 hi ⟨acc, e3, hD3, hl, hac⟩
        obtain ⟨r, hr, rfl⟩ := ns_getL hi
        have hrl := lt_of_get hr
        refine ⟨rfl, _, rfl, sz1 (by show 2 ≤ 100000; decide), fun t ht => ?_⟩
        have et : Ex H3 (upd H3 t (.tup [nV r, .str "red"])) := exn ht
        have hD4 := et _ _ hD3
        refine ⟨acc, hD4, sz2 (by omega), acc ++ [.ref t], ex_mut (e3.trans et) hDH1, upd_same, by rw [List.length_append, hl]; rfl, ?_⟩
        rw [take_more hr, List.map_append]
        exact Paired.snoc (Paired.mapP hac fun v x hv => RideT.ul (hv.kp et.kp) hD4) (RideT.ul ⟨t, rfl, upd_same⟩ hD4)
      · rintro H3 ⟨acc, e3, hD3, hl, hac⟩
        rw [List.take_of_length_le (by rw [ns_len]; exact Nat.le_refl _)] at hac
        have e13 : Ex H H3 := e1.trans e3
        have hp3 : RidesL H3 p (rs.map fun i => (i, false)) := hp.kp (exk e3)
        refine ⟨_, _, dp_rides hp3, dp_rides ⟨acc, hD3, hac⟩, shaped_rds _, shaped_rds _, _, rfl, ifF (by rw [eqv_rds, decide_eq_true rfl]; decide) ?_⟩
        refine ⟨_, rfl, _, _, _, _, rfl, rfl, SqL.of (e13 _ _ hw), rfl, _, rfl, _, rfl, rp, sv, p, n, ropes, s1, rs.map (fun i => (i, false)), t, rfl, hP.kp (exk e13), hS.kp (exk e13), hp3, ok, os, hend, fun v H4 e4 ht4 => ?_⟩
        obtain ⟨pv, hpv, hpp⟩ := hp3
        have hpl := Paired.length hpp
        rw [List.length_map] at hpl
        have hp4 := e4 _ _ hpv
        refine ⟨_, rfl, .inl ⟨rfl, _, SqL.of hp4⟩, sz1 (by show 2 ≤ 100000; decide), fun tb htb => ?_⟩
        have e5 : Ex H4 (upd H4 tb (.tup [.int 0, .str "blue"])) := exn htb
        generalize upd H4 tb (.tup [.int 0, .str "blue"]) = H5 at e5 ⊢
        have hp5 := e5 _ _ hp4
        have hpH : H p = none := hp0
        refine ⟨_, _, _, rfl, rfl, hp5, sz2 (by omega), ?_⟩
        have e6 : Ex H (upd H5 p (.lst (pv ++ [.ref tb]))) := ex_mut ((e13.trans e4).trans e5) hpH
        have ht6 : StT (upd H5 p (.lst (pv ++ [.ref tb]))) v t := (ht4.kp (exk e5)).ul hp5
        generalize upd H5 p (.lst (pv ++ [.ref tb])) = H6 at e6 ht6 ⊢
        obtain ⟨ta, _, _, _, rfl, _⟩ := id ht6
        refine ⟨_, rfl, rfl, _, rfl, nT (fun z => nomatch z) ?_⟩
        have ot := reach_ok ok os (endS_reach hend)
        refine ⟨_, rfl, _, n, ropes, t, rfl, ht6, ok, ot, fun H7 e7 => ?_⟩
        rw [hboth]
        exact hq H7 (e6.trans e7)
end
end Tw

namespace Tw
open PySem PySem.Spec PyProof.Rows L2 TM
theorem sc__law_asked : FnScope ["_law_world_here", "_law_state", "_law_standing_here", "_law_due", "_law_turn", "_law_told", "_law_spoilt"] ["_law_world_here", "_law_state"] (defScope s__law_asked) := ⟨rfl, rfl, rfl, by decide +kernel, rfl, by decide +kernel, by decide +kernel⟩
section
variable {P : Program} {w : World} {K : PySem.W.Frag} {mg : Str → Option Value} {base : Heap}

theorem ok__law_asked (T : Txt K mg) (D : Dfn K mg "_law_asked" s__law_asked) (c__law_integer : Cal P w K mg base "_law_integer" 1 ["_law_value"] (sp__law_integer K)) (c__law_is_list : Cal P w K mg base "_law_is_list" 2 ["_law_told", "_law_due"] (sp__law_is_list K)) (c__law_meeting : Cal P w K mg base "_law_meeting" 2 ["_law_world_here", "_law_state"] (sp__law_meeting K)) (c__law_row : Cal P w K mg base "_law_row" 6 ["_law_world_here", "_law_state", "_law_standing_here", "_law_due"] (sp__law_row K)) (c__law_same : Cal P w K mg base "_law_same" 1 ["_law_told", "_law_due"] (sp__law_same K)) (c__law_shows : Cal P w K mg base "_law_shows" 2 ["_law_standing_here", "_law_state"] (sp__law_shows K)) (c__law_standing : Cal P w K mg base "_law_standing" 4 ["_law_world_here", "_law_state"] (sp__law_standing K)) (c_can_meet : Cal P w K mg base "can_meet" 5 ["standing"] (sp_can_meet K)) (c_meeting_way : Cal P w K mg base "meeting_way" 4 ["standing"] (sp_meeting_way K)) :
    Cal P w K mg base "_law_asked" 7 ["_law_world_here", "_law_state"] (sp__law_asked K) := by
  refine D.cal (k := 6) sc__law_asked (fun vs H Q E h => ?_) (fun _ _ _ _ _ _ us hl => match us, hl with | [_, _], _ => rfl) (fun cdv A outer s H vs Q E hr h => ?_)
  · obtain ⟨_, _, _, _, _, _, rfl, _⟩ := h
    rfl
  · obtain ⟨W, sv, n, ropes, s0, s1, rfl, hW, hS, ok, os, hq⟩ := h
    have n24 := ok.n24
    refine ⟨_, (pss_cons (ps_set (i := 2) sc__law_asked.nd rfl (Or.inl rfl) (pe_cal c__law_standing (hr.mono (by decide)) (pa_cons (pv 0) (pa_cons (pv 1) pa_nil))))
      (pss_cons (ps_set (i := 3) sc__law_asked.nd rfl (Or.inl rfl) (pe_cal c__law_meeting (hr.mono (by decide)) (pa_cons (pv 0) (pa_cons (pv 1) pa_nil))))
      (pss_cons (ps_for PassesOwn.never rfl (pi_range1 rfl T.b_range (pa_cons pe_int pa_nil)) (pg_name (i := 4) sc__law_asked.nd rfl (Or.inl rfl)) (pss_cons (ps_if (pt_not (pt_val (pe_cal c__law_same (hr.mono (by decide)) (pa_cons (pe_cal c_can_meet (hr.mono (by decide)) (pa_cons (pv 2) pa_nil)) (pa_cons (pe_cmpR op_notN (pv 3) pe_non (nomark _)) pa_nil))))) (pss_one (ps_ret pe_bl)) pss_nil)
      (pss_cons (ps_set (i := 5) sc__law_asked.nd rfl (Or.inl rfl) (pe_cal c_meeting_way (hr.mono (by decide)) (pa_cons (pv 2) pa_nil)))
      (pss_cons (ps_if (PW.pt (pw_and (pt_cmpR op_isN (pv 3) pe_non (nomark _)) (pw_and1 (pt_cmpR op_notN (pv 5) pe_non (nomark _))))) (pss_one (ps_ret pe_bl)) pss_nil)
      (pss_cons (ps_if (pt_cmpR op_notN (pv 3) pe_non (nomark _)) (pss_cons (ps_if (PW.pt (pw_or (pt_not (pt_val (pe_callB call_isi (by rfl) T.b_isinstance (by decide +kernel) (pa_cons (pv 5) (pa_cons (pe_bltn (v := .ty "tuple") rfl T.b_tuple (by decide +kernel) rfl) pa_nil))))) (pw_or1 (pt_cmpR op_ne (pe_callB call_len_seq (by rfl) T.b_len (by decide +kernel) (pa_cons (pv 5) pa_nil)) pe_int (nomark _))))) (pss_one (ps_ret pe_bl)) pss_nil)
      (pss_cons (ps_if (PW.pt (pw_or (pt_not (pt_val (pe_cal c__law_integer (hr.mono (by decide)) (pa_cons (pe_ix ix_tup (pv 5) pe_int (fun _ _ => rfl)) pa_nil)))) (pw_or (pt_cmpR op_ne (pe_ix ix_tup (pv 5) pe_int (fun _ _ => rfl)) (pe_ix ix_tup (pv 3) pe_int (fun _ _ => rfl)) (nomark _)) (pw_or1 (pt_not (pt_val (pe_cal c__law_is_list (hr.mono (by decide)) (pa_cons (pe_ix ix_tup (pv 5) pe_int (fun _ _ => rfl)) (pa_cons (pe_ix ix_tup (pv 3) pe_int (fun _ _ => rfl)) pa_nil))))))))) (pss_one (ps_ret pe_bl)) pss_nil)
      (pss_cons (ps_set (i := 6) sc__law_asked.nd rfl (Or.inl rfl) (pe_ix ix_tup (pv 5) pe_int (fun _ _ => rfl)))
      (pss_cons (ps_expr (pe_bm PySem.F.plainAttrs_list PySem.F.slot_list_append PySem.F.type_list_append mt_append (pv 6) (pa_cons (pe_un un_neg pe_int) pa_nil)))
      (pss_one (ps_expr (pe_bm0 PySem.F.plainAttrs_list PySem.F.slot_list_reverse PySem.F.type_list_reverse mt_reverse (pv 6)))))))) pss_nil)
      (pss_one (ps_if (pt_not (pt_val (pe_cal c__law_row (hr.mono (by decide)) (pa_cons (pv 0) (pa_cons (pv 1) (pa_cons (pv 2) (pa_cons (pv 3) pa_nil))))))) (pss_one (ps_ret pe_bl)) pss_nil)))))))
      (pss_one (ps_ret (pe_cal c__law_shows (hr.mono (by decide)) (pa_cons (pv 2) (pa_cons (pv 1) pa_nil)))))))), ?_⟩
    refine ⟨_, rfl, _, rfl, W, sv, n, ropes, s0, s1, rfl, hW, hS, ok, os, fun x H1 e1 hX => ?_⟩
    refine ⟨_, rfl, _, rfl, W, sv, n, ropes, s0, s1, rfl, hW.kp (exk e1), hS.kp (exk e1), ok, os, fun due H2 e2 hdue => ?_⟩
    have e12 : Ex H H2 := e1.trans e2
    have hdm := meetV_is hdue
    refine ⟨2, rfl, by decide, by decide, for_range0 (n := 2) (fun i σ H' => ∃ g4 g5 g6, σ = [some (.ref W), some sv, some (.ref x), some due, g4, g5, g6] ∧ Ex H2 H') ⟨_, _, _, rfl, exr H2⟩ ?_ ?_⟩
    · rintro i σ H3 hi ⟨g4, g5, g6, rfl, e3⟩
      have e13 : Ex H1 H3 := e2.trans e3
      refine ⟨_, rfl, x, n, ropes, s1, rfl, hX.kp (exk e13), ok, os, fun b H4 e4 hb => ?_⟩
      have hbe : b = !decide (due = V.non) := by
        rw [hdm]
        refine bool_iff ?_
        rw [hb]
        exact (meet_iff os.lr).symm
      refine ⟨_, rfl, rfl, b, !decide (due = V.non), rfl, _, rfl, ifF (by rw [decide_eq_true hbe]; decide) ?_⟩
      have e24 : Ex H2 H4 := e3.trans e4
      have e14 : Ex H1 H4 := e2.trans e24
      have row : ∀ (H5 : Hp) (g4 g5 g6 : Option V), Ex H2 H5 → (tIfS (tNot (tB (tCall (sp__law_row K) [] E0 (tCons (tVar 0) (tCons (tVar 1) (tCons (tVar 2) (tCons (tVar 3) tNil))))))) (tRet (tC (.bl false))) tNext) { nx := fun σ H' => ∃ g4 g5 g6, σ = [some (.ref W), some sv, some (.ref x), some due, g4, g5, g6] ∧ Ex H2 H', rt := Q } [some (.ref W), some sv, some (.ref x), some due, g4, g5, g6] H5 := by
        intro H5 g4 g5 g6 e5
        have e15 : Ex H H5 := e12.trans e5
        exact ⟨_, rfl, _, rfl, _, rfl, _, rfl, W, sv, x, due, n, ropes, s0, s1, rfl, hW.kp (exk e15), hS.kp (exk e15), hX.kp (exk (e2.trans e5)), ok, os, hdue.ex e5, fun H6 e6 => ⟨_, rfl, ifF (by decide) ⟨_, _, _, rfl, e5.trans e6⟩⟩⟩
      refine ⟨_, rfl, x, n, ropes, s1, rfl, hX.kp (exk e14), ok, os, fun hm H5 e5 => ?_, fun u rs hm p q H5 e5 hq0 hp hql => ?_⟩
      · have hd : due = .non := by
          rw [hm] at hdue
          exact hdue
        have e25 : Ex H2 H5 := e24.trans e5
        refine ⟨_, rfl, rfl, _, rfl, dT hd ⟨_, rfl, rfl, _, rfl, nF rfl ?_⟩⟩
        refine ⟨_, rfl, rfl, _, rfl, nF hd ?_⟩
        exact row H5 _ _ _ e25
      · have hdue5 := hdue.ex (e24.trans e5)
        rw [hm] at hdue5
        obtain ⟨da, dq, hde, hda, hdq⟩ := hdue5
        have hdn : ¬ due = .non := fun z => by
          rw [z] at hde
          cases hde
        have hql0 : H2 q = none := back e24 hq0
        have hlen := meetS_len ok hm
        refine ⟨_, rfl, rfl, _, rfl, dF hdn ?_⟩
        refine ⟨_, rfl, rfl, _, rfl, nT hdn ?_⟩
        refine ⟨_, rfl, _, _, _, _, true, rfl, .ty _, .base (.tup hp), kit_ty (by decide +kernel), _, rfl, ifF (by decide) ⟨_, rfl, _, _, rfl, .inr (SqT.of hp), rfl, _, rfl, nF rfl ?_⟩⟩
        refine ⟨_, rfl, _, _, _, _, rfl, rfl, SqT.of hp, rfl, _, rfl, _, rfl, ifF (by decide) ?_⟩
        refine ⟨_, rfl, _, _, _, _, rfl, rfl, SqT.of hp, rfl, _, rfl, _, _, _, _, hde, rfl, SqT.of hda, rfl, rfl, _, rfl, nF rfl ?_⟩
        refine ⟨_, rfl, _, _, _, _, rfl, rfl, SqT.of hp, rfl, _, rfl, _, _, _, _, hde, rfl, SqT.of hda, rfl, q, dq, rs, rfl, hql, hdq, by omega, fun H6 e6 => ⟨_, rfl, ifF (by decide) ?_⟩⟩
        have hp6 := e6 _ _ hp
        have hq6 := e6 _ _ hql
        refine ⟨_, rfl, _, _, _, _, rfl, rfl, SqT.of hp6, rfl, ?_⟩
        refine ⟨_, rfl, .inl ⟨rfl, _, SqL.of hq6⟩, _, rfl, _, _, _, rfl, rfl, hq6, sz2 (by rw [ns_len]; omega), ?_⟩
        have e7 : Ex H2 (upd H6 q (.lst (Ns rs ++ [V.int (-1)]))) := ex_mut ((e24.trans e5).trans e6) hql0
        have hq7 : upd H6 q (.lst (Ns rs ++ [V.int (-1)])) q = some (.lst (Ns rs ++ [V.int (-1)])) := upd_same
        refine ⟨_, rfl, .inl ⟨rfl, _, SqL.of hq7⟩, _, _, rfl, rfl, hq7, ?_⟩
        exact row _ _ _ _ (ex_mut e7 hql0)
    · rintro σ H3 ⟨g4, g5, g6, rfl, e3⟩
      have e03 : Ex H H3 := e12.trans e3
      exact ⟨_, rfl, _, rfl, x, sv, n, ropes, s1, rfl, hX.kp (exk (e2.trans e3)), hS.kp (exk e03), ok, os, fun H4 e4 => hq H4 (e03.trans e4)⟩
end
end Tw

namespace Tw
open PySem PySem.Spec PyProof.Rows L2 TM
theorem sc_law : FnScope ["_law_script", "_law_world_here", "_law_bag_here", "_law_found", "_law_others", "_law_meets", "_law_there", "_law_k"] ["_law_script"] (defScope s_law) := ⟨rfl, rfl, rfl, by decide +kernel, rfl, by decide +kernel, by decide +kernel⟩
section
variable {P : Program} {w : World} {K : PySem.W.Frag} {mg : Str → Option Value} {base : Heap}
theorem nox_ex {X : Cx} {body : List Stmt} {D : L2.Ends} {σ : L2.St} {H : Hp} (h : ∃ t, PSs X.nox body t ∧ t D σ H) : ∃ t, PSs X body t ∧ t D σ H := by
  obtain ⟨t, h1, h2⟩ := h
  exact ⟨t, h1.nox, h2⟩
theorem ok_law (T : Txt K mg) (D : Dfn K mg "law" s_law) (c__law_asked : Cal P w K mg base "_law_asked" 7 ["_law_world_here", "_law_state"] (sp__law_asked K)) (c__law_bag : Cal P w K mg base "_law_bag" 1 ["_law_script", "_law_k"] (sp__law_bag K)) (c__law_both : Cal P w K mg base "_law_both" 1 ["_law_state"] (sp__law_both K)) (c__law_same : Cal P w K mg base "_law_same" 1 ["_law_told", "_law_due"] (sp__law_same K)) (c__law_search : Cal P w K mg base "_law_search" 3 ["_law_world_here", "_law_state", "_law_most"] (sp__law_search K)) (c__law_standing : Cal P w K mg base "_law_standing" 4 ["_law_world_here", "_law_state"] (sp__law_standing K)) (c__law_take : Cal P w K mg base "_law_take" 1 ["_law_bag_here", "_law_many"] (sp__law_take K)) (c__law_walked : Cal P w K mg base "_law_walked" 3 ["_law_bag_here", "_law_world_here", "_law_state", "_law_many"] (sp__law_walked K)) (c__law_world : Cal P w K mg base "_law_world" 4 ["_law_bag_here"] (sp__law_world K)) (c_can_meet : Cal P w K mg base "can_meet" 5 ["standing"] (sp_can_meet K)) {fd : FuncData} (F : FunD K "law" "law" (defArgs s_law) (defBody s_law) (defScope s_law) [] [] (He.ga K "law") fd) : FnOk P w K mg base CX0 8 (He.ga K "law") fd ["_law_script"] (sp_law K) := by
  refine F.ok (k := 7) sc_law (fun vs H Q E h => ?_) (fun cdv A outer s H vs Q E hr h => nox_ex ?_)
  · obtain ⟨_, _, rfl, _⟩ := h
    rfl
  · obtain ⟨sc, ns, rfl, hsc, h63, hq⟩ := h
    refine ⟨_, (pss_cons (ps_set (i := 1) sc_law.nd rfl (Or.inl rfl) (pe_cal c__law_world (hr.mono (by decide)) (pa_cons (pe_cal c__law_bag (hr.mono (by decide)) (pa_cons (pv 0) (pa_cons pe_int pa_nil))) pa_nil)))
      (pss_cons (ps_set (i := 2) sc_law.nd rfl (Or.inl rfl) (pe_cal c__law_bag (hr.mono (by decide)) (pa_cons (pv 0) (pa_cons pe_int pa_nil))))
      (Evl.pss_cut (ps_set (i := 3) sc_law.nd rfl (Or.inl rfl) (pe_cal c__law_search (hr.mono (by decide)) (pa_cons (pv 1) (pa_cons (pe_ix ix_list (pv 1) pe_int (fun _ _ => rfl)) (pa_cons pe_int pa_nil)))))
      (pss_cons (ps_set (i := 4) sc_law.nd rfl (Or.inl rfl) (pv 3))
      (Evl.pss_cut (ps_if (pt_cmpR op_isN (pv 3) pe_non (nomark _)) (pss_one (ps_set (i := 4) sc_law.nd rfl (Or.inl rfl) (pe_ix ix_list (pe_cal c__law_walked (hr.mono (by decide)) (pa_cons (pv 2) (pa_cons (pv 1) (pa_cons (pe_ix ix_list (pv 1) pe_int (fun _ _ => rfl)) (pa_cons pe_int pa_nil))))) pe_int (fun _ _ => rfl)))) pss_nil)
      (pss_cons (ps_set (i := 5) sc_law.nd rfl (Or.inl rfl) (pe_cal c_can_meet (hr.mono (by decide)) (pa_cons (pe_cal c__law_standing (hr.mono (by decide)) (pa_cons (pv 1) (pa_cons (pe_ix ix_list (pv 1) pe_int (fun _ _ => rfl)) pa_nil))) pa_nil)))
      (pss_cons (ps_if (pt_not (pt_val (pe_callB call_isi (by rfl) T.b_isinstance (by decide +kernel) (pa_cons (pv 5) (pa_cons (pe_bltn (v := .ty "bool") rfl T.b_bool (by decide +kernel) rfl) pa_nil))))) (pss_one (ps_ret pe_bl)) pss_nil)
      (Evl.pss_cut (ps_if (PW.pt (pw_and (pt_cmpR op_notN (pv 3) pe_non (nomark _)) (pw_and1 (pt_cmpR op_ne (pv 5) (pe_cmpR op_gt (pe_callB call_len_seq (by rfl) T.b_len (by decide +kernel) (pa_cons (pe_lc (own := [("_law_there", 6)]) (g := (gName 6)) (tt := (tB (tCall (sp__law_both K) [] E0 (tCons (tVar 6) tNil)))) (te := (tVar 6)) rfl sc_law.nd (pi_list (pv 3)) (blkOk_by (N := ["_law_script", "_law_world_here", "_law_bag_here", "_law_found", "_law_others", "_law_meets", "_law_there", "_law_k"]) (sc := defScope s_law) (by decide +kernel)) (fun _ _ _ _ _ => (pg_name (i := 6) sc_law.nd rfl (Or.inl rfl))) (fun _ _ _ _ _ => pts_one (pt_val (pe_cal c__law_both (hr.mono (by decide)) (pa_cons (pv 6) pa_nil)))) (fun _ _ _ _ _ => (pv 6))) pa_nil)) pe_int (nomark _)) (nomark _))))) (pss_one (ps_ret pe_bl)) pss_nil)
      (pss_cons (ps_for PassesOwn.never rfl (pi_range1 rfl T.b_range (pa_cons pe_int pa_nil)) (pg_name (i := 7) sc_law.nd rfl (Or.inl rfl)) (pss_cons (ps_set (i := 6) sc_law.nd rfl (Or.inl rfl) (pe_ix ix_list (pv 1) pe_int (fun _ _ => rfl)))
      (Evl.pss_cut (ps_if (pt_cmpR op_gt (pv 7) pe_int (nomark _)) (pss_one (ps_set (i := 6) sc_law.nd rfl (Or.inl rfl) (pe_ix ix_list (pv 4) (pe_cal c__law_take (hr.mono (by decide)) (pa_cons (pv 2) (pa_cons (pe_callB call_len_seq (by rfl) T.b_len (by decide +kernel) (pa_cons (pv 4) pa_nil)) pa_nil))) (fun _ _ => rfl)))) pss_nil)
      (pss_cons (ps_if (pt_not (pt_val (pe_cal c__law_same (hr.mono (by decide)) (pa_cons (pe_cal c_can_meet (hr.mono (by decide)) (pa_cons (pe_cal c__law_standing (hr.mono (by decide)) (pa_cons (pv 1) (pa_cons (pv 6) pa_nil))) pa_nil)) (pa_cons (pv 5) pa_nil))))) (pss_one (ps_ret pe_bl)) pss_nil)
      (pss_one (ps_if (pt_not (pt_val (pe_cal c__law_asked (hr.mono (by decide)) (pa_cons (pv 1) (pa_cons (pv 6) pa_nil))))) (pss_one (ps_ret pe_bl)) pss_nil))))))
      (pss_one (ps_ret pe_bl))))))))))), ?_⟩
    refine ⟨_, rfl, sc, ns, 0, rfl, hsc, h63, fun B H1 e1 hB0 hB => ⟨B, rfl, hB, fun W H2 n ropes s0 o2 b2 hW ok os => ?_⟩⟩
    have e02 : Ex H H2 := fun a u h => o2 a u (ne_of_none h hB0) (e1 a u h)
    refine ⟨_, rfl, sc, ns, 1, rfl, Evl.ex_l e02 hsc, h63, fun B2 H3 e3 hB20 hB2 => ?_⟩
    have hW3 : WorldL H3 W n ropes s0 := hW.kp (exk e3)
    have cl : ∀ (ss : List TM.S), s0 ∈ ss → (∀ t ∈ ss, Reach ropes s0 t) → (∀ t ∈ ss, ∀ r, canR ropes t r = true → ride ropes t r ∈ ss) → ((ss.any both = true) ↔ MeetsS ropes s0) := fun ss h0 hr hc => closed_meets ok os h0 hr hc
    refine ⟨fun σ H' => ∃ fnd, σ = [some (.ref sc), some (.ref W), some (.ref B2), some fnd, none, none, none, none] ∧ Ex H3 H' ∧ (fnd = .non ∨ ∃ oa ss, fnd = .ref oa ∧ StatesL H' oa ss ∧ s0 ∈ ss ∧ ss.length ≤ 1000 ∧ (∀ t ∈ ss, Reach ropes s0 t) ∧ (∀ t ∈ ss, ∀ r, canR ropes t r = true → ride ropes t r ∈ ss)), ?_, ?_⟩
    · obtain ⟨rp, sv, hw, hP, hS⟩ := id hW3
      refine ⟨_, rfl, _, rfl, _, _, _, _, rfl, rfl, SqL.of hw, rfl, W, sv, n, ropes, s0, s0, rfl, hW3, hS, ok, os, fun H4 e4 => ?_, fun p H4 ss e4 hp0 hp h0 hl hr hc => ?_⟩
      · exact ⟨.non, rfl, e4, .inl rfl⟩
      · exact ⟨.ref p, rfl, e4, .inr ⟨p, ss, rfl, hp, h0, hl, hr, hc⟩⟩
    rintro _ H4 ⟨fnd, rfl, e4, hf⟩
    have hB4 : Bag H4 B2 := hB2.ex e4
    have hW4 : WorldL H4 W n ropes s0 := hW3.kp (exk e4)
    refine ⟨_, rfl, ?_⟩
    refine ⟨fun σ H' => ∃ oa ss, σ = [some (.ref sc), some (.ref W), some (.ref B2), some fnd, some (.ref oa), none, none, none] ∧ Off B2 H4 H' ∧ Bag H' B2 ∧ StatesL H' oa ss ∧ ss ≠ [] ∧ ss.length ≤ 1000 ∧ (∀ t ∈ ss, Reach ropes s0 t) ∧ (fnd = .non ∨ fnd = .ref oa ∧ s0 ∈ ss ∧ (∀ t ∈ ss, ∀ r, canR ropes t r = true → ride ropes t r ∈ ss)), ?_, ?_⟩
    · obtain ⟨rp, sv, hw, hP, hS⟩ := id hW4
      rcases hf with rfl | ⟨oa, ss, rfl, hss, h0, hl, hr, hc⟩
      · refine ⟨_, rfl, rfl, _, rfl, dT rfl ?_⟩
        refine ⟨_, rfl, _, rfl, _, rfl, _, _, _, _, rfl, rfl, SqL.of hw, rfl, B2, W, sv, n, ropes, s0, s0, rfl, hB4, hW4, hS, ok, os, fun p ra sa H5 ss o5 b5 hp hss hne hl hr => ?_⟩
        exact ⟨_, _, _, _, rfl, rfl, SqL.of hp, rfl, sa, ss, rfl, o5, b5, hss, hne, hl, hr, .inl rfl⟩
      · refine ⟨_, rfl, rfl, _, rfl, dF (fun z => nomatch z) ?_⟩
        exact ⟨oa, ss, rfl, Off.refl _ _, hB4, hss, List.ne_nil_of_mem h0, hl, hr, .inr ⟨rfl, h0, hc⟩⟩
    rintro _ H5 ⟨oa, ss, rfl, o5, b5, hss, hne, hl, hr, hf⟩
    have hW5 : WorldL H5 W n ropes s0 := hW4.kp (o5.kp hB4)
    obtain ⟨rp, sv, hw, hP, hS⟩ := id hW5
    refine ⟨_, rfl, _, rfl, _, _, _, _, rfl, rfl, SqL.of hw, rfl, W, sv, n, ropes, s0, s0, rfl, hW5, hS, ok, os, fun x H6 e6 hx => ⟨x, n, ropes, s0, rfl, hx, ok, os, fun b H7 e7 hb => ?_⟩⟩
    have e57 : Ex H5 H7 := e6.trans e7
    refine ⟨_, rfl, _, _, _, _, true, rfl, .ty _, .base (.bl _), kit_ty (by decide +kernel), _, rfl, ifF (by decide) ?_⟩
    refine ⟨fun σ H' => σ = [some (.ref sc), some (.ref W), some (.ref B2), some fnd, some (.ref oa), some (.bl b), none, none] ∧ Ex H5 H', ?_, ?_⟩
    · rcases hf with rfl | ⟨rfl, h0, hc⟩
      · exact ⟨_, rfl, rfl, _, rfl, nF rfl ⟨rfl, e57⟩⟩
      · obtain ⟨sv7, hsv7, hsp7⟩ := hss.kp (exk e57)
        have hsl := Paired.length hsp7
        refine ⟨_, rfl, rfl, _, rfl, nT (fun z => nomatch z) ?_⟩
        refine ⟨_, rfl, _, rfl, oa, rfl, ⟨_, SqL.of hsv7⟩, fun D hD => ?_⟩
        refine lc_list (K := K) (a := oa) (xs := sv7) (fun i H' => ∃ acc, Ex H7 H' ∧ H' D = some (.lst acc) ∧ acc.length = ((ss.take i).filter both).length) ⟨[], exn hD, upd_same, rfl⟩ (fun i H' _ ⟨_, e, _⟩ => SqL.of (e _ _ hsv7)) ?_ ?_
        · rintro i v H8 hi ⟨acc, e8, hD8, hal⟩
          obtain ⟨t, ht, hvt⟩ := Paired.getL hsp7 hi
          have htm := List.mem_of_getElem? ht
          have hil := lt_of_get ht
          have ot := reach_ok ok os (hr t htm)
          refine ⟨rfl, _, rfl, v, n, ropes, t, rfl, hvt.kp (exk e8), ok, ot, fun H9 e9 => ⟨both t, rfl, ?_⟩⟩
          have hD9 := e9 _ _ hD8
          have hfl : ((ss.take (i + 1)).filter both).length = ((ss.take i).filter both).length + if both t = true then 1 else 0 := by
            rw [take_more ht, List.filter_append, List.length_append]
            congr 1
            by_cases c : both t = true
            · rw [if_pos c, List.filter_cons_of_pos c]
              rfl
            · rw [if_neg c, List.filter_cons_of_neg c]
              rfl
          by_cases c : both t = true
          · rw [if_pos c] at hfl
            refine ifT c ⟨_, rfl, acc, hD9, sz2 ?_, acc ++ [v], ex_mut (e8.trans e9) hD, upd_same, by rw [List.length_append, hfl, hal]; rfl⟩
            have h1 := List.length_filter_le both (ss.take i)
            have h2 : (ss.take i).length ≤ ss.length := by
              rw [List.length_take]
              omega
            omega
          · rw [if_neg c] at hfl
            exact ifF c ⟨acc, e8.trans e9, hD9, by rw [hfl, hal]; rfl⟩
        · rintro H8 ⟨acc, e8, hD8, hal⟩
          rw [List.take_of_length_le (by omega)] at hal
          refine ⟨_, _, rfl, .inl (SqL.of hD8), _, _, rfl, rfl, rfl, _, rfl, nF ?_ ⟨rfl, e57.trans e8⟩⟩
          have hbb : b = decide ((0 : Int) < (acc.length : Int)) := by
            refine bool_iff ?_
            rw [hb, ← cl ss h0 hr hc, List.any_eq_true, decide_eq_true_iff]
            constructor
            · rintro ⟨t, ht, hbt⟩
              have := List.length_pos_of_mem (List.mem_filter.mpr ⟨ht, hbt⟩)
              omega
            · intro hpos
              have hpos2 : 0 < (ss.filter both).length := by omega
              obtain ⟨t, ht⟩ := List.exists_mem_of_length_pos hpos2
              exact ⟨t, (List.mem_filter.mp ht).1, (List.mem_filter.mp ht).2⟩
          rw [hbb]
    rintro _ H8 ⟨rfl, e8⟩
    have b8 := b5.ex e8
    refine ⟨4, rfl, by decide, by decide, for_range0 (n := 4) (fun i σ H' => ∃ g6 g7, σ = [some (.ref sc), some (.ref W), some (.ref B2), some fnd, some (.ref oa), some (.bl b), g6, g7] ∧ Off B2 H5 H' ∧ Bag H' B2) ⟨_, _, rfl, exo e8, b8⟩ ?_ ?_⟩
    · rintro i σ H9 hi ⟨g6, g7, rfl, o9, b9⟩
      have k9 := o9.kp b5
      have hW9 := hW5.kp k9
      obtain ⟨rp9, sv9, hw9, hP9, hS9⟩ := id hW9
      refine ⟨_, rfl, _, _, _, _, rfl, rfl, SqL.of hw9, rfl, ?_⟩
      refine ⟨fun σ H' => ∃ tv t, σ = [some (.ref sc), some (.ref W), some (.ref B2), some fnd, some (.ref oa), some (.bl b), some tv, some (nV i)] ∧ Off B2 H5 H' ∧ Bag H' B2 ∧ StT H' tv t ∧ Reach ropes s0 t, ?_, ?_⟩
      · refine ⟨_, rfl, _, _, rfl, rfl, _, rfl, dI (fun c => ?_) (fun c => ⟨_, s0, rfl, o9, b9, hS9, .refl⟩)⟩
        obtain ⟨sv7, hsv7, hsp7⟩ := hss.kp k9
        have hsl := Paired.length hsp7
        have hpos := List.length_pos_iff.mpr hne
        refine ⟨_, rfl, _, rfl, _, rfl, _, _, rfl, .inl (SqL.of hsv7), B2, sv7.length, rfl, b9, by omega, by omega, fun r HA hrl bA oA => ?_⟩
        obtain ⟨v, hv⟩ := get_of_lt hrl
        obtain ⟨t, ht, hvt⟩ := Paired.getL hsp7 hv
        have kA := oA.kp b9
        have o5A := o9.trans oA
        obtain ⟨svA, hsvA, hspA⟩ := hss.kp (o5A.kp b5)
        have noa : oa ≠ B2 := fun z => by
          obtain ⟨_, _, _, hb2⟩ := id b9
          rw [z, hb2] at hsv7
          cases hsv7
          cases hvt' : ss with
          | nil => exact hne hvt'
          | cons y l =>
            rw [hvt'] at hsp7
            cases hsp7 with
            | cons h _ =>
              obtain ⟨_, _, _, _, q, _⟩ := h
              cases q
        exact ⟨_, _, _, _, rfl, rfl, SqL.of (oA _ _ noa hsv7), atI_nat hv, v, t, rfl, o5A, bA, hvt.kp kA, hr t (List.mem_of_getElem? ht)⟩
      rintro _ HA ⟨tv, t, rfl, oA, bA, htA, hrt⟩
      have ot := reach_ok ok os hrt
      have hWA := hW5.kp (oA.kp b5)
      refine ⟨_, rfl, _, rfl, W, tv, n, ropes, s0, t, rfl, hWA, htA, ok, ot, fun y HB eB hy => ⟨y, n, ropes, t, rfl, hy, ok, ot, fun b' HC eC hb' => ?_⟩⟩
      have hbb : b' = b := bool_iff (by rw [hb', hb]; exact reach_meets ok os hrt)
      have eAC : Ex HA HC := eB.trans eC
      refine ⟨_, rfl, b', b, rfl, _, rfl, ifF (by rw [decide_eq_true hbb]; decide) ?_⟩
      exact ⟨_, rfl, _, rfl, W, tv, n, ropes, s0, t, rfl, hWA.kp (exk eAC), htA.kp (exk eAC), ok, ot, fun HD eD => ⟨_, rfl, ifF (by decide) ⟨_, _, rfl, oA.trans (exo (eAC.trans eD)), (bA.ex eAC).ex eD⟩⟩⟩
    · rintro σ H9 ⟨g6, g7, rfl, o9, b9⟩
      exact hq H9
end
end Tw

namespace Tw
open PySem PySem.Spec PyProof.Rows L2
abbrev R : PySem.W.OpenRow := PySem.W.OpenLaw.row PySem.Challenge.rw_twinrope_k12_whole_meeting_ways
theorem run (w : World) : HandSHeadRun.RunEq R (PySem.W.view R.prog [54]) hk ob 20000 loose w := by
  intro os
  kernel_rfl
end Tw
namespace Tw
open PySem PySem.Spec PyProof.Rows L2
theorem txt_ok {K : PySem.W.Frag} {h : Heap} {mg : Str → Option Value} (X : K.In h) (G : h.Ns mainGlobals mg) (c : He.SaysD fa fn K) (x : ExK K) : Txt K mg where
  x := x
  cN := He.cls_ok (c.fact 56 (f := .cls "Net") rfl)
  cS := He.cls_ok (c.fact 60 (f := .cls "Standing") rfl)
  nNs := He.noat_ok (c.fact 58 (f := .noat "Net" "stations") rfl)
  nNr := He.noat_ok (c.fact 59 (f := .noat "Net" "ropes") rfl)
  nSn := He.noat_ok (c.fact 62 (f := .noat "Standing" "net") rfl)
  nSr := He.noat_ok (c.fact 63 (f := .noat "Standing" "reds") rfl)
  nSb := He.noat_ok (c.fact 64 (f := .noat "Standing" "blues") rfl)
  nSc := He.noat_ok (c.fact 65 (f := .noat "Standing" "cars") rfl)
  gN := (He.glo_ok X G (c.fact 38 (f := .glo "Net") rfl))
  gS := (He.glo_ok X G (c.fact 39 (f := .glo "Standing") rfl))
  gRE := (He.glo_ok X G (c.fact 40 (f := .glo "RopeError") rfl))
  gNM := (He.glo_ok X G (c.fact 41 (f := .glo "NeverMeet") rfl))
  gCM := (He.glo_ok X G (c.fact 42 (f := .glo "CanMeet") rfl))
  eNM := (He.exc_ok (c.fact 68 (f := .exc "NeverMeet") rfl)).1
  kNM := (He.exc_ok (c.fact 68 (f := .exc "NeverMeet") rfl)).2.1
  sNM := (He.exc_ok (c.fact 68 (f := .exc "NeverMeet") rfl)).2.2.1
  tNM := (He.exc_ok (c.fact 68 (f := .exc "NeverMeet") rfl)).2.2.2
  xNM := He.exm_ok (c.fact 69 (f := .exm "NeverMeet" "NeverMeet" true) rfl)
  b_any := (He.free_ok X G (c.fact 43 (f := .free "any") rfl))
  b_enumerate := (He.free_ok X G (c.fact 44 (f := .free "enumerate") rfl))
  b_int := (He.free_ok X G (c.fact 45 (f := .free "int") rfl))
  b_isinstance := (He.free_ok X G (c.fact 46 (f := .free "isinstance") rfl))
  b_len := (He.free_ok X G (c.fact 47 (f := .free "len") rfl))
  b_list := (He.free_ok X G (c.fact 48 (f := .free "list") rfl))
  b_min := (He.free_ok X G (c.fact 49 (f := .free "min") rfl))
  b_range := (He.free_ok X G (c.fact 50 (f := .free "range") rfl))
  b_sum := (He.free_ok X G (c.fact 51 (f := .free "sum") rfl))
  b_tuple := (He.free_ok X G (c.fact 52 (f := .free "tuple") rfl))
  b_bool := (He.free_ok X G (c.fact 53 (f := .free "bool") rfl))
  b_str := (He.free_ok X G (c.fact 54 (f := .free "str") rfl))
  b_ValueError := (He.free_ok X G (c.fact 55 (f := .free "ValueError") rfl))
theorem facts {P : Program} {w : World} {K : PySem.W.Frag} {h : Heap} {mg : Str → Option Value} {f : Addr} (X : K.In h) (G : h.Ns mainGlobals mg) (hfa : mg ("law" : Str) = some (.ref f)) (c : He.SaysD fa fn K) (x : ExK K) :
    ∃ fd : FuncData, (∀ (s : Shared) (v : Value), BindsTo s fd ⟨[v], []⟩ [("_law_script", v)]) ∧ ∀ base : Heap, K.In base → base.Ns mainGlobals mg → FnOk P w K mg base CX0 8 f fd ["_law_script"] (sp_law K) := by
  obtain ⟨fd, F⟩ := (c.def_ 41 (d := d_law) rfl)
  have e := hfa.symm.trans (He.glo_ok X G (c.fact 37 (f := .glo "law") rfl))
  cases e
  have b := FunD.bindsA (ps := ["_law_script"]) F fun _ _ _ _ _ _ us hl => match us, hl with | [_], _ => rfl
  refine ⟨fd, fun s v => b s [v] rfl, fun base _ _ => ?_⟩
  have T : Txt K mg := txt_ok X G c x
  have c__law_integer : Cal P w K mg base "_law_integer" 1 ["_law_value"] (sp__law_integer K) := ok__law_integer T ⟨(c.def_ 17 (d := d__law_integer) rfl), (He.glo_ok X G (c.fact 13 (f := .glo "_law_integer") rfl))⟩ 
  have c__law_is_list : Cal P w K mg base "_law_is_list" 2 ["_law_told", "_law_due"] (sp__law_is_list K) := ok__law_is_list T ⟨(c.def_ 37 (d := d__law_is_list) rfl), (He.glo_ok X G (c.fact 33 (f := .glo "_law_is_list") rfl))⟩ c__law_integer
  have c__law_arrows : Cal P w K mg base "_law_arrows" 1 ["_law_ropes", "_law_cars_here"] (sp__law_arrows K) := ok__law_arrows T ⟨(c.def_ 28 (d := d__law_arrows) rfl), (He.glo_ok X G (c.fact 24 (f := .glo "_law_arrows") rfl))⟩ 
  have c__law_meeting : Cal P w K mg base "_law_meeting" 2 ["_law_world_here", "_law_state"] (sp__law_meeting K) := ok__law_meeting T ⟨(c.def_ 36 (d := d__law_meeting) rfl), (He.glo_ok X G (c.fact 32 (f := .glo "_law_meeting") rfl))⟩ c__law_arrows
  have c__law_are_rides : Cal P w K mg base "_law_are_rides" 2 ["_law_told", "_law_ropes"] (sp__law_are_rides K) := ok__law_are_rides T ⟨(c.def_ 34 (d := d__law_are_rides) rfl), (He.glo_ok X G (c.fact 30 (f := .glo "_law_are_rides") rfl))⟩ c__law_integer
  have c__law_both : Cal P w K mg base "_law_both" 1 ["_law_state"] (sp__law_both K) := ok__law_both T ⟨(c.def_ 33 (d := d__law_both) rfl), (He.glo_ok X G (c.fact 29 (f := .glo "_law_both") rfl))⟩ 
  have c__law_ride : Cal P w K mg base "_law_ride" 1 ["_law_ropes", "_law_state", "_law_ride_here"] (sp__law_ride K) := ok__law_ride T ⟨(c.def_ 30 (d := d__law_ride) rfl), (He.glo_ok X G (c.fact 26 (f := .glo "_law_ride") rfl))⟩ 
  have c__law_rides : Cal P w K mg base "_law_rides" 2 ["_law_ropes", "_law_state"] (sp__law_rides K) := ok__law_rides T ⟨(c.def_ 29 (d := d__law_rides) rfl), (He.glo_ok X G (c.fact 25 (f := .glo "_law_rides") rfl))⟩ c__law_arrows
  have c__law_end : Cal P w K mg base "_law_end" 3 ["_law_ropes", "_law_state", "_law_rides_here"] (sp__law_end K) := ok__law_end T ⟨(c.def_ 35 (d := d__law_end) rfl), (He.glo_ok X G (c.fact 31 (f := .glo "_law_end") rfl))⟩ c__law_ride c__law_rides
  have c__least_ropes : Cal P w K mg base "_least_ropes" 1 ["pairs", "lengths", "starts"] (sp__least_ropes K) := ok__least_ropes T ⟨(c.def_ 5 (d := d__least_ropes) rfl), (He.glo_ok X G (c.fact 5 (f := .glo "_least_ropes") rfl))⟩ 
  have c__lengths_to_blue : Cal P w K mg base "_lengths_to_blue" 1 ["standing", "pairs"] (sp__lengths_to_blue K) := ok__lengths_to_blue T ⟨(c.def_ 4 (d := d__lengths_to_blue) rfl), (He.glo_ok X G (c.fact 4 (f := .glo "_lengths_to_blue") rfl))⟩ 
  have c_check_rope : Cal P w K mg base "check_rope" 1 ["net", "rope"] (sp_check_rope K) := ok_check_rope T ⟨(c.def_ 8 (d := d_check_rope) rfl), (He.glo_ok X G (c.fact 8 (f := .glo "check_rope") rfl))⟩ 
  have c_blue_car : CalM P w K mg base "Standing" "blue_car" 2 ["self", "rope"] (sp_Standing_blue_car K) := ok_Standing_blue_car T ⟨(c.def_ 16 (d := d_Standing_blue_car) rfl)⟩ (He.meth_ok (c.fact 67 (f := .meth "Standing" "blue_car") rfl)) c_check_rope
  have c_red_car : CalM P w K mg base "Standing" "red_car" 2 ["self", "rope"] (sp_Standing_red_car K) := ok_Standing_red_car T ⟨(c.def_ 15 (d := d_Standing_red_car) rfl)⟩ (He.meth_ok (c.fact 66 (f := .meth "Standing" "red_car") rfl)) c_check_rope
  have c_arrows_of : Cal P w K mg base "arrows_of" 3 ["standing"] (sp_arrows_of K) := ok_arrows_of T ⟨(c.def_ 0 (d := d_arrows_of) rfl), (He.glo_ok X G (c.fact 0 (f := .glo "arrows_of") rfl))⟩ c_blue_car c_red_car
  have c_meeting_way : Cal P w K mg base "meeting_way" 4 ["standing"] (sp_meeting_way K) := ok_meeting_way T ⟨(c.def_ 6 (d := d_meeting_way) rfl), (He.glo_ok X G (c.fact 6 (f := .glo "meeting_way") rfl))⟩ c__least_ropes c__lengths_to_blue c_arrows_of
  have c_meet_row : CalX P w K mg base "meet_row" 5 ["standing"] (sp_meet_row K) := ok_meet_row T ⟨(c.def_ 7 (d := d_meet_row) rfl), (He.glo_ok X G (c.fact 7 (f := .glo "meet_row") rfl))⟩ c_meeting_way
  have c__law_row : Cal P w K mg base "_law_row" 6 ["_law_world_here", "_law_state", "_law_standing_here", "_law_due"] (sp__law_row K) := ok__law_row T ⟨(c.def_ 39 (d := d__law_row) rfl), (He.glo_ok X G (c.fact 35 (f := .glo "_law_row") rfl))⟩ c__law_are_rides c__law_both c__law_end c_meet_row
  have c__law_same : Cal P w K mg base "_law_same" 1 ["_law_told", "_law_due"] (sp__law_same K) := ok__law_same T ⟨(c.def_ 38 (d := d__law_same) rfl), (He.glo_ok X G (c.fact 34 (f := .glo "_law_same") rfl))⟩ 
  have c__law_shows : Cal P w K mg base "_law_shows" 2 ["_law_standing_here", "_law_state"] (sp__law_shows K) := ok__law_shows T ⟨(c.def_ 27 (d := d__law_shows) rfl), (He.glo_ok X G (c.fact 23 (f := .glo "_law_shows") rfl))⟩ c__law_integer
  have c__check_size : Cal P w K mg base "_check_size" 1 ["stations", "least"] (sp__check_size K) := ok__check_size T ⟨(c.def_ 11 (d := d__check_size) rfl), (He.glo_ok X G (c.fact 11 (f := .glo "_check_size") rfl))⟩ 
  have c__cut_off : Cal P w K mg base "_cut_off" 1 ["stations", "ropes"] (sp__cut_off K) := ok__cut_off T ⟨(c.def_ 10 (d := d__cut_off) rfl), (He.glo_ok X G (c.fact 10 (f := .glo "_cut_off") rfl))⟩ 
  have c_Net_init : CalI P w K mg base "Net" 2 ["self", "stations", "ropes"] (sp_Net_init K) := ok_Net_init T ⟨(c.def_ 12 (d := d_Net_init) rfl)⟩ (He.mkr_ok (c.fact 57 (f := .mkr "Net") rfl)) (He.glo_ok X G (c.fact 38 (f := .glo "Net") rfl)) c__check_size c__cut_off
  have c__check_guests : Cal P w K mg base "_check_guests" 1 ["net", "part", "guests"] (sp__check_guests K) := ok__check_guests T ⟨(c.def_ 13 (d := d__check_guests) rfl), (He.glo_ok X G (c.fact 12 (f := .glo "_check_guests") rfl))⟩ 
  have c_check_cars : Cal P w K mg base "check_cars" 1 ["net", "cars"] (sp_check_cars K) := ok_check_cars T ⟨(c.def_ 9 (d := d_check_cars) rfl), (He.glo_ok X G (c.fact 9 (f := .glo "check_cars") rfl))⟩ 
  have c_Standing_init : CalI P w K mg base "Standing" 2 ["self", "net", "reds", "blues", "cars"] (sp_Standing_init K) := ok_Standing_init T ⟨(c.def_ 14 (d := d_Standing_init) rfl)⟩ (He.mkr_ok (c.fact 61 (f := .mkr "Standing") rfl)) (He.glo_ok X G (c.fact 39 (f := .glo "Standing") rfl)) c__check_guests c_check_cars
  have c__law_standing : Cal P w K mg base "_law_standing" 4 ["_law_world_here", "_law_state"] (sp__law_standing K) := ok__law_standing T ⟨(c.def_ 26 (d := d__law_standing) rfl), (He.glo_ok X G (c.fact 22 (f := .glo "_law_standing") rfl))⟩ c_Net_init c_Standing_init
  have c_reached_from : Cal P w K mg base "reached_from" 1 ["pairs", "stations", "starts"] (sp_reached_from K) := ok_reached_from T ⟨(c.def_ 1 (d := d_reached_from) rfl), (He.glo_ok X G (c.fact 1 (f := .glo "reached_from") rfl))⟩ 
  have c_red_reach : Cal P w K mg base "red_reach" 4 ["standing"] (sp_red_reach K) := ok_red_reach T ⟨(c.def_ 2 (d := d_red_reach) rfl), (He.glo_ok X G (c.fact 2 (f := .glo "red_reach") rfl))⟩ c_arrows_of c_reached_from
  have c_can_meet : Cal P w K mg base "can_meet" 5 ["standing"] (sp_can_meet K) := ok_can_meet T ⟨(c.def_ 3 (d := d_can_meet) rfl), (He.glo_ok X G (c.fact 3 (f := .glo "can_meet") rfl))⟩ c_red_reach
  have c__law_asked : Cal P w K mg base "_law_asked" 7 ["_law_world_here", "_law_state"] (sp__law_asked K) := ok__law_asked T ⟨(c.def_ 40 (d := d__law_asked) rfl), (He.glo_ok X G (c.fact 36 (f := .glo "_law_asked") rfl))⟩ c__law_integer c__law_is_list c__law_meeting c__law_row c__law_same c__law_shows c__law_standing c_can_meet c_meeting_way
  have c__law_bag : Cal P w K mg base "_law_bag" 1 ["_law_script", "_law_k"] (sp__law_bag K) := ok__law_bag T ⟨(c.def_ 18 (d := d__law_bag) rfl), (He.glo_ok X G (c.fact 14 (f := .glo "_law_bag") rfl))⟩ 
  have c__law_search : Cal P w K mg base "_law_search" 3 ["_law_world_here", "_law_state", "_law_most"] (sp__law_search K) := ok__law_search T ⟨(c.def_ 32 (d := d__law_search) rfl), (He.glo_ok X G (c.fact 28 (f := .glo "_law_search") rfl))⟩ c__law_ride c__law_rides
  have c__law_take : Cal P w K mg base "_law_take" 1 ["_law_bag_here", "_law_many"] (sp__law_take K) := ok__law_take T ⟨(c.def_ 19 (d := d__law_take) rfl), (He.glo_ok X G (c.fact 15 (f := .glo "_law_take") rfl))⟩ 
  have c__law_walked : Cal P w K mg base "_law_walked" 3 ["_law_bag_here", "_law_world_here", "_law_state", "_law_many"] (sp__law_walked K) := ok__law_walked T ⟨(c.def_ 31 (d := d__law_walked) rfl), (He.glo_ok X G (c.fact 27 (f := .glo "_law_walked") rfl))⟩ c__law_ride c__law_rides c__law_take
  have c__law_cars : Cal P w K mg base "_law_cars" 2 ["_law_bag_here", "_law_ropes", "_law_ahead", "_law_counts"] (sp__law_cars K) := ok__law_cars T ⟨(c.def_ 24 (d := d__law_cars) rfl), (He.glo_ok X G (c.fact 20 (f := .glo "_law_cars") rfl))⟩ c__law_take
  have c__law_guests : Cal P w K mg base "_law_guests" 2 ["_law_bag_here", "_law_order_here", "_law_most"] (sp__law_guests K) := ok__law_guests T ⟨(c.def_ 23 (d := d__law_guests) rfl), (He.glo_ok X G (c.fact 19 (f := .glo "_law_guests") rfl))⟩ c__law_take
  have c__law_add_rope : Cal P w K mg base "_law_add_rope" 2 ["_law_bag_here", "_law_net_here", "_law_near", "_law_far"] (sp__law_add_rope K) := ok__law_add_rope T ⟨(c.def_ 21 (d := d__law_add_rope) rfl), (He.glo_ok X G (c.fact 17 (f := .glo "_law_add_rope") rfl))⟩ c__law_take
  have c__law_order : Cal P w K mg base "_law_order" 2 ["_law_bag_here", "_law_many"] (sp__law_order K) := ok__law_order T ⟨(c.def_ 20 (d := d__law_order) rfl), (He.glo_ok X G (c.fact 16 (f := .glo "_law_order") rfl))⟩ c__law_take
  have c__law_net : Cal P w K mg base "_law_net" 3 ["_law_bag_here", "_law_stations", "_law_further"] (sp__law_net K) := ok__law_net T ⟨(c.def_ 22 (d := d__law_net) rfl), (He.glo_ok X G (c.fact 18 (f := .glo "_law_net") rfl))⟩ c__law_add_rope c__law_order c__law_take
  have c__law_world : Cal P w K mg base "_law_world" 4 ["_law_bag_here"] (sp__law_world K) := ok__law_world T ⟨(c.def_ 25 (d := d__law_world) rfl), (He.glo_ok X G (c.fact 21 (f := .glo "_law_world") rfl))⟩ c__law_cars c__law_guests c__law_net c__law_take
  exact ok_law T ⟨(c.def_ 41 (d := d_law) rfl), (He.glo_ok X G (c.fact 37 (f := .glo "law") rfl))⟩ c__law_asked c__law_bag c__law_both c__law_same c__law_search c__law_standing c__law_take c__law_walked c__law_world c_can_meet F
end Tw
open PySem PySem.W PySem.Calls PyProof.Rows
set_option maxHeartbeats 0
theorem PySem.Challenge.cw_twinrope_k12_whole_meeting_ways_holds : PySem.Challenge.rw_twinrope_k12_whole_meeting_ways.Holds := by
  w_on; o_law
  refine HandSHeadRun.head_any (r := OpenLaw.row PySem.Challenge.rw_twinrope_k12_whole_meeting_ways) (q := view (OpenLaw.row PySem.Challenge.rw_twinrope_k12_whole_meeting_ways).prog [54]) (H := Tw.hk) (ob := Tw.ob) (M := 20000) (loose := Tw.loose) (d := HandSHeadRun.topDef (OpenLaw.row PySem.Challenge.rw_twinrope_k12_whole_meeting_ways).prog 54) (kwd := []) Tw.ob_eq
    (by kernel_rfl) (fun s => by kernel_rfl) Tw.run (by kernel_rfl) (by kernel_rfl) (by kernel_rfl) (by rfl) (by first | assumption | decide +kernel) (by decide +kernel) ⟨rfl, rfl, rfl, rfl, rfl, by decide +kernel⟩ ?hw ?hc
  case hw => w_witness2
  case hc =>
    refine L2.walk_ofE (l := PySem.Challenge.rw_twinrope_k12_whole_meeting_ways) (n := 63) (k := 8) (x := "_law_script") (CX := L2.CX0) rfl (by decide) (by kernel_rfl) ⟨rfl, by decide, by decide⟩ ?F (fun _ _ _ _ z => z)
    intro w mg fa h Y G hmg0
    obtain ⟨K, KX, c, ex⟩ := Y
    have hmg : mg ("law" : PySem.Str) = some (.ref fa) := by
      have e : (HandSHeadRun.topDef (OpenLaw.row PySem.Challenge.rw_twinrope_k12_whole_meeting_ways).prog 54).name = ("law" : PySem.Str) := by kernel_rfl
      rw [← e]
      exact hmg0
    obtain ⟨fd, hb, hF⟩ := Tw.facts (P := (PySem.Challenge.rw_twinrope_k12_whole_meeting_ways).prog) (w := w) KX G hmg c ex
    exact ⟨K, fd, Tw.sp_law K, KX, hb, fun H a ns hl hn hS => ⟨a, ns, rfl, hS, hl, fun _ => rfl⟩, hF⟩
