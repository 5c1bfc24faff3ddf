import PyProof.Rows.All
import Wide.All
import OpenK.AllK
import Wide.FinOn
import KE.KStateDown
import Lean
import HandS.ForMost
import HandS.Defaults
import HandS.Codes
import HandS.IsInst
import HandS.OwnEq
import HandS.Star
import HandS.TupAny
import HandS.Wide
import HandS.WideBits
import HandS.EndBits
import HandS.Evl
import HandS.Flow
import HandS.Head0
import HandS.Head1
import HandS.Head2
import HandS.HeadEnd
import HandS.HeadHook1
import HandS.HeadHook2
import HandS.HeadHook3
import HandS.HeadHook4
import PySem.Challenge.RW_needforth_k24_whole_needs_on_courses
import HandS.Iter
/-! The plain law: what the program reckons, as plain functions over lists; no program in sight. -/
set_option Elab.async false
set_option maxHeartbeats 4000000
namespace K24

/-- a deed: a give, or a piece taken at an inlet -/
inductive Dd where
  | give
  | take (i : Int)
  deriving DecidableEq

def step (i : Int) (s : List Int × Int) (d : Dd) : List Int × Int := match d with
  | .give => (s.1 ++ [s.2], s.2)
  | .take j => (s.1, if j = i then s.2 + 1 else s.2)
def ahead (i : Int) (ds : List Dd) : List Int × Int := ds.foldl (step i) ([], 0)

theorem fold_take {α β : Type} (f : β → α → β) (b : β) {l : List α} {i : Nat} {x : α} (h : l[i]? = some x) : (l.take (i + 1)).foldl f b = f ((l.take i).foldl f b) x := by
  rw [List.take_add_one, h]
  simp [List.foldl_append]

theorem fold_step (i : Int) : ∀ (ds : List Dd) (t : List Int) (k : Int), ds.foldl (step i) (t, k) = (t ++ (ahead i ds).1.map (k + ·), k + (ahead i ds).2)
  | [], t, k => by simp [ahead]
  | d :: r, t, k => by
    have e1 : ahead i (d :: r) = r.foldl (step i) (step i ([], 0) d) := rfl
    rw [e1]
    show r.foldl (step i) (step i (t, k) d) = _
    cases d with
    | give =>
      have a1 : step i (t, k) Dd.give = (t ++ [k], k) := rfl
      have a2 : step i (([] : List Int), (0 : Int)) Dd.give = ([0], 0) := rfl
      rw [a1, a2, fold_step i r (t ++ [k]) k, fold_step i r [0] 0]
      simp
    | take j =>
      have a1 : step i (t, k) (Dd.take j) = (t, if j = i then k + 1 else k) := rfl
      have a2 : step i (([] : List Int), (0 : Int)) (Dd.take j) = ([], if j = i then 0 + 1 else 0) := rfl
      rw [a1, a2, fold_step i r t _, fold_step i r [] _]
      by_cases h : j = i
      · rw [if_pos h, if_pos h]
        simp only [List.nil_append, List.map_map]
        refine Prod.ext ?_ ?_
        · show t ++ _ = t ++ _
          congr 1
          refine List.map_congr_left fun x _ => ?_
          show k + 1 + x = k + (0 + 1 + x)
          omega
        · show k + 1 + _ = k + (0 + 1 + _)
          omega
      · rw [if_neg h, if_neg h]
        simp only [List.nil_append, List.map_map]
        refine Prod.ext ?_ ?_
        · show t ++ _ = t ++ _
          congr 1
          refine List.map_congr_left fun x _ => ?_
          show k + x = k + (0 + x)
          omega
        · show k + _ = k + (0 + _)
          omega
theorem ahead_app (i : Int) (a b : List Dd) : ahead i (a ++ b) = ((ahead i a).1 ++ (ahead i b).1.map ((ahead i a).2 + ·), (ahead i a).2 + (ahead i b).2) := by
  show (a ++ b).foldl (step i) ([], 0) = _
  rw [List.foldl_append]
  show b.foldl (step i) (ahead i a) = _
  have e := fold_step i b (ahead i a).1 (ahead i a).2
  exact e
theorem ahead_nil (i : Int) : ahead i [] = ([], 0) := rfl
theorem ahead_one (i : Int) (d : Dd) : ahead i [d] = (match d with | .give => ([0], 0) | .take j => ([], if j = i then 1 else 0)) := by
  cases d with
  | give => rfl
  | take j =>
    show (([] : List Int), if j = i then (0 : Int) + 1 else 0) = _
    rfl
theorem ahead_give (i : Int) (r : List Dd) : ahead i (.give :: r) = (0 :: (ahead i r).1, (ahead i r).2) := by
  have e := ahead_app i [.give] r
  rw [ahead_one] at e
  have e2 : ahead i (Dd.give :: r) = ahead i ([Dd.give] ++ r) := rfl
  rw [e2, e]
  simp
theorem ahead_take (i j : Int) (r : List Dd) : ahead i (.take j :: r) = ((ahead i r).1.map ((if j = i then 1 else 0) + ·), (if j = i then 1 else 0) + (ahead i r).2) := by
  have e := ahead_app i [.take j] r
  rw [ahead_one] at e
  have e2 : ahead i (Dd.take j :: r) = ahead i ([Dd.take j] ++ r) := rfl
  rw [e2, e]
  simp
theorem ahead_bounds (i : Int) : ∀ ds : List Dd, (∀ x ∈ (ahead i ds).1, 0 ≤ x ∧ x ≤ (ahead i ds).2) ∧ 0 ≤ (ahead i ds).2 ∧ (ahead i ds).2 ≤ (ds.length : Int) ∧ (ahead i ds).1.length ≤ ds.length ∧ (ahead i ds).1.Pairwise (· ≤ ·)
  | [] => ⟨fun x h => by simp [ahead] at h, by simp [ahead], by simp [ahead], by simp [ahead], by simp [ahead]⟩
  | .give :: r => by
    obtain ⟨h1, h2, h3, h4, h5⟩ := ahead_bounds i r
    rw [ahead_give]
    refine ⟨fun x h => ?_, h2, by simp only [List.length_cons]; omega, by simp only [List.length_cons]; omega, ?_⟩
    · rcases List.mem_cons.mp h with rfl | h
      · exact ⟨Int.le_refl _, h2⟩
      · exact h1 x h
    · exact List.pairwise_cons.mpr ⟨fun x h => (h1 x h).1, h5⟩
  | .take j :: r => by
    obtain ⟨h1, h2, h3, h4, h5⟩ := ahead_bounds i r
    rw [ahead_take]
    have hc : (0 : Int) ≤ (if j = i then 1 else 0) ∧ (if j = i then (1 : Int) else 0) ≤ 1 := by split <;> decide
    generalize (if j = i then (1 : Int) else 0) = c at hc
    refine ⟨fun x h => ?_, ?_, ?_, ?_, ?_⟩
    · obtain ⟨y, hy, rfl⟩ := List.mem_map.mp h
      have := h1 y hy
      show 0 ≤ c + y ∧ c + y ≤ c + _
      omega
    · show 0 ≤ c + _
      omega
    · show c + _ ≤ _
      simp only [List.length_cons]
      omega
    · simp only [List.length_map, List.length_cons]
      omega
    · refine List.pairwise_map.mpr (h5.imp fun {a b} h => ?_)
      show c + a ≤ c + b
      omega
theorem ahead_empty (i : Int) : ∀ ds : List Dd, (ahead i ds).1 = [] ↔ Dd.give ∉ ds
  | [] => by simp [ahead]
  | .give :: r => by simp [ahead_give]
  | .take j :: r => by
    have h := ahead_empty i r
    rw [ahead_take]
    simp [h]

/-! ### the row of a head, a loop and a rise -/
abbrev Raw := List Int × List Int × Int
def rowV (head loop : List Int) (rise : Int) (i : Nat) : Int := if i < head.length then head.getD i 0 else loop.getD ((i - head.length) % loop.length) 0 + rise * (((i - head.length) / loop.length : Nat) : Int)
def rowAt (r : Raw) (i : Nat) : Option Int := if i < r.1.length then some (r.1.getD i 0) else if r.2.1 = [] then none else some (rowV r.1 r.2.1 r.2.2 i)
theorem rowAt_of {head loop : List Int} {rise : Int} {i : Nat} (h : loop ≠ []) : rowAt (head, loop, rise) i = some (rowV head loop rise i) := by
  unfold rowAt rowV
  by_cases hi : i < head.length
  · simp [hi]
  · simp [hi, h, rowV]

/-! ### the shortest loop -/
def cnd (loop : List Int) (rise : Int) (m : Nat) : Bool :=
  decide (loop.length % m = 0) && (decide (rise % ((loop.length / m : Nat) : Int) = 0) && (List.range (loop.length - m)).all fun k => decide (loop.getD (k + m) 0 = loop.getD k 0 + rise / ((loop.length / m : Nat) : Int)))
def szL (c : Nat → Bool) : Nat → Nat → Nat
  | 0, s => s
  | m + 1, s => szL c m (if c (m + 1) = true then m + 1 else s)
theorem szL_none (c : Nat → Bool) : ∀ (m s : Nat), (∀ j, 1 ≤ j → j ≤ m → c j = false) → szL c m s = s
  | 0, s, _ => rfl
  | m + 1, s, h => by
    unfold szL
    rw [if_neg (by rw [h (m + 1) (by omega) (Nat.le_refl _)]; decide)]
    exact szL_none c m s fun j h1 h2 => h j h1 (by omega)
theorem szL_first (c : Nat → Bool) : ∀ (m s j : Nat), 1 ≤ j → j ≤ m → c j = true → (∀ i, 1 ≤ i → i < j → c i = false) → szL c m s = j
  | 0, s, j, h1, h2, _, _ => absurd h2 (by omega)
  | m + 1, s, j, h1, h2, h3, h4 => by
    unfold szL
    by_cases e : j = m + 1
    · subst e
      rw [if_pos h3]
      exact szL_none c m _ fun i a b => h4 i a (by omega)
    · exact szL_first c m _ j h1 (by omega) h3 h4
theorem szL_good (c : Nat → Bool) : ∀ (m s : Nat), (c s = true ∧ 1 ≤ s) → c (szL c m s) = true ∧ 1 ≤ szL c m s ∧ szL c m s ≤ max m s
  | 0, s, h => ⟨h.1, h.2, by show s ≤ max 0 s; omega⟩
  | m + 1, s, h => by
    unfold szL
    by_cases e : c (m + 1) = true
    · rw [if_pos e]
      have := szL_good c m (m + 1) ⟨e, by omega⟩
      exact ⟨this.1, this.2.1, by have := this.2.2; omega⟩
    · rw [if_neg e]
      have := szL_good c m s h
      exact ⟨this.1, this.2.1, by have := this.2.2; omega⟩
theorem cnd_whole (loop : List Int) (rise : Int) (h : loop ≠ []) : cnd loop rise loop.length = true := by
  have hl : 0 < loop.length := List.length_pos_iff.mpr h
  unfold cnd
  rw [Nat.mod_self, Nat.div_self hl, Nat.sub_self]
  simp
def pSize (loop : List Int) (rise : Int) : Nat := szL (cnd loop rise) loop.length loop.length
def pStep (loop : List Int) (rise : Int) : Int := rise / ((loop.length / pSize loop rise : Nat) : Int)
theorem pSize_good {loop : List Int} {rise : Int} (h : loop ≠ []) : cnd loop rise (pSize loop rise) = true ∧ 1 ≤ pSize loop rise ∧ pSize loop rise ≤ loop.length := by
  have hl : 0 < loop.length := List.length_pos_iff.mpr h
  have := szL_good (cnd loop rise) loop.length loop.length ⟨cnd_whole loop rise h, hl⟩
  exact ⟨this.1, this.2.1, by have := this.2.2; unfold pSize; omega⟩
theorem cnd_parts {loop : List Int} {rise : Int} {m : Nat} (h : cnd loop rise m = true) :
    loop.length % m = 0 ∧ rise % ((loop.length / m : Nat) : Int) = 0 ∧ ∀ k, k < loop.length - m → loop.getD (k + m) 0 = loop.getD k 0 + rise / ((loop.length / m : Nat) : Int) := by
  unfold cnd at h
  simp only [Bool.and_eq_true, decide_eq_true_eq, List.all_eq_true, List.mem_range] at h
  exact ⟨h.1, h.2.1, h.2.2⟩
/-- item by item along the short loop -/
theorem loop_short {loop : List Int} {p : Nat} {st : Int} (hp : 1 ≤ p) (h : ∀ k, k < loop.length - p → loop.getD (k + p) 0 = loop.getD k 0 + st) :
    ∀ (k : Nat), k < loop.length → loop.getD k 0 = loop.getD (k % p) 0 + st * ((k / p : Nat) : Int) := by
  intro k
  induction k using Nat.strongRecOn with
  | ind k ih =>
    intro hk
    by_cases hlt : k < p
    · rw [Nat.mod_eq_of_lt hlt, Nat.div_eq_of_lt hlt]
      simp
    · have hge : p ≤ k := Nat.le_of_not_lt hlt
      have e1 := h (k - p) (by omega)
      rw [Nat.sub_add_cancel hge] at e1
      rw [e1, ih (k - p) (by omega) (by omega)]
      have m1 : k % p = (k - p) % p := Nat.mod_eq_sub_mod hge
      have d1 : k / p = (k - p) / p + 1 := Nat.div_eq_sub_div (by omega) hge
      rw [m1, d1]
      have c1 : (((k - p) / p + 1 : Nat) : Int) = (((k - p) / p : Nat) : Int) + 1 := by omega
      rw [c1, Int.mul_add, Int.mul_one]
      omega
theorem getD_take {α : Type} (l : List α) (d : α) {i n : Nat} (h : i < n) : (l.take n).getD i d = l.getD i d := by
  rw [List.getD_eq_getElem?_getD, List.getD_eq_getElem?_getD, List.getElem?_take_of_lt h]
theorem getD_drop {α : Type} (l : List α) (d : α) (i n : Nat) : (l.drop n).getD i d = l.getD (n + i) d := by
  rw [List.getD_eq_getElem?_getD, List.getD_eq_getElem?_getD, List.getElem?_drop]
theorem short_ok {head loop : List Int} {rise : Int} (hne : loop ≠ []) (i : Nat) : rowV head loop rise i = rowV head (loop.take (pSize loop rise)) (pStep loop rise) i := by
  obtain ⟨g1, hp, hle⟩ := pSize_good (rise := rise) hne
  obtain ⟨c1, c2, c3⟩ := cnd_parts g1
  have hs : rise / ((loop.length / pSize loop rise : Nat) : Int) = pStep loop rise := rfl
  rw [hs] at c3
  generalize pStep loop rise = st at *
  generalize pSize loop rise = p at *
  have hlen : (loop.take p).length = p := by rw [List.length_take]; omega
  unfold rowV
  by_cases hi : i < head.length
  · rw [if_pos hi, if_pos hi]
  · rw [if_neg hi, if_neg hi, hlen]
    generalize i - head.length = r
    have hl : 0 < loop.length := List.length_pos_iff.mpr hne
    have hr : r % loop.length < loop.length := Nat.mod_lt _ hl
    rw [loop_short hp c3 _ hr, getD_take _ _ (Nat.mod_lt _ hp)]
    have hd : p ∣ loop.length := Nat.dvd_of_mod_eq_zero c1
    have hq : loop.length = p * (loop.length / p) := (Nat.mul_div_cancel' hd).symm
    have m1 : r % loop.length % p = r % p := Nat.mod_mod_of_dvd r hd
    have hrise : rise = ((loop.length / p : Nat) : Int) * st := by
      have := Int.mul_ediv_add_emod rise ((loop.length / p : Nat) : Int)
      rw [c2, hs] at this
      omega
    have d1 : r / p = r % loop.length / p + (loop.length / p) * (r / loop.length) := by
      have e0 := Nat.div_add_mod r loop.length
      have e1 : r = p * ((loop.length / p) * (r / loop.length)) + r % loop.length := by
        rw [← Nat.mul_assoc, ← hq]
        exact e0.symm
      have e2 : r / p = (p * ((loop.length / p) * (r / loop.length)) + r % loop.length) / p := congrArg (· / p) e1
      rw [e2, Nat.mul_add_div (by omega)]
      omega
    rw [m1, d1, hrise]
    have c4 : ((r % loop.length / p + (loop.length / p) * (r / loop.length) : Nat) : Int) = ((r % loop.length / p : Nat) : Int) + ((loop.length / p : Nat) : Int) * ((r / loop.length : Nat) : Int) := by
      rw [Int.natCast_add, Int.natCast_mul]
    rw [c4, Int.mul_add, ← Int.mul_assoc, Int.mul_comm ((loop.length / p : Nat) : Int) st]
    omega

/-! ### the shortest head -/
def mt (row : List Int) (p : Nat) (st : Int) (k : Nat) : Bool := decide (row.getD (k - 1) 0 = row.getD (k - 1 + p) 0 - st)
def keepL (m : Nat → Bool) : Nat → Nat
  | 0 => 0
  | k + 1 => if m (k + 1) = true then keepL m k else k + 1
theorem keepL_le (m : Nat → Bool) : ∀ k, keepL m k ≤ k
  | 0 => Nat.le_refl _
  | k + 1 => by
    unfold keepL
    split
    · exact Nat.le_succ_of_le (keepL_le m k)
    · exact Nat.le_refl _
theorem keepL_all (m : Nat → Bool) : ∀ k j, keepL m k < j → j ≤ k → m j = true
  | 0, j, h1, h2 => absurd h1 (by omega)
  | k + 1, j, h1, h2 => by
    unfold keepL at h1
    split at h1
    · rename_i h
      by_cases e : j = k + 1
      · rw [e]; exact h
      · exact keepL_all m k j h1 (by omega)
    · omega
theorem keepL_step {m : Nat → Bool} {k : Nat} (h : m (k + 1) = true) : keepL m (k + 1) = keepL m k := by
  show (if m (k + 1) = true then keepL m k else k + 1) = _
  rw [if_pos h]
theorem keepL_stop {m : Nat → Bool} {k : Nat} (h : m (k + 1) = false) : keepL m (k + 1) = k + 1 := by
  show (if m (k + 1) = true then keepL m k else k + 1) = _
  rw [if_neg (by rw [h]; decide)]
def pRow (head loop : List Int) (rise : Int) : List Int := head ++ loop.take (pSize loop rise)
def pKeep (head loop : List Int) (rise : Int) : Nat := keepL (mt (pRow head loop rise) (pSize loop rise) (pStep loop rise)) head.length
/-- the plain form -/
def plainF (head loop : List Int) (rise : Int) : Raw :=
  if loop = [] then (head, [], 0) else
    ((pRow head loop rise).take (pKeep head loop rise), ((pRow head loop rise).drop (pKeep head loop rise)).take (pSize loop rise), pStep loop rise)
theorem row_is {head lp : List Int} {st : Int} {i : Nat} (h : i < head.length + lp.length) : (head ++ lp).getD i 0 = rowV head lp st i := by
  unfold rowV
  rw [List.getD_eq_getElem?_getD]
  by_cases hi : i < head.length
  · rw [if_pos hi, List.getElem?_append_left hi, List.getD_eq_getElem?_getD]
  · rw [if_neg hi, List.getElem?_append_right (by omega), Nat.mod_eq_of_lt (by omega), Nat.div_eq_of_lt (by omega), List.getD_eq_getElem?_getD]
    simp
theorem cut_ok {head lp : List Int} {st : Int} {k : Nat} (hne : lp ≠ []) (hk : k ≤ head.length)
    (h : ∀ j, k < j → j ≤ head.length → (head ++ lp).getD (j - 1) 0 = (head ++ lp).getD (j - 1 + lp.length) 0 - st) (i : Nat) :
    rowV head lp st i = rowV ((head ++ lp).take k) (((head ++ lp).drop k).take lp.length) st i := by
  have hp : 0 < lp.length := List.length_pos_iff.mpr hne
  have step1 : ∀ i, k ≤ i → rowV head lp st (i + lp.length) = rowV head lp st i + st := by
    intro i hi
    by_cases hlt : i < head.length
    · have e := h (i + 1) (by omega) (by omega)
      rw [Nat.add_sub_cancel] at e
      rw [row_is (st := st) (by omega), row_is (st := st) (by omega)] at e
      omega
    · unfold rowV
      rw [if_neg (by omega), if_neg hlt]
      have e : i + lp.length - head.length = (i - head.length) + lp.length := by omega
      rw [e, Nat.add_mod_right, Nat.add_div_right _ hp]
      have c1 : (((i - head.length) / lp.length).succ : Int) = (((i - head.length) / lp.length : Nat) : Int) + 1 := by omega
      rw [c1, Int.mul_add, Int.mul_one]
      omega
  have stepn : ∀ (n i : Nat), k ≤ i → rowV head lp st (i + n * lp.length) = rowV head lp st i + st * (n : Int) := by
    intro n
    induction n with
    | zero => intro i _; simp
    | succ n ih =>
      intro i hi
      have e : i + (n + 1) * lp.length = (i + n * lp.length) + lp.length := by rw [Nat.add_mul]; omega
      rw [e, step1 _ (by omega), ih i hi]
      have c1 : ((n + 1 : Nat) : Int) = (n : Int) + 1 := by omega
      rw [c1, Int.mul_add, Int.mul_one]
      omega
  have l1 : ((head ++ lp).take k).length = k := by rw [List.length_take, List.length_append]; omega
  have l2 : (((head ++ lp).drop k).take lp.length).length = lp.length := by rw [List.length_take, List.length_drop, List.length_append]; omega
  by_cases hi : i < k
  · have e : rowV ((head ++ lp).take k) (((head ++ lp).drop k).take lp.length) st i = ((head ++ lp).take k).getD i 0 := by
      unfold rowV
      rw [if_pos (by rw [l1]; exact hi)]
    rw [e, getD_take _ _ hi, row_is (st := st) (by omega)]
  · have e : rowV ((head ++ lp).take k) (((head ++ lp).drop k).take lp.length) st i = (((head ++ lp).drop k).take lp.length).getD ((i - k) % lp.length) 0 + st * (((i - k) / lp.length : Nat) : Int) := by
      unfold rowV
      rw [if_neg (by rw [l1]; exact hi), l1, l2]
    have hm := Nat.mod_lt (i - k) hp
    rw [e, getD_take _ _ hm, getD_drop, row_is (st := st) (by omega), ← stepn _ _ (by omega)]
    have e2 : k + (i - k) % lp.length + (i - k) / lp.length * lp.length = i := by
      have := Nat.div_add_mod (i - k) lp.length
      rw [Nat.mul_comm] at this
      omega
    rw [e2]
theorem pRow_len {head loop : List Int} {rise : Int} (h : loop ≠ []) : (pRow head loop rise).length = head.length + pSize loop rise := by
  have := (pSize_good (rise := rise) h).2.2
  unfold pRow
  rw [List.length_append, List.length_take]
  omega
theorem pKeep_le (head loop : List Int) (rise : Int) : pKeep head loop rise ≤ head.length := keepL_le _ _
/-- the plain form tells the same values -/
theorem plain_at (head loop : List Int) (rise : Int) (i : Nat) : rowAt (plainF head loop rise) i = rowAt (head, loop, rise) i := by
  unfold plainF
  by_cases h : loop = []
  · rw [if_pos h]
    unfold rowAt
    simp [h]
  · rw [if_neg h, rowAt_of h]
    have g := pSize_good (rise := rise) h
    have lt : (loop.take (pSize loop rise)).length = pSize loop rise := by rw [List.length_take]; omega
    have ne : loop.take (pSize loop rise) ≠ [] := fun e => by
      rw [e] at lt
      simp at lt
      omega
    have ne2 : ((pRow head loop rise).drop (pKeep head loop rise)).take (pSize loop rise) ≠ [] := fun e => by
      have := congrArg List.length e
      rw [List.length_take, List.length_drop, pRow_len h] at this
      have := pKeep_le head loop rise
      simp at *
      omega
    rw [rowAt_of ne2, short_ok h]
    have hc := cut_ok (head := head) (lp := loop.take (pSize loop rise)) (st := pStep loop rise) (k := pKeep head loop rise) ne (pKeep_le _ _ _) (fun j h1 h2 => by
      have := keepL_all _ _ j h1 h2
      have := of_decide_eq_true this
      rw [lt]
      exact this) i
    rw [lt] at hc
    rw [hc]
    rfl

/-! ### the need on a course -/
def pick (ways : List (List Dd)) (ns : List Nat) : List Dd := (ns.map fun n => ways.getD n []).flatten
def needRaw (i : Int) (d1 d2 : List Dd) : Raw := ((ahead i d1).1, (ahead i d2).1.map ((ahead i d1).2 + ·), if (ahead i d2).1 = [] then 0 else (ahead i d2).2)
def rep (n : Nat) (d : List Dd) : List Dd := (List.replicate n d).flatten
theorem rep_succ (n : Nat) (d : List Dd) : rep (n + 1) d = d ++ rep n d := by
  unfold rep
  rw [List.replicate_succ, List.flatten_cons]
theorem pick_app (ways : List (List Dd)) (a b : List Nat) : pick ways (a ++ b) = pick ways a ++ pick ways b := by
  unfold pick
  rw [List.map_append, List.flatten_append]
theorem pick_rep (ways : List (List Dd)) (n : Nat) (a : List Nat) : pick ways (List.replicate n a).flatten = rep n (pick ways a) := by
  induction n with
  | zero => rfl
  | succ n ih => rw [List.replicate_succ, List.flatten_cons, pick_app, ih, rep_succ]
/-- the gives of many rounds -/
theorem rep_at (i : Int) (d : List Dd) (hne : (ahead i d).1 ≠ []) : ∀ (n j : Nat), j < n * (ahead i d).1.length →
    (ahead i (rep n d)).1[j]? = some ((ahead i d).1.getD (j % (ahead i d).1.length) 0 + (ahead i d).2 * ((j / (ahead i d).1.length : Nat) : Int))
  | 0, j, h => absurd h (by omega)
  | n + 1, j, h => by
    have hp : 0 < (ahead i d).1.length := List.length_pos_iff.mpr hne
    rw [rep_succ, ahead_app]
    show ((ahead i d).1 ++ (ahead i (rep n d)).1.map ((ahead i d).2 + ·))[j]? = _
    by_cases hj : j < (ahead i d).1.length
    · rw [List.getElem?_append_left hj, Nat.mod_eq_of_lt hj, Nat.div_eq_of_lt hj, List.getD_eq_getElem?_getD, List.getElem?_eq_getElem hj]
      simp
    · have hge : (ahead i d).1.length ≤ j := Nat.le_of_not_lt hj
      have hlt : j - (ahead i d).1.length < n * (ahead i d).1.length := by
        rw [Nat.add_mul, Nat.one_mul] at h
        omega
      rw [List.getElem?_append_right hge, List.getElem?_map, rep_at i d hne n _ hlt]
      rw [Nat.mod_eq_sub_mod hge, Nat.div_eq_sub_div hp hge]
      have c1 : (((j - (ahead i d).1.length) / (ahead i d).1.length + 1 : Nat) : Int) = (((j - (ahead i d).1.length) / (ahead i d).1.length : Nat) : Int) + 1 := by omega
      rw [c1, Int.mul_add, Int.mul_one]
      show some ((ahead i d).2 + (_ + _)) = some _
      congr 1
      omega
theorem rep_none (i : Int) (d : List Dd) (he : (ahead i d).1 = []) : ∀ n : Nat, (ahead i (rep n d)).1 = []
  | 0 => rfl
  | n + 1 => by
    rw [rep_succ, ahead_app, he, rep_none i d he n]
    rfl
/-- walking the deeds one by one tells the row -/
theorem walk_at (i : Int) (d1 d2 : List Dd) (n j : Nat) (hj : j < n) : (ahead i (d1 ++ rep n d2)).1[j]? = rowAt (needRaw i d1 d2) j := by
  rw [ahead_app]
  show ((ahead i d1).1 ++ (ahead i (rep n d2)).1.map ((ahead i d1).2 + ·))[j]? = _
  unfold rowAt needRaw
  show _ = if j < (ahead i d1).1.length then some ((ahead i d1).1.getD j 0) else if (ahead i d2).1.map ((ahead i d1).2 + ·) = [] then none else some (rowV (ahead i d1).1 ((ahead i d2).1.map ((ahead i d1).2 + ·)) (if (ahead i d2).1 = [] then 0 else (ahead i d2).2) j)
  by_cases hlt : j < (ahead i d1).1.length
  · rw [if_pos hlt, List.getElem?_append_left hlt, List.getElem?_eq_getElem hlt, List.getD_eq_getElem?_getD, List.getElem?_eq_getElem hlt]
    rfl
  · rw [if_neg hlt, List.getElem?_append_right (by omega)]
    by_cases he : (ahead i d2).1 = []
    · rw [rep_none i d2 he n, he]
      simp
    · have ne2 : (ahead i d2).1.map ((ahead i d1).2 + ·) ≠ [] := by simpa using he
      have hp : 0 < (ahead i d2).1.length := List.length_pos_iff.mpr he
      have hb : j - (ahead i d1).1.length < n * (ahead i d2).1.length := by
        have : n * 1 ≤ n * (ahead i d2).1.length := Nat.mul_le_mul_left n hp
        omega
      rw [if_neg ne2, if_neg he, List.getElem?_map, rep_at i d2 he n _ hb]
      unfold rowV
      rw [if_neg hlt, List.length_map]
      have hm := Nat.mod_lt (j - (ahead i d1).1.length) hp
      have e : ((ahead i d2).1.map ((ahead i d1).2 + ·)).getD ((j - (ahead i d1).1.length) % (ahead i d2).1.length) 0 = (ahead i d1).2 + (ahead i d2).1.getD ((j - (ahead i d1).1.length) % (ahead i d2).1.length) 0 := by
        rw [List.getD_eq_getElem?_getD, List.getElem?_map, List.getD_eq_getElem?_getD, List.getElem?_eq_getElem hm]
        rfl
      rw [e]
      show some ((ahead i d1).2 + (_ + _)) = some _
      congr 1
      omega
end K24
set_option Elab.async false
set_option linter.all false
set_option maxRecDepth 100000
set_option maxHeartbeats 4000000
/-! The text by places, the facts that are asked of the head, own rules. -/
namespace K24
open PySem PySem.Spec PyProof.Rows L2
def topS (i : Nat) : Stmt := PySem.Challenge.pw_needforth_k24_whole_needs_on_courses.main.body.getD i (.Pass ⟨0, 0, 0, 0⟩)
abbrev s_is_integer : Stmt := topS 12
abbrev n_is_integer : List Str := ["thing"]
theorem sc_is_integer : FnScope n_is_integer ["thing"] (defScope s_is_integer) := ⟨rfl, rfl, rfl, by decide +kernel, rfl, by decide +kernel, by decide +kernel⟩
def d_is_integer : He.DefD := ⟨("is_integer", none), "is_integer", "is_integer", defArgs s_is_integer, defBody s_is_integer, defScope s_is_integer, [], []⟩
abbrev s_is_count : Stmt := topS 13
abbrev n_is_count : List Str := ["thing"]
theorem sc_is_count : FnScope n_is_count ["thing"] (defScope s_is_count) := ⟨rfl, rfl, rfl, by decide +kernel, rfl, by decide +kernel, by decide +kernel⟩
def d_is_count : He.DefD := ⟨("is_count", none), "is_count", "is_count", defArgs s_is_count, defBody s_is_count, defScope s_is_count, [], []⟩
abbrev s_is_listed : Stmt := topS 14
abbrev n_is_listed : List Str := ["thing"]
theorem sc_is_listed : FnScope n_is_listed ["thing"] (defScope s_is_listed) := ⟨rfl, rfl, rfl, by decide +kernel, rfl, by decide +kernel, by decide +kernel⟩
def d_is_listed : He.DefD := ⟨("is_listed", none), "is_listed", "is_listed", defArgs s_is_listed, defBody s_is_listed, defScope s_is_listed, [], []⟩
abbrev s_is_counts : Stmt := topS 15
abbrev n_is_counts : List Str := ["thing", "one"]
theorem sc_is_counts : FnScope n_is_counts ["thing"] (defScope s_is_counts) := ⟨rfl, rfl, rfl, by decide +kernel, rfl, by decide +kernel, by decide +kernel⟩
def d_is_counts : He.DefD := ⟨("is_counts", none), "is_counts", "is_counts", defArgs s_is_counts, defBody s_is_counts, defScope s_is_counts, [], []⟩
abbrev s_deep : Stmt := topS 16
abbrev n_deep : List Str := ["thing", "one"]
theorem sc_deep : FnScope n_deep ["thing"] (defScope s_deep) := ⟨rfl, rfl, rfl, by decide +kernel, rfl, by decide +kernel, by decide +kernel⟩
def d_deep : He.DefD := ⟨("deep", none), "deep", "deep", defArgs s_deep, defBody s_deep, defScope s_deep, [], []⟩
abbrev s_value_at : Stmt := topS 24
abbrev n_value_at : List Str := ["raw", "place", "head", "loop", "rise", "rest"]
theorem sc_value_at : FnScope n_value_at ["raw", "place"] (defScope s_value_at) := ⟨rfl, rfl, rfl, by decide +kernel, rfl, by decide +kernel, by decide +kernel⟩
def d_value_at : He.DefD := ⟨("value_at", none), "value_at", "value_at", defArgs s_value_at, defBody s_value_at, defScope s_value_at, [], []⟩
abbrev s_short_loop : Stmt := topS 25
abbrev n_short_loop : List Str := ["loop", "rise", "many", "step", "place"]
theorem sc_short_loop : FnScope n_short_loop ["loop", "rise"] (defScope s_short_loop) := ⟨rfl, rfl, rfl, by decide +kernel, rfl, by decide +kernel, by decide +kernel⟩
def d_short_loop : He.DefD := ⟨("short_loop", none), "short_loop", "short_loop", defArgs s_short_loop, defBody s_short_loop, defScope s_short_loop, [], []⟩
abbrev s_plain_form : Stmt := topS 26
abbrev n_plain_form : List Str := ["head", "loop", "rise", "keep", "back", "told", "place"]
theorem sc_plain_form : FnScope n_plain_form ["head", "loop", "rise"] (defScope s_plain_form) := ⟨rfl, rfl, rfl, by decide +kernel, rfl, by decide +kernel, by decide +kernel⟩
def d_plain_form : He.DefD := ⟨("plain_form", none), "plain_form", "plain_form", defArgs s_plain_form, defBody s_plain_form, defScope s_plain_form, [], []⟩
abbrev s_is_rising : Stmt := topS 37
abbrev n_is_rising : List Str := ["counts", "place"]
theorem sc_is_rising : FnScope n_is_rising ["counts"] (defScope s_is_rising) := ⟨rfl, rfl, rfl, by decide +kernel, rfl, by decide +kernel, by decide +kernel⟩
def d_is_rising : He.DefD := ⟨("is_rising", none), "is_rising", "is_rising", defArgs s_is_rising, defBody s_is_rising, defScope s_is_rising, [], []⟩
abbrev s_checked_table : Stmt := topS 38
abbrev n_checked_table : List Str := ["head", "loop", "rise"]
theorem sc_checked_table : FnScope n_checked_table ["head", "loop", "rise"] (defScope s_checked_table) := ⟨rfl, rfl, rfl, by decide +kernel, rfl, by decide +kernel, by decide +kernel⟩
def d_checked_table : He.DefD := ⟨("checked_table", none), "checked_table", "checked_table", defArgs s_checked_table, defBody s_checked_table, defScope s_checked_table, [], []⟩
abbrev s_Tableinit : Stmt := inClass (topS 39) 0
abbrev n_Tableinit : List Str := ["self", "head", "loop", "rise", "told"]
theorem sc_Tableinit : FnScope n_Tableinit ["self", "head", "loop", "rise"] (defScope s_Tableinit) := ⟨rfl, rfl, rfl, by decide +kernel, rfl, by decide +kernel, by decide +kernel⟩
def d_Tableinit : He.DefD := ⟨("Table", some "__init__"), "__init__", "Table.__init__", defArgs s_Tableinit, defBody s_Tableinit, defScope s_Tableinit, [.adr (He.dflAt ("Table", some "__init__") 0), .int 0], []⟩
abbrev s_Tablecall : Stmt := inClass (topS 39) 3
abbrev n_Tablecall : List Str := ["self", "n"]
theorem sc_Tablecall : FnScope n_Tablecall ["self", "n"] (defScope s_Tablecall) := ⟨rfl, rfl, rfl, by decide +kernel, rfl, by decide +kernel, by decide +kernel⟩
def d_Tablecall : He.DefD := ⟨("Table", some "__call__"), "__call__", "Table.__call__", defArgs s_Tablecall, defBody s_Tablecall, defScope s_Tablecall, [], []⟩
abbrev s_is_deed : Stmt := topS 49
abbrev n_is_deed : List Str := ["inlets", "thing"]
theorem sc_is_deed : FnScope n_is_deed ["inlets", "thing"] (defScope s_is_deed) := ⟨rfl, rfl, rfl, by decide +kernel, rfl, by decide +kernel, by decide +kernel⟩
def d_is_deed : He.DefD := ⟨("is_deed", none), "is_deed", "is_deed", defArgs s_is_deed, defBody s_is_deed, defScope s_is_deed, [], []⟩
abbrev s_is_deeds : Stmt := topS 50
abbrev n_is_deeds : List Str := ["inlets", "thing", "one"]
theorem sc_is_deeds : FnScope n_is_deeds ["inlets", "thing"] (defScope s_is_deeds) := ⟨rfl, rfl, rfl, by decide +kernel, rfl, by decide +kernel, by decide +kernel⟩
def d_is_deeds : He.DefD := ⟨("is_deeds", none), "is_deeds", "is_deeds", defArgs s_is_deeds, defBody s_is_deeds, defScope s_is_deeds, [], []⟩
abbrev s_is_ways : Stmt := topS 51
abbrev n_is_ways : List Str := ["inlets", "thing", "one"]
theorem sc_is_ways : FnScope n_is_ways ["inlets", "thing"] (defScope s_is_ways) := ⟨rfl, rfl, rfl, by decide +kernel, rfl, by decide +kernel, by decide +kernel⟩
def d_is_ways : He.DefD := ⟨("is_ways", none), "is_ways", "is_ways", defArgs s_is_ways, defBody s_is_ways, defScope s_is_ways, [], []⟩
abbrev s_is_way_numbers : Stmt := topS 52
abbrev n_is_way_numbers : List Str := ["thing", "ways", "least", "most", "one"]
theorem sc_is_way_numbers : FnScope n_is_way_numbers ["thing", "ways", "least", "most"] (defScope s_is_way_numbers) := ⟨rfl, rfl, rfl, by decide +kernel, rfl, by decide +kernel, by decide +kernel⟩
def d_is_way_numbers : He.DefD := ⟨("is_way_numbers", none), "is_way_numbers", "is_way_numbers", defArgs s_is_way_numbers, defBody s_is_way_numbers, defScope s_is_way_numbers, [], []⟩
abbrev s_is_course : Stmt := topS 53
abbrev n_is_course : List Str := ["maker", "thing", "ways"]
theorem sc_is_course : FnScope n_is_course ["maker", "thing"] (defScope s_is_course) := ⟨rfl, rfl, rfl, by decide +kernel, rfl, by decide +kernel, by decide +kernel⟩
def d_is_course : He.DefD := ⟨("is_course", none), "is_course", "is_course", defArgs s_is_course, defBody s_is_course, defScope s_is_course, [], []⟩
abbrev s_takes_ahead : Stmt := topS 54
abbrev n_takes_ahead : List Str := ["deeds", "inlet", "told", "taken", "deed"]
theorem sc_takes_ahead : FnScope n_takes_ahead ["deeds", "inlet"] (defScope s_takes_ahead) := ⟨rfl, rfl, rfl, by decide +kernel, rfl, by decide +kernel, by decide +kernel⟩
def d_takes_ahead : He.DefD := ⟨("takes_ahead", none), "takes_ahead", "takes_ahead", defArgs s_takes_ahead, defBody s_takes_ahead, defScope s_takes_ahead, [], []⟩
abbrev s_check_inlet : Stmt := topS 55
abbrev n_check_inlet : List Str := ["maker", "inlet"]
theorem sc_check_inlet : FnScope n_check_inlet ["maker", "inlet"] (defScope s_check_inlet) := ⟨rfl, rfl, rfl, by decide +kernel, rfl, by decide +kernel, by decide +kernel⟩
def d_check_inlet : He.DefD := ⟨("check_inlet", none), "check_inlet", "check_inlet", defArgs s_check_inlet, defBody s_check_inlet, defScope s_check_inlet, [], []⟩
abbrev s_need_on : Stmt := topS 56
abbrev n_need_on : List Str := ["maker", "inlet", "course", "deeds", "number", "head", "taken", "again", "loop", "rise", "more"]
theorem sc_need_on : FnScope n_need_on ["maker", "inlet", "course"] (defScope s_need_on) := ⟨rfl, rfl, rfl, by decide +kernel, rfl, by decide +kernel, by decide +kernel⟩
def d_need_on : He.DefD := ⟨("need_on", none), "need_on", "need_on", defArgs s_need_on, defBody s_need_on, defScope s_need_on, [], []⟩
abbrev s_Makerinit : Stmt := inClass (topS 57) 0
abbrev n_Makerinit : List Str := ["self", "inlets", "begin", "ways", "most", "way"]
theorem sc_Makerinit : FnScope n_Makerinit ["self", "inlets", "begin", "ways"] (defScope s_Makerinit) := ⟨rfl, rfl, rfl, by decide +kernel, rfl, by decide +kernel, by decide +kernel⟩
def d_Makerinit : He.DefD := ⟨("Maker", some "__init__"), "__init__", "Maker.__init__", defArgs s_Makerinit, defBody s_Makerinit, defScope s_Makerinit, [], []⟩
abbrev s_Makereq : Stmt := inClass (topS 57) 1
abbrev n_Makereq : List Str := ["self", "other"]
theorem sc_Makereq : FnScope n_Makereq ["self", "other"] (defScope s_Makereq) := ⟨rfl, rfl, rfl, by decide +kernel, rfl, by decide +kernel, by decide +kernel⟩
def d_Makereq : He.DefD := ⟨("Maker", some "__eq__"), "__eq__", "Maker.__eq__", defArgs s_Makereq, defBody s_Makereq, defScope s_Makereq, [], []⟩
abbrev s_Makerneed : Stmt := inClass (topS 57) 2
abbrev n_Makerneed : List Str := ["self", "inlet", "course"]
theorem sc_Makerneed : FnScope n_Makerneed ["self", "inlet", "course"] (defScope s_Makerneed) := ⟨rfl, rfl, rfl, by decide +kernel, rfl, by decide +kernel, by decide +kernel⟩
def d_Makerneed : He.DefD := ⟨("Maker", some "need"), "need", "Maker.need", defArgs s_Makerneed, defBody s_Makerneed, defScope s_Makerneed, [], []⟩
abbrev s_law_source : Stmt := topS 59
abbrev n_law_source : List Str := ["_law_script", "_law_place", "_law_cell", "_law_seed", "_law_one", "_law_number"]
theorem sc_law_source : FnScope n_law_source ["_law_script", "_law_place"] (defScope s_law_source) := ⟨rfl, rfl, rfl, by decide +kernel, rfl, by decide +kernel, by decide +kernel⟩
def d_law_source : He.DefD := ⟨("_law_source", none), "_law_source", "_law_source", defArgs s_law_source, defBody s_law_source, defScope s_law_source, [], []⟩
abbrev s_law_pick : Stmt := topS 60
abbrev n_law_pick : List Str := ["_law_source_here", "_law_many", "_law_digit", "_law_value"]
theorem sc_law_pick : FnScope n_law_pick ["_law_source_here", "_law_many"] (defScope s_law_pick) := ⟨rfl, rfl, rfl, by decide +kernel, rfl, by decide +kernel, by decide +kernel⟩
def d_law_pick : He.DefD := ⟨("_law_pick", none), "_law_pick", "_law_pick", defArgs s_law_pick, defBody s_law_pick, defScope s_law_pick, [], []⟩
abbrev s_law_is_integer : Stmt := topS 61
abbrev n_law_is_integer : List Str := ["_law_thing"]
theorem sc_law_is_integer : FnScope n_law_is_integer ["_law_thing"] (defScope s_law_is_integer) := ⟨rfl, rfl, rfl, by decide +kernel, rfl, by decide +kernel, by decide +kernel⟩
def d_law_is_integer : He.DefD := ⟨("_law_is_integer", none), "_law_is_integer", "_law_is_integer", defArgs s_law_is_integer, defBody s_law_is_integer, defScope s_law_is_integer, [], []⟩
abbrev s_law_is_count : Stmt := topS 62
abbrev n_law_is_count : List Str := ["_law_thing"]
theorem sc_law_is_count : FnScope n_law_is_count ["_law_thing"] (defScope s_law_is_count) := ⟨rfl, rfl, rfl, by decide +kernel, rfl, by decide +kernel, by decide +kernel⟩
def d_law_is_count : He.DefD := ⟨("_law_is_count", none), "_law_is_count", "_law_is_count", defArgs s_law_is_count, defBody s_law_is_count, defScope s_law_is_count, [], []⟩
abbrev s_law_plain : Stmt := topS 63
abbrev n_law_plain : List Str := ["_law_head", "_law_loop", "_law_rise", "_law_size", "_law_many", "_law_turns", "_law_step", "_law_row", "_law_k"]
theorem sc_law_plain : FnScope n_law_plain ["_law_head", "_law_loop", "_law_rise"] (defScope s_law_plain) := ⟨rfl, rfl, rfl, by decide +kernel, rfl, by decide +kernel, by decide +kernel⟩
def d_law_plain : He.DefD := ⟨("_law_plain", none), "_law_plain", "_law_plain", defArgs s_law_plain, defBody s_law_plain, defScope s_law_plain, [], []⟩
abbrev s_law_same : Stmt := topS 64
abbrev n_law_same : List Str := ["_law_table", "_law_raw", "_law_one"]
theorem sc_law_same : FnScope n_law_same ["_law_table", "_law_raw"] (defScope s_law_same) := ⟨rfl, rfl, rfl, by decide +kernel, rfl, by decide +kernel, by decide +kernel⟩
def d_law_same : He.DefD := ⟨("_law_same", none), "_law_same", "_law_same", defArgs s_law_same, defBody s_law_same, defScope s_law_same, [], []⟩
abbrev s_law_deeds : Stmt := topS 65
abbrev n_law_deeds : List Str := ["_law_source_here", "_law_inlets", "_law_many", "_law_gives", "_law_told", "_law_k"]
theorem sc_law_deeds : FnScope n_law_deeds ["_law_source_here", "_law_inlets", "_law_many", "_law_gives"] (defScope s_law_deeds) := ⟨rfl, rfl, rfl, by decide +kernel, rfl, by decide +kernel, by decide +kernel⟩
def d_law_deeds : He.DefD := ⟨("_law_deeds", none), "_law_deeds", "_law_deeds", defArgs s_law_deeds, defBody s_law_deeds, defScope s_law_deeds, [], []⟩
abbrev s_law_maker : Stmt := topS 66
abbrev n_law_maker : List Str := ["_law_source_here", "_law_inlets", "_law_most", "_law_stops", "_law_begin", "_law_found", "_law_k", "_law_way"]
theorem sc_law_maker : FnScope n_law_maker ["_law_source_here", "_law_inlets", "_law_most", "_law_stops"] (defScope s_law_maker) := ⟨rfl, rfl, rfl, by decide +kernel, rfl, by decide +kernel, by decide +kernel⟩
def d_law_maker : He.DefD := ⟨("_law_maker", none), "_law_maker", "_law_maker", defArgs s_law_maker, defBody s_law_maker, defScope s_law_maker, [], []⟩
abbrev s_law_made : Stmt := topS 67
abbrev n_law_made : List Str := ["_law_maker_here"]
theorem sc_law_made : FnScope n_law_made ["_law_maker_here"] (defScope s_law_made) := ⟨rfl, rfl, rfl, by decide +kernel, rfl, by decide +kernel, by decide +kernel⟩
def d_law_made : He.DefD := ⟨("_law_made", none), "_law_made", "_law_made", defArgs s_law_made, defBody s_law_made, defScope s_law_made, [], []⟩
abbrev s_law_ahead : Stmt := topS 68
abbrev n_law_ahead : List Str := ["_law_deeds_here", "_law_inlet", "_law_told", "_law_taken", "_law_deed"]
theorem sc_law_ahead : FnScope n_law_ahead ["_law_deeds_here", "_law_inlet"] (defScope s_law_ahead) := ⟨rfl, rfl, rfl, by decide +kernel, rfl, by decide +kernel, by decide +kernel⟩
def d_law_ahead : He.DefD := ⟨("_law_ahead", none), "_law_ahead", "_law_ahead", defArgs s_law_ahead, defBody s_law_ahead, defScope s_law_ahead, [], []⟩
abbrev s_law_on : Stmt := topS 69
abbrev n_law_on : List Str := ["_law_maker_here", "_law_inlet", "_law_course_here", "_law_deeds_here", "_law_number", "_law_head", "_law_taken", "_law_again", "_law_loop", "_law_rise", "_law_more"]
theorem sc_law_on : FnScope n_law_on ["_law_maker_here", "_law_inlet", "_law_course_here"] (defScope s_law_on) := ⟨rfl, rfl, rfl, by decide +kernel, rfl, by decide +kernel, by decide +kernel⟩
def d_law_on : He.DefD := ⟨("_law_on", none), "_law_on", "_law_on", defArgs s_law_on, defBody s_law_on, defScope s_law_on, [], []⟩
abbrev s_law_course : Stmt := topS 70
abbrev n_law_course : List Str := ["_law_source_here", "_law_maker_here", "_law_rounds", "_law_many", "_law_first", "_law_then", "_law_k"]
theorem sc_law_course : FnScope n_law_course ["_law_source_here", "_law_maker_here", "_law_rounds"] (defScope s_law_course) := ⟨rfl, rfl, rfl, by decide +kernel, rfl, by decide +kernel, by decide +kernel⟩
def d_law_course : He.DefD := ⟨("_law_course", none), "_law_course", "_law_course", defArgs s_law_course, defBody s_law_course, defScope s_law_course, [], []⟩
abbrev s_law_walked : Stmt := topS 71
abbrev n_law_walked : List Str := ["_law_maker_here", "_law_inlet", "_law_course_here", "_law_gives", "_law_told", "_law_taken", "_law_deed", "_law_rounds", "_law_turn", "_law_number"]
theorem sc_law_walked : FnScope n_law_walked ["_law_maker_here", "_law_inlet", "_law_course_here", "_law_gives"] (defScope s_law_walked) := ⟨rfl, rfl, rfl, by decide +kernel, rfl, by decide +kernel, by decide +kernel⟩
def d_law_walked : He.DefD := ⟨("_law_walked", none), "_law_walked", "_law_walked", defArgs s_law_walked, defBody s_law_walked, defScope s_law_walked, [], []⟩
abbrev s_law_asked : Stmt := topS 72
abbrev n_law_asked : List Str := ["_law_source_here", "_law_maker_here", "_law_course_here", "_law_made_here", "_law_inlet", "_law_told", "_law_row", "_law_n"]
theorem sc_law_asked : FnScope n_law_asked ["_law_source_here", "_law_maker_here", "_law_course_here"] (defScope s_law_asked) := ⟨rfl, rfl, rfl, by decide +kernel, rfl, by decide +kernel, by decide +kernel⟩
def d_law_asked : He.DefD := ⟨("_law_asked", none), "_law_asked", "_law_asked", defArgs s_law_asked, defBody s_law_asked, defScope s_law_asked, [], []⟩
abbrev s_law_other : Stmt := topS 73
abbrev n_law_other : List Str := ["_law_source_here", "_law_maker_here", "_law_way"]
theorem sc_law_other : FnScope n_law_other ["_law_source_here", "_law_maker_here"] (defScope s_law_other) := ⟨rfl, rfl, rfl, by decide +kernel, rfl, by decide +kernel, by decide +kernel⟩
def d_law_other : He.DefD := ⟨("_law_other", none), "_law_other", "_law_other", defArgs s_law_other, defBody s_law_other, defScope s_law_other, [], []⟩
abbrev s_law : Stmt := topS 74
abbrev n_law : List Str := ["_law_script", "_law_source_here", "_law_maker_here", "_law_drawer", "_law_begin", "_law_ways", "_law_made_here", "_law_other_here", "_law_course_here", "_law_told", "_law_never", "_law_gives", "_law_way"]
theorem sc_law : FnScope n_law ["_law_script"] (defScope s_law) := ⟨rfl, rfl, rfl, by decide +kernel, rfl, by decide +kernel, by decide +kernel⟩
def d_law : He.DefD := ⟨("law", none), "law", "law", defArgs s_law, defBody s_law, defScope s_law, [], []⟩
def fn : List He.DefD := [d_is_integer, d_is_count, d_is_listed, d_is_counts, d_deep, d_value_at, d_short_loop, d_plain_form, d_is_rising, d_checked_table, d_Tableinit, d_Tablecall, d_is_deed, d_is_deeds, d_is_ways, d_is_way_numbers, d_is_course, d_takes_ahead, d_check_inlet, d_need_on, d_Makerinit, d_Makereq, d_Makerneed, d_law_source, d_law_pick, d_law_is_integer, d_law_is_count, d_law_plain, d_law_same, d_law_deeds, d_law_maker, d_law_made, d_law_ahead, d_law_on, d_law_course, d_law_walked, d_law_asked, d_law_other, d_law]
def fa : List He.Fa := [.glo "is_integer", .glo "is_count", .glo "is_listed", .glo "is_counts", .glo "deep", .glo "value_at", .glo "short_loop", .glo "plain_form", .glo "is_rising", .glo "checked_table", .glo "is_deed", .glo "is_deeds", .glo "is_ways", .glo "is_way_numbers", .glo "is_course", .glo "takes_ahead", .glo "check_inlet", .glo "need_on", .glo "_law_source", .glo "_law_pick", .glo "_law_is_integer", .glo "_law_is_count", .glo "_law_plain", .glo "_law_same", .glo "_law_deeds", .glo "_law_maker", .glo "_law_made", .glo "_law_ahead", .glo "_law_on", .glo "_law_course", .glo "_law_walked", .glo "_law_asked", .glo "_law_other", .glo "law", .glo "Table", .glo "Maker", .glo "BadTable", .glo "BadMaker", .glo "BadCount", .glo "BadInlet", .glo "BadCourse", .glo "TooMany", .free "isinstance", .free "bool", .free "int", .free "str", .free "tuple", .free "list", .free "all", .free "any", .free "len", .free "range", .free "abs", .str "GIVE" "give", .int "MOST_INLETS" 3, .int "MOST_WAYS" 4, .int "MOST_DEEDS" 600, .int "MOST_DEEDS_EACH" 24, .int "MOST_FIRST" 200, .int "MOST_THEN" 40, .cls "Table", .mkr "Table", .noat "Table" "head", .noat "Table" "loop", .noat "Table" "rise", .meth "Table" "__call__", .cls "Maker", .mkr "Maker", .noat "Maker" "inlets", .noat "Maker" "begin", .noat "Maker" "ways", .meth "Maker" "need", .meth "Maker" "__eq__"]
def loose : List Str := (["_wall", "__name__", "NeedforthError", "WrongThing", "WrongWord", "TooMany", "BadCount", "BadInlet", "BadCourse", "BadTable", "BadMaker", "is_integer", "is_count", "is_listed", "is_counts", "deep", "at_most", "greater_of", "lesser_of", "common_divisor", "common_multiple", "end_of", "value_at", "short_loop", "plain_form", "formed", "until_never", "first_beyond", "behind_raw", "later_start"] : List Str) ++ (["joined_values", "joined_raw", "counts_below", "turned_raw", "is_rising", "checked_table", "Table", "table_from", "GIVE", "MOST_INLETS", "MOST_WAYS", "MOST_DEEDS", "MOST_DEEDS_EACH", "MOST_FIRST", "MOST_THEN", "is_deed", "is_deeds", "is_ways", "is_way_numbers", "is_course", "takes_ahead", "check_inlet", "need_on", "Maker", "_law_source", "_law_pick", "_law_is_integer", "_law_is_count", "_law_plain", "_law_same"] : List Str) ++ (["_law_deeds", "_law_maker", "_law_made", "_law_ahead", "_law_on", "_law_course", "_law_walked", "_law_asked", "_law_other"] : List Str)
-- def 0 is_integer slots [(0, 'thing')]
-- def 1 is_count slots [(0, 'thing')]
-- def 2 is_listed slots [(0, 'thing')]
-- def 3 is_counts slots [(0, 'thing'), (1, 'one')]
-- def 4 deep slots [(0, 'thing'), (1, 'one')]
-- def 5 value_at slots [(0, 'raw'), (1, 'place'), (2, 'head'), (3, 'loop'), (4, 'rise'), (5, 'rest')]
-- def 6 short_loop slots [(0, 'loop'), (1, 'rise'), (2, 'many'), (3, 'step'), (4, 'place')]
-- def 7 plain_form slots [(0, 'head'), (1, 'loop'), (2, 'rise'), (3, 'keep'), (4, 'back'), (5, 'told'), (6, 'place')]
-- def 8 is_rising slots [(0, 'counts'), (1, 'place')]
-- def 9 checked_table slots [(0, 'head'), (1, 'loop'), (2, 'rise')]
-- def 10 Tableinit slots [(0, 'self'), (1, 'head'), (2, 'loop'), (3, 'rise'), (4, 'told')]
-- def 11 Tablecall slots [(0, 'self'), (1, 'n')]
-- def 12 is_deed slots [(0, 'inlets'), (1, 'thing')]
-- def 13 is_deeds slots [(0, 'inlets'), (1, 'thing'), (2, 'one')]
-- def 14 is_ways slots [(0, 'inlets'), (1, 'thing'), (2, 'one')]
-- def 15 is_way_numbers slots [(0, 'thing'), (1, 'ways'), (2, 'least'), (3, 'most'), (4, 'one')]
-- def 16 is_course slots [(0, 'maker'), (1, 'thing'), (2, 'ways')]
-- def 17 takes_ahead slots [(0, 'deeds'), (1, 'inlet'), (2, 'told'), (3, 'taken'), (4, 'deed')]
-- def 18 check_inlet slots [(0, 'maker'), (1, 'inlet')]
-- def 19 need_on slots [(0, 'maker'), (1, 'inlet'), (2, 'course'), (3, 'deeds'), (4, 'number'), (5, 'head'), (6, 'taken'), (7, 'again'), (8, 'loop'), (9, 'rise'), (10, 'more')]
-- def 20 Makerinit slots [(0, 'self'), (1, 'inlets'), (2, 'begin'), (3, 'ways'), (4, 'most'), (5, 'way')]
-- def 21 Makereq slots [(0, 'self'), (1, 'other')]
-- def 22 Makerneed slots [(0, 'self'), (1, 'inlet'), (2, 'course')]
-- def 23 law_source slots [(0, '_law_script'), (1, '_law_place'), (2, '_law_cell'), (3, '_law_seed'), (4, '_law_one'), (5, '_law_number')]
-- def 24 law_pick slots [(0, '_law_source_here'), (1, '_law_many'), (2, '_law_digit'), (3, '_law_value')]
-- def 25 law_is_integer slots [(0, '_law_thing')]
-- def 26 law_is_count slots [(0, '_law_thing')]
-- def 27 law_plain slots [(0, '_law_head'), (1, '_law_loop'), (2, '_law_rise'), (3, '_law_size'), (4, '_law_many'), (5, '_law_turns'), (6, '_law_step'), (7, '_law_row'), (8, '_law_k')]
-- def 28 law_same slots [(0, '_law_table'), (1, '_law_raw'), (2, '_law_one')]
-- def 29 law_deeds slots [(0, '_law_source_here'), (1, '_law_inlets'), (2, '_law_many'), (3, '_law_gives'), (4, '_law_told'), (5, '_law_k')]
-- def 30 law_maker slots [(0, '_law_source_here'), (1, '_law_inlets'), (2, '_law_most'), (3, '_law_stops'), (4, '_law_begin'), (5, '_law_found'), (6, '_law_k'), (7, '_law_way')]
-- def 31 law_made slots [(0, '_law_maker_here')]
-- def 32 law_ahead slots [(0, '_law_deeds_here'), (1, '_law_inlet'), (2, '_law_told'), (3, '_law_taken'), (4, '_law_deed')]
-- def 33 law_on slots [(0, '_law_maker_here'), (1, '_law_inlet'), (2, '_law_course_here'), (3, '_law_deeds_here'), (4, '_law_number'), (5, '_law_head'), (6, '_law_taken'), (7, '_law_again'), (8, '_law_loop'), (9, '_law_rise'), (10, '_law_more')]
-- def 34 law_course slots [(0, '_law_source_here'), (1, '_law_maker_here'), (2, '_law_rounds'), (3, '_law_many'), (4, '_law_first'), (5, '_law_then'), (6, '_law_k')]
-- def 35 law_walked slots [(0, '_law_maker_here'), (1, '_law_inlet'), (2, '_law_course_here'), (3, '_law_gives'), (4, '_law_told'), (5, '_law_taken'), (6, '_law_deed'), (7, '_law_rounds'), (8, '_law_turn'), (9, '_law_number')]
-- def 36 law_asked slots [(0, '_law_source_here'), (1, '_law_maker_here'), (2, '_law_course_here'), (3, '_law_made_here'), (4, '_law_inlet'), (5, '_law_told'), (6, '_law_row'), (7, '_law_n')]
-- def 37 law_other slots [(0, '_law_source_here'), (1, '_law_maker_here'), (2, '_law_way')]
-- def 38 law slots [(0, '_law_script'), (1, '_law_source_here'), (2, '_law_maker_here'), (3, '_law_drawer'), (4, '_law_begin'), (5, '_law_ways'), (6, '_law_made_here'), (7, '_law_other_here'), (8, '_law_course_here'), (9, '_law_told'), (10, '_law_never'), (11, '_law_gives'), (12, '_law_way')]
/-! ### what is asked of the head -/
def eqB (a b : Option Bool) : Bool := decide (a = b)
/-- the () that stands as a default of Table's making -/
def dfT (K : PySem.W.Frag) : Addr := He.dflAt ("Table", some "__init__") 0 K
def emptyT (K : PySem.W.Frag) (a : Addr) : Bool := match K.lookup a with
  | some ⟨.type c, _, .seq its _, _⟩ => decide (c = "tuple") && decide (its.toList = [])
  | _ => false
def exB (K : PySem.W.Frag) : Bool :=
  (He.eqO (PySem.W.findIn K (.ref (He.ga K "Table")) "__class__") (some (some (.builtin "object.__class__")))) && ((He.eqO (PySem.W.findIn K (.ref (He.ga K "Maker")) "__class__") (some (some (.builtin "object.__class__")))) &&
  ((He.eqO (PySem.W.specialIn K (.builtin "object.__class__") "__get__") (some (some (.builtin "getset_descriptor.__get__")))) && ((eqB (PySem.W.takesIn K (.builtin "object.__class__")) (some true)) &&
  ((eqB (PySem.W.mroIn K (He.ga K "Table") (.type "object")) (some true)) && ((eqB (PySem.W.mroIn K (He.ga K "Maker") (.type "object")) (some true)) &&
  ((He.eqO (PySem.W.findIn K (.ref (He.ga K "Maker")) "__ne__") (some (some (.builtin "object.__ne__")))) && ((eqB (PySem.W.kitOne K (.ref (He.ga K "Table")) (.ref (He.ga K "Table"))) (some true)) &&
  ((eqB (PySem.W.kitOne K (.ref (He.ga K "Maker")) (.ref (He.ga K "Maker"))) (some true)) && ((eqB (PySem.W.kitOne K (.type "tuple") (.ref (He.ga K "Maker"))) (some false)) &&
  ((eqB (PySem.W.kitOne K (.type "int") (.ref (He.ga K "Maker"))) (some false)) && ((PySem.W.notFirst K (He.ga K "Maker") (.type "tuple")) && ((PySem.W.notFirst K (He.ga K "Maker") (.type "int")) &&
  ((PySem.W.notFirst K (He.ga K "Maker") (.ref (He.ga K "Maker"))) && ((PySem.W.fnIn K (He.ma K (He.ga K "Table") "__call__")) && (emptyT K (dfT K))))))))))))))))
structure Facts (K : PySem.W.Frag) (mg : Str → Option Value) : Prop where
  g_is_integer : mg "is_integer" = some (.ref (He.ga K "is_integer"))
  g_is_count : mg "is_count" = some (.ref (He.ga K "is_count"))
  g_is_listed : mg "is_listed" = some (.ref (He.ga K "is_listed"))
  g_is_counts : mg "is_counts" = some (.ref (He.ga K "is_counts"))
  g_deep : mg "deep" = some (.ref (He.ga K "deep"))
  g_value_at : mg "value_at" = some (.ref (He.ga K "value_at"))
  g_short_loop : mg "short_loop" = some (.ref (He.ga K "short_loop"))
  g_plain_form : mg "plain_form" = some (.ref (He.ga K "plain_form"))
  g_is_rising : mg "is_rising" = some (.ref (He.ga K "is_rising"))
  g_checked_table : mg "checked_table" = some (.ref (He.ga K "checked_table"))
  g_is_deed : mg "is_deed" = some (.ref (He.ga K "is_deed"))
  g_is_deeds : mg "is_deeds" = some (.ref (He.ga K "is_deeds"))
  g_is_ways : mg "is_ways" = some (.ref (He.ga K "is_ways"))
  g_is_way_numbers : mg "is_way_numbers" = some (.ref (He.ga K "is_way_numbers"))
  g_is_course : mg "is_course" = some (.ref (He.ga K "is_course"))
  g_takes_ahead : mg "takes_ahead" = some (.ref (He.ga K "takes_ahead"))
  g_check_inlet : mg "check_inlet" = some (.ref (He.ga K "check_inlet"))
  g_need_on : mg "need_on" = some (.ref (He.ga K "need_on"))
  g_law_source : mg "_law_source" = some (.ref (He.ga K "_law_source"))
  g_law_pick : mg "_law_pick" = some (.ref (He.ga K "_law_pick"))
  g_law_is_integer : mg "_law_is_integer" = some (.ref (He.ga K "_law_is_integer"))
  g_law_is_count : mg "_law_is_count" = some (.ref (He.ga K "_law_is_count"))
  g_law_plain : mg "_law_plain" = some (.ref (He.ga K "_law_plain"))
  g_law_same : mg "_law_same" = some (.ref (He.ga K "_law_same"))
  g_law_deeds : mg "_law_deeds" = some (.ref (He.ga K "_law_deeds"))
  g_law_maker : mg "_law_maker" = some (.ref (He.ga K "_law_maker"))
  g_law_made : mg "_law_made" = some (.ref (He.ga K "_law_made"))
  g_law_ahead : mg "_law_ahead" = some (.ref (He.ga K "_law_ahead"))
  g_law_on : mg "_law_on" = some (.ref (He.ga K "_law_on"))
  g_law_course : mg "_law_course" = some (.ref (He.ga K "_law_course"))
  g_law_walked : mg "_law_walked" = some (.ref (He.ga K "_law_walked"))
  g_law_asked : mg "_law_asked" = some (.ref (He.ga K "_law_asked"))
  g_law_other : mg "_law_other" = some (.ref (He.ga K "_law_other"))
  g_law : mg "law" = some (.ref (He.ga K "law"))
  g_Table : mg "Table" = some (.ref (He.ga K "Table"))
  g_Maker : mg "Maker" = some (.ref (He.ga K "Maker"))
  g_BadTable : mg "BadTable" = some (.ref (He.ga K "BadTable"))
  g_BadMaker : mg "BadMaker" = some (.ref (He.ga K "BadMaker"))
  g_BadCount : mg "BadCount" = some (.ref (He.ga K "BadCount"))
  g_BadInlet : mg "BadInlet" = some (.ref (He.ga K "BadInlet"))
  g_BadCourse : mg "BadCourse" = some (.ref (He.ga K "BadCourse"))
  g_TooMany : mg "TooMany" = some (.ref (He.ga K "TooMany"))
  b_isinstance : mg "isinstance" = none
  b_bool : mg "bool" = none
  b_int : mg "int" = none
  b_str : mg "str" = none
  b_tuple : mg "tuple" = none
  b_list : mg "list" = none
  b_all : mg "all" = none
  b_any : mg "any" = none
  b_len : mg "len" = none
  b_range : mg "range" = none
  b_abs : mg "abs" = none
  c_GIVE : ∃ t, mg "GIVE" = some (.str "give" t)
  c_MOST_INLETS : ∃ t, mg "MOST_INLETS" = some (.int 3 t)
  c_MOST_WAYS : ∃ t, mg "MOST_WAYS" = some (.int 4 t)
  c_MOST_DEEDS : ∃ t, mg "MOST_DEEDS" = some (.int 600 t)
  c_MOST_DEEDS_EACH : ∃ t, mg "MOST_DEEDS_EACH" = some (.int 24 t)
  c_MOST_FIRST : ∃ t, mg "MOST_FIRST" = some (.int 200 t)
  c_MOST_THEN : ∃ t, mg "MOST_THEN" = some (.int 40 t)
  cl_Table : Cls K (He.ga K "Table")
  mk_Table : Mk K (He.ga K "Table") (He.ma K (He.ga K "Table") "__init__")
  na_Table_head : NoAttr K (He.ga K "Table") "head"
  na_Table_loop : NoAttr K (He.ga K "Table") "loop"
  na_Table_rise : NoAttr K (He.ga K "Table") "rise"
  me_Tablecall : Meth K (He.ga K "Table") "__call__" (He.ma K (He.ga K "Table") "__call__")
  cl_Maker : Cls K (He.ga K "Maker")
  mk_Maker : Mk K (He.ga K "Maker") (He.ma K (He.ga K "Maker") "__init__")
  na_Maker_inlets : NoAttr K (He.ga K "Maker") "inlets"
  na_Maker_begin : NoAttr K (He.ga K "Maker") "begin"
  na_Maker_ways : NoAttr K (He.ga K "Maker") "ways"
  me_Makerneed : Meth K (He.ga K "Maker") "need" (He.ma K (He.ga K "Maker") "need")
  me_Makereq : Meth K (He.ga K "Maker") "__eq__" (He.ma K (He.ga K "Maker") "__eq__")
  F_is_integer : ∃ fd, FunD K "is_integer" "is_integer" (defArgs s_is_integer) (defBody s_is_integer) (defScope s_is_integer) [] [] (He.fAd K ("is_integer", none)) fd
  F_is_count : ∃ fd, FunD K "is_count" "is_count" (defArgs s_is_count) (defBody s_is_count) (defScope s_is_count) [] [] (He.fAd K ("is_count", none)) fd
  F_is_listed : ∃ fd, FunD K "is_listed" "is_listed" (defArgs s_is_listed) (defBody s_is_listed) (defScope s_is_listed) [] [] (He.fAd K ("is_listed", none)) fd
  F_is_counts : ∃ fd, FunD K "is_counts" "is_counts" (defArgs s_is_counts) (defBody s_is_counts) (defScope s_is_counts) [] [] (He.fAd K ("is_counts", none)) fd
  F_deep : ∃ fd, FunD K "deep" "deep" (defArgs s_deep) (defBody s_deep) (defScope s_deep) [] [] (He.fAd K ("deep", none)) fd
  F_value_at : ∃ fd, FunD K "value_at" "value_at" (defArgs s_value_at) (defBody s_value_at) (defScope s_value_at) [] [] (He.fAd K ("value_at", none)) fd
  F_short_loop : ∃ fd, FunD K "short_loop" "short_loop" (defArgs s_short_loop) (defBody s_short_loop) (defScope s_short_loop) [] [] (He.fAd K ("short_loop", none)) fd
  F_plain_form : ∃ fd, FunD K "plain_form" "plain_form" (defArgs s_plain_form) (defBody s_plain_form) (defScope s_plain_form) [] [] (He.fAd K ("plain_form", none)) fd
  F_is_rising : ∃ fd, FunD K "is_rising" "is_rising" (defArgs s_is_rising) (defBody s_is_rising) (defScope s_is_rising) [] [] (He.fAd K ("is_rising", none)) fd
  F_checked_table : ∃ fd, FunD K "checked_table" "checked_table" (defArgs s_checked_table) (defBody s_checked_table) (defScope s_checked_table) [] [] (He.fAd K ("checked_table", none)) fd
  F_Tableinit : ∃ fd, FunD K "__init__" "Table.__init__" (defArgs s_Tableinit) (defBody s_Tableinit) (defScope s_Tableinit) [.ref (dfT K), .int 0] [] (He.fAd K ("Table", some "__init__")) fd
  F_Tablecall : ∃ fd, FunD K "__call__" "Table.__call__" (defArgs s_Tablecall) (defBody s_Tablecall) (defScope s_Tablecall) [] [] (He.fAd K ("Table", some "__call__")) fd
  F_is_deed : ∃ fd, FunD K "is_deed" "is_deed" (defArgs s_is_deed) (defBody s_is_deed) (defScope s_is_deed) [] [] (He.fAd K ("is_deed", none)) fd
  F_is_deeds : ∃ fd, FunD K "is_deeds" "is_deeds" (defArgs s_is_deeds) (defBody s_is_deeds) (defScope s_is_deeds) [] [] (He.fAd K ("is_deeds", none)) fd
  F_is_ways : ∃ fd, FunD K "is_ways" "is_ways" (defArgs s_is_ways) (defBody s_is_ways) (defScope s_is_ways) [] [] (He.fAd K ("is_ways", none)) fd
  F_is_way_numbers : ∃ fd, FunD K "is_way_numbers" "is_way_numbers" (defArgs s_is_way_numbers) (defBody s_is_way_numbers) (defScope s_is_way_numbers) [] [] (He.fAd K ("is_way_numbers", none)) fd
  F_is_course : ∃ fd, FunD K "is_course" "is_course" (defArgs s_is_course) (defBody s_is_course) (defScope s_is_course) [] [] (He.fAd K ("is_course", none)) fd
  F_takes_ahead : ∃ fd, FunD K "takes_ahead" "takes_ahead" (defArgs s_takes_ahead) (defBody s_takes_ahead) (defScope s_takes_ahead) [] [] (He.fAd K ("takes_ahead", none)) fd
  F_check_inlet : ∃ fd, FunD K "check_inlet" "check_inlet" (defArgs s_check_inlet) (defBody s_check_inlet) (defScope s_check_inlet) [] [] (He.fAd K ("check_inlet", none)) fd
  F_need_on : ∃ fd, FunD K "need_on" "need_on" (defArgs s_need_on) (defBody s_need_on) (defScope s_need_on) [] [] (He.fAd K ("need_on", none)) fd
  F_Makerinit : ∃ fd, FunD K "__init__" "Maker.__init__" (defArgs s_Makerinit) (defBody s_Makerinit) (defScope s_Makerinit) [] [] (He.fAd K ("Maker", some "__init__")) fd
  F_Makereq : ∃ fd, FunD K "__eq__" "Maker.__eq__" (defArgs s_Makereq) (defBody s_Makereq) (defScope s_Makereq) [] [] (He.fAd K ("Maker", some "__eq__")) fd
  F_Makerneed : ∃ fd, FunD K "need" "Maker.need" (defArgs s_Makerneed) (defBody s_Makerneed) (defScope s_Makerneed) [] [] (He.fAd K ("Maker", some "need")) fd
  F_law_source : ∃ fd, FunD K "_law_source" "_law_source" (defArgs s_law_source) (defBody s_law_source) (defScope s_law_source) [] [] (He.fAd K ("_law_source", none)) fd
  F_law_pick : ∃ fd, FunD K "_law_pick" "_law_pick" (defArgs s_law_pick) (defBody s_law_pick) (defScope s_law_pick) [] [] (He.fAd K ("_law_pick", none)) fd
  F_law_is_integer : ∃ fd, FunD K "_law_is_integer" "_law_is_integer" (defArgs s_law_is_integer) (defBody s_law_is_integer) (defScope s_law_is_integer) [] [] (He.fAd K ("_law_is_integer", none)) fd
  F_law_is_count : ∃ fd, FunD K "_law_is_count" "_law_is_count" (defArgs s_law_is_count) (defBody s_law_is_count) (defScope s_law_is_count) [] [] (He.fAd K ("_law_is_count", none)) fd
  F_law_plain : ∃ fd, FunD K "_law_plain" "_law_plain" (defArgs s_law_plain) (defBody s_law_plain) (defScope s_law_plain) [] [] (He.fAd K ("_law_plain", none)) fd
  F_law_same : ∃ fd, FunD K "_law_same" "_law_same" (defArgs s_law_same) (defBody s_law_same) (defScope s_law_same) [] [] (He.fAd K ("_law_same", none)) fd
  F_law_deeds : ∃ fd, FunD K "_law_deeds" "_law_deeds" (defArgs s_law_deeds) (defBody s_law_deeds) (defScope s_law_deeds) [] [] (He.fAd K ("_law_deeds", none)) fd
  F_law_maker : ∃ fd, FunD K "_law_maker" "_law_maker" (defArgs s_law_maker) (defBody s_law_maker) (defScope s_law_maker) [] [] (He.fAd K ("_law_maker", none)) fd
  F_law_made : ∃ fd, FunD K "_law_made" "_law_made" (defArgs s_law_made) (defBody s_law_made) (defScope s_law_made) [] [] (He.fAd K ("_law_made", none)) fd
  F_law_ahead : ∃ fd, FunD K "_law_ahead" "_law_ahead" (defArgs s_law_ahead) (defBody s_law_ahead) (defScope s_law_ahead) [] [] (He.fAd K ("_law_ahead", none)) fd
  F_law_on : ∃ fd, FunD K "_law_on" "_law_on" (defArgs s_law_on) (defBody s_law_on) (defScope s_law_on) [] [] (He.fAd K ("_law_on", none)) fd
  F_law_course : ∃ fd, FunD K "_law_course" "_law_course" (defArgs s_law_course) (defBody s_law_course) (defScope s_law_course) [] [] (He.fAd K ("_law_course", none)) fd
  F_law_walked : ∃ fd, FunD K "_law_walked" "_law_walked" (defArgs s_law_walked) (defBody s_law_walked) (defScope s_law_walked) [] [] (He.fAd K ("_law_walked", none)) fd
  F_law_asked : ∃ fd, FunD K "_law_asked" "_law_asked" (defArgs s_law_asked) (defBody s_law_asked) (defScope s_law_asked) [] [] (He.fAd K ("_law_asked", none)) fd
  F_law_other : ∃ fd, FunD K "_law_other" "_law_other" (defArgs s_law_other) (defBody s_law_other) (defScope s_law_other) [] [] (He.fAd K ("_law_other", none)) fd
  F_law : ∃ fd, FunD K "law" "law" (defArgs s_law) (defBody s_law) (defScope s_law) [] [] (He.fAd K ("law", none)) fd
  ex : exB K = true
theorem facts_of {w : World} {h h' : Heap} {K : PySem.W.Frag} {mg : Str → Option Value} (X : K.In h) (G : h.Ns mainGlobals mg) (c : He.SaysX fa fn [] [] exB w h' K) : Facts K mg := by
  have d := c.t.d
  exact ⟨He.glo_ok X G (d.fact 0 (f := .glo "is_integer") rfl),
    He.glo_ok X G (d.fact 1 (f := .glo "is_count") rfl),
    He.glo_ok X G (d.fact 2 (f := .glo "is_listed") rfl),
    He.glo_ok X G (d.fact 3 (f := .glo "is_counts") rfl),
    He.glo_ok X G (d.fact 4 (f := .glo "deep") rfl),
    He.glo_ok X G (d.fact 5 (f := .glo "value_at") rfl),
    He.glo_ok X G (d.fact 6 (f := .glo "short_loop") rfl),
    He.glo_ok X G (d.fact 7 (f := .glo "plain_form") rfl),
    He.glo_ok X G (d.fact 8 (f := .glo "is_rising") rfl),
    He.glo_ok X G (d.fact 9 (f := .glo "checked_table") rfl),
    He.glo_ok X G (d.fact 10 (f := .glo "is_deed") rfl),
    He.glo_ok X G (d.fact 11 (f := .glo "is_deeds") rfl),
    He.glo_ok X G (d.fact 12 (f := .glo "is_ways") rfl),
    He.glo_ok X G (d.fact 13 (f := .glo "is_way_numbers") rfl),
    He.glo_ok X G (d.fact 14 (f := .glo "is_course") rfl),
    He.glo_ok X G (d.fact 15 (f := .glo "takes_ahead") rfl),
    He.glo_ok X G (d.fact 16 (f := .glo "check_inlet") rfl),
    He.glo_ok X G (d.fact 17 (f := .glo "need_on") rfl),
    He.glo_ok X G (d.fact 18 (f := .glo "_law_source") rfl),
    He.glo_ok X G (d.fact 19 (f := .glo "_law_pick") rfl),
    He.glo_ok X G (d.fact 20 (f := .glo "_law_is_integer") rfl),
    He.glo_ok X G (d.fact 21 (f := .glo "_law_is_count") rfl),
    He.glo_ok X G (d.fact 22 (f := .glo "_law_plain") rfl),
    He.glo_ok X G (d.fact 23 (f := .glo "_law_same") rfl),
    He.glo_ok X G (d.fact 24 (f := .glo "_law_deeds") rfl),
    He.glo_ok X G (d.fact 25 (f := .glo "_law_maker") rfl),
    He.glo_ok X G (d.fact 26 (f := .glo "_law_made") rfl),
    He.glo_ok X G (d.fact 27 (f := .glo "_law_ahead") rfl),
    He.glo_ok X G (d.fact 28 (f := .glo "_law_on") rfl),
    He.glo_ok X G (d.fact 29 (f := .glo "_law_course") rfl),
    He.glo_ok X G (d.fact 30 (f := .glo "_law_walked") rfl),
    He.glo_ok X G (d.fact 31 (f := .glo "_law_asked") rfl),
    He.glo_ok X G (d.fact 32 (f := .glo "_law_other") rfl),
    He.glo_ok X G (d.fact 33 (f := .glo "law") rfl),
    He.glo_ok X G (d.fact 34 (f := .glo "Table") rfl),
    He.glo_ok X G (d.fact 35 (f := .glo "Maker") rfl),
    He.glo_ok X G (d.fact 36 (f := .glo "BadTable") rfl),
    He.glo_ok X G (d.fact 37 (f := .glo "BadMaker") rfl),
    He.glo_ok X G (d.fact 38 (f := .glo "BadCount") rfl),
    He.glo_ok X G (d.fact 39 (f := .glo "BadInlet") rfl),
    He.glo_ok X G (d.fact 40 (f := .glo "BadCourse") rfl),
    He.glo_ok X G (d.fact 41 (f := .glo "TooMany") rfl),
    He.free_ok X G (d.fact 42 (f := .free "isinstance") rfl),
    He.free_ok X G (d.fact 43 (f := .free "bool") rfl),
    He.free_ok X G (d.fact 44 (f := .free "int") rfl),
    He.free_ok X G (d.fact 45 (f := .free "str") rfl),
    He.free_ok X G (d.fact 46 (f := .free "tuple") rfl),
    He.free_ok X G (d.fact 47 (f := .free "list") rfl),
    He.free_ok X G (d.fact 48 (f := .free "all") rfl),
    He.free_ok X G (d.fact 49 (f := .free "any") rfl),
    He.free_ok X G (d.fact 50 (f := .free "len") rfl),
    He.free_ok X G (d.fact 51 (f := .free "range") rfl),
    He.free_ok X G (d.fact 52 (f := .free "abs") rfl),
    He.str_ok X G (d.fact 53 (f := .str "GIVE" "give") rfl),
    He.int_ok X G (d.fact 54 (f := .int "MOST_INLETS" 3) rfl),
    He.int_ok X G (d.fact 55 (f := .int "MOST_WAYS" 4) rfl),
    He.int_ok X G (d.fact 56 (f := .int "MOST_DEEDS" 600) rfl),
    He.int_ok X G (d.fact 57 (f := .int "MOST_DEEDS_EACH" 24) rfl),
    He.int_ok X G (d.fact 58 (f := .int "MOST_FIRST" 200) rfl),
    He.int_ok X G (d.fact 59 (f := .int "MOST_THEN" 40) rfl),
    He.cls_ok (d.fact 60 (f := .cls "Table") rfl),
    He.mkr_ok (d.fact 61 (f := .mkr "Table") rfl),
    He.noat_ok (d.fact 62 (f := .noat "Table" "head") rfl),
    He.noat_ok (d.fact 63 (f := .noat "Table" "loop") rfl),
    He.noat_ok (d.fact 64 (f := .noat "Table" "rise") rfl),
    He.meth_ok (d.fact 65 (f := .meth "Table" "__call__") rfl),
    He.cls_ok (d.fact 66 (f := .cls "Maker") rfl),
    He.mkr_ok (d.fact 67 (f := .mkr "Maker") rfl),
    He.noat_ok (d.fact 68 (f := .noat "Maker" "inlets") rfl),
    He.noat_ok (d.fact 69 (f := .noat "Maker" "begin") rfl),
    He.noat_ok (d.fact 70 (f := .noat "Maker" "ways") rfl),
    He.meth_ok (d.fact 71 (f := .meth "Maker" "need") rfl),
    He.meth_ok (d.fact 72 (f := .meth "Maker" "__eq__") rfl),
    d.def_ 0 (d := d_is_integer) rfl,
    d.def_ 1 (d := d_is_count) rfl,
    d.def_ 2 (d := d_is_listed) rfl,
    d.def_ 3 (d := d_is_counts) rfl,
    d.def_ 4 (d := d_deep) rfl,
    d.def_ 5 (d := d_value_at) rfl,
    d.def_ 6 (d := d_short_loop) rfl,
    d.def_ 7 (d := d_plain_form) rfl,
    d.def_ 8 (d := d_is_rising) rfl,
    d.def_ 9 (d := d_checked_table) rfl,
    d.def_ 10 (d := d_Tableinit) rfl,
    d.def_ 11 (d := d_Tablecall) rfl,
    d.def_ 12 (d := d_is_deed) rfl,
    d.def_ 13 (d := d_is_deeds) rfl,
    d.def_ 14 (d := d_is_ways) rfl,
    d.def_ 15 (d := d_is_way_numbers) rfl,
    d.def_ 16 (d := d_is_course) rfl,
    d.def_ 17 (d := d_takes_ahead) rfl,
    d.def_ 18 (d := d_check_inlet) rfl,
    d.def_ 19 (d := d_need_on) rfl,
    d.def_ 20 (d := d_Makerinit) rfl,
    d.def_ 21 (d := d_Makereq) rfl,
    d.def_ 22 (d := d_Makerneed) rfl,
    d.def_ 23 (d := d_law_source) rfl,
    d.def_ 24 (d := d_law_pick) rfl,
    d.def_ 25 (d := d_law_is_integer) rfl,
    d.def_ 26 (d := d_law_is_count) rfl,
    d.def_ 27 (d := d_law_plain) rfl,
    d.def_ 28 (d := d_law_same) rfl,
    d.def_ 29 (d := d_law_deeds) rfl,
    d.def_ 30 (d := d_law_maker) rfl,
    d.def_ 31 (d := d_law_made) rfl,
    d.def_ 32 (d := d_law_ahead) rfl,
    d.def_ 33 (d := d_law_on) rfl,
    d.def_ 34 (d := d_law_course) rfl,
    d.def_ 35 (d := d_law_walked) rfl,
    d.def_ 36 (d := d_law_asked) rfl,
    d.def_ 37 (d := d_law_other) rfl,
    d.def_ 38 (d := d_law) rfl,
    c.more⟩
end K24
set_option Elab.async false
set_option linter.all false
set_option maxRecDepth 100000
set_option maxHeartbeats 0
/-! The head: the top by one kernel run. -/
namespace K24
open PySem PySem.Spec PyProof.Rows L2
abbrev RR : PySem.W.OpenRow := PySem.W.OpenLaw.row PySem.Challenge.rw_needforth_k24_whole_needs_on_courses
abbrev hk : PySem.W.Hook := He.hookX 6 fa fn [] [] exB
def ob (s : PySem.W.SharedT) : He.AlX := He.obsX 6 fa fn [] [] exB (HandSHeadRun.getT s)
theorem ob_eq (s : PySem.W.SharedT) : ob s = hk.obs s.abs := He.obsX_eq (HandSHeadRun.getT_eq s)
theorem run (w : World) : HandSHeadRun.RunEq RR (PySem.W.view RR.prog [74]) hk ob 20000 loose w := by
  intro os
  kernel_rfl
end K24
set_option Elab.async false
set_option linter.all false
set_option maxRecDepth 100000
set_option maxHeartbeats 4000000
/-! Own rules: == and != of instances by their own __eq__; a for over a list or a tuple. -/
namespace K24
open PySem PySem.Spec PyProof.Rows L2

/-! ### == and != by an own __eq__, whatever it answers -/
structure OwnC (K : PySem.W.Frag) (C f : Addr) : Prop where
  eq : PySem.W.findIn K (.ref C) "__eq__" = some (some (.ref f))
  fn : PySem.W.isFn K (.ref f) = true
  ne : PySem.W.findIn K (.ref C) "__ne__" = some (some (.builtin "object.__ne__"))
  ob : PySem.W.mroIn K C (.type "object") = some true
def rOwnEq (K : PySem.W.Frag) (C : Addr) (sp : Sp) : R2 := fun x y H Q => ∃ a dx fs t, x = .ref a ∧ H a = some (.ins C dx fs) ∧ TyX K H y t ∧ PySem.W.notFirst K C t = true ∧ sp [x, y] H Q E0
def rOwnNe (K : PySem.W.Frag) (C : Addr) (sp : Sp) : R2 := fun x y H Q => ∃ a dx fs t, x = .ref a ∧ H a = some (.ins C dx fs) ∧ TyX K H y t ∧ PySem.W.notFirst K C t = true ∧ sp [x, y] H (fun v H' => ∃ c, v = .bl c ∧ Q (.bl (!c)) H') E0
section
variable {X : Cx} {k : Nat} {C f : Addr} {fd : FuncData} {ps : List Str} {sp : Sp}
theorem run_at {A : Around} {pins : List (Addr × Obj)} {σ : L2.St} {H : Hp} {s : Shared} {Q : VK} {us : List Value} {vs : List V} (hfr : A.frames = X.A.frames) (F : FnOk X.prog X.w X.K X.mg X.base CX0 k f fd ps sp) (hr : Room k A) (hb : Binds X.K fd ps [])
    (I : Inv X pins σ H s) (r : Vals vs us) (h : sp vs H Q E0) : wpAny (model X.prog X.w) A (call (.ref f) us) (EP X pins σ Q) X.xe s := by
  have hl : us.length = ps.length := by rw [← r.length]; exact F.len _ _ _ _ h
  have e0 : Env0 X.prog X.w X.K X.mg X.base A X.stack s H := by
    have e := I.env0
    exact ⟨by rw [hfr]; exact e.frames, e.mod, e.bs, e.bsz, e.funs, e.frf, e.hok, e.bare⟩
  have hb' := hb s us I.kIn (by rw [List.append_nil]; exact hl)
  rw [List.append_nil] at hb'
  refine wpAny_call (codeAny_mono (F.run A X.stack s H ⟨us, []⟩ us vs Q E0 hr e0 hb' r h) fun r s' hq => ?_)
  cases r with
  | error e => exact False.elim hq
  | ok fl =>
    cases fl with
    | ret u => exact I.after hq
    | next => exact False.elim hq
    | brk => exact False.elim hq
    | cont => exact False.elim hq
theorem op_ownEq (O : OwnC X.K C f) (F : FnOk X.prog X.w X.K X.mg X.base CX0 k f fd ps sp) (hr : Room k X.A) (hb : Binds X.K fd ps []) : OpR X (compareOp .Eq) (rOwnEq X.K C sp) := by
  intro pins s σ H x y v u Q I rx ry h
  obtain ⟨a, dx, fs, t, rfl, ha, ty, hn, q⟩ := h
  obtain rfl : v = Value.ref a := rx
  obtain ⟨P, Z, p, hx⟩ := kit_of I ry ty
  obtain ⟨mA, J, _⟩ := ins_get I.hok ha
  obtain ⟨od, J, _⟩ := J.look
  obtain ⟨m, hF⟩ := I.fr
  show wpAny _ X.A (richCompare .Eq (.ref a) u) _ _ s
  refine PySem.W.cmp_K (op := .Eq) (tb := t) hr.units0 hF I.ok.mod.kin J (Z.ty _ _ I.kIn p) hn O.eq O.fn ?_
  refine wpAny_mono (run_at (X := X) (A := X.A) (Eq.refl X.A.frames) F hr hb I (.cons (show L2.RelV (.ref a) (.ref a) from rfl) (.cons ry .nil)) q) (fun r s' hq => ?_) fun _ _ z => z
  have hni : r ≠ .notImplemented := fun e => by
    obtain ⟨v, H', I', rv, qv⟩ := hq
    subst e
    cases v <;> first | (cases rv; done) | (obtain ⟨_, z⟩ := rv; cases z; done)
  cases r <;> first | exact hq | exact absurd rfl hni
theorem ne_run {A : Around} {pins : List (Addr × Obj)} {σ : L2.St} {H : Hp} {s : Shared} {Q : VK} {a dx : Addr} {fs : List (Str × V)} {y : V} {u t : Value} (hfr : A.frames = X.A.frames) (O : OwnC X.K C f) (F : FnOk X.prog X.w X.K X.mg X.base CX0 k f fd ps sp) (hr : Room (k + 1) A) (hb : Binds X.K fd ps [])
    (I : Inv X pins σ H s) (ry : RelV y u) (ha : H a = some (.ins C dx fs)) (q : sp [.ref a, y] H (fun v H' => ∃ c, v = .bl c ∧ Q (.bl (!c)) H') E0) :
    wpAny (model X.prog X.w) A (tryCompare (.ref a) "__ne__" u) (fun r s' => ∃ v, r = some v ∧ EP X pins σ Q v s') X.xe s := by
  obtain ⟨mA, J, _⟩ := ins_get I.hok ha
  obtain ⟨od, J, _⟩ := J.look
  have KX := I.kIn
  have L := J.type (M := model X.prog X.w)
  have hin : wpAny (model X.prog X.w) A.in1 (Builtin.«object.__ne__» ⟨[.ref a, u], []⟩) (fun fin s' => ∃ v, fin = .done (.ret v) ∧ ∃ b, v = .bool b ∧ EP X pins σ Q (.bool b) s') X.xe s := by
    unfold Builtin.«object.__ne__»
    have key : wpAny (model X.prog X.w) A.in1 (callSpecialIfBound? (.ref a) (Str.ofString "__eq__") [u]) (fun r s' => ∃ c, r = some (.bool c) ∧ EP X pins σ Q (.bool (!c)) s') X.xe s := by
      refine PySem.W.ifBound_K KX J O.eq O.fn (wpAny_mono (run_at (X := X) (A := A.in1) hfr F hr.in1 hb I (.cons (show L2.RelV (.ref a) (.ref a) from rfl) (.cons ry .nil)) q) (fun r s' hq => ?_) fun _ _ e => e)
      obtain ⟨v, H', I', rv, c, ev, qv⟩ := hq
      subst ev
      obtain rfl : r = Value.bool c := rv
      exact ⟨c, rfl, V.bl (!c), H', I', rfl, qv⟩
    repeat (first
      | with_reducible refine wpAny_cRoomFor hr.in1.units0 ?_
      | (refine wpAny_bind (m := callSpecialIfBound? (.ref a) (Str.ofString "__eq__") [u]) (wpAny_mono key (fun r s' hq => ?_) fun _ _ e => e)
         obtain ⟨c, rfl, hq⟩ := hq
         have fin : ∃ v, Fin.done (.ret (.bool (!c))) = .done (.ret v) ∧ ∃ b, v = .bool b ∧ EP X pins σ Q (.bool b) s' := ⟨_, rfl, _, rfl, hq⟩
         repeat (first | exact fin | exact wpAny_pure fin | exact wpAny_truthy_bool fin | (refine wpAny_bind (m := truthy (.bool _)) (wpAny_truthy_bool ?_)) | wp_step))
      | wp_step)
  have hcall : wpAny (model X.prog X.w) A (call (.builtin "object.__ne__") [.ref a, u]) (fun v s' => ∃ b, v = .bool b ∧ EP X pins σ Q (.bool b) s') X.xe s := by
    refine wpAny_call (codeAny_call_builtin PySem.F.cmp_object.ne.plain PySem.F.cmpEntry_ne ?_)
    have hchk : ∀ {Q' : Unit → Shared → Prop} {E' : Value → Shared → Prop}, Q' () s → wpAny (model X.prog X.w) A.in1 (checkBuiltinCall "object.__ne__" ⟨[.ref a, u], []⟩) Q' E' s := by
      intro Q' E' hq
      simp only [checkBuiltinCall, PySem.F.cmpKind_ne, PySem.F.cmpSplit_ne]
      refine wpAny_bind ?_
      unfold isInstance
      refine wpAny_bind (L.here ((PySem.W.looks_mroIn KX O.ob).here ?_))
      have tail : wpAny (model X.prog X.w) A.in1 (match Manifest.signature? "object.__ne__" with | none => pure () | some sig => Bind.checkArgs "object.__ne__" sig ⟨[.ref a, u], []⟩) Q' E' s := by
        have ha2 := PySem.F.cmpArgs_ne (.ref a) u
        cases hsig : Manifest.signature? "object.__ne__" with
        | none => exact wpAny_pure hq
        | some sig =>
          simp only [argsOk, hsig] at ha2
          have h2 : Bind.checkArgs "object.__ne__" sig ⟨[.ref a, u], []⟩ = pure () := ha2
          show wpAny _ _ (Bind.checkArgs "object.__ne__" sig ⟨[.ref a, u], []⟩) Q' E' s
          rw [h2]
          exact wpAny_pure hq
      repeat (first | exact tail | wp_step)
    refine hchk (wpAny_mono hin (fun fin s' hq => ?_) fun _ _ e => e)
    obtain ⟨v, rfl, b, rfl, hq⟩ := hq
    exact ⟨b, rfl, hq⟩
  unfold tryCompare
  simp only [callSpecialIfBound?, bindSpecialIfBound?]
  refine wpAny_bind (wpAny_holding (wpAny_bind (wpAny_bind (wpAny_bind (L.here ((PySem.W.looks_findIn KX O.ne).here ?_))))))
  simp only [PySem.F.cmp_object.ne.bind]
  refine wpAny_bind (wpAny_askSetting (wpAny_ite ?_))
  have fin : ∀ {Q' : Option Value → Shared → Prop}, (∀ v s', (∃ b, v = .bool b ∧ EP X pins σ Q (.bool b) s') → Q' (some v) s') → wpAny (model X.prog X.w) A (call (.builtin "object.__ne__") ([.ref a] ++ [u]) >>= fun v => pure (some v)) Q' X.xe s := fun hQ =>
    wpAny_bind (wpAny_mono hcall (fun v s' h' => wpAny_pure (hQ v s' h')) fun _ _ h' => h')
  split
  · refine wpAny_bind (wpAny_pure (wpAny_pure (fin fun v s' hv => ?_)))
    obtain ⟨b, rfl, hq⟩ := hv
    exact wpAny_pure ⟨_, rfl, hq⟩
  · refine wpAny_tryCatch (wpAny_bind (wpAny_pure (wpAny_pure (fin fun v s' hv => ?_))))
    obtain ⟨b, rfl, hq⟩ := hv
    exact wpAny_pure ⟨_, rfl, hq⟩
theorem op_ownNe (O : OwnC X.K C f) (F : FnOk X.prog X.w X.K X.mg X.base CX0 k f fd ps sp) (hr : Room (k + 1) X.A) (hb : Binds X.K fd ps []) : OpR X (compareOp .NotEq) (rOwnNe X.K C sp) := by
  intro pins s σ H x y v u Q I rx ry h
  obtain ⟨a, dx, fs, t, rfl, ha, ty, hn, q⟩ := h
  obtain rfl : v = Value.ref a := rx
  obtain ⟨P, Z, p, hx⟩ := kit_of I ry ty
  obtain ⟨mA, J, _⟩ := ins_get I.hok ha
  obtain ⟨od, J, _⟩ := J.look
  have L := J.type (M := model X.prog X.w)
  have one := ne_run (A := X.A) (t := t) (Eq.refl X.A.frames) O F hr hb I ry ha q
  refine PySem.W.cmp_ofNotEq ?_
  unfold richCompare
  simp only [oneThing_ref]
  refine wpAny_holding (wpAny_bind (wpAny_cRoomFor hr.units0 ?_))
  refine wpAny_bind (L.here (wpAny_bind ((Z.ty _ _ I.kIn p).here ?_)))
  split
  · rename_i q'
    have e : PySem.W.subIn X.K t (.ref C) = some false := by
      rcases Bool.or_eq_true_iff.mp hn with e | e
      · rw [beq_iff_eq.mp e] at q'; simp at q'
      · exact beq_iff_eq.mp e
    refine wpAny_bind ((PySem.W.looks_subIn I.kIn e).here ?_)
    simp only [Bool.false_eq_true, if_false]
    refine wpAny_bind (wpAny_mono one (fun r s' z => ?_) fun _ _ e => e)
    obtain ⟨v, rfl, hq⟩ := z
    exact wpAny_pure hq
  · refine wpAny_bind (wpAny_pure ?_)
    simp only [Bool.false_eq_true, if_false]
    refine wpAny_bind (wpAny_mono one (fun r s' z => ?_) fun _ _ e => e)
    obtain ⟨v, rfl, hq⟩ := z
    exact wpAny_pure hq
end

/-! ### a for over a list or a tuple -/
def iSeq (K : PySem.W.Frag) (tl : TE) : TI := fun σ H R => tl σ H fun x H1 => ∃ a, x = .ref a ∧ (((∃ xs, SqL K H1 a xs) ∧ R (Itl K a) H1) ∨ ((∃ xs, SqT K H1 a xs) ∧ R (Itt K a) H1))
theorem pi_seq {X : Cx} {tg l : Expr} {tl : TE} (hl : PE X l tl) : PI X tg l (iSeq X.K tl) := by
  refine ⟨fun pins s σ H R I h => ?_⟩
  refine thn (hl.run pins s σ H _ I h) fun v s1 ⟨x, H1, I1, r1, q1⟩ => ?_
  obtain ⟨a, e, q1⟩ := q1
  subst e
  cases r1
  rcases q1 with ⟨⟨xs, hq⟩, q⟩ | ⟨⟨xs, hq⟩, q⟩
  · obtain ⟨its, rv, p, hz⟩ := I1.list hq
    refine wpAny_pyIter_list p.isList ?_
    refine ⟨s1.heap.objs.size, [s1.heap.objs.size], _, _, H1, rfl, I1.kept (t' := s1.toks) fun b o e => Heap.get?_push_of_some _ e, turn_list a _, ⟨_, Heap.get?_push_size _ rfl, rfl, rfl⟩, fun b hb => ?_, q⟩
    have e : b = s1.heap.objs.size := by simpa using hb
    subst e
    exact I1.fpOk (Nat.le_refl _) (I1.hok.fresh (Nat.le_refl _))
  · obtain ⟨its, rv, p, hz⟩ := I1.tuple hq
    refine wpAny_pyIter_tuple (show s1.heap.IsTuple a its.toArray from p) ?_
    refine ⟨s1.heap.objs.size, [s1.heap.objs.size], _, _, H1, rfl, I1.kept (t' := s1.toks) fun b o e => Heap.get?_push_of_some _ e, turn_tuple a _, ⟨_, Heap.get?_push_size _ rfl, rfl, rfl⟩, fun b hb => ?_, q⟩
    have e : b = s1.heap.objs.size := by simpa using hb
    subst e
    exact I1.fpOk (Nat.le_refl _) (I1.hok.fresh (Nat.le_refl _))
end K24
set_option Elab.async false
set_option linter.all false
set_option maxRecDepth 100000
set_option maxHeartbeats 4000000
/-! What is said of values and heaps; readings as steps. -/
namespace K24
open PySem PySem.Spec PyProof.Rows L2

/-! ### what stands where -/
def SqA (K : PySem.W.Frag) (H : Hp) (v : V) (xs : List V) : Prop := ∃ a, v = .ref a ∧ (SqL K H a xs ∨ SqT K H a xs)
def SqLv (K : PySem.W.Frag) (H : Hp) (v : V) (xs : List V) : Prop := ∃ a, v = .ref a ∧ SqL K H a xs
def TuA (K : PySem.W.Frag) (H : Hp) (v : V) (xs : List V) : Prop := ∃ a, v = .ref a ∧ SqT K H a xs
section
variable {K : PySem.W.Frag} {H H' : Hp} {v : V} {xs : List V} {p : Addr}
theorem SqA.ext (h : SqA K H v xs) (e : Ext H H') : SqA K H' v xs := by
  obtain ⟨a, rfl, h⟩ := h
  exact ⟨a, rfl, h.elim (fun h => .inl (SqL.ext h e)) fun h => .inr (SqT.ext h e)⟩
theorem SqLv.ext (h : SqLv K H v xs) (e : Ext H H') : SqLv K H' v xs := let ⟨a, e1, h⟩ := h; ⟨a, e1, SqL.ext h e⟩
theorem TuA.ext (h : TuA K H v xs) (e : Ext H H') : TuA K H' v xs := let ⟨a, e1, h⟩ := h; ⟨a, e1, SqT.ext h e⟩
theorem SqLv.sq (h : SqLv K H v xs) : SqA K H v xs := let ⟨a, e1, h⟩ := h; ⟨a, e1, .inl h⟩
theorem TuA.sq (h : TuA K H v xs) : SqA K H v xs := let ⟨a, e1, h⟩ := h; ⟨a, e1, .inr h⟩
theorem SqLv.of (h : H p = some (.lst xs)) : SqLv K H (.ref p) xs := ⟨p, rfl, SqL.of h⟩
theorem SqA.ofL (h : H p = some (.lst xs)) : SqA K H (.ref p) xs := ⟨p, rfl, .inl (SqL.of h)⟩
theorem SqA.ofT (h : H p = some (.tup xs)) : SqA K H (.ref p) xs := ⟨p, rfl, .inr (SqT.of h)⟩
theorem TuA.of (h : H p = some (.tup xs)) : TuA K H (.ref p) xs := ⟨p, rfl, SqT.of h⟩
theorem ext_at {o : HO} (h : H p = some o) (e : Ext H H') : H' p = some o := e _ _ h
theorem ext_free {p : Addr} (e : Ext H H') (h : H' p = none) : H p = none := by
  cases q : H p with
  | none => rfl
  | some o =>
    rw [e _ _ q] at h
    cases h
/-- an object that H does not know may change -/
theorem ext_mut {o : HO} (e : Ext H H') (h : H p = none) : Ext H (upd H' p o) := fun a u ha => by
  rw [upd_ne (ne_of_none ha h)]
  exact e a u ha
end

/-! ### deeds, ways -/
def Dd.v : Dd → V
  | .give => .str "give"
  | .take i => .int i
theorem Dd.flat (d : Dd) : flatV d.v = true := by cases d <;> rfl
def okDs (n : Int) (ds : List Dd) : Prop := ∀ i, Dd.take i ∈ ds → 0 ≤ i ∧ i < n
def WsA (K : PySem.W.Frag) (H : Hp) (v : V) (ws : List (List Dd)) : Prop := ∃ us, SqA K H v us ∧ us.length = ws.length ∧ ∀ (j : Nat) u w, us[j]? = some u → ws[j]? = some w → SqA K H u (w.map Dd.v)
def WsT (K : PySem.W.Frag) (H : Hp) (v : V) (ws : List (List Dd)) : Prop := ∃ us, TuA K H v us ∧ us.length = ws.length ∧ ∀ (j : Nat) u w, us[j]? = some u → ws[j]? = some w → TuA K H u (w.map Dd.v)
section
variable {K : PySem.W.Frag} {H H' : Hp} {v : V} {ws : List (List Dd)}
theorem WsA.ext (h : WsA K H v ws) (e : Ext H H') : WsA K H' v ws := let ⟨us, h1, h2, h3⟩ := h; ⟨us, h1.ext e, h2, fun j u w a b => (h3 j u w a b).ext e⟩
theorem WsT.ext (h : WsT K H v ws) (e : Ext H H') : WsT K H' v ws := let ⟨us, h1, h2, h3⟩ := h; ⟨us, h1.ext e, h2, fun j u w a b => (h3 j u w a b).ext e⟩
theorem WsT.wa (h : WsT K H v ws) : WsA K H v ws := let ⟨us, h1, h2, h3⟩ := h; ⟨us, h1.sq, h2, fun j u w a b => (h3 j u w a b).sq⟩
end
/-- a maker's data -/
structure Mkr where
  inlets : Int
  begin_ : List Dd
  ways : List (List Dd)
structure Mkr.Ok (m : Mkr) : Prop where
  in1 : 1 ≤ m.inlets
  in3 : m.inlets ≤ 3
  bl : m.begin_.length ≤ 10
  bo : okDs m.inlets m.begin_
  w1 : 1 ≤ m.ways.length
  w4 : m.ways.length ≤ 4
  wn : ∀ w ∈ m.ways, w ≠ []
  wl : ∀ w ∈ m.ways, w.length ≤ 10
  wo : ∀ w ∈ m.ways, okDs m.inlets w
/-- as the tuple of a law -/
def MkrT (K : PySem.W.Frag) (H : Hp) (v : V) (m : Mkr) : Prop := ∃ b w, TuA K H v [.int m.inlets, b, w] ∧ TuA K H b (m.begin_.map Dd.v) ∧ WsT K H w m.ways
theorem MkrT.ext {K : PySem.W.Frag} {H H' : Hp} {v : V} {m : Mkr} (h : MkrT K H v m) (e : Ext H H') : MkrT K H' v m := let ⟨b, w, h1, h2, h3⟩ := h; ⟨b, w, h1.ext e, h2.ext e, h3.ext e⟩

/-! ### instances: a maker, a table -/
theorem ne_ib : ¬ (("inlets" : Str) = "begin") := by decide +kernel
theorem ne_iw : ¬ (("inlets" : Str) = "ways") := by decide +kernel
theorem ne_bw : ¬ (("begin" : Str) = "ways") := by decide +kernel
theorem ne_hl : ¬ (("head" : Str) = "loop") := by decide +kernel
theorem ne_hr : ¬ (("head" : Str) = "rise") := by decide +kernel
theorem ne_lr : ¬ (("loop" : Str) = "rise") := by decide +kernel
def mf (i b w : V) : List (Str × V) := putF "ways" w (putF "begin" b (putF "inlets" i []))
theorem mf_i (i b w : V) : (mf i b w).lookup ("inlets" : Str) = some i := by
  unfold mf
  rw [lookup_putF, if_neg ne_iw, lookup_putF, if_neg ne_ib, lookup_putF, if_pos rfl]
theorem mf_b (i b w : V) : (mf i b w).lookup ("begin" : Str) = some b := by
  unfold mf
  rw [lookup_putF, if_neg ne_bw, lookup_putF, if_pos rfl]
theorem mf_w (i b w : V) : (mf i b w).lookup ("ways" : Str) = some w := by
  unfold mf
  rw [lookup_putF, if_pos rfl]
theorem mf_no (i b w : V) {f : Str} (h1 : ¬ f = "ways") (h2 : ¬ f = "begin") (h3 : ¬ f = "inlets") : (mf i b w).lookup f = none := by
  unfold mf
  rw [lookup_putF, if_neg h1, lookup_putF, if_neg h2, lookup_putF, if_neg h3]
  all_goals rfl
def tf (h l r : V) : List (Str × V) := putF "rise" r (putF "loop" l (putF "head" h []))
theorem tf_h (h l r : V) : (tf h l r).lookup ("head" : Str) = some h := by
  unfold tf
  rw [lookup_putF, if_neg ne_hr, lookup_putF, if_neg ne_hl, lookup_putF, if_pos rfl]
theorem tf_l (h l r : V) : (tf h l r).lookup ("loop" : Str) = some l := by
  unfold tf
  rw [lookup_putF, if_neg ne_lr, lookup_putF, if_pos rfl]
theorem tf_r (h l r : V) : (tf h l r).lookup ("rise" : Str) = some r := by
  unfold tf
  rw [lookup_putF, if_pos rfl]
abbrev cM (K : PySem.W.Frag) : Addr := He.ga K "Maker"
abbrev cT (K : PySem.W.Frag) : Addr := He.ga K "Table"
def MkrO (K : PySem.W.Frag) (H : Hp) (a : Addr) (m : Mkr) : Prop := ∃ dx b w, H a = some (.ins (cM K) dx (mf (.int m.inlets) b w)) ∧ TuA K H b (m.begin_.map Dd.v) ∧ WsT K H w m.ways
def TblO (K : PySem.W.Frag) (H : Hp) (a : Addr) (r : Raw) : Prop := ∃ dx h l, H a = some (.ins (cT K) dx (tf h l (.int r.2.2))) ∧ TuA K H h (r.1.map V.int) ∧ TuA K H l (r.2.1.map V.int)
theorem MkrO.ext {K : PySem.W.Frag} {H H' : Hp} {a : Addr} {m : Mkr} (h : MkrO K H a m) (e : Ext H H') : MkrO K H' a m := let ⟨dx, b, w, h1, h2, h3⟩ := h; ⟨dx, b, w, e _ _ h1, h2.ext e, h3.ext e⟩
theorem TblO.ext {K : PySem.W.Frag} {H H' : Hp} {a : Addr} {r : Raw} (h : TblO K H a r) (e : Ext H H') : TblO K H' a r := let ⟨dx, b, w, h1, h2, h3⟩ := h; ⟨dx, b, w, e _ _ h1, h2.ext e, h3.ext e⟩
/-- a triple of a head, a loop and a rise -/
def RawT (K : PySem.W.Frag) (H : Hp) (v : V) (r : Raw) : Prop := ∃ h l, TuA K H v [h, l, .int r.2.2] ∧ TuA K H h (r.1.map V.int) ∧ TuA K H l (r.2.1.map V.int)
theorem RawT.ext {K : PySem.W.Frag} {H H' : Hp} {v : V} {r : Raw} (h : RawT K H v r) (e : Ext H H') : RawT K H' v r := let ⟨b, w, h1, h2, h3⟩ := h; ⟨b, w, h1.ext e, h2.ext e, h3.ext e⟩

/-! ### tests whose answer is known -/
theorem ite_t {b : Bool} {A B : Prop} (e : b = true) (h : A) : if b = true then A else B := by rw [if_pos e]; exact h
theorem ite_f {b : Bool} {A B : Prop} (e : b = false) (h : B) : if b = true then A else B := by rw [e, if_neg Bool.false_ne_true]; exact h
theorem ite_b {b : Bool} {A B : Prop} (h1 : b = true → A) (h2 : b = false → B) : if b = true then A else B := by
  cases b with
  | true => rw [if_pos rfl]; exact h1 rfl
  | false => rw [if_neg Bool.false_ne_true]; exact h2 rfl
theorem ite_d {p : Prop} [Decidable p] {A B : Prop} (h1 : p → A) (h2 : ¬ p → B) : if decide p = true then A else B := by
  by_cases h : p
  · rw [if_pos (decide_eq_true h)]; exact h1 h
  · rw [if_neg (by rw [decide_eq_false h]; exact Bool.false_ne_true)]; exact h2 h

/-! ### readings as steps -/
section
variable {σ : L2.St} {H : Hp} {Q : VK} {D : Ends} {t u : TS} {i : Nat} {v x y : V} {te ta tb tc tx : TE} {c d : TT} {K : PySem.W.Frag}
theorem rd_seq (q : t { D with nx := u D } σ H) : tSeq t u D σ H := q
theorem rd_next (q : D.nx σ H) : tNext D σ H := q
theorem rd_cont (q : D.ct σ H) : tCont D σ H := q
theorem rd_break (q : D.bk σ H) : tBreak D σ H := q
theorem rd_if (q : c σ H fun b H1 => if b = true then t D σ H1 else u D σ H1) : tIfS c t u D σ H := q
theorem rd_ret (q : te σ H D.rt) : tRet te D σ H := q
theorem rd_drop (q : te σ H fun _ H1 => D.nx σ H1) : tDrop te D σ H := q
theorem rd_asg (q : te σ H fun x H1 => D.nx (σ.set i (some x)) H1) : tAsg te (gName i) D σ H := q
theorem rd_aug {f : Int → Int → Int} {a b : Int} (h : σ[i]? = some (some (.int a))) (q : D.nx (σ.set i (some (.int (f a b)))) H) : tAug i (tC (.int b)) (ipI f) D σ H := ⟨_, h, a, b, rfl, rfl, q⟩
theorem rd_var (h : σ[i]? = some (some v)) (q : Q v H) : tVar i σ H Q := ⟨v, h, q⟩
theorem rd_c (q : Q v H) : tC v σ H Q := q
theorem rd_op {r : R2} (q : ta σ H fun x H1 => tb σ H1 fun y H2 => r x y H2 Q) : tOp r ta tb σ H Q := q
theorem rd_un {r : V → Hp → VK → Prop} (q : ta σ H fun x H1 => r x H1 Q) : tUn r ta σ H Q := q
theorem rd_I0 {g : Int → Int → V} {i j : Int} (q : Q (g i j) H) : rI0 g (.int i) (.int j) H Q := ⟨i, j, rfl, rfl, q⟩
theorem rd_I {C : Int → Int → Prop} {g : Int → Int → V} {i j : Int} (h : C i j) (q : Q (g i j) H) : rI C g (.int i) (.int j) H Q := ⟨i, j, rfl, rfl, h, q⟩
theorem rd_U {g : Int → V} {i : Int} (q : Q (g i) H) : rU g (.int i) H Q := ⟨i, rfl, q⟩
theorem rd_eq (h : scal x y = true) (q : Q (.bl (decide (x = y))) H) : rEq x y H Q := ⟨h, q⟩
theorem rd_ne (h : scal x y = true) (q : Q (.bl (!decide (x = y))) H) : rNe x y H Q := ⟨h, q⟩
theorem rd_test {QT : Bool → Hp → Prop} (q : te σ H fun x H' => ∃ k, x = .bl k ∧ QT k H') : tTest te σ H QT := q
theorem rd_B {QT : Bool → Hp → Prop} (q : te σ H fun x H' => ∃ k, x = .bl k ∧ QT k H') : tB te σ H QT := q
theorem rd_bl {QT : Bool → Prop} {b : Bool} (q : QT b) : ∃ k, V.bl b = .bl k ∧ QT k := ⟨b, rfl, q⟩
theorem rd_and {QT : Bool → Hp → Prop} (q : c σ H fun b H1 => if b = true then d σ H1 QT else QT false H1) : tAnd c d σ H QT := q
theorem rd_or {QT : Bool → Hp → Prop} (q : c σ H fun b H1 => if b = true then QT true H1 else d σ H1 QT) : tOr c d σ H QT := q
theorem rd_not {QT : Bool → Hp → Prop} (q : c σ H fun b H1 => QT (!b) H1) : tNot c σ H QT := q
theorem rd_andV (q : ta σ H fun x H1 => ∃ c, x = .bl c ∧ if c = true then tb σ H1 Q else Q (.bl false) H1) : tAndV ta tb σ H Q := q
theorem rd_orV (q : ta σ H fun x H1 => ∃ c, x = .bl c ∧ if c = true then Q (.bl true) H1 else tb σ H1 Q) : tOrV ta tb σ H Q := q
theorem rd_notV (q : ta σ H fun x H1 => ∃ c, x = .bl c ∧ Q (.bl (!c)) H1) : tNotV ta σ H Q := q
theorem rd_ifE (q : c σ H fun b H1 => if b = true then ta σ H1 Q else tb σ H1 Q) : tIf c ta tb σ H Q := q
theorem rd_chain {r r' : R2} (q : ta σ H fun x H1 => tb σ H1 fun y H2 => r x y H2 fun z H3 => ∃ k, z = .bl k ∧ if k = true then tc σ H3 fun w' H4 => r' y w' H4 Q else Q (.bl false) H3) : tChain r r' ta tb tc σ H Q := q
theorem rd_nil {QA : List V → Hp → Prop} (q : QA [] H) : tNil σ H QA := q
theorem rd_cons {tr : TA} {QA : List V → Hp → Prop} (q : te σ H fun x H1 => tr σ H1 fun xs H2 => QA (x :: xs) H2) : tCons te tr σ H QA := q
theorem rd_cb {r : List V → Hp → VK → Prop} {tA : TA} (q : tA σ H fun vs H1 => r vs H1 Q) : tCB r tA σ H Q := q
theorem rd_call {sp : Sp} {dvs : List V} {E : XK} {tA : TA} (q : tA σ H fun vs H1 => sp (vs ++ dvs) H1 Q E) : tCall sp dvs E tA σ H Q := q
theorem rd_part {QO : Option Int → Hp → Prop} (q : te σ H fun x H1 => ∃ i, x = .int i ∧ QO (some i) H1) : tPart te σ H QO := q
theorem rd_int {QI : Int → Prop} {j : Int} (q : QI j) : ∃ i, V.int j = .int i ∧ QI i := ⟨j, rfl, q⟩
theorem rd_nopart {QO : Option Int → Hp → Prop} (q : QO none H) : tNoPart σ H QO := q
theorem rd_sl {r : V → Option Int → Option Int → Hp → VK → Prop} {tl th : TO} (q : te σ H fun x H1 => tl σ H1 fun l H2 => th σ H2 fun u H3 => r x l u H3 Q) : tSl r te tl th σ H Q := q
def kTup (Q : VK) : List V → Hp → Prop := fun xs H1 => xs.length ≤ sizeLine ∧ ∀ p, H1 p = none → Q (.ref p) (upd H1 p (.tup xs))
def kLst (Q : VK) : List V → Hp → Prop := fun xs H1 => xs.length ≤ sizeLine ∧ ∀ p, H1 p = none → Q (.ref p) (upd H1 p (.lst xs))
theorem rd_tup {tA : TA} (q : tA σ H (kTup Q)) : tTup tA σ H Q := q
theorem rd_lst {tA : TA} (q : tA σ H (kLst Q)) : tLst tA σ H Q := q
theorem go_tup {xs : List V} (h : xs.length ≤ sizeLine) (q : ∀ p H2, H p = none → Ext H H2 → H2 p = some (.tup xs) → Q (.ref p) H2) : kTup Q xs H := ⟨h, fun p hp => q p _ hp (Ext.upd hp) upd_same⟩
theorem go_lst {xs : List V} (h : xs.length ≤ sizeLine) (q : ∀ p H2, H p = none → Ext H H2 → H2 p = some (.lst xs) → Q (.ref p) H2) : kLst Q xs H := ⟨h, fun p hp => q p _ hp (Ext.upd hp) upd_same⟩
theorem nx_mk {f : L2.St → Hp → Prop} {r : V → Hp → Prop} {b c : L2.St → Hp → Prop} (q : f σ H) : (Ends.mk f r b c).nx σ H := q
theorem rt_mk {f : L2.St → Hp → Prop} {r : V → Hp → Prop} {b c : L2.St → Hp → Prop} (q : r v H) : (Ends.mk f r b c).rt v H := q

theorem rd_asgG {g : TG} (q : te σ H fun x H1 => g x σ H1 D.nx) : tAsg te g D σ H := q
theorem rd_gT2 {j n : Nat} {QS : L2.St → Hp → Prop} (h : TuA K H v [x, y]) (hn : 2 = n) (q : QS ((σ.set i (some x)).set j (some y)) H) : gTup K n (gCons (gName i) (gCons (gName j) gNil)) v σ H QS := by
  subst hn
  obtain ⟨a, rfl, h⟩ := h
  exact ⟨a, _, rfl, h, rfl, x, [y], rfl, y, [], rfl, rfl, q⟩
theorem rd_gT3 {j k n : Nat} {z : V} {QS : L2.St → Hp → Prop} (h : TuA K H v [x, y, z]) (hn : 3 = n) (q : QS (((σ.set i (some x)).set j (some y)).set k (some z)) H) : gTup K n (gCons (gName i) (gCons (gName j) (gCons (gName k) gNil))) v σ H QS := by
  subst hn
  obtain ⟨a, rfl, h⟩ := h
  exact ⟨a, _, rfl, h, rfl, x, [y, z], rfl, y, [z], rfl, z, [], rfl, rfl, q⟩
def kFld (K : PySem.W.Frag) (f : Str) (Q : VK) : V → Hp → Prop := fun x H1 => ∃ a C dx fs v, x = .ref a ∧ H1 a = some (.ins C dx fs) ∧ Cls K C ∧ NoAttr K C f ∧ fs.lookup f = some v ∧ Q v H1
theorem rd_fld {f : Str} (q : ta σ H (kFld K f Q)) : tFld K ta f σ H Q := q
theorem go_fld {a C dx : Addr} {fs : List (Str × V)} {f : Str} (h : H a = some (.ins C dx fs)) (c : Cls K C) (n : NoAttr K C f) (l : fs.lookup f = some v) (q : Q v H) : kFld K f Q (.ref a) H := ⟨a, C, dx, fs, v, rfl, h, c, n, l, q⟩
abbrev ExtB (p : Addr) (H H2 : Hp) : Prop := ∀ b o, b ≠ p → H b = some o → H2 b = some o
theorem ExtB.from {p : Addr} {H0 H H2 : Hp} (e : ExtB p H H2) (h : Ext H0 H) (h0 : H0 p = none) : Ext H0 H2 := fun a o ha => e a o (ne_of_none ha h0) (h a o ha)
theorem extB_upd {p : Addr} {o : HO} : ExtB p H (upd H p o) := fun b o hb h => by rw [upd_ne hb]; exact h
theorem rd_bm {T : String} {r : V → List V → Hp → VK → Prop} {tA : TA} (q : ta σ H fun x H1 => tyV K T x H1 ∧ tA σ H1 fun xs H2 => r x xs H2 Q) : tBM K T r ta tA σ H Q := q
theorem go_append {p : Addr} {xs : List V} (h : H p = some (.lst xs)) (hz : xs.length < 100000) (q : ∀ H2, ExtB p H H2 → H2 p = some (.lst (xs ++ [y])) → Q .non H2) : rAppend (.ref p) [y] H Q :=
  ⟨p, xs, y, rfl, rfl, h, Nat.lt_of_lt_of_le hz (by decide), q _ extB_upd upd_same⟩
theorem ty_list {p : Addr} {xs : List V} (h : H p = some (.lst xs)) : tyV K "list" (.ref p) H := .inl ⟨rfl, _, SqL.of h⟩

theorem rd_gn {QS : L2.St → Hp → Prop} (q : QS (σ.set i (some v)) H) : gName i v σ H QS := q
/-! ### loops -/
def kF (J : It) (g : TG) (tb : TS) (D : Ends) (σ : L2.St) (H1 : Hp) : Prop := ∃ W : Nat → Nat → L2.St → Hp → Prop, (∃ m, W 0 m σ H1) ∧ ∀ i m σ H, W i m σ H →
  (J.stop i H ∧ D.nx σ H) ∨ (J.go i H ∧ ∃ N : L2.St → Hp → Prop, (∀ σ' H', N σ' H' → ∃ m', m' < m ∧ W (i + 1) m' σ' H') ∧ ∀ x H', J.yld i H x H' → g x σ H' fun σ2 H2 => tb { D with nx := N, ct := N, bk := D.nx } σ2 H2)
def kFL (K : PySem.W.Frag) (g : TG) (tb : TS) (D : Ends) (σ : L2.St) : V → Hp → Prop := fun x H1 => ∃ a, x = .ref a ∧ (∃ xs, SqL K H1 a xs) ∧ kF (Itl K a) g tb D σ H1
def kFT (K : PySem.W.Frag) (g : TG) (tb : TS) (D : Ends) (σ : L2.St) : V → Hp → Prop := fun x H1 => ∃ a, x = .ref a ∧ (∃ xs, SqT K H1 a xs) ∧ kF (Itt K a) g tb D σ H1
def kFR1 (g : TG) (tb : TS) (D : Ends) (σ : L2.St) : List V → Hp → Prop := fun vs H1 => ∃ j : Int, vs = [.int j] ∧ -(2 ^ 62) ≤ j ∧ j < 2 ^ 62 ∧ kF (Itr 0 j.toNat) g tb D σ H1
def kFR2 (g : TG) (tb : TS) (D : Ends) (σ : L2.St) : List V → Hp → Prop := fun vs H1 => ∃ i j : Int, vs = [.int i, .int j] ∧ (-(2 ^ 62) ≤ i ∧ i < 2 ^ 62 ∧ -(2 ^ 62) ≤ j ∧ j < 2 ^ 62) ∧ kF (Itr i (j - i).toNat) g tb D σ H1
def kFR3 (g : TG) (tb : TS) (D : Ends) (σ : L2.St) : List V → Hp → Prop := fun vs H1 => ∃ (i j c : Int) (n : Nat), vs = [.int i, .int j, .int c] ∧ RgC i j c n ∧ kF (Itc i c n) g tb D σ H1
theorem rd_forL {g : TG} {tb : TS} {tl : TE} (q : tl σ H (kFL K g tb D σ)) : tFor (iList K tl) g tb D σ H := q
theorem rd_forT {g : TG} {tb : TS} {tl : TE} (q : tl σ H (kFT K g tb D σ)) : tFor (iTup K tl) g tb D σ H := q
theorem rd_forR1 {g : TG} {tb : TS} {tA : TA} (q : tA σ H (kFR1 g tb D σ)) : tFor (iRng1 tA) g tb D σ H := q
theorem rd_forR2 {g : TG} {tb : TS} {tA : TA} (q : tA σ H (kFR2 g tb D σ)) : tFor (iRng2 tA) g tb D σ H := q
theorem rd_forR3 {g : TG} {tb : TS} {tA : TA} (q : tA σ H (kFR3 g tb D σ)) : tFor (iRng3 tA) g tb D σ H := q
theorem go_forL {g : TG} {tb : TS} {xs : List V} (h : SqLv K H v xs) (Pv : Nat → L2.St → Hp → Prop) (h0 : Pv 0 σ H) (hl : ∀ i σ' H', Pv i σ' H' → SqLv K H' v xs)
    (hs : ∀ i x σ' H', xs[i]? = some x → Pv i σ' H' → g x σ' H' fun σ2 H2 => tb { D with nx := Pv (i + 1), ct := Pv (i + 1), bk := D.nx } σ2 H2) (hd : ∀ σ' H', Pv xs.length σ' H' → D.nx σ' H') : kFL K g tb D σ v H := by
  obtain ⟨a, rfl, h⟩ := h
  refine ⟨a, rfl, ⟨xs, h⟩, for_list (K := K) (a := a) (xs := xs) Pv h0 (fun i σ' H' _ p => ?_) hs hd⟩
  obtain ⟨b, e, q⟩ := hl i σ' H' p
  cases e
  exact q
theorem go_forT {g : TG} {tb : TS} {xs : List V} (h : TuA K H v xs) (Pv : Nat → L2.St → Hp → Prop) (h0 : Pv 0 σ H) (hl : ∀ i σ' H', Pv i σ' H' → TuA K H' v xs)
    (hs : ∀ i x σ' H', xs[i]? = some x → Pv i σ' H' → g x σ' H' fun σ2 H2 => tb { D with nx := Pv (i + 1), ct := Pv (i + 1), bk := D.nx } σ2 H2) (hd : ∀ σ' H', Pv xs.length σ' H' → D.nx σ' H') : kFT K g tb D σ v H := by
  obtain ⟨a, rfl, h⟩ := h
  refine ⟨a, rfl, ⟨xs, h⟩, for_tup (K := K) (a := a) (xs := xs) Pv h0 (fun i σ' H' _ p => ?_) hs hd⟩
  obtain ⟨b, e, q⟩ := hl i σ' H' p
  cases e
  exact q
theorem go_forR1 {g : TG} {tb : TS} {n : Int} (hb : -100000 ≤ n ∧ n ≤ 100000) (Pv : Nat → L2.St → Hp → Prop) (h0 : Pv 0 σ H)
    (hs : ∀ (i : Nat) σ' H', i < n.toNat → Pv i σ' H' → g (.int (i : Int)) σ' H' fun σ2 H2 => tb { D with nx := Pv (i + 1), ct := Pv (i + 1), bk := D.nx } σ2 H2) (hd : ∀ σ' H', Pv n.toNat σ' H' → D.nx σ' H') : kFR1 g tb D σ [.int n] H :=
  ⟨n, rfl, by omega, by omega, for_range (lo := 0) (n := n.toNat) Pv h0 (fun i σ' H' hi p => by
    have e : (0 : Int) + (i : Int) = (i : Int) := by omega
    rw [e]
    exact hs i σ' H' hi p) hd⟩
theorem go_forR2 {g : TG} {tb : TS} {lo hi : Int} (hb : -100000 ≤ lo ∧ lo ≤ 100000 ∧ -100000 ≤ hi ∧ hi ≤ 100000) (Pv : Nat → L2.St → Hp → Prop) (h0 : Pv 0 σ H)
    (hs : ∀ (i : Nat) σ' H', i < (hi - lo).toNat → Pv i σ' H' → g (.int (lo + i)) σ' H' fun σ2 H2 => tb { D with nx := Pv (i + 1), ct := Pv (i + 1), bk := D.nx } σ2 H2) (hd : ∀ σ' H', Pv (hi - lo).toNat σ' H' → D.nx σ' H') : kFR2 g tb D σ [.int lo, .int hi] H :=
  ⟨lo, hi, rfl, by omega, for_range (lo := lo) (n := (hi - lo).toNat) Pv h0 hs hd⟩
/-- range(n, 0, -1) -/
theorem go_forDown {g : TG} {tb : TS} {n : Nat} (hb : n ≤ 100000) (Pv : Nat → L2.St → Hp → Prop) (h0 : Pv 0 σ H)
    (hs : ∀ (i : Nat) σ' H', i < n → Pv i σ' H' → g (.int ((n - i : Nat) : Int)) σ' H' fun σ2 H2 => tb { D with nx := Pv (i + 1), ct := Pv (i + 1), bk := D.nx } σ2 H2) (hd : ∀ σ' H', Pv n σ' H' → D.nx σ' H') : kFR3 g tb D σ [.int (n : Int), .int 0, .int (-1)] H := by
  have r := RgC.neg (i := (n : Int)) (j := 0) (by omega) (by omega) (by omega) (by omega)
  have e : ((n : Int) - 0).toNat = n := by omega
  rw [e] at r
  refine ⟨n, 0, -1, n, rfl, r, for_rangeC (lo := (n : Int)) (c := -1) (n := n) Pv h0 (fun i σ' H' hi p => ?_) hd⟩
  have e : (n : Int) + (i : Nat) * (-1) = ((n - i : Nat) : Int) := by omega
  rw [e]
  exact hs i σ' H' hi p

/-! ### built-ins -/
def rLenA (K : PySem.W.Frag) : List V → Hp → VK → Prop := fun xs H Q => ∃ p ys, xs = [.ref p] ∧ (SqL K H p ys ∨ SqT K H p ys) ∧ Q (.int ys.length) H
theorem rd_len {xs : List V} (h : SqA K H v xs) (q : Q (.int xs.length) H) : rLenA K [v] H Q := by
  obtain ⟨a, rfl, h⟩ := h
  exact ⟨a, xs, rfl, h, q⟩
def rListA (K : PySem.W.Frag) : List V → Hp → VK → Prop := fun xs H Q => ∃ p ys, xs = [.ref p] ∧ (SqL K H p ys ∨ SqT K H p ys) ∧ ∀ l, H l = none → Q (.ref l) (upd H l (.lst ys))
theorem rd_list {xs : List V} (h : SqA K H v xs) (q : ∀ p H2, H p = none → Ext H H2 → H2 p = some (.lst xs) → Q (.ref p) H2) : rListA K [v] H Q := by
  obtain ⟨a, rfl, h⟩ := h
  exact ⟨a, xs, rfl, h, fun l hl => q l _ hl (Ext.upd hl) upd_same⟩
def rTupA (K : PySem.W.Frag) : List V → Hp → VK → Prop := fun xs H Q => ∃ p ys, xs = [.ref p] ∧ ((SqL K H p ys ∧ ∀ l, H l = none → Q (.ref l) (upd H l (.tup ys))) ∨ (SqT K H p ys ∧ Q (.ref p) H))
theorem rd_tupleL {xs : List V} (h : SqLv K H v xs) (q : ∀ p H2, H p = none → Ext H H2 → H2 p = some (.tup xs) → Q (.ref p) H2) : rTupA K [v] H Q := by
  obtain ⟨a, rfl, h⟩ := h
  exact ⟨a, xs, rfl, .inl ⟨h, fun l hl => q l _ hl (Ext.upd hl) upd_same⟩⟩
def rIntA : List V → Hp → VK → Prop := fun xs H Q => (∃ i, xs = [.int i] ∧ Q (.int i) H) ∨ ∃ k, xs = [.bl k] ∧ Q (.int (if k then 1 else 0)) H
theorem rd_intI {j : Int} (q : Q (.int j) H) : rIntA [.int j] H Q := .inl ⟨j, rfl, q⟩
def rAbsA : List V → Hp → VK → Prop := fun xs H Q => ∃ i, xs = [.int i] ∧ Q (.int (if i < 0 then -i else i)) H
theorem rd_abs {j : Int} (q : Q (.int (if j < 0 then -j else j)) H) : rAbsA [.int j] H Q := ⟨j, rfl, q⟩
theorem ty_int {j : Int} : TyX K H (.int j) (.type "int") := .base (.int j)
theorem ty_str {s : Str} : TyX K H (.str s) (.type "str") := .base (.str s)
theorem ty_tu {xs : List V} (h : TuA K H v xs) : TyX K H v (.type "tuple") := by
  obtain ⟨a, rfl, (h | ⟨o, h⟩) | ⟨o, its, n, h, hc, _⟩⟩ := h
  · exact .base (.tup h)
  · exact .fTuple h
  · exact .kTuple h hc
theorem ty_sl {xs : List V} (h : SqLv K H v xs) : TyX K H v (.type "list") := by
  obtain ⟨a, rfl, (h | ⟨o, h⟩) | ⟨o, its, n, h, hc, _⟩⟩ := h
  · exact .base (.lst h)
  · exact .base (.frz h)
  · exact .kList h hc
theorem rd_isi {t : Value} {n : String} {b : Bool} (ty : TyX K H x t) (h : PySem.W.kitOne K t (.type n) = some b) (q : Q (.bl b) H) : rIsi K [x, .ty n] H Q := ⟨x, .ty n, t, .type n, b, rfl, .ty n, ty, h, q⟩
theorem rd_isiC {t : Value} {C : Addr} {b : Bool} (ty : TyX K H x t) (h : PySem.W.kitOne K t (.ref C) = some b) (q : Q (.bl b) H) : rIsi K [x, .ref C] H Q := ⟨x, .ref C, t, .ref C, b, rfl, .own C, ty, h, q⟩
theorem rd_isiTL {t : Value} {tp : Addr} {b : Bool} (hT : H tp = some (.tup [.ty "tuple", .ty "list"])) (ty : TyX K H x t) (h : PySem.W.kitAny K t [.type "tuple", .type "list"] = some b) (q : Q (.bl b) H) : rIsiT K [x, .ref tp] H Q :=
  ⟨x, tp, _, t, _, b, rfl, hT, .cons (.ty _) (.cons (.ty _) .nil), ty, h, q⟩
theorem kit_tup : PySem.W.kitAny K (.type "tuple") [.type "tuple", .type "list"] = some true := kitAny_cons (b := true) (kit_ty (by decide +kernel)) (fun h => nomatch h) fun _ => rfl
theorem kit_lst : PySem.W.kitAny K (.type "list") [.type "tuple", .type "list"] = some true := kitAny_cons (b := false) (kit_ty (by decide +kernel)) (fun _ => kitAny_cons (b := true) (kit_ty (by decide +kernel)) (fun h => nomatch h) fun _ => rfl) (fun h => nomatch h)
theorem kit_int : PySem.W.kitAny K (.type "int") [.type "tuple", .type "list"] = some false := kitAny_cons (b := false) (kit_ty (by decide +kernel)) (fun _ => kitAny_cons (b := false) (kit_ty (by decide +kernel)) (fun _ => kitAny_nil) (fun h => nomatch h)) (fun h => nomatch h)
theorem kit_str : PySem.W.kitAny K (.type "str") [.type "tuple", .type "list"] = some false := kitAny_cons (b := false) (kit_ty (by decide +kernel)) (fun _ => kitAny_cons (b := false) (kit_ty (by decide +kernel)) (fun _ => kitAny_nil) (fun h => nomatch h)) (fun h => nomatch h)
theorem ty_sq {xs : List V} (h : SqA K H v xs) : ∃ t, TyX K H v t ∧ PySem.W.kitAny K t [.type "tuple", .type "list"] = some true := by
  obtain ⟨a, e, h | h⟩ := h
  · exact ⟨_, ty_sl ⟨a, e, h⟩, kit_lst⟩
  · exact ⟨_, ty_tu ⟨a, e, h⟩, kit_tup⟩
theorem rd_ix {xs : List V} {j : Int} (h : SqA K H x xs) (ha : atI xs j = some v) (q : Q v H) : rIx K x (.int j) H Q := by
  obtain ⟨a, rfl, h | h⟩ := h
  · exact .inl ⟨a, xs, j, v, rfl, rfl, h, ha, q⟩
  · exact .inr (.inl ⟨a, xs, j, v, rfl, rfl, h, ha, q⟩)
theorem rd_cat {l b : Addr} {xs zs : List V} (h1 : H l = some (.lst xs)) (h2 : H b = some (.lst zs)) (hz : xs.length + zs.length ≤ sizeLine) (q : ∀ p H2, H p = none → Ext H H2 → H2 p = some (.lst (xs ++ zs)) → Q (.ref p) H2) : rCat (.ref l) (.ref b) H Q :=
  ⟨l, b, xs, zs, rfl, rfl, h1, h2, hz, fun p hp => q p _ hp (Ext.upd hp) upd_same⟩
theorem rd_catT {xs zs : List V} (h1 : TuA K H x xs) (h2 : TuA K H y zs) (hz : xs.length + zs.length ≤ sizeLine) (q : ∀ v H2, Ext H H2 → TuA K H2 v (xs ++ zs) → Q v H2) : rCatA K x y H Q := by
  obtain ⟨a, rfl, h1⟩ := h1
  obtain ⟨b, rfl, h2⟩ := h2
  refine ⟨a, b, xs, zs, rfl, rfl, h1, h2, hz, fun e => ?_, fun _ e => ?_, fun _ _ p hp => q _ _ (Ext.upd hp) (TuA.of upd_same)⟩
  · subst e
    exact q _ _ Ext.rfl' ⟨b, rfl, h2⟩
  · subst e
    exact q _ _ Ext.rfl' ⟨a, rfl, by rw [List.append_nil]; exact h1⟩
theorem rd_rep {l : Addr} {xs : List V} {k : Int} (h1 : H l = some (.lst xs)) (hk : 0 ≤ k ∧ k < 2 ^ 62) (hz : xs.length * k.toNat ≤ sizeLine) (q : ∀ p H2, H p = none → Ext H H2 → H2 p = some (.lst (List.replicate k.toNat xs).flatten) → Q (.ref p) H2) : rRep (.ref l) (.int k) H Q :=
  ⟨l, k, xs, rfl, rfl, h1, by omega, by omega, hz, fun p hp => q p _ hp (Ext.upd hp) upd_same⟩
theorem rd_slL {xs : List V} {lo hi : Option Int} (h : SqLv K H x xs) (q : ∀ p H2, H p = none → Ext H H2 → H2 p = some (.lst (cutV xs lo hi)) → Q (.ref p) H2) : rSlL K x lo hi H Q := by
  obtain ⟨a, rfl, h⟩ := h
  exact ⟨a, xs, rfl, h, fun p hp => q p _ hp (Ext.upd hp) upd_same⟩
theorem cut_whole {xs : List V} {lo hi : Option Int} (h : HT.sIx xs.length 0 lo = 0 ∧ HT.sIx xs.length xs.length hi = xs.length) : cutV xs lo hi = xs := by
  unfold cutV
  rw [h.1, h.2]
  simp
theorem rd_slT {xs : List V} {lo hi : Option Int} (h : TuA K H x xs) (q : ∀ v H2, Ext H H2 → TuA K H2 v (cutV xs lo hi) → Q v H2) : rSlA K x lo hi H Q := by
  obtain ⟨a, rfl, h⟩ := h
  exact ⟨a, xs, rfl, h, fun hw => q _ _ Ext.rfl' ⟨a, rfl, by rw [cut_whole hw]; exact h⟩, fun _ p hp => q _ _ (Ext.upd hp) (TuA.of upd_same)⟩
theorem rd_all {a : Addr} {ys : List V} (h : H a = some (.lst ys)) (hy : ∀ (i : Nat) y, ys[i]? = some y → y = .bl true) (q : Q (.bl true) H) : rAll K [.ref a] H Q := by
  have e : ys = (List.replicate ys.length true).map V.bl := by
    apply List.ext_getElem?
    intro i
    rw [List.getElem?_map]
    by_cases hi : i < ys.length
    · have e1 := hy i ys[i] (List.getElem?_eq_getElem hi)
      rw [List.getElem?_eq_getElem hi, e1, List.getElem?_replicate, if_pos hi]
      rfl
    · rw [List.getElem?_eq_none (by omega), List.getElem?_replicate, if_neg hi]
      rfl
  refine ⟨a, List.replicate ys.length true, rfl, .inl (.inl (by rw [← e]; exact h)), ?_⟩
  have e2 : (List.replicate ys.length true).all id = true := by simp [List.all_eq_true]
  rw [e2]
  exact q
theorem rd_allB {a : Addr} {ys : List V} {n : Nat} {f : Nat → Bool} (h : H a = some (.lst ys)) (hl : ys.length = n) (hy : ∀ (i : Nat) y, ys[i]? = some y → y = .bl (f i)) (q : Q (.bl ((List.range n).all f)) H) : rAll K [.ref a] H Q := by
  have e : ys = ((List.range n).map f).map V.bl := by
    apply List.ext_getElem?
    intro i
    rw [List.getElem?_map, List.getElem?_map]
    by_cases hi : i < ys.length
    · rw [List.getElem?_eq_getElem hi, hy i ys[i] (List.getElem?_eq_getElem hi), List.getElem?_range (by omega)]
      rfl
    · rw [List.getElem?_eq_none (by omega), List.getElem?_eq_none (by rw [List.length_range]; omega)]
      rfl
  refine ⟨a, (List.range n).map f, rfl, .inl (.inl (by rw [← e]; exact h)), ?_⟩
  have e2 : ((List.range n).map f).all id = (List.range n).all f := by rw [List.all_map]; rfl
  rw [e2]
  exact q
theorem dec_vi {a b : Int} : decide (V.int a = V.int b) = decide (a = b) := by
  by_cases h : a = b
  · rw [decide_eq_true h, decide_eq_true (by rw [h])]
  · rw [decide_eq_false h, decide_eq_false (fun e => h (V.int.inj e))]
theorem rd_any {a : Addr} {ys : List V} (h : H a = some (.lst ys)) (hy : ∀ (i : Nat) y, ys[i]? = some y → y = .bl false) (q : Q (.bl false) H) : rAny K [.ref a] H Q := by
  have e : ys = (List.replicate ys.length false).map V.bl := by
    apply List.ext_getElem?
    intro i
    rw [List.getElem?_map]
    by_cases hi : i < ys.length
    · have e1 := hy i ys[i] (List.getElem?_eq_getElem hi)
      rw [List.getElem?_eq_getElem hi, e1, List.getElem?_replicate, if_pos hi]
      rfl
    · rw [List.getElem?_eq_none (by omega), List.getElem?_replicate, if_neg hi]
      rfl
  refine ⟨a, List.replicate ys.length false, rfl, .inl (.inl (by rw [← e]; exact h)), ?_⟩
  have e2 : (List.replicate ys.length false).any id = false := by simp
  rw [e2]
  exact q
end
section
variable {X : Cx}
theorem pg_tupK {K : PySem.W.Frag} {es : List Expr} {k : Nat} {t : TGs} {n : Nat} {pos : Pos} (hc : X.calm = true) (h : PGs X es t)
    (hn : (assignEach es X.env).length = n := by rfl) (hst : (assignEach es X.env).findIdx? (·.1) = none := by rfl) (hK : X.K = K := by rfl) : PG X (.Tuple es k pos) (gTup K n t) := hK ▸ pg_tup hc h hn hst
theorem call_lenA : CallR X (.builtin "len") (rLenA X.K) := call_len_seq
theorem call_listA : CallR X (.type "list") (rListA X.K) := call_list_of
theorem call_tupA : CallR X (.type "tuple") (rTupA X.K) := call_tuple_of
theorem call_intA : CallR X (.type "int") rIntA := call_int1
theorem call_absA : CallR X (.builtin "abs") rAbsA := call_abs
end

/-! ### comprehensions -/
def lcI (P : Addr → Nat → V → Hp → Prop) (H : Hp) (D : Addr) (i : Nat) (H' : Hp) : Prop := Ext H H' ∧ ∃ ys, H' D = some (.lst ys) ∧ ys.length = i ∧ ∀ (k : Nat) y, ys[k]? = some y → P D k y H'
section
variable {K : PySem.W.Frag} {σ : L2.St} {H : Hp} {Q : VK} {te tl : TE} {ta : TA} {j : Nat} {vs : List Nat} {P : Addr → Nat → V → Hp → Prop}
abbrev MonoP (P : Addr → Nat → V → Hp → Prop) : Prop := ∀ D i y A B, (∀ b o, b ≠ D → A b = some o → B b = some o) → P D i y A → P D i y B
theorem lcI_turn {D : Addr} {i : Nat} {H' H4 : Hp} {y : V} (hD : H D = none) (mono : MonoP P) (hi : i < 100000) (I : lcI P H D i H') (e : Ext H' H4) (p : P D i y H4) :
    ∃ acc, H4 D = some (.lst acc) ∧ acc.length < sizeLine ∧ lcI P H D (i + 1) (upd H4 D (.lst (acc ++ [y]))) := by
  obtain ⟨e0, ys, h1, h2, h3⟩ := I
  refine ⟨ys, e _ _ h1, by rw [h2]; exact Nat.lt_of_lt_of_le hi (by decide), ext_mut (e0.trans e) hD, ys ++ [y], upd_same, by simp [h2], fun k z hk => ?_⟩
  have step : ∀ {k z A}, P D k z A → (∀ b o, b ≠ D → A b = some o → upd H4 D (.lst (ys ++ [y])) b = some o) → P D k z (upd H4 D (.lst (ys ++ [y]))) := fun q hb => mono _ _ _ _ _ hb q
  by_cases hlt : k < ys.length
  · rw [List.getElem?_append_left hlt] at hk
    exact step (h3 k z hk) fun b o hb hbo => by rw [upd_ne hb]; exact e _ _ hbo
  · rw [List.getElem?_append_right (by omega)] at hk
    have hk0 : k - ys.length = 0 := by
      rcases Nat.eq_zero_or_pos (k - ys.length) with z | z
      · exact z
      · rw [List.getElem?_eq_none (by simp; omega)] at hk
        cases hk
    rw [hk0] at hk
    have ez : y = z := Option.some.inj hk
    have ek : k = i := by omega
    subst ez; subst ek
    exact step p fun b o hb hbo => by rw [upd_ne hb]; exact hbo
def lcK (K : PySem.W.Frag) (j : Nat) (te : TE) (vs : List Nat) (σ : L2.St) (Q : VK) : V → Hp → Prop := fun x H1 => ∃ a, x = .ref a ∧ (((∃ xs, SqL K H1 a xs) ∧ (∀ D, H1 D = none → ∃ W : Nat → Nat → Hp → Prop, (∃ m, W 0 m (upd H1 D (.lst []))) ∧ ∀ i m H, W i m H →
  ((Itl K a).stop i H ∧ Q (.ref D) H) ∨ ((Itl K a).go i H ∧ ∃ Nx : Hp → Prop, (∀ H', Nx H' → ∃ m', m' < m ∧ W (i + 1) m' H') ∧ ∀ x H', (Itl K a).yld i H x H' → gName j x (wipe σ vs) H' fun σ2 H2 => wipe σ2 vs = wipe σ vs ∧ tYes σ2 H2 fun b H3 =>
    if b = true then te σ2 H3 fun y H4 => ∃ acc, H4 D = some (.lst acc) ∧ acc.length < sizeLine ∧ Nx (upd H4 D (.lst (acc ++ [y]))) else Nx H3))) ∨
  ((∃ xs, SqT K H1 a xs) ∧ (∀ D, H1 D = none → ∃ W : Nat → Nat → Hp → Prop, (∃ m, W 0 m (upd H1 D (.lst []))) ∧ ∀ i m H, W i m H →
  ((Itt K a).stop i H ∧ Q (.ref D) H) ∨ ((Itt K a).go i H ∧ ∃ Nx : Hp → Prop, (∀ H', Nx H' → ∃ m', m' < m ∧ W (i + 1) m' H') ∧ ∀ x H', (Itt K a).yld i H x H' → gName j x (wipe σ vs) H' fun σ2 H2 => wipe σ2 vs = wipe σ vs ∧ tYes σ2 H2 fun b H3 =>
    if b = true then te σ2 H3 fun y H4 => ∃ acc, H4 D = some (.lst acc) ∧ acc.length < sizeLine ∧ Nx (upd H4 D (.lst (acc ++ [y]))) else Nx H3))))
theorem rd_lc (q : tl σ H (lcK K j te vs σ Q)) : tLc (iSeq K tl) (gName j) tYes te vs σ H Q := q
theorem lc_go {v : V} {xs : List V} (P : Addr → Nat → V → Hp → Prop) (mono : MonoP P) (h : SqA K H v xs) (hz : xs.length ≤ 100000) (hw : ∀ x, wipe ((wipe σ vs).set j (some x)) vs = wipe σ vs)
    (el : ∀ D i x H2 acc, xs[i]? = some x → Ext H H2 → H2 D = some (.lst acc) → ∀ Q' : VK, (∀ y H3, Ext H2 H3 → P D i y H3 → Q' y H3) → te ((wipe σ vs).set j (some x)) H2 Q')
    (q : ∀ p ys H2, H p = none → Ext H H2 → H2 p = some (.lst ys) → ys.length = xs.length → (∀ (i : Nat) y, ys[i]? = some y → P p i y H2) → Q (.ref p) H2) : lcK K j te vs σ Q v H := by
  obtain ⟨a, rfl, h | h⟩ := h
  · refine ⟨a, rfl, .inl ⟨⟨xs, h⟩, fun D hD => ?_⟩⟩
    refine lc_list (K := K) (a := a) (xs := xs) (lcI P H D) ⟨Ext.upd hD, [], upd_same, rfl, fun k y hk => by simp at hk⟩ (fun i H' _ I => SqL.ext h I.1) (fun i x H' hx I => ?_) (fun H' I => ?_)
    · refine ⟨hw x, ?_⟩
      show (if true = true then te ((wipe σ vs).set j (some x)) H' (fun y H4 => ∃ acc, H4 D = some (.lst acc) ∧ acc.length < sizeLine ∧ lcI P H D (i + 1) (upd H4 D (.lst (acc ++ [y])))) else lcI P H D (i + 1) H')
      rw [if_pos rfl]
      obtain ⟨e0, ys, h1, _⟩ := id I
      have hi := (List.getElem?_eq_some_iff.mp hx).1
      exact el D i x H' ys hx e0 h1 _ fun y H4 e p => lcI_turn hD mono (by omega) I e p
    · obtain ⟨e0, ys, h1, h2, h3⟩ := I
      exact q D ys H' hD e0 h1 h2 h3
  · refine ⟨a, rfl, .inr ⟨⟨xs, h⟩, fun D hD => ?_⟩⟩
    refine lc_tup (K := K) (a := a) (xs := xs) (lcI P H D) ⟨Ext.upd hD, [], upd_same, rfl, fun k y hk => by simp at hk⟩ (fun i H' _ I => SqT.ext h I.1) (fun i x H' hx I => ?_) (fun H' I => ?_)
    · refine ⟨hw x, ?_⟩
      show (if true = true then te ((wipe σ vs).set j (some x)) H' (fun y H4 => ∃ acc, H4 D = some (.lst acc) ∧ acc.length < sizeLine ∧ lcI P H D (i + 1) (upd H4 D (.lst (acc ++ [y])))) else lcI P H D (i + 1) H')
      rw [if_pos rfl]
      obtain ⟨e0, ys, h1, _⟩ := id I
      have hi := (List.getElem?_eq_some_iff.mp hx).1
      exact el D i x H' ys hx e0 h1 _ fun y H4 e p => lcI_turn hD mono (by omega) I e p
    · obtain ⟨e0, ys, h1, h2, h3⟩ := I
      exact q D ys H' hD e0 h1 h2 h3
/-- each item a value that the item tells -/
theorem lc_val {v : V} {xs : List V} (f : Nat → V) (h : SqA K H v xs) (hz : xs.length ≤ 100000) (hw : ∀ x, wipe ((wipe σ vs).set j (some x)) vs = wipe σ vs)
    (el : ∀ i x H2, xs[i]? = some x → Ext H H2 → ∀ Q' : VK, (∀ H3, Ext H2 H3 → Q' (f i) H3) → te ((wipe σ vs).set j (some x)) H2 Q')
    (q : ∀ p ys H2, H p = none → Ext H H2 → H2 p = some (.lst ys) → ys.length = xs.length → (∀ (i : Nat) y, ys[i]? = some y → y = f i) → Q (.ref p) H2) : lcK K j te vs σ Q v H :=
  lc_go (fun _ i y _ => y = f i) (fun _ _ _ _ _ _ p => p) h hz hw (fun D i x H2 acc hx e _ Q' k => el i x H2 hx e Q' fun H3 e3 => k _ H3 e3 rfl) q
def lrK (j : Nat) (te : TE) (vs : List Nat) (σ : L2.St) (Q : VK) : List V → Hp → Prop := fun ws H1 => ∃ n : Int, ws = [.int n] ∧ -(2 ^ 62) ≤ n ∧ n < 2 ^ 62 ∧ (∀ D, H1 D = none → ∃ W : Nat → Nat → Hp → Prop, (∃ m, W 0 m (upd H1 D (.lst []))) ∧ ∀ i m H, W i m H →
  ((Itr 0 n.toNat).stop i H ∧ Q (.ref D) H) ∨ ((Itr 0 n.toNat).go i H ∧ ∃ Nx : Hp → Prop, (∀ H', Nx H' → ∃ m', m' < m ∧ W (i + 1) m' H') ∧ ∀ x H', (Itr 0 n.toNat).yld i H x H' → gName j x (wipe σ vs) H' fun σ2 H2 => wipe σ2 vs = wipe σ vs ∧ tYes σ2 H2 fun b H3 =>
    if b = true then te σ2 H3 fun y H4 => ∃ acc, H4 D = some (.lst acc) ∧ acc.length < sizeLine ∧ Nx (upd H4 D (.lst (acc ++ [y]))) else Nx H3))
theorem rd_lr (q : ta σ H (lrK j te vs σ Q)) : tLc (iRng1 ta) (gName j) tYes te vs σ H Q := q
theorem lr_val {n : Int} (f : Nat → V) (hz : n ≤ 100000) (hn : -100000 ≤ n) (hw : ∀ x, wipe ((wipe σ vs).set j (some x)) vs = wipe σ vs)
    (el : ∀ (i : Nat) H2, i < n.toNat → Ext H H2 → ∀ Q' : VK, (∀ H3, Ext H2 H3 → Q' (f i) H3) → te ((wipe σ vs).set j (some (.int (i : Int)))) H2 Q')
    (q : ∀ p ys H2, H p = none → Ext H H2 → H2 p = some (.lst ys) → ys.length = n.toNat → (∀ (i : Nat) y, ys[i]? = some y → y = f i) → Q (.ref p) H2) : lrK j te vs σ Q [.int n] H := by
  refine ⟨n, rfl, by omega, by omega, fun D hD => ?_⟩
  refine lc_range (lo := 0) (n := n.toNat) (lcI (fun _ i y _ => y = f i) H D) ⟨Ext.upd hD, [], upd_same, rfl, fun k y hk => by simp at hk⟩ (fun i H' hi I => ?_) (fun H' I => ?_)
  · refine ⟨hw _, ?_⟩
    show (if true = true then te ((wipe σ vs).set j (some (.int ((0 : Int) + (i : Int))))) H' (fun y H4 => ∃ acc, H4 D = some (.lst acc) ∧ acc.length < sizeLine ∧ lcI (fun _ i y _ => y = f i) H D (i + 1) (upd H4 D (.lst (acc ++ [y])))) else lcI (fun _ i y _ => y = f i) H D (i + 1) H')
    rw [if_pos rfl]
    obtain ⟨e0, ys, h1, _⟩ := id I
    have ez : (0 : Int) + (i : Int) = (i : Int) := by omega
    rw [ez]
    exact el i H' hi e0 _ fun H4 e => lcI_turn hD (fun _ _ _ _ _ _ p => p) (by omega) I e rfl
  · obtain ⟨e0, ys, h1, h2, h3⟩ := I
    exact q D ys H' hD e0 h1 h2 h3
end
/-- what a list of values by place is -/
theorem list_of {α : Type} {ys : List α} {n : Nat} {f : Nat → α} (hl : ys.length = n) (h : ∀ (i : Nat) y, ys[i]? = some y → y = f i) : ys = (List.range n).map f := by
  apply List.ext_getElem?
  intro i
  rw [List.getElem?_map]
  by_cases hi : i < ys.length
  · rw [List.getElem?_eq_getElem hi, h i _ (List.getElem?_eq_getElem hi), List.getElem?_range (by omega)]
    rfl
  · rw [List.getElem?_eq_none (by omega), List.getElem?_eq_none (by rw [List.length_range]; omega)]
    rfl
end K24
set_option Elab.async false
set_option linter.all false
set_option maxRecDepth 100000
set_option maxHeartbeats 4000000
/-! Calls by name; the first defs. -/
namespace K24
open PySem PySem.Spec PyProof.Rows L2
theorem bt_isinstance : bootBuiltins "isinstance" = some (.builtin "isinstance") := by decide +kernel
theorem bt_abs : bootBuiltins "abs" = some (.builtin "abs") := by decide +kernel
theorem bt_all : bootBuiltins "all" = some (.builtin "all") := by decide +kernel
theorem bt_any : bootBuiltins "any" = some (.builtin "any") := by decide +kernel
theorem bt_int : bootBuiltins "int" = some (.type "int") := by decide +kernel
theorem bt_bool : bootBuiltins "bool" = some (.type "bool") := by decide +kernel
theorem bt_str : bootBuiltins "str" = some (.type "str") := by decide +kernel
theorem bt_list : bootBuiltins "list" = some (.type "list") := by decide +kernel
theorem bt_tuple : bootBuiltins "tuple" = some (.type "tuple") := by decide +kernel

theorem kit_ii {K : PySem.W.Frag} : PySem.W.kitOne K (.type "int") (.type "int") = some true := kit_ty (by decide +kernel)
theorem kit_ib {K : PySem.W.Frag} : PySem.W.kitOne K (.type "int") (.type "bool") = some false := kit_ty (by decide +kernel)
theorem kit_ss {K : PySem.W.Frag} : PySem.W.kitOne K (.type "str") (.type "str") = some true := kit_ty (by decide +kernel)
theorem kit_is {K : PySem.W.Frag} : PySem.W.kitOne K (.type "int") (.type "str") = some false := kit_ty (by decide +kernel)
theorem kit_tt {K : PySem.W.Frag} : PySem.W.kitOne K (.type "tuple") (.type "tuple") = some true := kit_ty (by decide +kernel)

/-! ### a def of the module, called by its name -/
structure Cal (P : Program) (w : World) (K : PySem.W.Frag) (mg : Str → Option Value) (base : Heap) (k : Nat) (x : Str) (ps : List Str) (sp : Sp) : Prop where
  ex : ∃ fd, FnOk P w K mg base CX0 k (He.ga K x) fd ps sp ∧ mg x = some (.ref (He.ga K x)) ∧ PySem.W.keepIn K (.ref (He.ga K x)) = true ∧ Binds K fd ps []
section
variable {P : Program} {w : World} {K : PySem.W.Frag} {mg : Str → Option Value} {base : Heap}
theorem cal_mk {x : Str} {st : Stmt} {N ps : List Str} {k : Nat} {sp : Sp} (F : ∃ fd, FunD K x x (defArgs st) (defBody st) (defScope st) [] [] (He.ga K x) fd) (hg : mg x = some (.ref (He.ga K x))) (S : FnScope N ps (defScope st))
    (hb : ∀ (kV doc pm : Value) (an : Option Addr) (cdv ct : Value) (us : List Value), us.length = ps.length → bindArgs (PySem.W.fnOf x x (defArgs st) (defBody st) (defScope st) .none kV doc pm an cdv ct) ⟨us, []⟩ = pure (ps.zip us))
    (len : ∀ vs H Q E, sp vs H Q E → vs.length = ps.length)
    (hbody : ∀ (f : Addr) (cdv : Value) (A : Around) (outer : List Env) (s : Shared) (H : Hp) (vs : List V) (Q : VK) (E : XK), Room k (A.deeper (envOfC x (defScope st) s.heap.objs.size f cdv)) → sp vs H Q E →
      ∃ t, PSs (cxOf CX0 P w K mg base N x (defScope st) f cdv A outer s H E).nox (defBody st) t ∧ t { nx := fun _ H' => Q .non H', rt := Q } (start N vs) H) : Cal P w K mg base (k + 1) x ps sp := by
  obtain ⟨fd, F⟩ := F
  refine ⟨fd, F.ok S len fun cdv A outer s H vs Q E hr h => ?_, hg, F.kp, F.bindsN hb⟩
  obtain ⟨t, h1, h2⟩ := hbody (He.ga K x) cdv A outer s H vs Q E hr h
  exact ⟨t, h1.nox, h2⟩
theorem Cal.imp {k : Nat} {x : Str} {ps : List Str} {sp sp' : Sp} (c : Cal P w K mg base k x ps sp) (h : ∀ vs H Q E, sp' vs H Q E → sp vs H Q E) : Cal P w K mg base k x ps sp' := by
  obtain ⟨fd, F, h1, h2, h3⟩ := c.ex
  exact ⟨fd, F.imp h, h1, h2, h3⟩
theorem Cal.mono {j k : Nat} {x : Str} {ps : List Str} {sp : Sp} (c : Cal P w K mg base j x ps sp) (h : j ≤ k) : Cal P w K mg base k x ps sp := by
  obtain ⟨fd, F, h1, h2, h3⟩ := c.ex
  exact ⟨fd, F.mono h, h1, h2, h3⟩
end
section
variable {X : Cx} {k j : Nat} {x : Str} {ps : List Str} {sp : Sp} {p pos : Pos} {e : Expr} {es : List Expr} {t : TA}
theorem pe_k (c : Cal X.prog X.w X.K X.mg X.base k x ps sp) (hr : Room j X.A) (hk : k ≤ j) (hg : Gl X x) (ha : PA X (e :: es) t)
    (hdb : (x == ("__debug__" : Str)) = false := by decide) (he : starEach (e :: es) X.env = (false, eval e X.env) :: starEach es X.env := by rfl) (hpl : (backTo pos (starEach es X.env)).any (·.1) = false := by rfl) :
    PE X (.Call (.Name x p) (e :: es) [] pos) (tCall sp [] E0 t) := by
  obtain ⟨fd, F, hm, kp, b⟩ := c.ex
  exact pe_call F (hr.mono hk) hg hm kp b .nil pass0 ha hdb he hpl
theorem pe_gs {z : Str} {pos : Pos} (hg : Gl X x) (h : ∃ t, X.mg x = some (.str z t)) (hd : (x == ("__debug__" : Str)) = false := by decide) : PE X (.Name x pos) (tC (.str z)) := by
  obtain ⟨t, h⟩ := h
  exact pe_glob hg h ⟨t, rfl⟩ hd
theorem pe_gi {z : Int} {pos : Pos} (hg : Gl X x) (h : ∃ t, X.mg x = some (.int z t)) (hd : (x == ("__debug__" : Str)) = false := by decide) : PE X (.Name x pos) (tC (.int z)) := by
  obtain ⟨t, h⟩ := h
  exact pe_glob hg h ⟨t, rfl⟩ hd
theorem rd_call0 {σ : L2.St} {H : Hp} {Q : VK} {E : XK} {tA : TA} (q : tA σ H fun vs H1 => sp vs H1 Q E) : tCall sp [] E tA σ H Q := by
  unfold tCall
  have e : (fun vs H1 => sp (vs ++ []) H1 Q E) = fun vs H1 => sp vs H1 Q E := by
    funext vs H1
    rw [List.append_nil]
  rw [e]
  exact q
end
/-! ### the rules with K written -/
section
variable {X : Cx} {K : PySem.W.Frag}
theorem call_lenK (h : X.K = K := by rfl) : CallR X (.builtin "len") (rLenA K) := h ▸ call_lenA
theorem call_listK (h : X.K = K := by rfl) : CallR X (.type "list") (rListA K) := h ▸ call_listA
theorem call_tupK (h : X.K = K := by rfl) : CallR X (.type "tuple") (rTupA K) := h ▸ call_tupA
theorem call_isiK2 (h : X.K = K := by rfl) : CallR X (.builtin "isinstance") (rIsi K) := h ▸ call_isi
theorem call_isiTK (h : X.K = K := by rfl) : CallR X (.builtin "isinstance") (rIsiT K) := h ▸ call_isiT
theorem call_allK (hc : X.calm = true := by rfl) (h : X.K = K := by rfl) : CallR X (.builtin "all") (rAll K) := h ▸ cr_all hc
theorem call_anyK (hc : X.calm = true := by rfl) (h : X.K = K := by rfl) : CallR X (.builtin "any") (rAny K) := h ▸ cr_any hc
theorem ix_K (h : X.K = K := by rfl) : IxR X (rIx K) := h ▸ ix_seq
theorem sl_listK (h : X.K = K := by rfl) : SlR X (rSlL K) := h ▸ sl_list
theorem sl_tupK (h : X.K = K := by rfl) : SlR X (rSlA K) := h ▸ sl_tupA
theorem op_catK (h : X.K = K := by rfl) : OpR X (binaryOp .Add) (rCatA K) := h ▸ op_catA
theorem op_eqDK (hu : X.A.units + 64 < cLine) (h : X.K = K := by rfl) : OpR X (compareOp .Eq) (rEqD K) := h ▸ op_eqD hu
theorem op_neDK (hu : X.A.units + 64 < cLine) (h : X.K = K := by rfl) : OpR X (compareOp .NotEq) (rNeD K) := h ▸ op_neD hu
theorem op_inK (h : X.K = K := by rfl) : OpR X (compareOp .In) (rIn K false) := h ▸ op_in_seq
theorem op_notInK (h : X.K = K := by rfl) : OpR X (compareOp .NotIn) (rIn K true) := h ▸ op_notIn_seq
theorem pi_listK {tg l : Expr} {tl : TE} (hl : PE X l tl) (h : X.K = K := by rfl) : PI X tg l (iList K tl) := h ▸ pi_list hl
theorem pi_tupK {tg l : Expr} {tl : TE} (hl : PE X l tl) (h : X.K = K := by rfl) : PI X tg l (iTup K tl) := h ▸ pi_tup hl
theorem pi_seqK {tg l : Expr} {tl : TE} (hl : PE X l tl) (h : X.K = K := by rfl) : PI X tg l (iSeq K tl) := h ▸ pi_seq hl
theorem pe_fldK {e : Expr} {f : Str} {pos : Pos} {ta : TE} (he : PE X e ta) (hb : attributeBase e f X.env (eval e X.env) = eval e X.env) (h : X.K = K := by rfl) : PE X (.Attribute e f pos) (tFld K ta f) := h ▸ pe_fld he hb
end
local macro_rules | `(tactic| walk_at "tr") => `(tactic| first
  | (with_reducible assumption)
  | (with_reducible exact TuA.sq (by assumption)) | (with_reducible exact SqLv.sq (by assumption)) | (with_reducible exact SqA.ofL (by assumption)) | (with_reducible exact SqA.ofT (by assumption))
  | (with_reducible exact TuA.of (by assumption)) | (with_reducible exact SqLv.of (by assumption)) | (with_reducible exact WsT.wa (by assumption))
  | (with_reducible refine' TuA.sq (TuA.ext ?h ?e); (case e => with_reducible assumption); (case h => walk_at "tr"))
  | (with_reducible refine' SqA.ext ?h ?e; (case e => with_reducible assumption); (case h => walk_at "tr"))
  | (with_reducible refine' TuA.ext ?h ?e; (case e => with_reducible assumption); (case h => walk_at "tr"))
  | (with_reducible refine' SqLv.ext ?h ?e; (case e => with_reducible assumption); (case h => walk_at "tr"))
  | (with_reducible refine' WsA.ext ?h ?e; (case e => with_reducible assumption); (case h => walk_at "tr"))
  | (with_reducible refine' WsT.ext ?h ?e; (case e => with_reducible assumption); (case h => walk_at "tr"))
  | (with_reducible refine' MkrT.ext ?h ?e; (case e => with_reducible assumption); (case h => walk_at "tr"))
  | (with_reducible refine' MkrO.ext ?h ?e; (case e => with_reducible assumption); (case h => walk_at "tr"))
  | (with_reducible refine' TblO.ext ?h ?e; (case e => with_reducible assumption); (case h => walk_at "tr"))
  | (with_reducible refine' RawT.ext ?h ?e; (case e => with_reducible assumption); (case h => walk_at "tr"))
  | (with_reducible refine' ext_at ?h ?e; (case e => with_reducible assumption); (case h => walk_at "tr"))
  | (with_reducible exact Ext.rfl')
  | (with_reducible refine' Ext.trans ?h ?e; (case e => with_reducible assumption); (case h => walk_at "tr")))
local macro_rules | `(tactic| walk_at "rd1") => `(tactic| first
  | (with_reducible refine' rd_seq ?_) | (with_reducible refine' rd_asg ?_) | (with_reducible refine' rd_ret ?_) | (with_reducible refine' rd_if ?_) | (with_reducible refine' rd_drop ?_)
  | ((with_reducible refine' rd_var ?h ?q); (case h => exact rfl))
  | (with_reducible refine' rd_c ?_) | (with_reducible refine' rd_op ?_) | (with_reducible refine' rd_un ?_) | (with_reducible refine' rd_test ?_) | (with_reducible refine' rd_B ?_) | (with_reducible refine' rd_bl ?_)
  | (with_reducible refine' rd_and ?_) | (with_reducible refine' rd_or ?_) | (with_reducible refine' rd_not ?_) | (with_reducible refine' rd_andV ?_) | (with_reducible refine' rd_orV ?_) | (with_reducible refine' rd_notV ?_)
  | (with_reducible refine' rd_ifE ?_) | (with_reducible refine' rd_chain ?_) | (with_reducible refine' rd_nil ?_) | (with_reducible refine' rd_cons ?_) | (with_reducible refine' rd_cb ?_) | (with_reducible refine' rd_call0 ?_) | (with_reducible refine' rd_call ?_)
  | (with_reducible refine' rd_part ?_) | (with_reducible refine' rd_int ?_) | (with_reducible refine' rd_nopart ?_) | (with_reducible refine' rd_sl ?_) | (with_reducible refine' rd_tup ?_) | (with_reducible refine' rd_lst ?_)
  | (with_reducible refine' rd_I0 ?_) | (with_reducible refine' rd_U ?_) | (with_reducible refine' rd_intI ?_) | (with_reducible refine' rd_abs ?_) | (with_reducible refine' rd_lc ?_) | (with_reducible refine' rd_lr ?_)
  | (with_reducible refine' rd_next ?_) | (with_reducible refine' rd_cont ?_) | (with_reducible refine' rd_break ?_)
  | ((with_reducible refine' rd_len ?h ?q); (case h => walk_at "tr"))
  | ((with_reducible refine' rd_eq ?h ?q); (case h => exact rfl)) | ((with_reducible refine' rd_ne ?h ?q); (case h => exact rfl))
  | ((with_reducible refine' ite_t ?h ?q); (case h => exact rfl)) | ((with_reducible refine' ite_f ?h ?q); (case h => exact rfl))
  | (with_reducible refine' rd_gn ?_) | (with_reducible refine' rd_forL ?_) | (with_reducible refine' rd_forT ?_) | (with_reducible refine' rd_forR1 ?_) | (with_reducible refine' rd_forR2 ?_) | (with_reducible refine' rd_forR3 ?_)
  | (with_reducible refine' rd_make ?_) | (with_reducible refine' rd_sfld ?_) | (with_reducible refine' rd_mth ?_) | (with_reducible refine' rd_callO ?_)
  | (with_reducible refine' rd_forS ?_) | (with_reducible refine' rd_gsub ?_)
  | (with_reducible refine' rd_fld ?_) | (with_reducible refine' rd_asgG ?_) | (with_reducible refine' rd_bm ?_)
  | ((with_reducible refine' rd_gT2 ?h ?n ?q); (case h => walk_at "tr"); (case n => exact rfl)) | ((with_reducible refine' rd_gT3 ?h ?n ?q); (case h => walk_at "tr"); (case n => exact rfl))
  | dsimp only)
local macro_rules | `(tactic| walk_at "rd") => `(tactic| repeat (walk_at "rd1"))

/-! ### integers and counts -/
def spInt : Sp := fun vs H Q _ => ∃ i : Int, vs = [.int i] ∧ ∀ H', Ext H H' → Q (.bl true) H'
def spCount : Sp := fun vs H Q _ => ∃ i : Int, vs = [.int i] ∧ 0 ≤ i ∧ ∀ H', Ext H H' → Q (.bl true) H'
section
variable {P : Program} {w : World} {K : PySem.W.Frag} {mg : Str → Option Value} {base : Heap}
theorem k_is_integer (T : Facts K mg) : Cal P w K mg base 1 "is_integer" ["thing"] spInt := by
  refine cal_mk T.F_is_integer T.g_is_integer sc_is_integer (fun _ _ _ _ _ _ us hl => match us, hl with | [_], _ => rfl) (fun vs H Q E h => by obtain ⟨i, rfl, _⟩ := h; rfl) (fun f cdv A outer s H vs Q E hr h => ?_)
  obtain ⟨i, rfl, k⟩ := h
  refine ⟨_, (pss_one (ps_ret (pe_and (pe_callB (call_isiK2 (K := K)) (by rfl) T.b_isinstance bt_isinstance (pa_cons (pv 0) (pa_cons (pe_bltn (v := .ty "int") (by rfl) T.b_int bt_int rfl) pa_nil))) (pe_one (pe_not (pe_callB (call_isiK2 (K := K)) (by rfl) T.b_isinstance bt_isinstance (pa_cons (pv 0) (pa_cons (pe_bltn (v := .ty "bool") (by rfl) T.b_bool bt_bool rfl) pa_nil)))))))), ?_⟩
  try dsimp only [cxOf]
  walk_at "rd"
  refine rd_isi ty_int kit_ii ?_
  walk_at "rd"
  refine rd_isi ty_int kit_ib ?_
  walk_at "rd"
  exact k _ Ext.rfl'
theorem k_is_count (T : Facts K mg) : Cal P w K mg base 2 "is_count" ["thing"] spCount := by
  have C_is_integer := k_is_integer (P := P) (w := w) (base := base) T
  refine cal_mk T.F_is_count T.g_is_count sc_is_count (fun _ _ _ _ _ _ us hl => match us, hl with | [_], _ => rfl) (fun vs H Q E h => by obtain ⟨i, rfl, _⟩ := h; rfl) (fun f cdv A outer s H vs Q E hr h => ?_)
  obtain ⟨i, rfl, h0, k⟩ := h
  refine ⟨_, (pss_one (ps_ret (pe_and (pe_k C_is_integer hr (by decide) (by rfl) (pa_cons (pv 0) pa_nil)) (pe_one (pe_cmpR op_ge (pv 0) pe_int (nomark _)))))), ?_⟩
  try dsimp only [cxOf]
  walk_at "rd"
  refine ⟨i, rfl, fun H1 e1 => ?_⟩
  walk_at "rd"
  rw [decide_eq_true h0]
  exact k _ e1
end
end K24
set_option Elab.async false
set_option linter.all false
set_option maxRecDepth 100000
set_option maxHeartbeats 4000000
/-! Defs that look at what was passed: is_listed .. is_course; deep; takes_ahead. -/
namespace K24
open PySem PySem.Spec PyProof.Rows L2
local macro_rules | `(tactic| walk_at "tr") => `(tactic| first
  | (with_reducible assumption)
  | (with_reducible exact TuA.sq (by assumption)) | (with_reducible exact SqLv.sq (by assumption)) | (with_reducible exact SqA.ofL (by assumption)) | (with_reducible exact SqA.ofT (by assumption))
  | (with_reducible exact TuA.of (by assumption)) | (with_reducible exact SqLv.of (by assumption)) | (with_reducible exact WsT.wa (by assumption))
  | (with_reducible refine' TuA.sq (TuA.ext ?h ?e); (case e => with_reducible assumption); (case h => walk_at "tr"))
  | (with_reducible refine' SqA.ext ?h ?e; (case e => with_reducible assumption); (case h => walk_at "tr"))
  | (with_reducible refine' TuA.ext ?h ?e; (case e => with_reducible assumption); (case h => walk_at "tr"))
  | (with_reducible refine' SqLv.ext ?h ?e; (case e => with_reducible assumption); (case h => walk_at "tr"))
  | (with_reducible refine' WsA.ext ?h ?e; (case e => with_reducible assumption); (case h => walk_at "tr"))
  | (with_reducible refine' WsT.ext ?h ?e; (case e => with_reducible assumption); (case h => walk_at "tr"))
  | (with_reducible refine' MkrT.ext ?h ?e; (case e => with_reducible assumption); (case h => walk_at "tr"))
  | (with_reducible refine' MkrO.ext ?h ?e; (case e => with_reducible assumption); (case h => walk_at "tr"))
  | (with_reducible refine' TblO.ext ?h ?e; (case e => with_reducible assumption); (case h => walk_at "tr"))
  | (with_reducible refine' RawT.ext ?h ?e; (case e => with_reducible assumption); (case h => walk_at "tr"))
  | (with_reducible refine' ext_at ?h ?e; (case e => with_reducible assumption); (case h => walk_at "tr"))
  | (with_reducible exact Ext.rfl')
  | (with_reducible refine' Ext.trans ?h ?e; (case e => with_reducible assumption); (case h => walk_at "tr")))
local macro_rules | `(tactic| walk_at "rd1") => `(tactic| first
  | (with_reducible refine' rd_seq ?_) | (with_reducible refine' rd_asg ?_) | (with_reducible refine' rd_ret ?_) | (with_reducible refine' rd_if ?_) | (with_reducible refine' rd_drop ?_)
  | ((with_reducible refine' rd_var ?h ?q); (case h => exact rfl))
  | (with_reducible refine' rd_c ?_) | (with_reducible refine' rd_op ?_) | (with_reducible refine' rd_un ?_) | (with_reducible refine' rd_test ?_) | (with_reducible refine' rd_B ?_) | (with_reducible refine' rd_bl ?_)
  | (with_reducible refine' rd_and ?_) | (with_reducible refine' rd_or ?_) | (with_reducible refine' rd_not ?_) | (with_reducible refine' rd_andV ?_) | (with_reducible refine' rd_orV ?_) | (with_reducible refine' rd_notV ?_)
  | (with_reducible refine' rd_ifE ?_) | (with_reducible refine' rd_chain ?_) | (with_reducible refine' rd_nil ?_) | (with_reducible refine' rd_cons ?_) | (with_reducible refine' rd_cb ?_) | (with_reducible refine' rd_call0 ?_) | (with_reducible refine' rd_call ?_)
  | (with_reducible refine' rd_part ?_) | (with_reducible refine' rd_int ?_) | (with_reducible refine' rd_nopart ?_) | (with_reducible refine' rd_sl ?_) | (with_reducible refine' rd_tup ?_) | (with_reducible refine' rd_lst ?_)
  | (with_reducible refine' rd_I0 ?_) | (with_reducible refine' rd_U ?_) | (with_reducible refine' rd_intI ?_) | (with_reducible refine' rd_abs ?_) | (with_reducible refine' rd_lc ?_) | (with_reducible refine' rd_lr ?_)
  | (with_reducible refine' rd_next ?_) | (with_reducible refine' rd_cont ?_) | (with_reducible refine' rd_break ?_)
  | ((with_reducible refine' rd_len ?h ?q); (case h => walk_at "tr"))
  | ((with_reducible refine' rd_eq ?h ?q); (case h => exact rfl)) | ((with_reducible refine' rd_ne ?h ?q); (case h => exact rfl))
  | ((with_reducible refine' ite_t ?h ?q); (case h => exact rfl)) | ((with_reducible refine' ite_f ?h ?q); (case h => exact rfl))
  | (with_reducible refine' rd_gn ?_) | (with_reducible refine' rd_forL ?_) | (with_reducible refine' rd_forT ?_) | (with_reducible refine' rd_forR1 ?_) | (with_reducible refine' rd_forR2 ?_) | (with_reducible refine' rd_forR3 ?_)
  | (with_reducible refine' rd_make ?_) | (with_reducible refine' rd_sfld ?_) | (with_reducible refine' rd_mth ?_) | (with_reducible refine' rd_callO ?_)
  | (with_reducible refine' rd_forS ?_) | (with_reducible refine' rd_gsub ?_)
  | (with_reducible refine' rd_fld ?_) | (with_reducible refine' rd_asgG ?_) | (with_reducible refine' rd_bm ?_)
  | ((with_reducible refine' rd_gT2 ?h ?n ?q); (case h => walk_at "tr"); (case n => exact rfl)) | ((with_reducible refine' rd_gT3 ?h ?n ?q); (case h => walk_at "tr"); (case n => exact rfl))
  | dsimp only)
local macro_rules | `(tactic| walk_at "rd") => `(tactic| repeat (walk_at "rd1"))

theorem sz2 : 2 ≤ sizeLine := by decide
theorem sz3 : 3 ≤ sizeLine := by decide
theorem map_at {α : Type} {f : α → V} {xs : List α} {i : Nat} {y : V} (h : (xs.map f)[i]? = some y) : ∃ a, xs[i]? = some a ∧ y = f a := by
  rw [List.getElem?_map] at h
  cases e : xs[i]? with
  | none =>
    rw [e] at h
    cases h
  | some a =>
    rw [e] at h
    exact ⟨a, rfl, (Option.some.inj h).symm⟩
theorem at_map {α : Type} {f : α → V} {xs : List α} {i : Nat} {a : α} (h : xs[i]? = some a) : (xs.map f)[i]? = some (f a) := by
  rw [List.getElem?_map, h]
  rfl
def nv (n : Nat) : V := .int (n : Int)
def spListed (K : PySem.W.Frag) : Sp := fun vs H Q _ => ∃ (x : V) (b : Bool), vs = [x] ∧ ((b = true ∧ ∃ xs, SqA K H x xs) ∨ (b = false ∧ ((∃ i, x = .int i) ∨ ∃ s, x = .str s))) ∧ ∀ H', Ext H H' → Q (.bl b) H'
def spCounts (K : PySem.W.Frag) : Sp := fun vs H Q _ => ∃ (x : V) (ns : List Int), vs = [x] ∧ SqA K H x (ns.map V.int) ∧ (∀ n ∈ ns, 0 ≤ n) ∧ ns.length ≤ 100000 ∧ ∀ H', Ext H H' → Q (.bl true) H'
def spDeep0 : Sp := fun vs H Q _ => ∃ (x : V), vs = [x] ∧ ((∃ i, x = .int i) ∨ ∃ s, x = .str s) ∧ ∀ H', Ext H H' → Q x H'
def spDeep1 (K : PySem.W.Frag) : Sp := fun vs H Q _ => ∃ (x : V) (xs : List V), vs = [x] ∧ SqA K H x xs ∧ (∀ y ∈ xs, (∃ i, y = .int i) ∨ ∃ s, y = .str s) ∧ xs.length ≤ 100000 ∧ ∀ p H', H p = none → Ext H H' → H' p = some (.tup xs) → Q (.ref p) H'
def spDeep2 (K : PySem.W.Frag) : Sp := fun vs H Q _ => ∃ (x : V) (ws : List (List Dd)), vs = [x] ∧ WsA K H x ws ∧ ws.length ≤ 100000 ∧ (∀ w ∈ ws, w.length ≤ 100000) ∧ ∀ v H', Ext H H' → WsT K H' v ws → Q v H'
def spRising (K : PySem.W.Frag) : Sp := fun vs H Q _ => ∃ (x : V) (ns : List Int), vs = [x] ∧ SqA K H x (ns.map V.int) ∧ ns.Pairwise (· ≤ ·) ∧ ns.length ≤ 100000 ∧ ∀ H', Ext H H' → Q (.bl true) H'
def spDeed : Sp := fun vs H Q _ => ∃ (n : Int) (d : Dd), vs = [.int n, d.v] ∧ (∀ i, d = .take i → 0 ≤ i ∧ i < n) ∧ ∀ H', Ext H H' → Q (.bl true) H'
def spDeeds (K : PySem.W.Frag) : Sp := fun vs H Q _ => ∃ (n : Int) (x : V) (ds : List Dd), vs = [.int n, x] ∧ SqA K H x (ds.map Dd.v) ∧ okDs n ds ∧ ds.length ≤ 100000 ∧ ∀ H', Ext H H' → Q (.bl true) H'
def spWays (K : PySem.W.Frag) : Sp := fun vs H Q _ => ∃ (n : Int) (x : V) (ws : List (List Dd)), vs = [.int n, x] ∧ WsA K H x ws ∧ 1 ≤ ws.length ∧ ws.length ≤ 4 ∧ (∀ w ∈ ws, w ≠ [] ∧ w.length ≤ 100000 ∧ okDs n w) ∧ ∀ H', Ext H H' → Q (.bl true) H'
def spWayNumbers (K : PySem.W.Frag) : Sp := fun vs H Q _ => ∃ (x : V) (ns : List Nat) (w : Nat) (lo hi : Int), vs = [x, .int (w : Int), .int lo, .int hi] ∧ SqA K H x (ns.map nv) ∧ (∀ n ∈ ns, n < w) ∧ lo ≤ (ns.length : Int) ∧ (ns.length : Int) ≤ hi ∧ ns.length ≤ 100000 ∧ ∀ H', Ext H H' → Q (.bl true) H'
section
variable {P : Program} {w : World} {K : PySem.W.Frag} {mg : Str → Option Value} {base : Heap}
theorem k_is_listed (T : Facts K mg) : Cal P w K mg base 1 "is_listed" ["thing"] (spListed K) := by
  refine cal_mk T.F_is_listed T.g_is_listed sc_is_listed (fun _ _ _ _ _ _ us hl => match us, hl with | [_], _ => rfl) (fun vs H Q E h => by obtain ⟨i, b, rfl, _⟩ := h; rfl) (fun f cdv A outer s H vs Q E hr h => ?_)
  obtain ⟨x, b, rfl, hx, k⟩ := h
  refine ⟨_, (pss_one (ps_ret (pe_callB (call_isiTK (K := K)) (by rfl) T.b_isinstance bt_isinstance (pa_cons (pv 0) (pa_cons (pe_tup (pa_cons (pe_bltn (v := .ty "tuple") (by rfl) T.b_tuple bt_tuple rfl) (pa_cons (pe_bltn (v := .ty "list") (by rfl) T.b_list bt_list rfl) pa_nil))) pa_nil))))), ?_⟩
  try dsimp only [cxOf]
  walk_at "rd"
  refine go_tup sz2 fun p H1 hp e1 h1 => ?_
  walk_at "rd"
  rcases hx with ⟨rfl, xs, hx⟩ | ⟨rfl, ⟨i, rfl⟩ | ⟨s, rfl⟩⟩
  · obtain ⟨t, ty, kt⟩ := ty_sq (hx.ext e1)
    exact rd_isiTL h1 ty kt (k _ e1)
  · exact rd_isiTL h1 ty_int kit_int (k _ e1)
  · exact rd_isiTL h1 ty_str kit_str (k _ e1)
theorem k_is_counts (T : Facts K mg) : Cal P w K mg base 3 "is_counts" ["thing"] (spCounts K) := by
  have C_is_listed := k_is_listed (P := P) (w := w) (base := base) T
  have C_is_count := k_is_count (P := P) (w := w) (base := base) T
  refine cal_mk T.F_is_counts T.g_is_counts sc_is_counts (fun _ _ _ _ _ _ us hl => match us, hl with | [_], _ => rfl) (fun vs H Q E h => by obtain ⟨i, b, rfl, _⟩ := h; rfl) (fun f cdv A outer s H vs Q E hr h => ?_)
  obtain ⟨x, ns, rfl, hx, h0, hz, k⟩ := h
  refine ⟨_, (pss_one (ps_ret (pe_and (pe_k C_is_listed hr (by decide) (by rfl) (pa_cons (pv 0) pa_nil)) (pe_one (pe_callB (call_allK (K := K)) (by rfl) T.b_all bt_all (pa_cons (pe_lc (own := [("one", 1)]) (g := gName 1) (tt := tYes) rfl sc_is_counts.nd (pi_seqK (K := K) (pv 0)) (blkOk_by (N := n_is_counts) (sc := defScope s_is_counts) (by decide +kernel)) (fun _ _ _ _ _ => pg_name (i := 1) sc_is_counts.nd rfl (Or.inl rfl)) (fun _ _ _ _ _ => pts_nil) (fun _ _ _ _ _ => (pe_k C_is_count hr (by decide) (by rfl) (pa_cons (pv 1) pa_nil)))) pa_nil)))))), ?_⟩
  try dsimp only [cxOf]
  walk_at "rd"
  refine ⟨x, true, rfl, .inl ⟨rfl, _, hx⟩, fun H1 e1 => ?_⟩
  walk_at "rd"
  refine lc_val (fun _ => .bl true) (hx.ext e1) (by rw [List.length_map]; exact hz) (fun _ => rfl) (fun i y H2 hy e2 Q' k' => ?_) (fun p ys H2 hp e2 h2 hl hv => ?_)
  · obtain ⟨n, hn, rfl⟩ := map_at hy
    walk_at "rd"
    exact ⟨n, rfl, h0 n (List.mem_of_getElem? hn), fun H3 e3 => k' _ e3⟩
  · walk_at "rd"
    refine rd_all h2 hv ?_
    walk_at "rd"
    exact k _ (e1.trans e2)
theorem k_deep0 (T : Facts K mg) : Cal P w K mg base 2 "deep" ["thing"] spDeep0 := by
  have C_is_listed := k_is_listed (P := P) (w := w) (base := base) T
  refine cal_mk T.F_deep T.g_deep sc_deep (fun _ _ _ _ _ _ us hl => match us, hl with | [_], _ => rfl) (fun vs H Q E h => by obtain ⟨i, rfl, _⟩ := h; rfl) (fun f cdv A outer s H vs Q E hr h => ?_)
  obtain ⟨x, rfl, hx, k⟩ := h
  refine ⟨_, (pss_cons (ps_if (pt_val (pe_k C_is_listed hr (by decide) (by rfl) (pa_cons (pv 0) pa_nil))) (pss_one ps_never) pss_nil)
      (pss_one (ps_ret (pv 0)))), ?_⟩
  try dsimp only [cxOf]
  walk_at "rd"
  refine ⟨x, false, rfl, .inr ⟨rfl, hx⟩, fun H1 e1 => ?_⟩
  walk_at "rd"
  exact k _ e1
theorem k_deep1 (T : Facts K mg) : Cal P w K mg base 3 "deep" ["thing"] (spDeep1 K) := by
  have C_is_listed := k_is_listed (P := P) (w := w) (base := base) T
  have C_deep := k_deep0 (P := P) (w := w) (base := base) T
  refine cal_mk T.F_deep T.g_deep sc_deep (fun _ _ _ _ _ _ us hl => match us, hl with | [_], _ => rfl) (fun vs H Q E h => by obtain ⟨i, b, rfl, _⟩ := h; rfl) (fun f cdv A outer s H vs Q E hr h => ?_)
  obtain ⟨x, xs, rfl, hx, hf, hz, k⟩ := h
  refine ⟨_, (pss_cons (ps_if (pt_val (pe_k C_is_listed hr (by decide) (by rfl) (pa_cons (pv 0) pa_nil))) (pss_one (ps_ret (pe_callTy (call_tupK (K := K)) (by rfl) T.b_tuple bt_tuple (pa_cons (pe_lc (own := [("one", 1)]) (g := gName 1) (tt := tYes) rfl sc_deep.nd (pi_seqK (K := K) (pv 0)) (blkOk_by (N := n_deep) (sc := defScope s_deep) (by decide +kernel)) (fun _ _ _ _ _ => pg_name (i := 1) sc_deep.nd rfl (Or.inl rfl)) (fun _ _ _ _ _ => pts_nil) (fun _ _ _ _ _ => (pe_k C_deep hr (by decide) (by rfl) (pa_cons (pv 1) pa_nil)))) pa_nil)))) pss_nil)
      (pss_one (ps_ret (pv 0)))), ?_⟩
  try dsimp only [cxOf]
  walk_at "rd"
  refine ⟨x, true, rfl, .inl ⟨rfl, _, hx⟩, fun H1 e1 => ?_⟩
  walk_at "rd"
  refine lc_val (fun i => xs.getD i .non) (hx.ext e1) hz (fun _ => rfl) (fun i y H2 hy e2 Q' k' => ?_) (fun p ys H2 hp e2 h2 hl hv => ?_)
  · walk_at "rd"
    refine ⟨y, rfl, hf y (List.mem_of_getElem? hy), fun H3 e3 => ?_⟩
    have ey : xs.getD i .non = y := by rw [List.getD_eq_getElem?_getD, hy]; rfl
    have := k' _ e3
    rw [ey] at this
    exact this
  · walk_at "rd"
    have ey : ys = xs := by
      rw [list_of hl hv]
      apply List.ext_getElem?
      intro i
      rw [List.getElem?_map]
      by_cases hi : i < xs.length
      · rw [List.getElem?_range hi, List.getElem?_eq_getElem hi]
        show some (xs.getD i .non) = _
        rw [List.getD_eq_getElem?_getD, List.getElem?_eq_getElem hi]
        rfl
      · rw [List.getElem?_eq_none (by rw [List.length_range]; omega), List.getElem?_eq_none (by omega)]
        rfl
    subst ey
    refine rd_tupleL (SqLv.of h2) fun q H3 hq e3 h3 => ?_
    walk_at "rd"
    exact k q H3 (ext_free e1 (ext_free e2 hq)) ((e1.trans e2).trans e3) h3
theorem k_deep2 (T : Facts K mg) : Cal P w K mg base 4 "deep" ["thing"] (spDeep2 K) := by
  have C_is_listed := k_is_listed (P := P) (w := w) (base := base) T
  have C_deep := k_deep1 (P := P) (w := w) (base := base) T
  refine cal_mk T.F_deep T.g_deep sc_deep (fun _ _ _ _ _ _ us hl => match us, hl with | [_], _ => rfl) (fun vs H Q E h => by obtain ⟨i, b, rfl, _⟩ := h; rfl) (fun f cdv A outer s H vs Q E hr h => ?_)
  obtain ⟨x, ws, rfl, ⟨us, hx, hlen, hu⟩, hz, hzw, k⟩ := h
  refine ⟨_, (pss_cons (ps_if (pt_val (pe_k C_is_listed hr (by decide) (by rfl) (pa_cons (pv 0) pa_nil))) (pss_one (ps_ret (pe_callTy (call_tupK (K := K)) (by rfl) T.b_tuple bt_tuple (pa_cons (pe_lc (own := [("one", 1)]) (g := gName 1) (tt := tYes) rfl sc_deep.nd (pi_seqK (K := K) (pv 0)) (blkOk_by (N := n_deep) (sc := defScope s_deep) (by decide +kernel)) (fun _ _ _ _ _ => pg_name (i := 1) sc_deep.nd rfl (Or.inl rfl)) (fun _ _ _ _ _ => pts_nil) (fun _ _ _ _ _ => (pe_k C_deep hr (by decide) (by rfl) (pa_cons (pv 1) pa_nil)))) pa_nil)))) pss_nil)
      (pss_one (ps_ret (pv 0)))), ?_⟩
  try dsimp only [cxOf]
  walk_at "rd"
  refine ⟨x, true, rfl, .inl ⟨rfl, _, hx⟩, fun H1 e1 => ?_⟩
  walk_at "rd"
  refine lc_go (fun D i y A => ∃ q w, y = .ref q ∧ q ≠ D ∧ ws[i]? = some w ∧ A q = some (.tup (w.map Dd.v))) (fun D i y A B hb p => ?_) (hx.ext e1) (by omega) (fun _ => rfl) (fun D i y H2 acc hy e2 hD Q' k' => ?_) (fun p ys H2 hp e2 h2 hl hv => ?_)
  · obtain ⟨q, w, h1, h2, h3, h4⟩ := p
    exact ⟨q, w, h1, h2, h3, hb _ _ h2 h4⟩
  · have hi : i < ws.length := by
      have := (List.getElem?_eq_some_iff.mp hy).1
      omega
    have hw : ws[i]? = some ws[i] := List.getElem?_eq_getElem hi
    walk_at "rd"
    refine ⟨y, (ws[i]).map Dd.v, rfl, ((hu i y _ hy hw).ext e1).ext e2, fun z hz => ?_, by rw [List.length_map]; exact hzw _ (List.getElem_mem hi), fun q H3 hq e3 h3 => ?_⟩
    · obtain ⟨d, _, rfl⟩ := List.mem_map.mp hz
      cases d with
      | give => exact .inr ⟨_, rfl⟩
      | take i => exact .inl ⟨_, rfl⟩
    · exact k' _ _ e3 ⟨q, _, rfl, (fun e => by
      rw [e, hD] at hq
      cases hq), hw, h3⟩
  · walk_at "rd"
    refine rd_tupleL (SqLv.of h2) fun q H3 hq e3 h3 => ?_
    walk_at "rd"
    refine k _ _ ((e1.trans e2).trans e3) ⟨ys, TuA.of h3, by omega, fun j u w hju hjw => ?_⟩
    obtain ⟨q', w', h4, _, h6, h7⟩ := hv j u hju
    have ew : w' = w := Option.some.inj (h6.symm.trans hjw)
    subst ew; subst h4
    exact TuA.of (e3 _ _ h7)
theorem k_is_rising (T : Facts K mg) : Cal P w K mg base 1 "is_rising" ["counts"] (spRising K) := by
  refine cal_mk T.F_is_rising T.g_is_rising sc_is_rising (fun _ _ _ _ _ _ us hl => match us, hl with | [_], _ => rfl) (fun vs H Q E h => by obtain ⟨i, b, rfl, _⟩ := h; rfl) (fun f cdv A outer s H vs Q E hr h => ?_)
  obtain ⟨x, ns, rfl, hx, hp, hz, k⟩ := h
  refine ⟨_, (pss_one (ps_ret (pe_callB (call_allK (K := K)) (by rfl) T.b_all bt_all (pa_cons (pe_lc (own := [("place", 1)]) (g := gName 1) (tt := tYes) rfl sc_is_rising.nd (pi_range1 (by rfl) T.b_range (pa_cons (pe_op op_sub (pe_callB (call_lenK (K := K)) (by rfl) T.b_len PySem.boot_len (pa_cons (pv 0) pa_nil)) pe_int) pa_nil)) (blkOk_by (N := n_is_rising) (sc := defScope s_is_rising) (by decide +kernel)) (fun _ _ _ _ _ => pg_name (i := 1) sc_is_rising.nd rfl (Or.inl rfl)) (fun _ _ _ _ _ => pts_nil) (fun _ _ _ _ _ => (pe_cmpR op_le (pe_ix (ix_K (K := K)) (pv 0) (pv 1) (fun _ _ => rfl)) (pe_ix (ix_K (K := K)) (pv 0) (pe_op op_add (pv 1) pe_int) (fun _ _ => rfl)) (nomark _)))) pa_nil)))), ?_⟩
  try dsimp only [cxOf]
  walk_at "rd"
  have hl : (ns.map V.int).length = ns.length := List.length_map ..
  refine lr_val (fun _ => .bl true) (by omega) (by omega) (fun _ => rfl) (fun i H2 hi e2 Q' k' => ?_) (fun p ys H2 hp e2 h2 hl hv => ?_)
  · have h1 : i < ns.length := by omega
    have h2 : i + 1 < ns.length := by omega
    walk_at "rd"
    refine rd_ix (hx.ext e2) (at_of (j := i) rfl (at_map (List.getElem?_eq_getElem h1))) ?_
    walk_at "rd"
    refine rd_ix (hx.ext e2) (at_of (j := i + 1) (by omega) (at_map (List.getElem?_eq_getElem h2))) ?_
    walk_at "rd"
    have := List.pairwise_iff_getElem.mp hp i (i + 1) h1 h2 (by omega)
    rw [decide_eq_true this]
    exact k' _ Ext.rfl'
  · walk_at "rd"
    refine rd_all h2 hv ?_
    walk_at "rd"
    exact k _ e2
theorem k_is_deed (T : Facts K mg) : Cal P w K mg base 2 "is_deed" ["inlets", "thing"] spDeed := by
  have C_is_integer := k_is_integer (P := P) (w := w) (base := base) T
  refine cal_mk T.F_is_deed T.g_is_deed sc_is_deed (fun _ _ _ _ _ _ us hl => match us, hl with | [_, _], _ => rfl) (fun vs H Q E h => by obtain ⟨i, b, rfl, _⟩ := h; rfl) (fun f cdv A outer s H vs Q E hr h => ?_)
  obtain ⟨n, d, rfl, hd, k⟩ := h
  refine ⟨_, (pss_cons (ps_if (pt_val (pe_callB (call_isiK2 (K := K)) (by rfl) T.b_isinstance bt_isinstance (pa_cons (pv 1) (pa_cons (pe_bltn (v := .ty "str") (by rfl) T.b_str bt_str rfl) pa_nil)))) (pss_one (ps_ret (pe_cmpR op_eq (pv 1) (pe_gs (by rfl) T.c_GIVE) (nomark _)))) pss_nil)
      (pss_one (ps_ret (pe_and (pe_k C_is_integer hr (by decide) (by rfl) (pa_cons (pv 1) pa_nil)) (pe_one (pe_chain op_le op_lt pe_int (pv 1) (pv 0))))))), ?_⟩
  try dsimp only [cxOf]
  cases d with
  | give =>
    dsimp only [Dd.v]
    walk_at "rd"
    refine rd_isi ty_str kit_ss ?_
    walk_at "rd"
    exact k _ Ext.rfl'
  | take i =>
    obtain ⟨h0, h1⟩ := hd i rfl
    dsimp only [Dd.v]
    walk_at "rd"
    refine rd_isi ty_int kit_is ?_
    walk_at "rd"
    refine ⟨i, rfl, fun H1 e1 => ?_⟩
    walk_at "rd"
    refine ite_t (decide_eq_true h0) ?_
    walk_at "rd"
    rw [decide_eq_true h1]
    exact k _ e1
theorem k_is_deeds (T : Facts K mg) : Cal P w K mg base 3 "is_deeds" ["inlets", "thing"] (spDeeds K) := by
  have C_is_listed := k_is_listed (P := P) (w := w) (base := base) T
  have C_is_deed := k_is_deed (P := P) (w := w) (base := base) T
  refine cal_mk T.F_is_deeds T.g_is_deeds sc_is_deeds (fun _ _ _ _ _ _ us hl => match us, hl with | [_, _], _ => rfl) (fun vs H Q E h => by obtain ⟨i, b, c, rfl, _⟩ := h; rfl) (fun f cdv A outer s H vs Q E hr h => ?_)
  obtain ⟨n, x, ds, rfl, hx, ho, hz, k⟩ := h
  refine ⟨_, (pss_one (ps_ret (pe_and (pe_k C_is_listed hr (by decide) (by rfl) (pa_cons (pv 1) pa_nil)) (pe_one (pe_callB (call_allK (K := K)) (by rfl) T.b_all bt_all (pa_cons (pe_lc (own := [("one", 2)]) (g := gName 2) (tt := tYes) rfl sc_is_deeds.nd (pi_seqK (K := K) (pv 1)) (blkOk_by (N := n_is_deeds) (sc := defScope s_is_deeds) (by decide +kernel)) (fun _ _ _ _ _ => pg_name (i := 2) sc_is_deeds.nd rfl (Or.inl rfl)) (fun _ _ _ _ _ => pts_nil) (fun _ _ _ _ _ => (pe_k C_is_deed hr (by decide) (by rfl) (pa_cons (pv 0) (pa_cons (pv 2) pa_nil))))) pa_nil)))))), ?_⟩
  try dsimp only [cxOf]
  walk_at "rd"
  refine ⟨x, true, rfl, .inl ⟨rfl, _, hx⟩, fun H1 e1 => ?_⟩
  walk_at "rd"
  refine lc_val (fun _ => .bl true) (hx.ext e1) (by rw [List.length_map]; exact hz) (fun _ => rfl) (fun i y H2 hy e2 Q' k' => ?_) (fun p ys H2 hp e2 h2 hl hv => ?_)
  · obtain ⟨d, hd, rfl⟩ := map_at hy
    walk_at "rd"
    exact ⟨n, d, rfl, fun j e => ho j (by rw [← e]; exact List.mem_of_getElem? hd), fun H3 e3 => k' _ e3⟩
  · walk_at "rd"
    refine rd_all h2 hv ?_
    walk_at "rd"
    exact k _ (e1.trans e2)
theorem k_is_ways (T : Facts K mg) : Cal P w K mg base 4 "is_ways" ["inlets", "thing"] (spWays K) := by
  have C_is_listed := k_is_listed (P := P) (w := w) (base := base) T
  have C_is_deeds := k_is_deeds (P := P) (w := w) (base := base) T
  refine cal_mk T.F_is_ways T.g_is_ways sc_is_ways (fun _ _ _ _ _ _ us hl => match us, hl with | [_, _], _ => rfl) (fun vs H Q E h => by obtain ⟨i, b, c, rfl, _⟩ := h; rfl) (fun f cdv A outer s H vs Q E hr h => ?_)
  obtain ⟨n, x, ws, rfl, ⟨us, hx, hlen, hu⟩, hw1, hw4, hw, k⟩ := h
  refine ⟨_, (pss_cons (ps_if (PW.pt (pw_or (pt_not (pt_val (pe_k C_is_listed hr (by decide) (by rfl) (pa_cons (pv 1) pa_nil)))) (pw_or1 (pt_not (pt_chain op_le op_le pe_int (pe_callB (call_lenK (K := K)) (by rfl) T.b_len PySem.boot_len (pa_cons (pv 1) pa_nil)) (pe_gi (by rfl) T.c_MOST_WAYS)))))) (pss_one (ps_ret pe_bl)) pss_nil)
      (pss_one (ps_ret (pe_callB (call_allK (K := K)) (by rfl) T.b_all bt_all (pa_cons (pe_lc (own := [("one", 2)]) (g := gName 2) (tt := tYes) rfl sc_is_ways.nd (pi_seqK (K := K) (pv 1)) (blkOk_by (N := n_is_ways) (sc := defScope s_is_ways) (by decide +kernel)) (fun _ _ _ _ _ => pg_name (i := 2) sc_is_ways.nd rfl (Or.inl rfl)) (fun _ _ _ _ _ => pts_nil) (fun _ _ _ _ _ => (pe_and (pe_k C_is_deeds hr (by decide) (by rfl) (pa_cons (pv 0) (pa_cons (pv 2) pa_nil))) (pe_one (pe_cmpR op_gt (pe_callB (call_lenK (K := K)) (by rfl) T.b_len PySem.boot_len (pa_cons (pv 2) pa_nil)) pe_int (nomark _)))))) pa_nil))))), ?_⟩
  try dsimp only [cxOf]
  walk_at "rd"
  refine ⟨x, true, rfl, .inl ⟨rfl, _, hx⟩, fun H1 e1 => ?_⟩
  walk_at "rd"
  refine ite_t (decide_eq_true (by omega)) ?_
  walk_at "rd"
  rw [decide_eq_true (show (us.length : Int) ≤ 4 by omega)]
  walk_at "rd"
  refine lc_val (fun _ => .bl true) (hx.ext e1) (by omega) (fun _ => rfl) (fun i y H2 hy e2 Q' k' => ?_) (fun p ys H2 hp e2 h2 hl hv => ?_)
  · have hi : i < ws.length := by
      have := (List.getElem?_eq_some_iff.mp hy).1
      omega
    have hwi : ws[i]? = some ws[i] := List.getElem?_eq_getElem hi
    obtain ⟨q1, q2, q3⟩ := hw _ (List.getElem_mem hi)
    have hq := ((hu i y _ hy hwi).ext e1).ext e2
    walk_at "rd"
    refine ⟨n, y, ws[i], rfl, hq, q3, q2, fun H3 e3 => ?_⟩
    walk_at "rd"
    have hp : 0 < (ws[i]).length := List.length_pos_iff.mpr q1
    have hm : ((ws[i]).map Dd.v).length = (ws[i]).length := List.length_map ..
    rw [decide_eq_true (by omega)]
    exact k' _ e3
  · walk_at "rd"
    refine rd_all h2 hv ?_
    walk_at "rd"
    exact k _ (e1.trans e2)
theorem k_is_way_numbers (T : Facts K mg) : Cal P w K mg base 2 "is_way_numbers" ["thing", "ways", "least", "most"] (spWayNumbers K) := by
  have C_is_listed := k_is_listed (P := P) (w := w) (base := base) T
  have C_is_integer := k_is_integer (P := P) (w := w) (base := base) T
  refine cal_mk T.F_is_way_numbers T.g_is_way_numbers sc_is_way_numbers (fun _ _ _ _ _ _ us hl => match us, hl with | [_, _, _, _], _ => rfl) (fun vs H Q E h => by obtain ⟨i, b, c, lo, hi, rfl, _⟩ := h; rfl) (fun f cdv A outer s H vs Q E hr h => ?_)
  obtain ⟨x, ns, wn, lo, hi, rfl, hx, hn, hlo, hhi, hz, k⟩ := h
  refine ⟨_, (pss_cons (ps_if (PW.pt (pw_or (pt_not (pt_val (pe_k C_is_listed hr (by decide) (by rfl) (pa_cons (pv 0) pa_nil)))) (pw_or1 (pt_not (pt_chain op_le op_le (pv 2) (pe_callB (call_lenK (K := K)) (by rfl) T.b_len PySem.boot_len (pa_cons (pv 0) pa_nil)) (pv 3)))))) (pss_one (ps_ret pe_bl)) pss_nil)
      (pss_one (ps_ret (pe_callB (call_allK (K := K)) (by rfl) T.b_all bt_all (pa_cons (pe_lc (own := [("one", 4)]) (g := gName 4) (tt := tYes) rfl sc_is_way_numbers.nd (pi_seqK (K := K) (pv 0)) (blkOk_by (N := n_is_way_numbers) (sc := defScope s_is_way_numbers) (by decide +kernel)) (fun _ _ _ _ _ => pg_name (i := 4) sc_is_way_numbers.nd rfl (Or.inl rfl)) (fun _ _ _ _ _ => pts_nil) (fun _ _ _ _ _ => (pe_and (pe_k C_is_integer hr (by decide) (by rfl) (pa_cons (pv 4) pa_nil)) (pe_one (pe_chain op_le op_lt pe_int (pv 4) (pv 1)))))) pa_nil))))), ?_⟩
  try dsimp only [cxOf]
  have hl : (ns.map nv).length = ns.length := List.length_map ..
  walk_at "rd"
  refine ⟨x, true, rfl, .inl ⟨rfl, _, hx⟩, fun H1 e1 => ?_⟩
  walk_at "rd"
  refine ite_t (decide_eq_true (by omega)) ?_
  walk_at "rd"
  rw [decide_eq_true (show ((ns.map nv).length : Int) ≤ hi by omega)]
  walk_at "rd"
  refine lc_val (fun _ => .bl true) (hx.ext e1) (by omega) (fun _ => rfl) (fun i y H2 hy e2 Q' k' => ?_) (fun p ys H2 hp e2 h2 hl hv => ?_)
  · obtain ⟨n, hni, rfl⟩ := map_at hy
    have hlt := hn n (List.mem_of_getElem? hni)
    unfold nv
    walk_at "rd"
    refine ⟨_, rfl, fun H3 e3 => ?_⟩
    walk_at "rd"
    rw [decide_eq_true (by omega)]
    exact k' _ e3
  · walk_at "rd"
    refine rd_all h2 hv ?_
    walk_at "rd"
    exact k _ (e1.trans e2)
end
end K24
set_option Elab.async false
set_option linter.all false
set_option maxHeartbeats 4000000
/-! More of the plain law: the program's own way to the plain form. -/
namespace K24
theorem back_val {hd lp : List Int} {st : Int} {k : Nat} (hp : lp ≠ []) (hk1 : 1 ≤ k) (hk : k ≤ hd.length)
    (h : ∀ j, k < j → j ≤ hd.length → (hd ++ lp).getD (j - 1) 0 = (hd ++ lp).getD (j - 1 + lp.length) 0 - st) :
    (hd ++ lp).getD (k - 1 + lp.length) 0 = lp.getD (lp.length - 1 - (hd.length - k) % lp.length) 0 - st * (((hd.length - k) / lp.length : Nat) : Int) := by
  have hl : 0 < lp.length := List.length_pos_iff.mpr hp
  have hr := Nat.mod_lt (hd.length - k) hl
  have hdm := Nat.div_add_mod (hd.length - k) lp.length
  generalize (hd.length - k) / lp.length = q at *
  generalize (hd.length - k) % lp.length = r at *
  have key : ∀ n, n ≤ q → (hd ++ lp).getD (hd.length + lp.length - 1 - r - lp.length * n) 0 = lp.getD (lp.length - 1 - r) 0 - st * (n : Int) := by
    intro n
    induction n with
    | zero =>
      intro _
      rw [List.getD_eq_getElem?_getD, Nat.mul_zero, Nat.sub_zero, List.getElem?_append_right (by omega), List.getD_eq_getElem?_getD]
      have e : hd.length + lp.length - 1 - r - hd.length = lp.length - 1 - r := by omega
      rw [e]
      simp
    | succ n ih =>
      intro hn
      have ih := ih (by omega)
      have hmul : lp.length * (n + 1) = lp.length * n + lp.length := Nat.mul_succ _ _
      have hle : lp.length * (n + 1) ≤ lp.length * q := Nat.mul_le_mul_left _ hn
      have hM := h (hd.length - r - lp.length * n) (by omega) (by omega)
      have e1 : hd.length - r - lp.length * n - 1 = hd.length + lp.length - 1 - r - lp.length * (n + 1) := by omega
      have e2 : hd.length - r - lp.length * n - 1 + lp.length = hd.length + lp.length - 1 - r - lp.length * n := by omega
      rw [e2, e1, ih] at hM
      rw [hM]
      have c1 : ((n + 1 : Nat) : Int) = (n : Int) + 1 := by omega
      rw [c1, Int.mul_add, Int.mul_one]
      omega
  have e := key q (Nat.le_refl _)
  have e3 : hd.length + lp.length - 1 - r - lp.length * q = k - 1 + lp.length := by omega
  rw [e3] at e
  exact e
theorem pSize_len {lp : List Int} {rise : Int} (h : lp ≠ []) (hn : ∀ m, 1 ≤ m → m < lp.length → cnd lp rise m = false) : pSize lp rise = lp.length := by
  have hl : 0 < lp.length := List.length_pos_iff.mpr h
  exact szL_first _ _ _ lp.length hl (Nat.le_refl _) (cnd_whole lp rise h) hn
theorem pStep_len {lp : List Int} {rise : Int} (h : lp ≠ []) (hn : ∀ m, 1 ≤ m → m < lp.length → cnd lp rise m = false) : pStep lp rise = rise := by
  have hl : 0 < lp.length := List.length_pos_iff.mpr h
  unfold pStep
  rw [pSize_len h hn, Nat.div_self hl]
  simp
theorem pSize_at {lp : List Int} {rise : Int} {m : Nat} (h1 : 1 ≤ m) (h2 : m ≤ lp.length) (hc : cnd lp rise m = true) (hn : ∀ j, 1 ≤ j → j < m → cnd lp rise j = false) : pSize lp rise = m :=
  szL_first _ _ _ m h1 h2 hc hn
theorem plainF_cons {head loop : List Int} {rise : Int} (h : loop ≠ []) : plainF head loop rise = ((pRow head loop rise).take (pKeep head loop rise), ((pRow head loop rise).drop (pKeep head loop rise)).take (pSize loop rise), pStep loop rise) := by
  unfold plainF
  rw [if_neg h]
theorem plainF_nil {head : List Int} {rise : Int} : plainF head [] rise = (head, [], 0) := by
  unfold plainF
  rw [if_pos rfl]
/-- what the parts of a table must keep -/
structure RawOk (hd lp : List Int) (rise : Int) : Prop where
  h0 : ∀ x ∈ hd, 0 ≤ x
  l0 : ∀ x ∈ lp, 0 ≤ x
  hp : hd.Pairwise (· ≤ ·)
  lp_ : lp.Pairwise (· ≤ ·)
  hl : ∀ x ∈ hd, ∀ y ∈ lp, x ≤ y
  r0 : 0 ≤ rise
  rb : rise < 2 ^ 40
  rn : lp = [] → rise = 0
  lr : ∀ x ∈ lp, ∀ y ∈ lp, x ≤ y + rise
  zh : hd.length ≤ 50000
  zl : lp.length ≤ 50000
theorem needRaw_ok {i : Int} {d1 d2 : List Dd} (h1 : d1.length ≤ 50000) (h2 : d2.length ≤ 50000) : RawOk (needRaw i d1 d2).1 (needRaw i d1 d2).2.1 (needRaw i d1 d2).2.2 := by
  obtain ⟨a1, a2, a3, a4, a5⟩ := ahead_bounds i d1
  obtain ⟨b1, b2, b3, b4, b5⟩ := ahead_bounds i d2
  have hr : (needRaw i d1 d2).2.2 = if (ahead i d2).1 = [] then 0 else (ahead i d2).2 := rfl
  have hr0 : 0 ≤ (needRaw i d1 d2).2.2 ∧ (needRaw i d1 d2).2.2 ≤ 50000 := by
    rw [hr]
    split <;> omega
  refine ⟨fun x hx => (a1 x hx).1, fun x hx => ?_, a5, ?_, fun x hx y hy => ?_, hr0.1, by have := hr0.2; omega, fun e => ?_, fun x hx y hy => ?_, by show (ahead i d1).1.length ≤ _; omega, ?_⟩
  · obtain ⟨y, hy, rfl⟩ := List.mem_map.mp hx
    have := (b1 y hy).1
    show 0 ≤ _ + y
    omega
  · exact List.pairwise_map.mpr (b5.imp fun {a b} h => by show _ + a ≤ _ + b; omega)
  · obtain ⟨z, hz, rfl⟩ := List.mem_map.mp hy
    have := (a1 x hx).2
    have := (b1 z hz).1
    show x ≤ _ + z
    omega
  · rw [hr]
    have e2 : (ahead i d2).1 = [] := by
      have e : (ahead i d2).1.map ((ahead i d1).2 + ·) = [] := e
      simpa using e
    rw [if_pos e2]
  · obtain ⟨a, ha, rfl⟩ := List.mem_map.mp hx
    obtain ⟨b, hb, rfl⟩ := List.mem_map.mp hy
    have hne : ¬ (ahead i d2).1 = [] := fun e => by rw [e] at ha; cases ha
    rw [hr, if_neg hne]
    have := (b1 a ha).2
    have := (b1 b hb).1
    show _ + a ≤ _ + b + _
    omega
  · show ((ahead i d2).1.map _).length ≤ _
    rw [List.length_map]
    omega
/-- the plain form's values and rise are counts -/
theorem plainF_counts {hd lp : List Int} {rise : Int} (ok : RawOk hd lp rise) : (∀ x ∈ (plainF hd lp rise).1 ++ (plainF hd lp rise).2.1, 0 ≤ x) ∧ 0 ≤ (plainF hd lp rise).2.2 ∧ (plainF hd lp rise).2.2 < 2 ^ 40 ∧ (plainF hd lp rise).1.length ≤ 50000 ∧ (plainF hd lp rise).2.1.length ≤ 50000 := by
  by_cases h : lp = []
  · subst h
    rw [plainF_nil]
    exact ⟨fun x hx => ok.h0 x (by simpa using hx), Int.le_refl _, by show (0 : Int) < 2 ^ 40; decide, ok.zh, by show 0 ≤ 50000; omega⟩
  · rw [plainF_cons h]
    have g := pSize_good (rise := rise) h
    have hq : 0 < lp.length / pSize lp rise := Nat.div_pos g.2.2 g.2.1
    have hrow : ∀ x ∈ pRow hd lp rise, 0 ≤ x := fun x hx => by
      rcases List.mem_append.mp hx with hx | hx
      · exact ok.h0 x hx
      · exact ok.l0 x (List.mem_of_mem_take hx)
    have hs : 0 ≤ pStep lp rise ∧ pStep lp rise ≤ rise := by
      refine ⟨Int.ediv_nonneg ok.r0 (by omega), ?_⟩
      exact Int.ediv_le_self _ ok.r0
    refine ⟨fun x hx => ?_, hs.1, by have := hs.2; have := ok.rb; show pStep lp rise < 2 ^ 40; omega, ?_, ?_⟩
    · rcases List.mem_append.mp hx with hx | hx
      · exact hrow x (List.mem_of_mem_take hx)
      · exact hrow x (List.mem_of_mem_drop (List.mem_of_mem_take hx))
    · show ((pRow hd lp rise).take _).length ≤ _
      rw [List.length_take]
      have := pKeep_le hd lp rise
      have := ok.zh
      omega
    · show (((pRow hd lp rise).drop _).take _).length ≤ _
      rw [List.length_take]
      have := ok.zl
      omega
end K24
set_option Elab.async false
set_option linter.all false
set_option maxRecDepth 100000
set_option maxHeartbeats 4000000
/-! is_course, takes_ahead, value_at, short_loop. -/
namespace K24
open PySem PySem.Spec PyProof.Rows L2
local macro_rules | `(tactic| walk_at "tr") => `(tactic| first
  | (with_reducible assumption)
  | (with_reducible exact TuA.sq (by assumption)) | (with_reducible exact SqLv.sq (by assumption)) | (with_reducible exact SqA.ofL (by assumption)) | (with_reducible exact SqA.ofT (by assumption))
  | (with_reducible exact TuA.of (by assumption)) | (with_reducible exact SqLv.of (by assumption)) | (with_reducible exact WsT.wa (by assumption))
  | (with_reducible refine' TuA.sq (TuA.ext ?h ?e); (case e => with_reducible assumption); (case h => walk_at "tr"))
  | (with_reducible refine' SqA.ext ?h ?e; (case e => with_reducible assumption); (case h => walk_at "tr"))
  | (with_reducible refine' TuA.ext ?h ?e; (case e => with_reducible assumption); (case h => walk_at "tr"))
  | (with_reducible refine' SqLv.ext ?h ?e; (case e => with_reducible assumption); (case h => walk_at "tr"))
  | (with_reducible refine' WsA.ext ?h ?e; (case e => with_reducible assumption); (case h => walk_at "tr"))
  | (with_reducible refine' WsT.ext ?h ?e; (case e => with_reducible assumption); (case h => walk_at "tr"))
  | (with_reducible refine' MkrT.ext ?h ?e; (case e => with_reducible assumption); (case h => walk_at "tr"))
  | (with_reducible refine' MkrO.ext ?h ?e; (case e => with_reducible assumption); (case h => walk_at "tr"))
  | (with_reducible refine' TblO.ext ?h ?e; (case e => with_reducible assumption); (case h => walk_at "tr"))
  | (with_reducible refine' RawT.ext ?h ?e; (case e => with_reducible assumption); (case h => walk_at "tr"))
  | (with_reducible refine' ext_at ?h ?e; (case e => with_reducible assumption); (case h => walk_at "tr"))
  | (with_reducible exact Ext.rfl')
  | (with_reducible refine' Ext.trans ?h ?e; (case e => with_reducible assumption); (case h => walk_at "tr")))
local macro_rules | `(tactic| walk_at "rd1") => `(tactic| first
  | (with_reducible refine' rd_seq ?_) | (with_reducible refine' rd_asg ?_) | (with_reducible refine' rd_ret ?_) | (with_reducible refine' rd_if ?_) | (with_reducible refine' rd_drop ?_)
  | ((with_reducible refine' rd_var ?h ?q); (case h => exact rfl))
  | (with_reducible refine' rd_c ?_) | (with_reducible refine' rd_op ?_) | (with_reducible refine' rd_un ?_) | (with_reducible refine' rd_test ?_) | (with_reducible refine' rd_B ?_) | (with_reducible refine' rd_bl ?_)
  | (with_reducible refine' rd_and ?_) | (with_reducible refine' rd_or ?_) | (with_reducible refine' rd_not ?_) | (with_reducible refine' rd_andV ?_) | (with_reducible refine' rd_orV ?_) | (with_reducible refine' rd_notV ?_)
  | (with_reducible refine' rd_ifE ?_) | (with_reducible refine' rd_chain ?_) | (with_reducible refine' rd_nil ?_) | (with_reducible refine' rd_cons ?_) | (with_reducible refine' rd_cb ?_) | (with_reducible refine' rd_call0 ?_) | (with_reducible refine' rd_call ?_)
  | (with_reducible refine' rd_part ?_) | (with_reducible refine' rd_int ?_) | (with_reducible refine' rd_nopart ?_) | (with_reducible refine' rd_sl ?_) | (with_reducible refine' rd_tup ?_) | (with_reducible refine' rd_lst ?_)
  | (with_reducible refine' rd_I0 ?_) | (with_reducible refine' rd_U ?_) | (with_reducible refine' rd_intI ?_) | (with_reducible refine' rd_abs ?_) | (with_reducible refine' rd_lc ?_) | (with_reducible refine' rd_lr ?_)
  | (with_reducible refine' rd_next ?_) | (with_reducible refine' rd_cont ?_) | (with_reducible refine' rd_break ?_)
  | ((with_reducible refine' rd_len ?h ?q); (case h => walk_at "tr"))
  | ((with_reducible refine' rd_eq ?h ?q); (case h => exact rfl)) | ((with_reducible refine' rd_ne ?h ?q); (case h => exact rfl))
  | ((with_reducible refine' ite_t ?h ?q); (case h => exact rfl)) | ((with_reducible refine' ite_f ?h ?q); (case h => exact rfl))
  | (with_reducible refine' rd_gn ?_) | (with_reducible refine' rd_forL ?_) | (with_reducible refine' rd_forT ?_) | (with_reducible refine' rd_forR1 ?_) | (with_reducible refine' rd_forR2 ?_) | (with_reducible refine' rd_forR3 ?_)
  | (with_reducible refine' rd_make ?_) | (with_reducible refine' rd_sfld ?_) | (with_reducible refine' rd_mth ?_) | (with_reducible refine' rd_callO ?_)
  | (with_reducible refine' rd_forS ?_) | (with_reducible refine' rd_gsub ?_)
  | (with_reducible refine' rd_fld ?_) | (with_reducible refine' rd_asgG ?_) | (with_reducible refine' rd_bm ?_)
  | ((with_reducible refine' rd_gT2 ?h ?n ?q); (case h => walk_at "tr"); (case n => exact rfl)) | ((with_reducible refine' rd_gT3 ?h ?n ?q); (case h => walk_at "tr"); (case n => exact rfl))
  | dsimp only)
local macro_rules | `(tactic| walk_at "rd") => `(tactic| repeat (walk_at "rd1"))

def CrsA (K : PySem.W.Frag) (H : Hp) (v : V) (f t : List Nat) : Prop := ∃ x y, SqA K H v [x, y] ∧ SqA K H x (f.map nv) ∧ SqA K H y (t.map nv)
theorem CrsA.ext {K : PySem.W.Frag} {H H' : Hp} {v : V} {f t : List Nat} (h : CrsA K H v f t) (e : Ext H H') : CrsA K H' v f t := let ⟨x, y, h1, h2, h3⟩ := h; ⟨x, y, h1.ext e, h2.ext e, h3.ext e⟩
structure CrsOk (n : Nat) (f t : List Nat) : Prop where
  f1 : ∀ k ∈ f, k < n
  t1 : ∀ k ∈ t, k < n
  fl : f.length ≤ 200
  tl : t.length ≤ 40
  tp : 1 ≤ t.length
def spCourse (K : PySem.W.Frag) : Sp := fun vs H Q _ => ∃ (a : Addr) (x : V) (m : Mkr) (f t : List Nat), vs = [.ref a, x] ∧ MkrO K H a m ∧ CrsA K H x f t ∧ CrsOk m.ways.length f t ∧ ∀ H', Ext H H' → Q (.bl true) H'
def spTakes (K : PySem.W.Frag) : Sp := fun vs H Q _ => ∃ (x : V) (i : Int) (ds : List Dd), vs = [x, .int i] ∧ SqLv K H x (ds.map Dd.v) ∧ ds.length ≤ 50000 ∧
  ∀ p q H', Ext H H' → H p = none → H' q = some (.tup [.ref p, .int (ahead i ds).2]) → H' p = some (.lst ((ahead i ds).1.map V.int)) → Q (.ref q) H'
def ov : Option Int → V
  | some z => .int z
  | none => .non
def spValue (K : PySem.W.Frag) : Sp := fun vs H Q _ => ∃ (x : V) (n : Nat) (r : Raw), vs = [x, .int (n : Int)] ∧ RawT K H x r ∧ 1 ≤ n ∧ 0 ≤ r.2.2 ∧ r.2.2 < 2 ^ 40 ∧ r.2.1.length ≤ 50000 ∧ ∀ H', Ext H H' → Q (ov (rowAt r (n - 1))) H'
def spShort (K : PySem.W.Frag) : Sp := fun vs H Q _ => ∃ (x : V) (rise : Int) (lp : List Int), vs = [x, .int rise] ∧ TuA K H x (lp.map V.int) ∧ lp ≠ [] ∧ lp.length ≤ 50000 ∧
  ∀ v y H', Ext H H' → TuA K H' v [y, .int (pStep lp rise)] → TuA K H' y ((lp.take (pSize lp rise)).map V.int) → Q v H'
theorem cut_to (xs : List V) (m : Nat) : cutV xs none (some (m : Int)) = xs.take m := by
  unfold cutV
  rw [HT.sIx_none, HT.sIx_nat, List.drop_zero, Nat.sub_zero]
  by_cases h : m ≤ xs.length
  · rw [Nat.min_eq_left h]
  · rw [Nat.min_eq_right (by omega), List.take_of_length_le (Nat.le_refl _), List.take_of_length_le (by omega)]
theorem len_int (ns : List Int) : (ns.map V.int).length = ns.length := List.length_map ..
theorem getD_at {ns : List Int} {j : Nat} (h : j < ns.length) : (ns.map V.int)[j]? = some (.int (ns.getD j 0)) := by
  rw [List.getElem?_map, List.getElem?_eq_getElem h, List.getD_eq_getElem?_getD, List.getElem?_eq_getElem h]
  rfl
section
variable {P : Program} {w : World} {K : PySem.W.Frag} {mg : Str → Option Value} {base : Heap}
theorem k_is_course (T : Facts K mg) : Cal P w K mg base 3 "is_course" ["maker", "thing"] (spCourse K) := by
  have C_is_listed := k_is_listed (P := P) (w := w) (base := base) T
  have C_is_way_numbers := k_is_way_numbers (P := P) (w := w) (base := base) T
  refine cal_mk T.F_is_course T.g_is_course sc_is_course (fun _ _ _ _ _ _ us hl => match us, hl with | [_, _], _ => rfl) (fun vs H Q E h => by obtain ⟨i, b, c, d, e, rfl, _⟩ := h; rfl) (fun f cdv A outer s H vs Q E hr h => ?_)
  obtain ⟨a, x, m, cf, ct, rfl, hm, ⟨u, v, h1, h2, h3⟩, ok, k⟩ := h
  obtain ⟨dx, b, ww, hm, hb, us, hws, hlen, hu⟩ := hm
  refine ⟨_, (pss_cons (ps_if (PW.pt (pw_or (pt_not (pt_val (pe_k C_is_listed hr (by decide) (by rfl) (pa_cons (pv 1) pa_nil)))) (pw_or1 (pt_cmpR op_ne (pe_callB (call_lenK (K := K)) (by rfl) T.b_len PySem.boot_len (pa_cons (pv 1) pa_nil)) pe_int (nomark _))))) (pss_one (ps_ret pe_bl)) pss_nil)
      (pss_cons (ps_set (i := 2) sc_is_course.nd rfl (Or.inl rfl) (pe_callB (call_lenK (K := K)) (by rfl) T.b_len PySem.boot_len (pa_cons (pe_fldK (K := K) (pv 0) rfl) pa_nil)))
      (pss_one (ps_ret (pe_and (pe_k C_is_way_numbers hr (by decide) (by rfl) (pa_cons (pe_ix (ix_K (K := K)) (pv 1) pe_int (fun _ _ => rfl)) (pa_cons (pv 2) (pa_cons pe_int (pa_cons (pe_gi (by rfl) T.c_MOST_FIRST) pa_nil))))) (pe_one (pe_k C_is_way_numbers hr (by decide) (by rfl) (pa_cons (pe_ix (ix_K (K := K)) (pv 1) pe_int (fun _ _ => rfl)) (pa_cons (pv 2) (pa_cons pe_int (pa_cons (pe_gi (by rfl) T.c_MOST_THEN) pa_nil))))))))))), ?_⟩
  try dsimp only [cxOf]
  walk_at "rd"
  refine ⟨x, true, rfl, .inl ⟨rfl, _, h1⟩, fun H1 e1 => ?_⟩
  walk_at "rd"
  refine go_fld (e1 _ _ hm) T.cl_Maker T.na_Maker_ways (mf_w _ _ _) ?_
  walk_at "rd"
  refine rd_ix (h1.ext e1) (at_of (j := 0) rfl rfl) ?_
  walk_at "rd"
  refine ⟨u, cf, us.length, 0, 200, rfl, h2.ext e1, fun n hn => by have := ok.f1 n hn; omega, by omega, by have := ok.fl; omega, by have := ok.fl; omega, fun H2 e2 => ?_⟩
  walk_at "rd"
  refine rd_ix ((h1.ext e1).ext e2) (at_of (j := 1) rfl rfl) ?_
  walk_at "rd"
  refine ⟨v, ct, us.length, 1, 40, rfl, (h3.ext e1).ext e2, fun n hn => by have := ok.t1 n hn; omega, by have := ok.tp; omega, by have := ok.tl; omega, by have := ok.tl; omega, fun H3 e3 => ?_⟩
  walk_at "rd"
  exact k _ ((e1.trans e2).trans e3)
theorem k_takes_ahead (T : Facts K mg) : Cal P w K mg base 1 "takes_ahead" ["deeds", "inlet"] (spTakes K) := by
  refine cal_mk T.F_takes_ahead T.g_takes_ahead sc_takes_ahead (fun _ _ _ _ _ _ us hl => match us, hl with | [_, _], _ => rfl) (fun vs H Q E h => by obtain ⟨i, b, c, rfl, _⟩ := h; rfl) (fun f cdv A outer s H vs Q E hr h => ?_)
  obtain ⟨x, i, ds, rfl, ⟨a, rfl, hx⟩, hz, k⟩ := h
  refine ⟨_, (pss_cons (ps_set (i := 2) sc_takes_ahead.nd rfl (Or.inl rfl) (pe_lst pa_nil))
      (pss_cons (ps_set (i := 3) sc_takes_ahead.nd rfl (Or.inl rfl) pe_int)
      (pss_cons (ps_for PassesOwn.never rfl (pi_listK (K := K) (pv 0)) (pg_name (i := 4) sc_takes_ahead.nd rfl (Or.inl rfl)) (pss_one (ps_if (pt_cmpR op_eq (pv 4) (pe_gs (by rfl) T.c_GIVE) (nomark _)) (pss_one (ps_expr (pe_bm PySem.F.plainAttrs_list PySem.F.slot_list_append PySem.F.type_list_append mt_append (pv 2) (pa_cons (pv 3) pa_nil)))) (pss_one (ps_if (pt_cmpR op_eq (pv 4) (pv 1) (nomark _)) (pss_one (ps_aug (i := 3) sc_takes_ahead.nd rfl (Or.inl rfl) pe_int ip_add)) pss_nil)))))
      (pss_one (ps_ret (pe_tup (pa_cons (pv 2) (pa_cons (pv 3) pa_nil)))))))), ?_⟩
  try dsimp only [cxOf]
  walk_at "rd"
  refine go_lst (Nat.zero_le _) fun p H1 hp e1 h1 => ?_
  walk_at "rd"
  refine go_forL (SqLv.ext ⟨a, rfl, hx⟩ e1) (fun n σ H' => ∃ v4, σ = [some (.ref a), some (.int i), some (.ref p), some (.int ((ds.take n).foldl (step i) ([], 0)).2), v4] ∧ Ext H H' ∧ H' p = some (.lst (((ds.take n).foldl (step i) ([], 0)).1.map V.int)))
    ⟨none, rfl, e1, h1⟩ (fun n σ H' ⟨_, _, e, _⟩ => SqLv.ext ⟨a, rfl, hx⟩ e) ?_ ?_
  · rintro n y σ H' hy ⟨v4, rfl, e, hl⟩
    obtain ⟨d, hd, rfl⟩ := map_at hy
    have hstep := fold_take (step i) (([] : List Int), (0 : Int)) hd
    have hlen : ((ds.take n).foldl (step i) ([], 0)).1.length ≤ n := by
      have := (ahead_bounds i (ds.take n)).2.2.2.1
      have e2 : ahead i (ds.take n) = (ds.take n).foldl (step i) ([], 0) := rfl
      rw [e2] at this
      exact Nat.le_trans this (List.length_take_le ..)
    have hn := (List.getElem?_eq_some_iff.mp hd).1
    generalize ((ds.take n).foldl (step i) ([], 0)) = st at *
    rw [hstep]
    cases d with
    | give =>
      show tIfS _ _ _ _ _ _
      dsimp only [Dd.v]
      walk_at "rd"
      refine ⟨ty_list hl, ?_⟩
      walk_at "rd"
      refine go_append hl (by rw [len_int]; omega) fun H2 e2 h2 => ?_
      walk_at "rd"
      refine ⟨_, rfl, e2.from e hp, ?_⟩
      rw [h2]
      show some (HO.lst (st.1.map V.int ++ [V.int st.2])) = some (.lst ((st.1 ++ [st.2]).map V.int))
      rw [List.map_append]
      rfl
    | take j =>
      show tIfS _ _ _ _ _ _
      dsimp only [Dd.v]
      walk_at "rd"
      refine ite_d (fun hj => ?_) (fun hj => ?_)
      · have ej : j = i := V.int.inj hj
        refine rd_aug rfl ?_
        walk_at "rd"
        refine ⟨some (.int j), ?_, e, hl⟩
        show _ = [_, _, _, some (V.int (if j = i then st.2 + 1 else st.2)), _]
        rw [if_pos ej]
        rfl
      · have ej : ¬ j = i := fun z => hj (by rw [z])
        walk_at "rd"
        refine ⟨some (.int j), ?_, e, hl⟩
        show _ = [_, _, _, some (V.int (if j = i then st.2 + 1 else st.2)), _]
        rw [if_neg ej]
        rfl
  · rintro σ H' ⟨v4, rfl, e, hl⟩
    have et : (ds.take (ds.map Dd.v).length).foldl (step i) ([], 0) = ahead i ds := by
      rw [List.length_map, List.take_of_length_le (Nat.le_refl _)]
      rfl
    rw [et] at hl ⊢
    walk_at "rd"
    refine go_tup sz2 fun q H2 hq e2 h2 => ?_
    walk_at "rd"
    exact k p q H2 (e.trans e2) hp h2 (e2 _ _ hl)
theorem k_value_at (T : Facts K mg) : Cal P w K mg base 1 "value_at" ["raw", "place"] (spValue K) := by
  refine cal_mk T.F_value_at T.g_value_at sc_value_at (fun _ _ _ _ _ _ us hl => match us, hl with | [_, _], _ => rfl) (fun vs H Q E h => by obtain ⟨i, b, c, rfl, _⟩ := h; rfl) (fun f cdv A outer s H vs Q E hr h => ?_)
  obtain ⟨x, n, ⟨hd, lp, rise⟩, rfl, ⟨h, l, hx, hh, hl⟩, hn, r0, r1, hz, k⟩ := h
  dsimp only at hx hh hl r0 r1 hz k
  refine ⟨_, (pss_cons (ps_asg (pv 0) (pg_tupK (K := K) rfl (pgs_cons (pg_name (i := 2) sc_value_at.nd rfl (Or.inl rfl)) (pgs_cons (pg_name (i := 3) sc_value_at.nd rfl (Or.inl rfl)) (pgs_cons (pg_name (i := 4) sc_value_at.nd rfl (Or.inl rfl)) pgs_nil)))))
      (pss_cons (ps_if (pt_cmpR op_isN (pv 1) pe_non (nomark _)) (pss_one ps_never) pss_nil)
      (pss_cons (ps_if (pt_cmpR op_eq (pv 1) pe_int (nomark _)) (pss_one (ps_ret pe_int)) pss_nil)
      (pss_cons (ps_if (pt_cmpR op_le (pv 1) (pe_callB (call_lenK (K := K)) (by rfl) T.b_len PySem.boot_len (pa_cons (pv 2) pa_nil)) (nomark _)) (pss_one (ps_ret (pe_ix (ix_K (K := K)) (pv 2) (pe_op op_sub (pv 1) pe_int) (fun _ _ => rfl)))) pss_nil)
      (pss_cons (ps_if (pt_cmpR op_eq (pe_callB (call_lenK (K := K)) (by rfl) T.b_len PySem.boot_len (pa_cons (pv 3) pa_nil)) pe_int (nomark _)) (pss_one (ps_ret pe_non)) pss_nil)
      (pss_cons (ps_set (i := 5) sc_value_at.nd rfl (Or.inl rfl) (pe_op op_sub (pe_op op_sub (pv 1) (pe_callB (call_lenK (K := K)) (by rfl) T.b_len PySem.boot_len (pa_cons (pv 2) pa_nil))) pe_int))
      (pss_one (ps_ret (pe_op op_add (pe_ix (ix_K (K := K)) (pv 3) (pe_op op_mod (pv 5) (pe_callB (call_lenK (K := K)) (by rfl) T.b_len PySem.boot_len (pa_cons (pv 3) pa_nil))) (fun _ _ => rfl)) (pe_op op_mul (pv 4) (pe_op op_fdiv (pv 5) (pe_callB (call_lenK (K := K)) (by rfl) T.b_len PySem.boot_len (pa_cons (pv 3) pa_nil))))))))))))), ?_⟩
  try dsimp only [cxOf]
  walk_at "rd"
  refine ⟨rfl, ?_⟩
  walk_at "rd"
  refine ite_f (decide_eq_false (fun z => by have := V.int.inj z; omega)) ?_
  walk_at "rd"
  have ll := len_int hd
  have ll2 := len_int lp
  refine ite_d (fun hle => ?_) (fun hle => ?_)
  · have hj : n - 1 < hd.length := by omega
    walk_at "rd"
    refine rd_ix hh.sq (at_of (j := n - 1) (by omega) (getD_at hj)) ?_
    walk_at "rd"
    have e : rowAt (hd, lp, rise) (n - 1) = some (hd.getD (n - 1) 0) := by
      unfold rowAt
      rw [if_pos hj]
    have := k _ Ext.rfl'
    rw [e] at this
    exact this
  · have hj : ¬ n - 1 < hd.length := by omega
    walk_at "rd"
    refine ite_d (fun he => ?_) (fun he => ?_)
    · have el : lp = [] := List.length_eq_zero_iff.mp (by have := V.int.inj he; omega)
      walk_at "rd"
      have e : rowAt (hd, lp, rise) (n - 1) = none := by
        unfold rowAt
        rw [if_neg hj, if_pos el]
      have := k _ Ext.rfl'
      rw [e] at this
      exact this
    · have hp : 0 < lp.length := by
        rcases Nat.eq_zero_or_pos lp.length with z | z
        · exact absurd (by rw [ll2, z]; rfl) he
        · exact z
      have hne : lp ≠ [] := fun z => by rw [z] at hp; exact absurd hp (by decide)
      walk_at "rd"
      have er : (n : Int) - ((hd.map V.int).length : Int) - 1 = ((n - 1 - hd.length : Nat) : Int) := by omega
      rw [er]
      refine rd_I (show (0 : Int) < _ by omega) ?_
      have em : ((n - 1 - hd.length : Nat) : Int) % ((lp.map V.int).length : Int) = (((n - 1 - hd.length) % lp.length : Nat) : Int) := by rw [ll2]; exact (Int.natCast_emod _ _).symm
      rw [em]
      refine rd_ix hl.sq (at_of (j := (n - 1 - hd.length) % lp.length) rfl (getD_at (Nat.mod_lt _ hp))) ?_
      walk_at "rd"
      refine rd_I (show CDiv _ _ from ⟨by omega, by omega⟩) ?_
      refine rd_I (show CMul _ _ from .inl ⟨by omega, by omega⟩) ?_
      walk_at "rd"
      have ed : ((n - 1 - hd.length : Nat) : Int) / ((lp.map V.int).length : Int) = (((n - 1 - hd.length) / lp.length : Nat) : Int) := by rw [ll2]; exact (Int.natCast_ediv _ _).symm
      rw [ed]
      have e : rowAt (hd, lp, rise) (n - 1) = some (rowV hd lp rise (n - 1)) := rowAt_of hne
      have e2 : rowV hd lp rise (n - 1) = lp.getD ((n - 1 - hd.length) % lp.length) 0 + rise * (((n - 1 - hd.length) / lp.length : Nat) : Int) := by
        unfold rowV
        rw [if_neg hj]
      have := k _ Ext.rfl'
      rw [e, e2] at this
      exact this
end
end K24
set_option Elab.async false
set_option linter.all false
set_option maxRecDepth 100000
set_option maxHeartbeats 4000000
/-! short_loop, plain_form. -/
namespace K24
open PySem PySem.Spec PyProof.Rows L2
local macro_rules | `(tactic| walk_at "tr") => `(tactic| first
  | (with_reducible assumption)
  | (with_reducible exact TuA.sq (by assumption)) | (with_reducible exact SqLv.sq (by assumption)) | (with_reducible exact SqA.ofL (by assumption)) | (with_reducible exact SqA.ofT (by assumption))
  | (with_reducible exact TuA.of (by assumption)) | (with_reducible exact SqLv.of (by assumption)) | (with_reducible exact WsT.wa (by assumption))
  | (with_reducible refine' TuA.sq (TuA.ext ?h ?e); (case e => with_reducible assumption); (case h => walk_at "tr"))
  | (with_reducible refine' SqA.ext ?h ?e; (case e => with_reducible assumption); (case h => walk_at "tr"))
  | (with_reducible refine' TuA.ext ?h ?e; (case e => with_reducible assumption); (case h => walk_at "tr"))
  | (with_reducible refine' SqLv.ext ?h ?e; (case e => with_reducible assumption); (case h => walk_at "tr"))
  | (with_reducible refine' WsA.ext ?h ?e; (case e => with_reducible assumption); (case h => walk_at "tr"))
  | (with_reducible refine' WsT.ext ?h ?e; (case e => with_reducible assumption); (case h => walk_at "tr"))
  | (with_reducible refine' MkrT.ext ?h ?e; (case e => with_reducible assumption); (case h => walk_at "tr"))
  | (with_reducible refine' MkrO.ext ?h ?e; (case e => with_reducible assumption); (case h => walk_at "tr"))
  | (with_reducible refine' TblO.ext ?h ?e; (case e => with_reducible assumption); (case h => walk_at "tr"))
  | (with_reducible refine' RawT.ext ?h ?e; (case e => with_reducible assumption); (case h => walk_at "tr"))
  | (with_reducible refine' ext_at ?h ?e; (case e => with_reducible assumption); (case h => walk_at "tr"))
  | (with_reducible exact Ext.rfl')
  | (with_reducible refine' Ext.trans ?h ?e; (case e => with_reducible assumption); (case h => walk_at "tr")))
local macro_rules | `(tactic| walk_at "rd1") => `(tactic| first
  | (with_reducible refine' rd_seq ?_) | (with_reducible refine' rd_asg ?_) | (with_reducible refine' rd_ret ?_) | (with_reducible refine' rd_if ?_) | (with_reducible refine' rd_drop ?_)
  | ((with_reducible refine' rd_var ?h ?q); (case h => exact rfl))
  | (with_reducible refine' rd_c ?_) | (with_reducible refine' rd_op ?_) | (with_reducible refine' rd_un ?_) | (with_reducible refine' rd_test ?_) | (with_reducible refine' rd_B ?_) | (with_reducible refine' rd_bl ?_)
  | (with_reducible refine' rd_and ?_) | (with_reducible refine' rd_or ?_) | (with_reducible refine' rd_not ?_) | (with_reducible refine' rd_andV ?_) | (with_reducible refine' rd_orV ?_) | (with_reducible refine' rd_notV ?_)
  | (with_reducible refine' rd_ifE ?_) | (with_reducible refine' rd_chain ?_) | (with_reducible refine' rd_nil ?_) | (with_reducible refine' rd_cons ?_) | (with_reducible refine' rd_cb ?_) | (with_reducible refine' rd_call0 ?_) | (with_reducible refine' rd_call ?_)
  | (with_reducible refine' rd_part ?_) | (with_reducible refine' rd_int ?_) | (with_reducible refine' rd_nopart ?_) | (with_reducible refine' rd_sl ?_) | (with_reducible refine' rd_tup ?_) | (with_reducible refine' rd_lst ?_)
  | (with_reducible refine' rd_I0 ?_) | (with_reducible refine' rd_U ?_) | (with_reducible refine' rd_intI ?_) | (with_reducible refine' rd_abs ?_) | (with_reducible refine' rd_lc ?_) | (with_reducible refine' rd_lr ?_)
  | (with_reducible refine' rd_next ?_) | (with_reducible refine' rd_cont ?_) | (with_reducible refine' rd_break ?_)
  | ((with_reducible refine' rd_len ?h ?q); (case h => walk_at "tr"))
  | ((with_reducible refine' rd_eq ?h ?q); (case h => exact rfl)) | ((with_reducible refine' rd_ne ?h ?q); (case h => exact rfl))
  | ((with_reducible refine' ite_t ?h ?q); (case h => exact rfl)) | ((with_reducible refine' ite_f ?h ?q); (case h => exact rfl))
  | (with_reducible refine' rd_gn ?_) | (with_reducible refine' rd_forL ?_) | (with_reducible refine' rd_forT ?_) | (with_reducible refine' rd_forR1 ?_) | (with_reducible refine' rd_forR2 ?_) | (with_reducible refine' rd_forR3 ?_)
  | (with_reducible refine' rd_make ?_) | (with_reducible refine' rd_sfld ?_) | (with_reducible refine' rd_mth ?_) | (with_reducible refine' rd_callO ?_)
  | (with_reducible refine' rd_forS ?_) | (with_reducible refine' rd_gsub ?_)
  | (with_reducible refine' rd_fld ?_) | (with_reducible refine' rd_asgG ?_) | (with_reducible refine' rd_bm ?_)
  | ((with_reducible refine' rd_gT2 ?h ?n ?q); (case h => walk_at "tr"); (case n => exact rfl)) | ((with_reducible refine' rd_gT3 ?h ?n ?q); (case h => walk_at "tr"); (case n => exact rfl))
  | dsimp only)
local macro_rules | `(tactic| walk_at "rd") => `(tactic| repeat (walk_at "rd1"))

theorem cnd_f1 {lp : List Int} {rise : Int} {m : Nat} (h : ¬ lp.length % m = 0) : cnd lp rise m = false := by
  unfold cnd
  rw [decide_eq_false h, Bool.false_and]
theorem cnd_f2 {lp : List Int} {rise : Int} {m : Nat} (h : ¬ rise % ((lp.length / m : Nat) : Int) = 0) : cnd lp rise m = false := by
  unfold cnd
  rw [decide_eq_false h, Bool.false_and, Bool.and_false]
theorem cnd_all {lp : List Int} {rise : Int} {m : Nat} (h1 : lp.length % m = 0) (h2 : rise % ((lp.length / m : Nat) : Int) = 0) :
    cnd lp rise m = (List.range (lp.length - m)).all fun k => decide (lp.getD (k + m) 0 = lp.getD k 0 + rise / ((lp.length / m : Nat) : Int)) := by
  unfold cnd
  rw [decide_eq_true h1, decide_eq_true h2, Bool.true_and, Bool.true_and]
section
variable {P : Program} {w : World} {K : PySem.W.Frag} {mg : Str → Option Value} {base : Heap}
theorem k_short_loop (T : Facts K mg) : Cal P w K mg base 1 "short_loop" ["loop", "rise"] (spShort K) := by
  refine cal_mk T.F_short_loop T.g_short_loop sc_short_loop (fun _ _ _ _ _ _ us hl => match us, hl with | [_, _], _ => rfl) (fun vs H Q E h => by obtain ⟨i, b, c, rfl, _⟩ := h; rfl) (fun f cdv A outer s H vs Q E hr h => ?_)
  obtain ⟨x, rise, lp, rfl, hx, hne, hz, k⟩ := h
  have hl : 0 < lp.length := List.length_pos_iff.mpr hne
  have ll := len_int lp
  refine ⟨_, (pss_cons (ps_for PassesOwn.never rfl (pi_range2 (by rfl) T.b_range (pa_cons pe_int (pa_cons (pe_callB (call_lenK (K := K)) (by rfl) T.b_len PySem.boot_len (pa_cons (pv 0) pa_nil)) pa_nil))) (pg_name (i := 2) sc_short_loop.nd rfl (Or.inr rfl)) (pss_one (ps_if (PW.pt (pw_and (pt_cmpR op_eq (pe_op op_mod (pe_callB (call_lenK (K := K)) (by rfl) T.b_len PySem.boot_len (pa_cons (pv 0) pa_nil)) (pv 2)) pe_int (nomark _)) (pw_and1 (pt_cmpR op_eq (pe_op op_mod (pv 1) (pe_op op_fdiv (pe_callB (call_lenK (K := K)) (by rfl) T.b_len PySem.boot_len (pa_cons (pv 0) pa_nil)) (pv 2))) pe_int (nomark _))))) (pss_cons (ps_set (i := 3) sc_short_loop.nd rfl (Or.inr rfl) (pe_op op_fdiv (pv 1) (pe_op op_fdiv (pe_callB (call_lenK (K := K)) (by rfl) T.b_len PySem.boot_len (pa_cons (pv 0) pa_nil)) (pv 2))))
      (pss_one (ps_if (pt_val (pe_callB (call_allK (K := K)) (by rfl) T.b_all bt_all (pa_cons (pe_lc (own := [("place", 4)]) (g := gName 4) (tt := tYes) rfl sc_short_loop.nd (pi_range1 (by rfl) T.b_range (pa_cons (pe_op op_sub (pe_callB (call_lenK (K := K)) (by rfl) T.b_len PySem.boot_len (pa_cons (pv 0) pa_nil)) (pv 2)) pa_nil)) (blkOk_by (N := n_short_loop) (sc := defScope s_short_loop) (by decide +kernel)) (fun _ _ _ _ _ => pg_name (i := 4) sc_short_loop.nd rfl (Or.inl rfl)) (fun _ _ _ _ _ => pts_nil) (fun _ _ _ _ _ => (pe_cmpR op_eq (pe_ix (ix_K (K := K)) (pv 0) (pe_op op_add (pv 4) (pv 2)) (fun _ _ => rfl)) (pe_op op_add (pe_ix (ix_K (K := K)) (pv 0) (pv 4) (fun _ _ => rfl)) (pv 3)) (nomark _)))) pa_nil))) (pss_one (ps_ret (pe_tup (pa_cons (pe_slice (sl_tupK (K := K)) (pv 0) po_none (po_some (pv 2))) (pa_cons (pv 3) pa_nil))))) pss_nil))) pss_nil)))
      (pss_one (ps_ret (pe_tup (pa_cons (pv 0) (pa_cons (pv 1) pa_nil)))))), ?_⟩
  try dsimp only [cxOf]
  walk_at "rd"
  rw [ll]
  refine go_forR2 ⟨by omega, by omega, by omega, by omega⟩ (fun i σ H' => ∃ v2 v3, σ = [some x, some (.int rise), v2, v3, none] ∧ Ext H H' ∧ ∀ m, 1 ≤ m → m ≤ i → cnd lp rise m = false)
    ⟨none, none, rfl, Ext.rfl', fun m h1 h2 => by omega⟩ ?_ ?_
  · rintro i σ H' hi ⟨v2, v3, rfl, e, hc⟩
    have hi2 : i + 1 < lp.length := by omega
    have e1 : (1 : Int) + (i : Int) = ((i + 1 : Nat) : Int) := by omega
    rw [e1]
    have hnext : ∀ {v3'}, cnd lp rise (i + 1) = false → ∃ v2 v3, [some x, some (V.int rise), some (V.int ((i + 1 : Nat) : Int)), v3', none] = [some x, some (.int rise), v2, v3, none] ∧ Ext H H' ∧ ∀ m, 1 ≤ m → m ≤ i + 1 → cnd lp rise m = false := fun h =>
      ⟨_, _, rfl, e, fun m h1 h2 => by
        by_cases q : m = i + 1
        · rw [q]; exact h
        · exact hc m h1 (by omega)⟩
    generalize hm : i + 1 = m at *
    have hm1 : 1 ≤ m := by omega
    have hq : 1 ≤ lp.length / m := Nat.div_pos (by omega) (by omega)
    have hqz : lp.length / m ≤ lp.length := Nat.div_le_self _ _
    have hx' := hx.ext e
    walk_at "rd"
    refine rd_I (show (0 : Int) < _ by omega) ?_
    rw [ll]
    rw [← Int.natCast_emod]
    walk_at "rd"
    refine ite_d (fun h1 => ?_) (fun h1 => ?_)
    · have h1' : lp.length % m = 0 := by have := V.int.inj h1; omega
      walk_at "rd"
      rw [ll]
      refine rd_I (show CDiv _ _ from ⟨by omega, by omega⟩) ?_
      rw [← Int.natCast_ediv]
      refine rd_I (show (0 : Int) < _ by omega) ?_
      walk_at "rd"
      refine ite_d (fun h2 => ?_) (fun h2 => ?_)
      · have h2' : rise % ((lp.length / m : Nat) : Int) = 0 := V.int.inj h2
        have hca := cnd_all h1' h2'
        walk_at "rd"
        rw [ll]
        refine rd_I (show CDiv _ _ from ⟨by omega, by omega⟩) ?_
        rw [← Int.natCast_ediv]
        refine rd_I (show CDiv _ _ from ⟨by omega, by omega⟩) ?_
        walk_at "rd"
        rw [ll]
        have e2 : (lp.length : Int) - (m : Int) = ((lp.length - m : Nat) : Int) := by omega
        rw [e2]
        generalize hst : rise / ((lp.length / m : Nat) : Int) = st at *
        refine lr_val (fun k => .bl (decide (lp.getD (k + m) 0 = lp.getD k 0 + st))) (by omega) (by omega) (fun _ => rfl) (fun i2 H2 hi2 e3 Q' k' => ?_) (fun p ys H2 hp e3 h3 hl3 hv => ?_)
        · have hx2 := hx'.ext e3
          walk_at "rd"
          refine rd_ix hx2.sq (at_of (j := i2 + m) (by omega) (getD_at (by omega))) ?_
          walk_at "rd"
          refine rd_ix hx2.sq (at_of (j := i2) rfl (getD_at (by omega))) ?_
          walk_at "rd"
          rw [dec_vi]
          exact k' _ Ext.rfl'
        · walk_at "rd"
          refine rd_allB (n := lp.length - m) h3 (by omega) hv ?_
          rw [← hca]
          walk_at "rd"
          refine ite_b (fun h4 => ?_) (fun h4 => ?_)
          · have hsz := pSize_at hm1 (by omega) h4 (fun j a b => hc j a (by omega))
            have hps : pStep lp rise = st := by
              unfold pStep
              rw [hsz]
              exact hst
            walk_at "rd"
            refine rd_slT (hx'.ext e3) fun y H3 e4 hy => ?_
            walk_at "rd"
            refine go_tup sz2 fun q H4 hq e5 h5 => ?_
            walk_at "rd"
            rw [cut_to, ← List.map_take, ← hsz] at hy
            exact k _ y H4 ((((e.trans e3).trans e4)).trans e5) (by rw [hps]; exact TuA.of h5) (hy.ext e5)
          · walk_at "rd"
            obtain ⟨a, b, c, d, f⟩ := hnext (v3' := some (.int st)) h4
            exact ⟨a, b, c, d.trans e3, f⟩
      · walk_at "rd"
        exact hnext (cnd_f2 fun z => h2 (by rw [z]))
    · walk_at "rd"
      exact hnext (cnd_f1 fun z => h1 (by rw [z]; rfl))
  · rintro σ H' ⟨v2, v3, rfl, e, hc⟩
    have hn : ∀ m, 1 ≤ m → m < lp.length → cnd lp rise m = false := fun m h1 h2 => hc m h1 (by omega)
    walk_at "rd"
    refine go_tup sz2 fun q H4 hq e5 h5 => ?_
    walk_at "rd"
    refine k _ x H4 (e.trans e5) (by rw [pStep_len hne hn]; exact TuA.of h5) ?_
    rw [pSize_len hne hn, List.take_of_length_le (Nat.le_refl _)]
    exact (hx.ext e).ext e5
end
end K24
set_option Elab.async false
set_option linter.all false
set_option maxRecDepth 100000
set_option maxHeartbeats 4000000
/-! plain_form. -/
namespace K24
open PySem PySem.Spec PyProof.Rows L2
local macro_rules | `(tactic| walk_at "tr") => `(tactic| first
  | (with_reducible assumption)
  | (with_reducible exact TuA.sq (by assumption)) | (with_reducible exact SqLv.sq (by assumption)) | (with_reducible exact SqA.ofL (by assumption)) | (with_reducible exact SqA.ofT (by assumption))
  | (with_reducible exact TuA.of (by assumption)) | (with_reducible exact SqLv.of (by assumption)) | (with_reducible exact WsT.wa (by assumption))
  | (with_reducible refine' TuA.sq (TuA.ext ?h ?e); (case e => with_reducible assumption); (case h => walk_at "tr"))
  | (with_reducible refine' SqA.ext ?h ?e; (case e => with_reducible assumption); (case h => walk_at "tr"))
  | (with_reducible refine' TuA.ext ?h ?e; (case e => with_reducible assumption); (case h => walk_at "tr"))
  | (with_reducible refine' SqLv.ext ?h ?e; (case e => with_reducible assumption); (case h => walk_at "tr"))
  | (with_reducible refine' WsA.ext ?h ?e; (case e => with_reducible assumption); (case h => walk_at "tr"))
  | (with_reducible refine' WsT.ext ?h ?e; (case e => with_reducible assumption); (case h => walk_at "tr"))
  | (with_reducible refine' MkrT.ext ?h ?e; (case e => with_reducible assumption); (case h => walk_at "tr"))
  | (with_reducible refine' MkrO.ext ?h ?e; (case e => with_reducible assumption); (case h => walk_at "tr"))
  | (with_reducible refine' TblO.ext ?h ?e; (case e => with_reducible assumption); (case h => walk_at "tr"))
  | (with_reducible refine' RawT.ext ?h ?e; (case e => with_reducible assumption); (case h => walk_at "tr"))
  | (with_reducible refine' ext_at ?h ?e; (case e => with_reducible assumption); (case h => walk_at "tr"))
  | (with_reducible exact Ext.rfl')
  | (with_reducible refine' Ext.trans ?h ?e; (case e => with_reducible assumption); (case h => walk_at "tr")))
local macro_rules | `(tactic| walk_at "rd1") => `(tactic| first
  | (with_reducible refine' rd_seq ?_) | (with_reducible refine' rd_asg ?_) | (with_reducible refine' rd_ret ?_) | (with_reducible refine' rd_if ?_) | (with_reducible refine' rd_drop ?_)
  | ((with_reducible refine' rd_var ?h ?q); (case h => exact rfl))
  | (with_reducible refine' rd_c ?_) | (with_reducible refine' rd_op ?_) | (with_reducible refine' rd_un ?_) | (with_reducible refine' rd_test ?_) | (with_reducible refine' rd_B ?_) | (with_reducible refine' rd_bl ?_)
  | (with_reducible refine' rd_and ?_) | (with_reducible refine' rd_or ?_) | (with_reducible refine' rd_not ?_) | (with_reducible refine' rd_andV ?_) | (with_reducible refine' rd_orV ?_) | (with_reducible refine' rd_notV ?_)
  | (with_reducible refine' rd_ifE ?_) | (with_reducible refine' rd_chain ?_) | (with_reducible refine' rd_nil ?_) | (with_reducible refine' rd_cons ?_) | (with_reducible refine' rd_cb ?_) | (with_reducible refine' rd_call0 ?_) | (with_reducible refine' rd_call ?_)
  | (with_reducible refine' rd_part ?_) | (with_reducible refine' rd_int ?_) | (with_reducible refine' rd_nopart ?_) | (with_reducible refine' rd_sl ?_) | (with_reducible refine' rd_tup ?_) | (with_reducible refine' rd_lst ?_)
  | (with_reducible refine' rd_I0 ?_) | (with_reducible refine' rd_U ?_) | (with_reducible refine' rd_intI ?_) | (with_reducible refine' rd_abs ?_) | (with_reducible refine' rd_lc ?_) | (with_reducible refine' rd_lr ?_)
  | (with_reducible refine' rd_next ?_) | (with_reducible refine' rd_cont ?_) | (with_reducible refine' rd_break ?_)
  | ((with_reducible refine' rd_len ?h ?q); (case h => walk_at "tr"))
  | ((with_reducible refine' rd_eq ?h ?q); (case h => exact rfl)) | ((with_reducible refine' rd_ne ?h ?q); (case h => exact rfl))
  | ((with_reducible refine' ite_t ?h ?q); (case h => exact rfl)) | ((with_reducible refine' ite_f ?h ?q); (case h => exact rfl))
  | (with_reducible refine' rd_gn ?_) | (with_reducible refine' rd_forL ?_) | (with_reducible refine' rd_forT ?_) | (with_reducible refine' rd_forR1 ?_) | (with_reducible refine' rd_forR2 ?_) | (with_reducible refine' rd_forR3 ?_)
  | (with_reducible refine' rd_make ?_) | (with_reducible refine' rd_sfld ?_) | (with_reducible refine' rd_mth ?_) | (with_reducible refine' rd_callO ?_)
  | (with_reducible refine' rd_forS ?_) | (with_reducible refine' rd_gsub ?_)
  | (with_reducible refine' rd_fld ?_) | (with_reducible refine' rd_asgG ?_) | (with_reducible refine' rd_bm ?_)
  | ((with_reducible refine' rd_gT2 ?h ?n ?q); (case h => walk_at "tr"); (case n => exact rfl)) | ((with_reducible refine' rd_gT3 ?h ?n ?q); (case h => walk_at "tr"); (case n => exact rfl))
  | dsimp only)
local macro_rules | `(tactic| walk_at "rd") => `(tactic| repeat (walk_at "rd1"))

def spPlain (K : PySem.W.Frag) : Sp := fun vs H Q _ => ∃ (x y : V) (rise : Int) (hd lp : List Int), vs = [x, y, .int rise] ∧ TuA K H x (hd.map V.int) ∧ TuA K H y (lp.map V.int) ∧ RawOk hd lp rise ∧
  ∀ v H', Ext H H' → RawT K H' v (plainF hd lp rise) → Q v H'
theorem atI_neg {α : Type} {xs : List α} {j : Nat} (h : j < xs.length) : atI xs (-1 - (j : Int)) = xs[xs.length - 1 - j]? := by
  unfold atI ixN
  rw [if_neg (by omega), if_pos (by omega)]
  have e : (-1 - (j : Int) + (xs.length : Int)).toNat = xs.length - 1 - j := by omega
  rw [e]
  rfl
section
variable {P : Program} {w : World} {K : PySem.W.Frag} {mg : Str → Option Value} {base : Heap}
theorem k_plain_form (T : Facts K mg) : Cal P w K mg base 2 "plain_form" ["head", "loop", "rise"] (spPlain K) := by
  have C_short_loop := k_short_loop (P := P) (w := w) (base := base) T
  have C_value_at := k_value_at (P := P) (w := w) (base := base) T
  refine cal_mk T.F_plain_form T.g_plain_form sc_plain_form (fun _ _ _ _ _ _ us hl => match us, hl with | [_, _, _], _ => rfl) (fun vs H Q E h => by obtain ⟨i, b, c, d, e, rfl, _⟩ := h; rfl) (fun f cdv A outer s H vs Q E hr h => ?_)
  obtain ⟨x, y, rise, hd, lp, rfl, hx, hy, ok, k⟩ := h
  have lh := len_int hd
  have ll := len_int lp
  have zh := ok.zh
  have zl := ok.zl
  refine ⟨_, (pss_cons (ps_if (pt_cmpR op_eq (pe_callB (call_lenK (K := K)) (by rfl) T.b_len PySem.boot_len (pa_cons (pv 1) pa_nil)) pe_int (nomark _)) (pss_one (ps_ret (pe_tup (pa_cons (pv 0) (pa_cons (pe_tup pa_nil) (pa_cons pe_int pa_nil)))))) pss_nil)
      (pss_cons (ps_asg (pe_k C_short_loop hr (by decide) (by rfl) (pa_cons (pv 1) (pa_cons (pv 2) pa_nil))) (pg_tupK (K := K) rfl (pgs_cons (pg_name (i := 1) sc_plain_form.nd rfl (Or.inl rfl)) (pgs_cons (pg_name (i := 2) sc_plain_form.nd rfl (Or.inl rfl)) pgs_nil))))
      (pss_cons (ps_set (i := 3) sc_plain_form.nd rfl (Or.inr rfl) (pe_callB (call_lenK (K := K)) (by rfl) T.b_len PySem.boot_len (pa_cons (pv 0) pa_nil)))
      (Evl.pss_cut (ps_while PassesOwn.never (pt_cmpR op_gt (pv 3) pe_int (nomark _)) (pss_cons (ps_set (i := 4) sc_plain_form.nd rfl (Or.inl rfl) (pe_op op_sub (pe_callB (call_lenK (K := K)) (by rfl) T.b_len PySem.boot_len (pa_cons (pv 0) pa_nil)) (pv 3)))
      (pss_cons (ps_if (pt_cmpR op_ne (pe_ix (ix_K (K := K)) (pv 0) (pe_op op_sub (pv 3) pe_int) (fun _ _ => rfl)) (pe_op op_sub (pe_ix (ix_K (K := K)) (pv 1) (pe_op op_sub (pe_un un_neg pe_int) (pe_op op_mod (pv 4) (pe_callB (call_lenK (K := K)) (by rfl) T.b_len PySem.boot_len (pa_cons (pv 1) pa_nil)))) (fun _ _ => rfl)) (pe_op op_mul (pv 2) (pe_op op_add (pe_op op_fdiv (pv 4) (pe_callB (call_lenK (K := K)) (by rfl) T.b_len PySem.boot_len (pa_cons (pv 1) pa_nil))) pe_int))) (nomark _)) (pss_one ps_break) pss_nil)
      (pss_one (ps_set (i := 3) sc_plain_form.nd rfl (Or.inr rfl) (pe_op op_sub (pv 3) pe_int))))))
      (pss_cons (ps_set (i := 5) sc_plain_form.nd rfl (Or.inr rfl) (pe_tup (pa_cons (pv 0) (pa_cons (pv 1) (pa_cons (pv 2) pa_nil)))))
      (pss_one (ps_ret (pe_tup (pa_cons (pe_slice (sl_tupK (K := K)) (pv 0) po_none (po_some (pv 3))) (pa_cons (pe_callTy (call_tupK (K := K)) (by rfl) T.b_tuple bt_tuple (pa_cons (pe_lc (own := [("place", 6)]) (g := gName 6) (tt := tYes) rfl sc_plain_form.nd (pi_range1 (by rfl) T.b_range (pa_cons (pe_callB (call_lenK (K := K)) (by rfl) T.b_len PySem.boot_len (pa_cons (pv 1) pa_nil)) pa_nil)) (blkOk_by (N := n_plain_form) (sc := defScope s_plain_form) (by decide +kernel)) (fun _ _ _ _ _ => pg_name (i := 6) sc_plain_form.nd rfl (Or.inl rfl)) (fun _ _ _ _ _ => pts_nil) (fun _ _ _ _ _ => (pe_k C_value_at hr (by decide) (by rfl) (pa_cons (pv 5) (pa_cons (pe_op op_add (pe_op op_add (pv 3) pe_int) (pv 6)) pa_nil))))) pa_nil)) (pa_cons (pv 2) pa_nil))))))))))), ?_⟩
  try dsimp only [cxOf]
  walk_at "rd"
  rw [ll]
  refine ite_d (fun h1 => ?_) (fun h1 => ?_)
  · have e : lp = [] := List.length_eq_zero_iff.mp (by have := V.int.inj h1; omega)
    subst e
    walk_at "rd"
    refine go_tup (Nat.zero_le _) fun p H1 hp e1 h1 => ?_
    walk_at "rd"
    refine go_tup sz3 fun q H2 hq e2 h2 => ?_
    walk_at "rd"
    refine k _ H2 (e1.trans e2) ?_
    rw [plainF_nil]
    exact ⟨x, .ref p, TuA.of h2, (hx.ext e1).ext e2, TuA.of (e2 _ _ h1)⟩
  · have hne : lp ≠ [] := fun z => h1 (by rw [z]; rfl)
    have g := pSize_good (rise := rise) hne
    have hs : 0 ≤ pStep lp rise ∧ pStep lp rise < 2 ^ 40 := by
      have h1 := Int.ediv_nonneg ok.r0 (Int.natCast_nonneg (lp.length / pSize lp rise))
      have h2 := Int.ediv_le_self ((lp.length / pSize lp rise : Nat) : Int) ok.r0
      have h3 := ok.rb
      unfold pStep
      omega
    have kp := pKeep_le hd lp rise
    have hF := plainF_cons (head := hd) (rise := rise) hne
    have hKd : pKeep hd lp rise = keepL (mt (pRow hd lp rise) (pSize lp rise) (pStep lp rise)) hd.length := rfl
    have hRd : pRow hd lp rise = hd ++ lp.take (pSize lp rise) := rfl
    walk_at "rd"
    refine ⟨y, rise, lp, rfl, hy, hne, ok.zl, fun v y2 H1 e1 hv hy2 => ?_⟩
    generalize pStep lp rise = st at *
    generalize hpk : pKeep hd lp rise = pk at *
    generalize hrow : pRow hd lp rise = row at *
    generalize pSize lp rise = p at *
    have hx1 := hx.ext e1
    have lt : (lp.take p).length = p := by rw [List.length_take]; omega
    have lt2 := len_int (lp.take p)
    have hne2 : lp.take p ≠ [] := fun e => by
      rw [e] at lt
      simp at lt
      omega
    walk_at "rd"
    refine ⟨fun σ' H' => ∃ v4, σ' = [some x, some y2, some (.int st), some (.int (pk : Int)), v4, none, none] ∧ Ext H1 H', ?_, ?_⟩
    · refine ⟨fun kk σ' H' => ∃ v4, σ' = [some x, some y2, some (.int st), some (.int (kk : Int)), v4, none, none] ∧ Ext H1 H' ∧ kk ≤ hd.length ∧ pk = keepL (mt row p st) kk, ⟨hd.length, none, by rw [lh]; rfl, Ext.rfl', Nat.le_refl _, hKd⟩, ?_⟩
      rintro kk σ' H' ⟨v4, rfl, e2, hkk, hK⟩
      have hx2 := hx1.ext e2
      have hy3 := hy2.ext e2
      walk_at "rd"
      refine ite_d (fun hpos => ?_) (fun hpos => ?_)
      · have hk1 : 1 ≤ kk := by omega
        refine ⟨fun σ'' H'' => ∃ v4, σ'' = [some x, some y2, some (.int st), some (.int ((kk - 1 : Nat) : Int)), v4, none, none] ∧ Ext H1 H'' ∧ kk - 1 ≤ hd.length ∧ pk = keepL (mt row p st) (kk - 1), fun σ'' H'' hN => ⟨kk - 1, by omega, hN⟩, ?_⟩
        walk_at "rd"
        refine rd_ix hx2.sq (at_of (j := kk - 1) (by omega) (getD_at (by omega))) ?_
        walk_at "rd"
        rw [lh, lt2, lt]
        have eb : (hd.length : Int) - (kk : Int) = ((hd.length - kk : Nat) : Int) := by omega
        rw [eb]
        refine rd_I (show (0 : Int) < _ by omega) ?_
        rw [← Int.natCast_emod]
        walk_at "rd"
        have hr := Nat.mod_lt (hd.length - kk) (show 0 < p by omega)
        refine rd_ix hy3.sq (v := .int ((lp.take p).getD (p - 1 - (hd.length - kk) % p) 0)) ?_ ?_
        · rw [atI_neg (by omega), lt2, lt]
          exact getD_at (by omega)
        walk_at "rd"
        rw [lt2, lt, ]
        refine rd_I (show CDiv _ _ from ⟨by omega, by omega⟩) ?_
        rw [← Int.natCast_ediv]
        walk_at "rd"
        refine rd_I (show CMul _ _ from .inl ⟨by omega, by omega⟩) ?_
        walk_at "rd"
        rw [dec_vi]
        have hback := back_val (hd := hd) (lp := lp.take p) (st := st) (k := kk) hne2 hk1 hkk (fun j h1 h2 => by
          have h3 := keepL_all (mt row p st) hd.length j (by rw [← hKd, hK]; have := keepL_le (mt row p st) kk; omega) h2
          have h4 := of_decide_eq_true h3
          rw [lt, ← hRd]
          exact h4)
        rw [lt, ← hRd] at hback
        have hmt : mt row p st kk = decide (hd.getD (kk - 1) 0 = (lp.take p).getD (p - 1 - (hd.length - kk) % p) 0 - st * ((((hd.length - kk) / p : Nat) : Int) + 1)) := by
          unfold mt
          have e1 : row.getD (kk - 1) 0 = hd.getD (kk - 1) 0 := by
            rw [hRd, List.getD_eq_getElem?_getD, List.getElem?_append_left (by omega), List.getD_eq_getElem?_getD]
          rw [e1, hback, Int.mul_add, Int.mul_one]
          congr 1
          apply propext
          constructor <;> intro h <;> omega
        rw [← hmt]
        refine ite_b (fun h4 => ?_) (fun h4 => ?_)
        · have h5 : mt row p st kk = false := by
            cases q : mt row p st kk with
            | false => rfl
            | true => rw [q] at h4; cases h4
          walk_at "rd"
          refine ⟨some (.int ((hd.length - kk : Nat) : Int)), ?_, e2⟩
          have : pk = kk := by
            rw [hK]
            obtain ⟨k', rfl⟩ : ∃ k', kk = k' + 1 := ⟨kk - 1, by omega⟩
            exact keepL_stop h5
          rw [this]
          rfl
        · have h5 : mt row p st kk = true := by
            cases q : mt row p st kk with
            | true => rfl
            | false => rw [q] at h4; cases h4
          walk_at "rd"
          refine ⟨some (.int ((hd.length - kk : Nat) : Int)), ?_, e2, by omega, ?_⟩
          · have e : (kk : Int) - 1 = ((kk - 1 : Nat) : Int) := by omega
            rw [← e]
            rfl
          · rw [hK]
            obtain ⟨k', rfl⟩ : ∃ k', kk = k' + 1 := ⟨kk - 1, by omega⟩
            exact keepL_step h5
      · walk_at "rd"
        have h0 : kk = 0 := by omega
        subst h0
        have : pk = 0 := hK
        rw [this]
        exact ⟨v4, rfl, e2⟩
    · rintro σ' H2 ⟨v4, rfl, e2⟩
      walk_at "rd"
      refine go_tup sz3 fun tq H3 _ e3 h3 => ?_
      have hx3 := (hx1.ext e2).ext e3
      have hy3 := (hy2.ext e2).ext e3
      walk_at "rd"
      refine rd_slT hx3 fun z H4 e4 hz => ?_
      rw [cut_to, ← List.map_take] at hz
      have hy4 := hy3.ext e4
      walk_at "rd"
      rw [lt2, lt]
      refine lr_val (fun i => .int (rowV hd (lp.take p) st (pk + i))) (by omega) (by omega) (fun _ => rfl) (fun i H5 hi e5 Q' k' => ?_) (fun pp ys H5 hp5 e5 h5 hl5 hv5 => ?_)
      · walk_at "rd"
        refine ⟨.ref tq, pk + 1 + i, (hd, lp.take p, st), by show [V.ref tq, V.int _] = _; congr 3, ⟨x, y2, TuA.of (e5 _ _ (e4 _ _ h3)), (hx3.ext e4).ext e5, hy4.ext e5⟩, by omega, hs.1, hs.2, by rw [lt]; omega, fun H6 e6 => ?_⟩
        have := k' _ e6
        have er : rowAt (hd, lp.take p, st) (pk + 1 + i - 1) = some (rowV hd (lp.take p) st (pk + i)) := by
          have e : pk + 1 + i - 1 = pk + i := by omega
          rw [e]
          exact rowAt_of hne2
        rw [er]
        exact this
      · walk_at "rd"
        have ey : ys = (((row).drop pk).take p).map V.int := by
          have hrl : row.length = hd.length + p := by rw [hRd, List.length_append, lt]
          rw [list_of hl5 hv5]
          apply List.ext_getElem?
          intro i
          rw [List.getElem?_map, List.getElem?_map]
          by_cases hi : i < p
          · rw [List.getElem?_range (by omega), List.getElem?_take_of_lt hi, List.getElem?_drop, List.getElem?_eq_getElem (show pk + i < row.length by omega)]
            show some (V.int _) = some (V.int _)
            congr 2
            have := row_is (head := hd) (lp := lp.take p) (st := st) (i := pk + i) (by omega)
            rw [← this, ← hRd, List.getD_eq_getElem?_getD, List.getElem?_eq_getElem (by omega)]
            rfl
          · rw [List.getElem?_eq_none (by rw [List.length_range]; omega), List.getElem?_eq_none (by rw [List.length_take]; omega)]
            rfl
        refine rd_tupleL (SqLv.of h5) fun q H6 hq e6 h6 => ?_
        walk_at "rd"
        refine go_tup sz3 fun q2 H7 hq2 e7 h7 => ?_
        walk_at "rd"
        refine k _ H7 ((((((e1.trans e2).trans e3).trans e4).trans e5).trans e6).trans e7) ?_
        rw [hF]
        refine ⟨z, .ref q, TuA.of h7, ?_, ?_⟩
        · have e : (row.take pk) = hd.take pk := by rw [hRd, List.take_append_of_le_length kp]
          rw [e]
          exact ((hz.ext e5).ext e6).ext e7
        · rw [← ey]
          exact TuA.of (e7 _ _ h6)
end
end K24
set_option Elab.async false
set_option linter.all false
set_option maxRecDepth 100000
set_option maxHeartbeats 4000000
/-! Tables: what is checked, how one is made, its values. -/
namespace K24
open PySem PySem.Spec PyProof.Rows L2
/-! ### making an instance; its fields; its methods -/
structure Mak (P : Program) (w : World) (K : PySem.W.Frag) (mg : Str → Option Value) (base : Heap) (k : Nat) (x : Str) (dvs : List V) (sp : Sp) : Prop where
  ex : ∃ (f : Addr) (fd : FuncData) (ps : List Str) (ds : List Value), Mk K (He.ga K x) f ∧ FnOk P w K mg base CX0 k f fd ps sp ∧ mg x = some (.ref (He.ga K x)) ∧ Binds K fd ps ds ∧ Vals dvs ds
structure Mth (P : Program) (w : World) (K : PySem.W.Frag) (mg : Str → Option Value) (base : Heap) (k : Nat) (C : Addr) (m : Str) (sp : Sp) : Prop where
  ex : ∃ (fd : FuncData) (ps : List Str), Cls K C ∧ Meth K C m (He.ma K C m) ∧ FnOk P w K mg base CX0 k (He.ma K C m) fd ps sp ∧ Binds K fd ps []
theorem Mth.fnr {P : Program} {w : World} {K : PySem.W.Frag} {mg : Str → Option Value} {base : Heap} {k : Nat} {C : Addr} {m : Str} {sp : Sp} (c : Mth P w K mg base k C m sp) : FnR P w K mg base CX0 k (He.ma K C m) sp := by
  obtain ⟨fd, ps, _, _, F, b⟩ := c.ex
  exact (F.raw b .nil).imp fun vs H Q E h => by rw [List.append_nil]; exact h
def kMake (C : Addr) (sp : Sp) (dvs : List V) (E : XK) (Q : VK) : List V → Hp → Prop := fun vs H1 => ∀ x dx, H1 x = none → H1 dx = none → dx ≠ x →
  sp (.ref x :: (vs ++ dvs)) (upd (upd H1 dx (.own x)) x (.ins C dx [])) (fun v H2 => v = .non ∧ Q (.ref x) H2) E
def kSFld (K : PySem.W.Frag) (f : Str) (D : Ends) (σ : L2.St) (y : V) : V → Hp → Prop := fun x H2 => ∃ a C dx fs, x = .ref a ∧ H2 a = some (.ins C dx fs) ∧ Cls K C ∧ NoAttr K C f ∧ fs.length < 1000 ∧ D.nx σ (upd H2 a (.ins C dx (putF f y fs)))
section
variable {X : Cx} {k j : Nat} {x m : Str} {dvs : List V} {sp : Sp} {p pos apos : Pos} {e o : Expr} {es : List Expr} {t : TA} {C : Addr} {ta : TE}
theorem pe_mkk (c : Mak X.prog X.w X.K X.mg X.base k x dvs sp) (hr : Room j X.A) (hk : k + 1 ≤ j) (hg : Gl X x) (ha : PA X (e :: es) t)
    (hdb : (x == ("__debug__" : Str)) = false := by decide) (he : starEach (e :: es) X.env = (false, eval e X.env) :: starEach es X.env := by rfl) (hpl : (backTo pos (starEach es X.env)).any (·.1) = false := by rfl) :
    PE X (.Call (.Name x p) (e :: es) [] pos) (tMake (He.ga X.K x) sp dvs E0 t) := by
  obtain ⟨f, fd, ps, ds, M, F, hm, b, d⟩ := c.ex
  exact pe_make M F (hr.mono hk) hg hm b d pass0 ha hdb he hpl
theorem pe_mth {pl : Sem Bool} (c : Mth X.prog X.w X.K X.mg X.base k C m sp) (hr : Room j X.A) (hk : k ≤ j) (he : PE X o ta) (ha : PA X (e :: es) t)
    (hst : starEach (e :: es) X.env = (false, eval e X.env) :: starEach es X.env := by rfl) (hpl : (backTo pos (starEach es X.env)).any (·.1) = false := by rfl)
    (ht : eval (.Call (.Attribute o m apos) (e :: es) [] pos) X.env = (do
      let ov ← eval o X.env
      standAt apos.atName
      let (f, first) ← holding [ov] (getMethod ov m pl)
      callWith pos f first (backTo pos (starEach (e :: es) X.env)) (backToKw pos (keywordEach [] X.env))) := by rfl) :
    PE X (.Call (.Attribute o m apos) (e :: es) [] pos) (tMeth C m sp [] E0 ta t) := by
  obtain ⟨fd, ps, hc, hm, F, b⟩ := c.ex
  exact pe_meth (pl := pl) he hc hm F (hr.mono hk) b .nil pass0 ha hst hpl ht
end
section
variable {K : PySem.W.Frag} {σ : L2.St} {H : Hp} {Q : VK} {D : Ends} {C : Addr} {sp : Sp} {dvs vs : List V} {E : XK} {tA : TA} {ta tv : TE} {f m : Str} {y : V}
theorem rd_make (q : tA σ H (kMake C sp dvs E Q)) : tMake C sp dvs E tA σ H Q := q
theorem go_make (q : ∀ x H0 dx, H x = none → Ext H H0 → H0 x = some (.ins C dx []) → sp (.ref x :: (vs ++ dvs)) H0 (fun v H2 => v = .non ∧ Q (.ref x) H2) E) : kMake C sp dvs E Q vs H := fun x dx hx hd _ =>
  q x _ dx hx (fun b o e => by rw [upd_ne (ne_of_none e hx), upd_ne (ne_of_none e hd)]; exact e) upd_same
theorem rd_sfld (q : tv σ H fun y H1 => ta σ H1 (kSFld K f D σ y)) : sFld K ta tv f D σ H := q
theorem go_sfld {a dx : Addr} {fs : List (Str × V)} (h : H a = some (.ins C dx fs)) (c : Cls K C) (n : NoAttr K C f) (l : fs.length < 1000) (q : ∀ H2, ExtB a H H2 → H2 a = some (.ins C dx (putF f y fs)) → D.nx σ H2) : kSFld K f D σ y (.ref a) H :=
  ⟨a, C, dx, fs, rfl, h, c, n, l, q _ extB_upd upd_same⟩
def kMth (C : Addr) (m : Str) (sp : Sp) (E : XK) (tA : TA) (σ : L2.St) (Q : VK) : V → Hp → Prop := fun x H1 => ∃ a dx fs, x = .ref a ∧ H1 a = some (.ins C dx fs) ∧ fs.lookup m = none ∧ tA σ H1 fun vs H2 => sp (x :: vs) H2 Q E
theorem rd_mth (q : ta σ H (kMth C m sp E tA σ Q)) : tMeth C m sp [] E ta tA σ H Q := by
  unfold tMeth
  have e : (fun x H1 => ∃ a dx fs, x = V.ref a ∧ H1 a = some (HO.ins C dx fs) ∧ fs.lookup m = none ∧ tA σ H1 fun vs H2 => sp (x :: (vs ++ [])) H2 Q E) = kMth C m sp E tA σ Q := by
    funext x H1
    unfold kMth
    simp only [List.append_nil]
  rw [e]
  exact q
theorem go_mth {a dx : Addr} {fs : List (Str × V)} (h : H a = some (.ins C dx fs)) (l : fs.lookup m = none) (q : tA σ H fun vs H2 => sp (.ref a :: vs) H2 Q E) : kMth C m sp E tA σ Q (.ref a) H := ⟨a, dx, fs, rfl, h, l, q⟩
def kCallO (X : Cx) (C : Addr) (sp : Sp) (E : XK) (tA : TA) (σ : L2.St) (Q : VK) : V → Hp → Prop := fun y H1 => ∃ a, y = V.ref a ∧ tA σ H1 fun vs H2 => StX.InsC X H2 a C ∧ sp (V.ref a :: vs) H2 Q E
theorem rd_callO {X : Cx} (q : ta σ H (kCallO X C sp E tA σ Q)) : StX.tCallO X C sp E ta tA σ H Q := q
theorem TuA.extB {H H2 : Hp} {v : V} {xs : List V} {p dx : Addr} {fs : List (Str × V)} (h : TuA K H v xs) (e : ExtB p H H2) (hp : H p = some (.ins C dx fs)) : TuA K H2 v xs := by
  obtain ⟨a, rfl, (h | ⟨o, h⟩) | h⟩ := h
  · exact ⟨a, rfl, .inl (.inl (e _ _ (ne_of h hp (by intro z; cases z)) h))⟩
  · exact ⟨a, rfl, .inl (.inr ⟨o, e _ _ (ne_of h hp (by intro z; cases z)) h⟩)⟩
  · exact ⟨a, rfl, .inr h⟩
end
/-! ### what the head has told beside -/
structure ExF (K : PySem.W.Frag) : Prop where
  ct : PySem.W.findIn K (.ref (cT K)) "__class__" = some (some (.builtin "object.__class__"))
  cm : PySem.W.findIn K (.ref (cM K)) "__class__" = some (some (.builtin "object.__class__"))
  sg : PySem.W.specialIn K (.builtin "object.__class__") "__get__" = some (some (.builtin "getset_descriptor.__get__"))
  ts : PySem.W.takesIn K (.builtin "object.__class__") = some true
  ot : PySem.W.mroIn K (cT K) (.type "object") = some true
  om : PySem.W.mroIn K (cM K) (.type "object") = some true
  ne : PySem.W.findIn K (.ref (cM K)) "__ne__" = some (some (.builtin "object.__ne__"))
  tt : PySem.W.kitOne K (.ref (cT K)) (.ref (cT K)) = some true
  mm : PySem.W.kitOne K (.ref (cM K)) (.ref (cM K)) = some true
  tm : PySem.W.kitOne K (.type "tuple") (.ref (cM K)) = some false
  im : PySem.W.kitOne K (.type "int") (.ref (cM K)) = some false
  nt : PySem.W.notFirst K (cM K) (.type "tuple") = true
  ni : PySem.W.notFirst K (cM K) (.type "int") = true
  nm : PySem.W.notFirst K (cM K) (.ref (cM K)) = true
  fc : PySem.W.fnIn K (He.ma K (cT K) "__call__") = true
  em : emptyT K (dfT K) = true
theorem exF {K : PySem.W.Frag} {mg : Str → Option Value} (T : Facts K mg) : ExF K := by
  obtain ⟨h1, h⟩ := He.ba T.ex
  obtain ⟨h2, h⟩ := He.ba h
  obtain ⟨h3, h⟩ := He.ba h
  obtain ⟨h4, h⟩ := He.ba h
  obtain ⟨h5, h⟩ := He.ba h
  obtain ⟨h6, h⟩ := He.ba h
  obtain ⟨h7, h⟩ := He.ba h
  obtain ⟨h8, h⟩ := He.ba h
  obtain ⟨h9, h⟩ := He.ba h
  obtain ⟨h10, h⟩ := He.ba h
  obtain ⟨h11, h⟩ := He.ba h
  obtain ⟨h12, h⟩ := He.ba h
  obtain ⟨h13, h⟩ := He.ba h
  obtain ⟨h14, h⟩ := He.ba h
  obtain ⟨h15, h16⟩ := He.ba h
  exact ⟨He.eqO_ok h1, He.eqO_ok h2, He.eqO_ok h3, of_decide_eq_true h4, of_decide_eq_true h5, of_decide_eq_true h6, He.eqO_ok h7, of_decide_eq_true h8, of_decide_eq_true h9, of_decide_eq_true h10, of_decide_eq_true h11, h12, h13, h14, h15, h16⟩
/-- the () of the defaults -/
theorem dfl_tup {K : PySem.W.Frag} (x : ExF K) (H : Hp) : TuA K H (.ref (dfT K)) [] := by
  have h := x.em
  unfold emptyT at h
  cases q : K.lookup (dfT K) with
  | none =>
    rw [q] at h
    cases h
  | some o =>
    obtain ⟨oc, od, dt, osl⟩ := o
    rw [q] at h
    cases oc with
    | type c =>
      cases dt with
      | seq its n =>
        have h2 : (decide (c = "tuple") && decide (its.toList = [])) = true := h
        obtain ⟨h3, h4⟩ := He.ba h2
        have e1 := of_decide_eq_true h3
        have e2 := of_decide_eq_true h4
        refine ⟨_, rfl, .inr ⟨_, its, n, q, congrArg Value.type e1, rfl, ?_, by rw [e2]; exact .nil⟩⟩
        have : its.size = its.toList.length := (Array.length_toList).symm
        rw [this, e2]
        exact Nat.zero_le _
      | _ => cases h
    | _ => cases dt <;> cases h
local macro_rules | `(tactic| walk_at "tr") => `(tactic| first
  | (with_reducible assumption)
  | (with_reducible exact TuA.sq (by assumption)) | (with_reducible exact SqLv.sq (by assumption)) | (with_reducible exact SqA.ofL (by assumption)) | (with_reducible exact SqA.ofT (by assumption))
  | (with_reducible exact TuA.of (by assumption)) | (with_reducible exact SqLv.of (by assumption)) | (with_reducible exact WsT.wa (by assumption))
  | (with_reducible refine' TuA.sq (TuA.ext ?h ?e); (case e => with_reducible assumption); (case h => walk_at "tr"))
  | (with_reducible refine' SqA.ext ?h ?e; (case e => with_reducible assumption); (case h => walk_at "tr"))
  | (with_reducible refine' TuA.ext ?h ?e; (case e => with_reducible assumption); (case h => walk_at "tr"))
  | (with_reducible refine' SqLv.ext ?h ?e; (case e => with_reducible assumption); (case h => walk_at "tr"))
  | (with_reducible refine' WsA.ext ?h ?e; (case e => with_reducible assumption); (case h => walk_at "tr"))
  | (with_reducible refine' WsT.ext ?h ?e; (case e => with_reducible assumption); (case h => walk_at "tr"))
  | (with_reducible refine' MkrT.ext ?h ?e; (case e => with_reducible assumption); (case h => walk_at "tr"))
  | (with_reducible refine' MkrO.ext ?h ?e; (case e => with_reducible assumption); (case h => walk_at "tr"))
  | (with_reducible refine' TblO.ext ?h ?e; (case e => with_reducible assumption); (case h => walk_at "tr"))
  | (with_reducible refine' RawT.ext ?h ?e; (case e => with_reducible assumption); (case h => walk_at "tr"))
  | (with_reducible refine' ext_at ?h ?e; (case e => with_reducible assumption); (case h => walk_at "tr"))
  | (with_reducible exact Ext.rfl')
  | (with_reducible refine' Ext.trans ?h ?e; (case e => with_reducible assumption); (case h => walk_at "tr")))
local macro_rules | `(tactic| walk_at "rd1") => `(tactic| first
  | (with_reducible refine' rd_seq ?_) | (with_reducible refine' rd_asg ?_) | (with_reducible refine' rd_ret ?_) | (with_reducible refine' rd_if ?_) | (with_reducible refine' rd_drop ?_)
  | ((with_reducible refine' rd_var ?h ?q); (case h => exact rfl))
  | (with_reducible refine' rd_c ?_) | (with_reducible refine' rd_op ?_) | (with_reducible refine' rd_un ?_) | (with_reducible refine' rd_test ?_) | (with_reducible refine' rd_B ?_) | (with_reducible refine' rd_bl ?_)
  | (with_reducible refine' rd_and ?_) | (with_reducible refine' rd_or ?_) | (with_reducible refine' rd_not ?_) | (with_reducible refine' rd_andV ?_) | (with_reducible refine' rd_orV ?_) | (with_reducible refine' rd_notV ?_)
  | (with_reducible refine' rd_ifE ?_) | (with_reducible refine' rd_chain ?_) | (with_reducible refine' rd_nil ?_) | (with_reducible refine' rd_cons ?_) | (with_reducible refine' rd_cb ?_) | (with_reducible refine' rd_call0 ?_) | (with_reducible refine' rd_call ?_)
  | (with_reducible refine' rd_part ?_) | (with_reducible refine' rd_int ?_) | (with_reducible refine' rd_nopart ?_) | (with_reducible refine' rd_sl ?_) | (with_reducible refine' rd_tup ?_) | (with_reducible refine' rd_lst ?_)
  | (with_reducible refine' rd_I0 ?_) | (with_reducible refine' rd_U ?_) | (with_reducible refine' rd_intI ?_) | (with_reducible refine' rd_abs ?_) | (with_reducible refine' rd_lc ?_) | (with_reducible refine' rd_lr ?_)
  | (with_reducible refine' rd_next ?_) | (with_reducible refine' rd_cont ?_) | (with_reducible refine' rd_break ?_)
  | ((with_reducible refine' rd_len ?h ?q); (case h => walk_at "tr"))
  | ((with_reducible refine' rd_eq ?h ?q); (case h => exact rfl)) | ((with_reducible refine' rd_ne ?h ?q); (case h => exact rfl))
  | ((with_reducible refine' ite_t ?h ?q); (case h => exact rfl)) | ((with_reducible refine' ite_f ?h ?q); (case h => exact rfl))
  | (with_reducible refine' rd_gn ?_) | (with_reducible refine' rd_forL ?_) | (with_reducible refine' rd_forT ?_) | (with_reducible refine' rd_forR1 ?_) | (with_reducible refine' rd_forR2 ?_) | (with_reducible refine' rd_forR3 ?_)
  | (with_reducible refine' rd_make ?_) | (with_reducible refine' rd_sfld ?_) | (with_reducible refine' rd_mth ?_) | (with_reducible refine' rd_callO ?_)
  | (with_reducible refine' rd_forS ?_) | (with_reducible refine' rd_gsub ?_)
  | (with_reducible refine' rd_fld ?_) | (with_reducible refine' rd_asgG ?_) | (with_reducible refine' rd_bm ?_)
  | ((with_reducible refine' rd_gT2 ?h ?n ?q); (case h => walk_at "tr"); (case n => exact rfl)) | ((with_reducible refine' rd_gT3 ?h ?n ?q); (case h => walk_at "tr"); (case n => exact rfl))
  | dsimp only)
local macro_rules | `(tactic| walk_at "rd") => `(tactic| repeat (walk_at "rd1"))

def spChecked (K : PySem.W.Frag) : Sp := fun vs H Q _ => ∃ (x y : V) (rise : Int) (hd lp : List Int), vs = [x, y, .int rise] ∧ SqA K H x (hd.map V.int) ∧ SqA K H y (lp.map V.int) ∧ RawOk hd lp rise ∧
  ∀ v H', Ext H H' → RawT K H' v (plainF hd lp rise) → Q v H'
def spTblInit (K : PySem.W.Frag) : Sp := fun vs H Q _ => ∃ (p dx : Addr) (x y : V) (rise : Int) (hd lp : List Int), vs = [.ref p, x, y, .int rise] ∧ H p = some (.ins (cT K) dx []) ∧ SqA K H x (hd.map V.int) ∧ SqA K H y (lp.map V.int) ∧ RawOk hd lp rise ∧
  ∀ H', TblO K H' p (plainF hd lp rise) → ExtB p H H' → Q .non H'
def spTblCall (K : PySem.W.Frag) : Sp := fun vs H Q _ => ∃ (p : Addr) (n : Nat) (r : Raw), vs = [.ref p, .int (n : Int)] ∧ TblO K H p r ∧ 1 ≤ n ∧ 0 ≤ r.2.2 ∧ r.2.2 < 2 ^ 40 ∧ r.2.1.length ≤ 50000 ∧ ∀ H', Ext H H' → Q (ov (rowAt r (n - 1))) H'
theorem atI_lst {xs : List V} {v : V} (h : xs[xs.length - 1]? = some v) : atI xs (-1) = some v := by
  have hl : xs.length - 1 < xs.length := (List.getElem?_eq_some_iff.mp h).1
  unfold atI ixN
  rw [if_neg (by decide), if_pos (by omega)]
  have e : (-1 + (xs.length : Int)).toNat = xs.length - 1 := by omega
  rw [e]
  exact h
section
variable {P : Program} {w : World} {K : PySem.W.Frag} {mg : Str → Option Value} {base : Heap}
theorem k_checked_table (T : Facts K mg) : Cal P w K mg base 4 "checked_table" ["head", "loop", "rise"] (spChecked K) := by
  have C_is_counts := k_is_counts (P := P) (w := w) (base := base) T
  have C_is_rising := k_is_rising (P := P) (w := w) (base := base) T
  have C_is_count := k_is_count (P := P) (w := w) (base := base) T
  have C_deep := k_deep1 (P := P) (w := w) (base := base) T
  have C_plain_form := k_plain_form (P := P) (w := w) (base := base) T
  refine cal_mk T.F_checked_table T.g_checked_table sc_checked_table (fun _ _ _ _ _ _ us hl => match us, hl with | [_, _, _], _ => rfl) (fun vs H Q E h => by obtain ⟨i, b, c, d, e, rfl, _⟩ := h; rfl) (fun f cdv A outer s H vs Q E hr h => ?_)
  obtain ⟨x, y, rise, hd, lp, rfl, hx, hy, ok, k⟩ := h
  have lh := len_int hd
  have ll := len_int lp
  have zh := ok.zh
  have zl := ok.zl
  refine ⟨_, (pss_cons (ps_if (PW.pt (pw_or (pt_not (pt_val (pe_k C_is_counts hr (by decide) (by rfl) (pa_cons (pv 0) pa_nil)))) (pw_or1 (pt_not (pt_val (pe_k C_is_rising hr (by decide) (by rfl) (pa_cons (pv 0) pa_nil))))))) (pss_one ps_never) pss_nil)
      (pss_cons (ps_if (PW.pt (pw_or (pt_not (pt_val (pe_k C_is_counts hr (by decide) (by rfl) (pa_cons (pv 1) pa_nil)))) (pw_or1 (pt_not (pt_val (pe_k C_is_rising hr (by decide) (by rfl) (pa_cons (pv 1) pa_nil))))))) (pss_one ps_never) pss_nil)
      (Evl.pss_cut (ps_if (PW.pt (pw_and (pt_cmpR op_gt (pe_callB (call_lenK (K := K)) (by rfl) T.b_len PySem.boot_len (pa_cons (pv 0) pa_nil)) pe_int (nomark _)) (pw_and (pt_cmpR op_gt (pe_callB (call_lenK (K := K)) (by rfl) T.b_len PySem.boot_len (pa_cons (pv 1) pa_nil)) pe_int (nomark _)) (pw_and1 (pt_cmpR op_lt (pe_ix (ix_K (K := K)) (pv 1) pe_int (fun _ _ => rfl)) (pe_ix (ix_K (K := K)) (pv 0) (pe_un un_neg pe_int) (fun _ _ => rfl)) (nomark _)))))) (pss_one ps_never) pss_nil)
      (Evl.pss_cut (ps_if (PW.pt (pw_or (pt_not (pt_val (pe_k C_is_count hr (by decide) (by rfl) (pa_cons (pv 2) pa_nil)))) (pw_or1 (PW.pt (pw_and (pt_cmpR op_eq (pe_callB (call_lenK (K := K)) (by rfl) T.b_len PySem.boot_len (pa_cons (pv 1) pa_nil)) pe_int (nomark _)) (pw_and1 (pt_cmpR op_gt (pv 2) pe_int (nomark _)))))))) (pss_one ps_never) pss_nil)
      (Evl.pss_cut (ps_if (PW.pt (pw_and (pt_cmpR op_gt (pe_callB (call_lenK (K := K)) (by rfl) T.b_len PySem.boot_len (pa_cons (pv 1) pa_nil)) pe_int (nomark _)) (pw_and1 (pt_cmpR op_gt (pe_ix (ix_K (K := K)) (pv 1) (pe_un un_neg pe_int) (fun _ _ => rfl)) (pe_op op_add (pe_ix (ix_K (K := K)) (pv 1) pe_int (fun _ _ => rfl)) (pv 2)) (nomark _))))) (pss_one ps_never) pss_nil)
      (pss_one (ps_ret (pe_k C_plain_form hr (by decide) (by rfl) (pa_cons (pe_k C_deep hr (by decide) (by rfl) (pa_cons (pv 0) pa_nil)) (pa_cons (pe_k C_deep hr (by decide) (by rfl) (pa_cons (pv 1) pa_nil)) (pa_cons (pv 2) pa_nil))))))))))), ?_⟩
  try dsimp only [cxOf]
  walk_at "rd"
  refine ⟨x, hd, rfl, hx, ok.h0, by omega, fun H1 e1 => ?_⟩
  walk_at "rd"
  refine ⟨x, hd, rfl, hx.ext e1, ok.hp, by omega, fun H2 e2 => ?_⟩
  walk_at "rd"
  refine ⟨y, lp, rfl, (hy.ext e1).ext e2, ok.l0, by omega, fun H3 e3 => ?_⟩
  walk_at "rd"
  refine ⟨y, lp, rfl, ((hy.ext e1).ext e2).ext e3, ok.lp_, by omega, fun H4 e4 => ?_⟩
  have e04 := ((e1.trans e2).trans e3).trans e4
  have hx4 := hx.ext e04
  have hy4 := hy.ext e04
  walk_at "rd"
  refine ⟨fun σ' H' => σ' = start n_checked_table [x, y, .int rise] ∧ H' = H4, ?_, ?_⟩
  · walk_at "rd"
    refine ite_d (fun h1 => ?_) (fun h1 => ?_)
    · walk_at "rd"
      refine ite_d (fun h2 => ?_) (fun h2 => ?_)
      · walk_at "rd"
        have l1 : 0 < hd.length := by omega
        have l2 : 0 < lp.length := by omega
        refine rd_ix hy4 (at_of (j := 0) rfl (getD_at l2)) ?_
        walk_at "rd"
        refine rd_ix hx4 (v := .int (hd.getD (hd.length - 1) 0)) (atI_lst (by rw [lh]; exact getD_at (by omega))) ?_
        walk_at "rd"
        have m1 : hd.getD (hd.length - 1) 0 ∈ hd := by
          rw [List.getD_eq_getElem?_getD, List.getElem?_eq_getElem (by omega)]
          exact List.getElem_mem _
        have m2 : lp.getD 0 0 ∈ lp := by
          rw [List.getD_eq_getElem?_getD, List.getElem?_eq_getElem (by omega)]
          exact List.getElem_mem _
        have := ok.hl _ m1 _ m2
        refine ite_d (fun h => absurd h (by omega)) (fun _ => ?_)
        walk_at "rd"
        exact ⟨rfl, rfl⟩
      · walk_at "rd"
        exact ⟨rfl, rfl⟩
    · walk_at "rd"
      exact ⟨rfl, rfl⟩
  rintro σ' H' ⟨rfl, rfl⟩
  have r0 := ok.r0
  refine ⟨fun σ' H' => σ' = start n_checked_table [x, y, .int rise] ∧ Ext H H', ?_, ?_⟩
  · walk_at "rd"
    refine ⟨rise, rfl, r0, fun H5 e5 => ?_⟩
    have hy5 := hy4.ext e5
    walk_at "rd"
    refine ite_d (fun h => ?_) (fun h => ?_)
    · have e : lp = [] := List.length_eq_zero_iff.mp (by have := V.int.inj h; omega)
      have er := ok.rn e
      walk_at "rd"
      refine ite_d (fun h => absurd h (by omega)) (fun _ => ?_)
      walk_at "rd"
      exact ⟨rfl, e04.trans e5⟩
    · walk_at "rd"
      exact ⟨rfl, e04.trans e5⟩
  rintro σ' H5 ⟨rfl, e05⟩
  have hx5 := hx.ext e05
  have hy5 := hy.ext e05
  refine ⟨fun σ' H' => σ' = start n_checked_table [x, y, .int rise] ∧ H' = H5, ?_, ?_⟩
  · walk_at "rd"
    refine ite_d (fun h2 => ?_) (fun h2 => ?_)
    · have l2 : 0 < lp.length := by omega
      walk_at "rd"
      refine rd_ix hy5 (v := .int (lp.getD (lp.length - 1) 0)) (atI_lst (by rw [ll]; exact getD_at (by omega))) ?_
      walk_at "rd"
      refine rd_ix hy5 (at_of (j := 0) rfl (getD_at l2)) ?_
      walk_at "rd"
      have m1 : lp.getD (lp.length - 1) 0 ∈ lp := by
        rw [List.getD_eq_getElem?_getD, List.getElem?_eq_getElem (by omega)]
        exact List.getElem_mem _
      have m2 : lp.getD 0 0 ∈ lp := by
        rw [List.getD_eq_getElem?_getD, List.getElem?_eq_getElem (by omega)]
        exact List.getElem_mem _
      have := ok.lr _ m1 _ m2
      refine ite_d (fun h => absurd h (by omega)) (fun _ => ?_)
      walk_at "rd"
      exact ⟨rfl, rfl⟩
    · walk_at "rd"
      exact ⟨rfl, rfl⟩
  rintro σ' H' ⟨rfl, rfl⟩
  have fl : ∀ (ns : List Int), ∀ z ∈ ns.map V.int, (∃ i, z = V.int i) ∨ ∃ s, z = V.str s := fun ns z hz => by
    obtain ⟨i, _, rfl⟩ := List.mem_map.mp hz
    exact .inl ⟨i, rfl⟩
  walk_at "rd"
  refine ⟨x, _, rfl, hx5, fl hd, by omega, fun p1 H6 hp1 e6 h6 => ?_⟩
  walk_at "rd"
  refine ⟨y, _, rfl, hy5.ext e6, fl lp, by omega, fun p2 H7 hp2 e7 h7 => ?_⟩
  walk_at "rd"
  exact ⟨.ref p1, .ref p2, rise, hd, lp, rfl, TuA.of (e7 _ _ h6), TuA.of h7, ok, fun v H8 e8 h8 => k v H8 (((e05.trans e6).trans e7).trans e8) h8⟩
theorem k_Tableinit (T : Facts K mg) : ∃ fd, FunD K "__init__" "Table.__init__" (defArgs s_Tableinit) (defBody s_Tableinit) (defScope s_Tableinit) [.ref (dfT K), .int 0] [] (He.ma K (cT K) "__init__") fd ∧ FnOk P w K mg base CX0 5 (He.ma K (cT K) "__init__") fd ["self", "head", "loop", "rise"] (spTblInit K) := by
  have C_checked_table := k_checked_table (P := P) (w := w) (base := base) T
  obtain ⟨fd, F⟩ := T.F_Tableinit
  refine ⟨fd, F, F.ok sc_Tableinit (fun vs H Q E h => by obtain ⟨i, b, c, d, e, g, h, rfl, _⟩ := h; rfl) fun cdv A outer s H vs Q E hr h => ?_⟩
  obtain ⟨p, dx, x, y, rise, hd, lp, rfl, hp, hx, hy, ok, k⟩ := h
  refine (fun (h : ∃ t, PSs _ _ t ∧ _) => let ⟨t, h1, h2⟩ := h; ⟨t, PSs.nox h1, h2⟩) ?_
  refine ⟨_, (pss_cons (ps_set (i := 4) sc_Tableinit.nd rfl (Or.inl rfl) (pe_k C_checked_table hr (by decide) (by rfl) (pa_cons (pv 1) (pa_cons (pv 2) (pa_cons (pv 3) pa_nil)))))
      (pss_cons (ps_fld (pv 0) (pe_ix (ix_K (K := K)) (pv 4) pe_int (fun _ _ => rfl)) rfl)
      (pss_cons (ps_fld (pv 0) (pe_ix (ix_K (K := K)) (pv 4) pe_int (fun _ _ => rfl)) rfl)
      (pss_one (ps_fld (pv 0) (pe_ix (ix_K (K := K)) (pv 4) pe_int (fun _ _ => rfl)) rfl))))), ?_⟩
  try dsimp only [cxOf]
  walk_at "rd"
  refine ⟨x, y, rise, hd, lp, rfl, hx, hy, ok, fun v H1 e1 hv => ?_⟩
  obtain ⟨h, l, hv, hh, hl⟩ := hv
  have hp1 := e1 _ _ hp
  walk_at "rd"
  refine rd_ix hv.sq (at_of (j := 0) rfl rfl) ?_
  walk_at "rd"
  refine go_sfld hp1 T.cl_Table T.na_Table_head (by decide) fun H2 b2 hp2 => ?_
  have hv2 := hv.extB b2 hp1
  walk_at "rd"
  refine rd_ix hv2.sq (at_of (j := 1) rfl rfl) ?_
  walk_at "rd"
  refine go_sfld hp2 T.cl_Table T.na_Table_loop (Nat.lt_of_le_of_lt (length_putF _ _ _) (by decide)) fun H3 b3 hp3 => ?_
  have hv3 := hv2.extB b3 hp2
  walk_at "rd"
  refine rd_ix hv3.sq (at_of (j := 2) rfl rfl) ?_
  walk_at "rd"
  refine go_sfld hp3 T.cl_Table T.na_Table_rise (Nat.lt_of_le_of_lt (Nat.le_trans (length_putF _ _ _) (Nat.add_le_add_right (length_putF _ _ _) 1)) (by decide)) fun H4 b4 hp4 => ?_
  walk_at "rd"
  refine k H4 ⟨dx, h, l, hp4, ((hh.extB b2 hp1).extB b3 hp2).extB b4 hp3, ((hl.extB b2 hp1).extB b3 hp2).extB b4 hp3⟩ fun b o hb e => b4 _ _ hb (b3 _ _ hb (b2 _ _ hb (e1 _ _ e)))
theorem m_Table3 (T : Facts K mg) : Mak P w K mg base 5 "Table" [] (spTblInit K) := by
  obtain ⟨fd, F, G⟩ := k_Tableinit (P := P) (w := w) (base := base) T
  obtain ⟨ds, h1, h2⟩ := F.binds1 (ps := ["self", "head", "loop", "rise"]) 4 2 (by simp) (by simp) (fun T kV doc pm an cdv ct us its hu hi => match us, its, hu, hi with | [_, _, _, _], [_, _], _, _ => ⟨_, rfl, rfl⟩)
  exact ⟨_, fd, _, ds, T.mk_Table, G, T.g_Table, h2, h1⟩
theorem m_Table1 (T : Facts K mg) : Mak P w K mg base 5 "Table" [.ref (dfT K), .int 0] (spTblInit K) := by
  obtain ⟨fd, F, G⟩ := k_Tableinit (P := P) (w := w) (base := base) T
  obtain ⟨ds, h1, h2⟩ := F.binds1 (ps := ["self", "head", "loop", "rise"]) 2 0 (by simp) (by simp) (fun T kV doc pm an cdv ct us its hu hi => match us, its, hu, hi with | [_, _], [_, _], _, _ => ⟨_, rfl, rfl⟩)
  exact ⟨_, fd, _, ds, T.mk_Table, G, T.g_Table, h2, h1⟩
theorem k_Tablecall (T : Facts K mg) : Mth P w K mg base 3 (cT K) "__call__" (spTblCall K) := by
  have C_is_count := k_is_count (P := P) (w := w) (base := base) T
  have C_value_at := k_value_at (P := P) (w := w) (base := base) T
  obtain ⟨fd, F⟩ := T.F_Tablecall
  refine ⟨fd, ["self", "n"], T.cl_Table, T.me_Tablecall, F.ok sc_Tablecall (fun vs H Q E h => by obtain ⟨i, b, c, rfl, _⟩ := h; rfl) (fun cdv A outer s H vs Q E hr h => ?_), F.bindsN fun _ _ _ _ _ _ us hl => match us, hl with | [_, _], _ => rfl⟩
  obtain ⟨p, n, r, rfl, ⟨dx, h, l, hp, hh, hl⟩, hn, r0, r1, hz, k⟩ := h
  refine (fun (h : ∃ t, PSs _ _ t ∧ _) => let ⟨t, h1, h2⟩ := h; ⟨t, PSs.nox h1, h2⟩) ?_
  refine ⟨_, (pss_cons (ps_if (PW.pt (pw_and (pt_cmpR op_notN (pv 1) pe_non (nomark _)) (pw_and1 (pt_not (pt_val (pe_k C_is_count hr (by decide) (by rfl) (pa_cons (pv 1) pa_nil))))))) (pss_one ps_never) pss_nil)
      (pss_one (ps_ret (pe_k C_value_at hr (by decide) (by rfl) (pa_cons (pe_tup (pa_cons (pe_fldK (K := K) (pv 0) rfl) (pa_cons (pe_fldK (K := K) (pv 0) rfl) (pa_cons (pe_fldK (K := K) (pv 0) rfl) pa_nil)))) (pa_cons (pv 1) pa_nil)))))), ?_⟩
  try dsimp only [cxOf]
  walk_at "rd"
  refine ⟨rfl, ?_⟩
  walk_at "rd"
  refine ⟨n, rfl, by omega, fun H1 e1 => ?_⟩
  have hp1 := e1 _ _ hp
  walk_at "rd"
  refine go_fld hp1 T.cl_Table T.na_Table_head (tf_h _ _ _) ?_
  walk_at "rd"
  refine go_fld hp1 T.cl_Table T.na_Table_loop (tf_l _ _ _) ?_
  walk_at "rd"
  refine go_fld hp1 T.cl_Table T.na_Table_rise (tf_r _ _ _) ?_
  walk_at "rd"
  refine go_tup sz3 fun q H2 hq e2 h2 => ?_
  walk_at "rd"
  exact ⟨.ref q, n, r, rfl, ⟨h, l, TuA.of h2, (hh.ext e1).ext e2, (hl.ext e1).ext e2⟩, hn, r0, r1, hz, fun H3 e3 => k H3 ((e1.trans e2).trans e3)⟩
theorem o_Tablecall (T : Facts K mg) : StX.CallO K (cT K) (He.ma K (cT K) "__call__") := ⟨T.me_Tablecall.at_, T.me_Tablecall.fn, (exF T).fc⟩
end
end K24
set_option Elab.async false
set_option linter.all false
set_option maxRecDepth 100000
set_option maxHeartbeats 4000000
/-! Makers. -/
namespace K24
open PySem PySem.Spec PyProof.Rows L2
/-! ### a for over a list or a tuple -/
def kFS (K : PySem.W.Frag) (g : TG) (tb : TS) (D : Ends) (σ : L2.St) : V → Hp → Prop := fun x H1 => ∃ a, x = .ref a ∧ (((∃ xs, SqL K H1 a xs) ∧ kF (Itl K a) g tb D σ H1) ∨ ((∃ xs, SqT K H1 a xs) ∧ kF (Itt K a) g tb D σ H1))
section
variable {K : PySem.W.Frag} {σ : L2.St} {H : Hp} {Q : VK} {D : Ends} {v : V}
theorem rd_forS {g : TG} {tb : TS} {tl : TE} (q : tl σ H (kFS K g tb D σ)) : tFor (iSeq K tl) g tb D σ H := q
theorem go_forS {g : TG} {tb : TS} {xs : List V} (h : SqA K H v xs) (Pv : Nat → L2.St → Hp → Prop) (h0 : Pv 0 σ H) (hl : ∀ i σ' H', Pv i σ' H' → Ext H H')
    (hs : ∀ i x σ' H', xs[i]? = some x → Pv i σ' H' → g x σ' H' fun σ2 H2 => tb { D with nx := Pv (i + 1), ct := Pv (i + 1), bk := D.nx } σ2 H2) (hd : ∀ σ' H', Pv xs.length σ' H' → D.nx σ' H') : kFS K g tb D σ v H := by
  obtain ⟨a, rfl, h | h⟩ := h
  · exact ⟨a, rfl, .inl ⟨⟨xs, h⟩, for_list (K := K) (a := a) (xs := xs) Pv h0 (fun i σ' H' _ p => SqL.ext h (hl i σ' H' p)) hs hd⟩⟩
  · exact ⟨a, rfl, .inr ⟨⟨xs, h⟩, for_tup (K := K) (a := a) (xs := xs) Pv h0 (fun i σ' H' _ p => SqT.ext h (hl i σ' H' p)) hs hd⟩⟩
end
local macro_rules | `(tactic| walk_at "tr") => `(tactic| first
  | (with_reducible assumption)
  | (with_reducible exact TuA.sq (by assumption)) | (with_reducible exact SqLv.sq (by assumption)) | (with_reducible exact SqA.ofL (by assumption)) | (with_reducible exact SqA.ofT (by assumption))
  | (with_reducible exact TuA.of (by assumption)) | (with_reducible exact SqLv.of (by assumption)) | (with_reducible exact WsT.wa (by assumption))
  | (with_reducible refine' TuA.sq (TuA.ext ?h ?e); (case e => with_reducible assumption); (case h => walk_at "tr"))
  | (with_reducible refine' SqA.ext ?h ?e; (case e => with_reducible assumption); (case h => walk_at "tr"))
  | (with_reducible refine' TuA.ext ?h ?e; (case e => with_reducible assumption); (case h => walk_at "tr"))
  | (with_reducible refine' SqLv.ext ?h ?e; (case e => with_reducible assumption); (case h => walk_at "tr"))
  | (with_reducible refine' WsA.ext ?h ?e; (case e => with_reducible assumption); (case h => walk_at "tr"))
  | (with_reducible refine' WsT.ext ?h ?e; (case e => with_reducible assumption); (case h => walk_at "tr"))
  | (with_reducible refine' MkrT.ext ?h ?e; (case e => with_reducible assumption); (case h => walk_at "tr"))
  | (with_reducible refine' MkrO.ext ?h ?e; (case e => with_reducible assumption); (case h => walk_at "tr"))
  | (with_reducible refine' TblO.ext ?h ?e; (case e => with_reducible assumption); (case h => walk_at "tr"))
  | (with_reducible refine' RawT.ext ?h ?e; (case e => with_reducible assumption); (case h => walk_at "tr"))
  | (with_reducible refine' ext_at ?h ?e; (case e => with_reducible assumption); (case h => walk_at "tr"))
  | (with_reducible exact Ext.rfl')
  | (with_reducible refine' Ext.trans ?h ?e; (case e => with_reducible assumption); (case h => walk_at "tr")))
local macro_rules | `(tactic| walk_at "rd1") => `(tactic| first
  | (with_reducible refine' rd_seq ?_) | (with_reducible refine' rd_asg ?_) | (with_reducible refine' rd_ret ?_) | (with_reducible refine' rd_if ?_) | (with_reducible refine' rd_drop ?_)
  | ((with_reducible refine' rd_var ?h ?q); (case h => exact rfl))
  | (with_reducible refine' rd_c ?_) | (with_reducible refine' rd_op ?_) | (with_reducible refine' rd_un ?_) | (with_reducible refine' rd_test ?_) | (with_reducible refine' rd_B ?_) | (with_reducible refine' rd_bl ?_)
  | (with_reducible refine' rd_and ?_) | (with_reducible refine' rd_or ?_) | (with_reducible refine' rd_not ?_) | (with_reducible refine' rd_andV ?_) | (with_reducible refine' rd_orV ?_) | (with_reducible refine' rd_notV ?_)
  | (with_reducible refine' rd_ifE ?_) | (with_reducible refine' rd_chain ?_) | (with_reducible refine' rd_nil ?_) | (with_reducible refine' rd_cons ?_) | (with_reducible refine' rd_cb ?_) | (with_reducible refine' rd_call0 ?_) | (with_reducible refine' rd_call ?_)
  | (with_reducible refine' rd_part ?_) | (with_reducible refine' rd_int ?_) | (with_reducible refine' rd_nopart ?_) | (with_reducible refine' rd_sl ?_) | (with_reducible refine' rd_tup ?_) | (with_reducible refine' rd_lst ?_)
  | (with_reducible refine' rd_I0 ?_) | (with_reducible refine' rd_U ?_) | (with_reducible refine' rd_intI ?_) | (with_reducible refine' rd_abs ?_) | (with_reducible refine' rd_lc ?_) | (with_reducible refine' rd_lr ?_)
  | (with_reducible refine' rd_next ?_) | (with_reducible refine' rd_cont ?_) | (with_reducible refine' rd_break ?_)
  | ((with_reducible refine' rd_len ?h ?q); (case h => walk_at "tr"))
  | ((with_reducible refine' rd_eq ?h ?q); (case h => exact rfl)) | ((with_reducible refine' rd_ne ?h ?q); (case h => exact rfl))
  | ((with_reducible refine' ite_t ?h ?q); (case h => exact rfl)) | ((with_reducible refine' ite_f ?h ?q); (case h => exact rfl))
  | (with_reducible refine' rd_gn ?_) | (with_reducible refine' rd_forL ?_) | (with_reducible refine' rd_forT ?_) | (with_reducible refine' rd_forR1 ?_) | (with_reducible refine' rd_forR2 ?_) | (with_reducible refine' rd_forR3 ?_)
  | (with_reducible refine' rd_make ?_) | (with_reducible refine' rd_sfld ?_) | (with_reducible refine' rd_mth ?_) | (with_reducible refine' rd_callO ?_)
  | (with_reducible refine' rd_forS ?_) | (with_reducible refine' rd_gsub ?_)
  | (with_reducible refine' rd_fld ?_) | (with_reducible refine' rd_asgG ?_) | (with_reducible refine' rd_bm ?_)
  | ((with_reducible refine' rd_gT2 ?h ?n ?q); (case h => walk_at "tr"); (case n => exact rfl)) | ((with_reducible refine' rd_gT3 ?h ?n ?q); (case h => walk_at "tr"); (case n => exact rfl))
  | dsimp only)
local macro_rules | `(tactic| walk_at "rd") => `(tactic| repeat (walk_at "rd1"))

/-! ### the need on a course, as data -/
def needR (m : Mkr) (i : Int) (f t : List Nat) : Raw := needRaw i (m.begin_ ++ pick m.ways f) (pick m.ways t)
def plainR (r : Raw) : Raw := plainF r.1 r.2.1 r.2.2
theorem pick_one (ways : List (List Dd)) (n : Nat) : pick ways [n] = ways.getD n [] := by
  unfold pick
  simp
theorem pick_take (ways : List (List Dd)) {ns : List Nat} {i k : Nat} (h : ns[i]? = some k) : pick ways (ns.take (i + 1)) = pick ways (ns.take i) ++ ways.getD k [] := by
  rw [List.take_add_one, h, pick_app]
  show _ ++ pick ways [k] = _
  rw [pick_one]
theorem pick_len {ways : List (List Dd)} (hw : ∀ w ∈ ways, w.length ≤ 10) : ∀ ns : List Nat, (pick ways ns).length ≤ 10 * ns.length
  | [] => by simp [pick]
  | n :: r => by
    have ih := pick_len hw r
    have e : pick ways (n :: r) = ways.getD n [] ++ pick ways r := by
      have := pick_app ways [n] r
      rw [pick_one] at this
      exact this
    have hn : (ways.getD n []).length ≤ 10 := by
      rw [List.getD_eq_getElem?_getD]
      by_cases h : n < ways.length
      · rw [List.getElem?_eq_getElem h]
        exact hw _ (List.getElem_mem h)
      · rw [List.getElem?_eq_none (by omega)]
        exact Nat.zero_le _
    rw [e, List.length_append, List.length_cons]
    omega
theorem need_len {m : Mkr} {f t : List Nat} (ok : m.Ok) (c : CrsOk m.ways.length f t) : (m.begin_ ++ pick m.ways f).length ≤ 2010 ∧ (pick m.ways t).length ≤ 400 := by
  have h1 := pick_len ok.wl f
  have h2 := pick_len ok.wl t
  have h3 := ok.bl
  have h4 := c.fl
  have h5 := c.tl
  rw [List.length_append]
  omega
theorem needR_ok {m : Mkr} {f t : List Nat} (i : Int) (ok : m.Ok) (c : CrsOk m.ways.length f t) : RawOk (needR m i f t).1 (needR m i f t).2.1 (needR m i f t).2.2 := by
  have h := need_len ok c
  exact needRaw_ok (by omega) (by omega)
def spCheckInlet (K : PySem.W.Frag) : Sp := fun vs H Q _ => ∃ (a : Addr) (i : Int) (m : Mkr), vs = [.ref a, .int i] ∧ MkrO K H a m ∧ 0 ≤ i ∧ i < m.inlets ∧ ∀ H', Ext H H' → Q .non H'
def spNeed (K : PySem.W.Frag) : Sp := fun vs H Q _ => ∃ (a : Addr) (i : Int) (x : V) (m : Mkr) (f t : List Nat), vs = [.ref a, .int i, x] ∧ MkrO K H a m ∧ m.Ok ∧ CrsA K H x f t ∧ CrsOk m.ways.length f t ∧ 0 ≤ i ∧ i < m.inlets ∧
  ∀ p H', Ext H H' → TblO K H' p (plainR (needR m i f t)) → Q (.ref p) H'
theorem len_dd (ds : List Dd) : (ds.map Dd.v).length = ds.length := List.length_map ..
theorem ws_at {K : PySem.W.Frag} {H : Hp} {us : List V} {ws : List (List Dd)} {k : Nat} (hl : us.length = ws.length) (h : ∀ (j : Nat) u w, us[j]? = some u → ws[j]? = some w → TuA K H u (w.map Dd.v)) (hk : k < ws.length) :
    ∃ u, us[k]? = some u ∧ TuA K H u ((ws.getD k []).map Dd.v) := by
  refine ⟨us[k], List.getElem?_eq_getElem (by omega), h k _ _ (List.getElem?_eq_getElem (by omega)) ?_⟩
  rw [List.getElem?_eq_getElem hk, List.getD_eq_getElem?_getD, List.getElem?_eq_getElem hk]
  rfl
theorem zS : 2500 ≤ sizeLine := by decide
section
variable {P : Program} {w : World} {K : PySem.W.Frag} {mg : Str → Option Value} {base : Heap}
theorem k_check_inlet (T : Facts K mg) : Cal P w K mg base 2 "check_inlet" ["maker", "inlet"] (spCheckInlet K) := by
  have C_is_integer := k_is_integer (P := P) (w := w) (base := base) T
  refine cal_mk T.F_check_inlet T.g_check_inlet sc_check_inlet (fun _ _ _ _ _ _ us hl => match us, hl with | [_, _], _ => rfl) (fun vs H Q E h => by obtain ⟨i, b, c, rfl, _⟩ := h; rfl) (fun f cdv A outer s H vs Q E hr h => ?_)
  obtain ⟨a, i, m, rfl, ⟨dx, b, ww, hm, hb, hw⟩, h0, h1, k⟩ := h
  refine ⟨_, (pss_one (ps_if (PW.pt (pw_or (pt_not (pt_val (pe_k C_is_integer hr (by decide) (by rfl) (pa_cons (pv 1) pa_nil)))) (pw_or1 (pt_not (pt_chain op_le op_lt pe_int (pv 1) (pe_fldK (K := K) (pv 0) rfl)))))) (pss_one ps_never) pss_nil)), ?_⟩
  try dsimp only [cxOf]
  walk_at "rd"
  refine ⟨i, rfl, fun H1 e1 => ?_⟩
  walk_at "rd"
  refine ite_t (decide_eq_true h0) ?_
  walk_at "rd"
  refine go_fld (e1 _ _ hm) T.cl_Maker T.na_Maker_inlets (mf_i _ _ _) ?_
  walk_at "rd"
  rw [decide_eq_true h1]
  walk_at "rd"
  exact k _ e1
theorem k_need_on (T : Facts K mg) : Cal P w K mg base 7 "need_on" ["maker", "inlet", "course"] (spNeed K) := by
  have C_takes_ahead := k_takes_ahead (P := P) (w := w) (base := base) T
  have M_Table1 := m_Table1 (P := P) (w := w) (base := base) T
  have M_Table3 := m_Table3 (P := P) (w := w) (base := base) T
  refine cal_mk T.F_need_on T.g_need_on sc_need_on (fun _ _ _ _ _ _ us hl => match us, hl with | [_, _, _], _ => rfl) (fun vs H Q E h => by obtain ⟨i, b, c, d, e, g, rfl, _⟩ := h; rfl) (fun f cdv A outer s H vs Q E hr h => ?_)
  obtain ⟨a, i, x, m, cf, ct, rfl, ⟨dx, b, ww, hm, hb, us, hws, hlen, hu⟩, ok, ⟨u, v, hx, hf, ht⟩, cok, h0, h1, k⟩ := h
  have hlens := need_len ok cok
  have nok := needR_ok i ok cok
  have hnd : needR m i cf ct = ((ahead i (m.begin_ ++ pick m.ways cf)).1, (ahead i (pick m.ways ct)).1.map ((ahead i (m.begin_ ++ pick m.ways cf)).2 + ·), if (ahead i (pick m.ways ct)).1 = [] then 0 else (ahead i (pick m.ways ct)).2) := rfl
  refine ⟨_, (pss_cons (ps_set (i := 3) sc_need_on.nd rfl (Or.inl rfl) (pe_callTy (call_listK (K := K)) (by rfl) T.b_list bt_list (pa_cons (pe_fldK (K := K) (pv 0) rfl) pa_nil)))
      (pss_cons (ps_for PassesOwn.never rfl (pi_seqK (K := K) (pe_ix (ix_K (K := K)) (pv 2) pe_int (fun _ _ => rfl))) (pg_name (i := 4) sc_need_on.nd rfl (Or.inl rfl)) (pss_one (ps_set (i := 3) sc_need_on.nd rfl (Or.inl rfl) (pe_op op_cat (pv 3) (pe_callTy (call_listK (K := K)) (by rfl) T.b_list bt_list (pa_cons (pe_ix (ix_K (K := K)) (pe_fldK (K := K) (pv 0) rfl) (pv 4) (fun _ _ => rfl)) pa_nil))))))
      (pss_cons (ps_asg (pe_k C_takes_ahead hr (by decide) (by rfl) (pa_cons (pv 3) (pa_cons (pv 1) pa_nil))) (pg_tupK (K := K) rfl (pgs_cons (pg_name (i := 5) sc_need_on.nd rfl (Or.inl rfl)) (pgs_cons (pg_name (i := 6) sc_need_on.nd rfl (Or.inr rfl)) pgs_nil))))
      (pss_cons (ps_set (i := 7) sc_need_on.nd rfl (Or.inl rfl) (pe_lst pa_nil))
      (pss_cons (ps_for PassesOwn.never rfl (pi_seqK (K := K) (pe_ix (ix_K (K := K)) (pv 2) pe_int (fun _ _ => rfl))) (pg_name (i := 4) sc_need_on.nd rfl (Or.inl rfl)) (pss_one (ps_set (i := 7) sc_need_on.nd rfl (Or.inl rfl) (pe_op op_cat (pv 7) (pe_callTy (call_listK (K := K)) (by rfl) T.b_list bt_list (pa_cons (pe_ix (ix_K (K := K)) (pe_fldK (K := K) (pv 0) rfl) (pv 4) (fun _ _ => rfl)) pa_nil))))))
      (pss_cons (ps_asg (pe_k C_takes_ahead hr (by decide) (by rfl) (pa_cons (pv 7) (pa_cons (pv 1) pa_nil))) (pg_tupK (K := K) rfl (pgs_cons (pg_name (i := 8) sc_need_on.nd rfl (Or.inl rfl)) (pgs_cons (pg_name (i := 9) sc_need_on.nd rfl (Or.inl rfl)) pgs_nil))))
      (pss_cons (ps_if (pt_cmpR op_eq (pe_callB (call_lenK (K := K)) (by rfl) T.b_len PySem.boot_len (pa_cons (pv 8) pa_nil)) pe_int (nomark _)) (pss_one (ps_ret (pe_mkk M_Table1 hr (by decide) (by rfl) (pa_cons (pv 5) pa_nil)))) pss_nil)
      (pss_one (ps_ret (pe_mkk M_Table3 hr (by decide) (by rfl) (pa_cons (pv 5) (pa_cons (pe_lc (own := [("more", 10)]) (g := gName 10) (tt := tYes) rfl sc_need_on.nd (pi_seqK (K := K) (pv 8)) (blkOk_by (N := n_need_on) (sc := defScope s_need_on) (by decide +kernel)) (fun _ _ _ _ _ => pg_name (i := 10) sc_need_on.nd rfl (Or.inl rfl)) (fun _ _ _ _ _ => pts_nil) (fun _ _ _ _ _ => (pe_op op_add (pv 6) (pv 10)))) (pa_cons (pv 9) pa_nil))))))))))))), ?_⟩
  try dsimp only [cxOf]
  walk_at "rd"
  refine go_fld hm T.cl_Maker T.na_Maker_begin (mf_b _ _ _) ?_
  walk_at "rd"
  refine rd_list hb.sq fun p1 H1 hp1 e1 h1 => ?_
  walk_at "rd"
  refine rd_ix (hx.ext e1) (at_of (j := 0) rfl rfl) ?_
  walk_at "rd"
  refine go_forS (hf.ext e1) (fun n σ H' => ∃ p v4, σ = [some (.ref a), some (.int i), some x, some (.ref p), v4, none, none, none, none, none, none] ∧ Ext H1 H' ∧ H' p = some (.lst ((m.begin_ ++ pick m.ways (cf.take n)).map Dd.v)))
    ⟨p1, none, rfl, Ext.rfl', by rw [h1]; simp [pick]⟩ (fun n σ' H' ⟨_, _, _, e, _⟩ => e) ?_ ?_
  · rintro n y σ' H' hy ⟨p, v4, rfl, e, hp⟩
    obtain ⟨kk, hk, rfl⟩ := map_at hy
    obtain ⟨u2, hu1, hu2⟩ := ws_at hlen hu (cok.f1 kk (List.mem_of_getElem? hk))
    have e' := e1.trans e
    have hn := (List.getElem?_eq_some_iff.mp hk).1
    unfold nv
    walk_at "rd"
    refine go_fld (e' _ _ hm) T.cl_Maker T.na_Maker_ways (mf_w _ _ _) ?_
    walk_at "rd"
    refine rd_ix (hws.ext e').sq (at_of (j := kk) rfl hu1) ?_
    walk_at "rd"
    refine rd_list (hu2.ext e').sq fun p2 H2 hp2 e2 h2 => ?_
    walk_at "rd"
    refine rd_cat (e2 _ _ hp) h2 ?_ fun p3 H3 hp3 e3 h3 => ?_
    · have hb1 := pick_len ok.wl (cf.take (n + 1))
      rw [pick_take _ hk, List.length_append] at hb1
      have hb2 : (cf.take (n + 1)).length ≤ 200 := by rw [List.length_take]; have := cok.fl; omega
      have := ok.bl
      rw [len_dd, len_dd, List.length_append]
      refine Nat.le_trans ?_ zS
      omega
    walk_at "rd"
    refine ⟨p3, _, rfl, (e.trans e2).trans e3, ?_⟩
    rw [h3, pick_take _ hk, ← List.append_assoc, List.map_append (l₁ := m.begin_ ++ pick m.ways (cf.take n))]
  rintro σ' H2 ⟨pd, v4, rfl, e2, hp⟩
  have et : cf.take (cf.map nv).length = cf := by rw [List.length_map, List.take_of_length_le (Nat.le_refl _)]
  rw [et] at hp
  have e12 := e1.trans e2
  walk_at "rd"
  refine ⟨.ref pd, i, _, rfl, SqLv.of hp, by omega, fun q1 q2 H3 e3 _ hq2 hq1 => ?_⟩
  have e13 := e12.trans e3
  walk_at "rd"
  refine go_lst (Nat.zero_le _) fun p4 H4 hp4 e4 h4 => ?_
  have e14 := e13.trans e4
  have hq1' := e4 _ _ hq1
  walk_at "rd"
  refine rd_ix (hx.ext e14) (at_of (j := 1) rfl rfl) ?_
  walk_at "rd"
  refine go_forS (ht.ext e14) (fun n σ H' => ∃ p v4, σ = [some (.ref a), some (.int i), some x, some (.ref pd), v4, some (.ref q1), some (.int (ahead i (m.begin_ ++ pick m.ways cf)).2), some (.ref p), none, none, none] ∧ Ext H4 H' ∧ H' p = some (.lst ((pick m.ways (ct.take n)).map Dd.v)))
    ⟨p4, _, rfl, Ext.rfl', by rw [h4]; rfl⟩ (fun n σ' H' ⟨_, _, _, e, _⟩ => e) ?_ ?_
  · rintro n y σ' H' hy ⟨p, v4, rfl, e, hp⟩
    obtain ⟨kk, hk, rfl⟩ := map_at hy
    obtain ⟨u2, hu1, hu2⟩ := ws_at hlen hu (cok.t1 kk (List.mem_of_getElem? hk))
    have e' := e14.trans e
    have hn := (List.getElem?_eq_some_iff.mp hk).1
    unfold nv
    walk_at "rd"
    refine go_fld (e' _ _ hm) T.cl_Maker T.na_Maker_ways (mf_w _ _ _) ?_
    walk_at "rd"
    refine rd_ix (hws.ext e').sq (at_of (j := kk) rfl hu1) ?_
    walk_at "rd"
    refine rd_list (hu2.ext e').sq fun p2 H2 hp2 e2 h2 => ?_
    walk_at "rd"
    refine rd_cat (e2 _ _ hp) h2 ?_ fun p3 H3 hp3 e3 h3 => ?_
    · have hb1 := pick_len ok.wl (ct.take (n + 1))
      rw [pick_take _ hk, List.length_append] at hb1
      have hb2 : (ct.take (n + 1)).length ≤ 40 := by rw [List.length_take]; have := cok.tl; omega
      rw [len_dd, len_dd]
      refine Nat.le_trans ?_ zS
      omega
    walk_at "rd"
    refine ⟨p3, _, rfl, (e.trans e2).trans e3, ?_⟩
    rw [h3, pick_take _ hk, List.map_append]
  rintro σ' H5 ⟨p5, v5, rfl, e5, hp5⟩
  have et : ct.take (ct.map nv).length = ct := by rw [List.length_map, List.take_of_length_le (Nat.le_refl _)]
  rw [et] at hp5
  have e15 := e14.trans e5
  have hq1'' := e5 _ _ hq1'
  walk_at "rd"
  refine ⟨.ref p5, i, _, rfl, SqLv.of hp5, by omega, fun r1 r2 H6 e6 _ hr2 hr1 => ?_⟩
  have e16 := e15.trans e6
  have hq6 := e6 _ _ hq1''
  walk_at "rd"
  have hl2 := len_int (ahead i (pick m.ways ct)).1
  refine ite_d (fun he => ?_) (fun he => ?_)
  · have e0 : (ahead i (pick m.ways ct)).1 = [] := List.length_eq_zero_iff.mp (by have := V.int.inj he; omega)
    have hnd2 : needR m i cf ct = ((ahead i (m.begin_ ++ pick m.ways cf)).1, [], 0) := by
      rw [hnd, e0, if_pos rfl]
      rfl
    rw [hnd2] at nok k
    walk_at "rd"
    refine go_make fun o H7 dx ho e7 hO => ?_
    refine ⟨o, dx, .ref q1, .ref (dfT K), 0, _, [], rfl, hO, SqA.ofL (e7 _ _ hq6), (dfl_tup (exF T) H7).sq, nok, fun H8 hT b8 => ⟨rfl, ?_⟩⟩
    walk_at "rd"
    exact k o H8 (e16.trans (b8.from e7 ho)) hT
  · have hne : ¬ (ahead i (pick m.ways ct)).1 = [] := fun z => he (by rw [hl2, z]; rfl)
    rw [if_neg hne] at hnd
    rw [hnd] at nok k
    walk_at "rd"
    have hz2 := (ahead_bounds i (pick m.ways ct)).2.2.2.1
    refine lc_val (fun n => .int ((ahead i (m.begin_ ++ pick m.ways cf)).2 + (ahead i (pick m.ways ct)).1.getD n 0)) (SqA.ofL hr1) (by omega) (fun _ => rfl) (fun n y H7 hy e7 Q' k' => ?_) (fun pl ys H7 hpl e7 h7 hl7 hv7 => ?_)
    · obtain ⟨z, hz, rfl⟩ := map_at hy
      have ez : (ahead i (pick m.ways ct)).1.getD n 0 = z := by rw [List.getD_eq_getElem?_getD, hz]; rfl
      rw [ez] at k'
      walk_at "rd"
      exact k' _ Ext.rfl'
    · have ey : ys = ((ahead i (pick m.ways ct)).1.map ((ahead i (m.begin_ ++ pick m.ways cf)).2 + ·)).map V.int := by
        rw [list_of hl7 hv7]
        apply List.ext_getElem?
        intro n
        rw [List.getElem?_map, List.getElem?_map, List.getElem?_map]
        by_cases hi : n < (ahead i (pick m.ways ct)).1.length
        · rw [List.getElem?_range (by omega), List.getElem?_eq_getElem hi]
          show some (V.int ((ahead i (m.begin_ ++ pick m.ways cf)).2 + (ahead i (pick m.ways ct)).1.getD n 0)) = some (V.int ((ahead i (m.begin_ ++ pick m.ways cf)).2 + (ahead i (pick m.ways ct)).1[n]))
          rw [List.getD_eq_getElem?_getD, List.getElem?_eq_getElem hi]
          rfl
        · rw [List.getElem?_eq_none (by rw [List.length_range]; omega), List.getElem?_eq_none (by omega)]
          rfl
      walk_at "rd"
      refine go_make fun o H8 dx ho e8 hO => ?_
      refine ⟨o, dx, .ref q1, .ref pl, _, _, _, rfl, hO, SqA.ofL (e8 _ _ (e7 _ _ hq6)), SqA.ofL (by rw [← ey]; exact e8 _ _ h7), nok, fun H9 hT b9 => ⟨rfl, ?_⟩⟩
      walk_at "rd"
      exact k o H9 ((e16.trans e7).trans (b9.from e8 ho)) hT
end
end K24
set_option Elab.async false
set_option linter.all false
set_option maxRecDepth 100000
set_option maxHeartbeats 4000000
/-! Makers: how one is made, ==, need. -/
namespace K24
open PySem PySem.Spec PyProof.Rows L2
local macro_rules | `(tactic| walk_at "tr") => `(tactic| first
  | (with_reducible assumption)
  | (with_reducible exact TuA.sq (by assumption)) | (with_reducible exact SqLv.sq (by assumption)) | (with_reducible exact SqA.ofL (by assumption)) | (with_reducible exact SqA.ofT (by assumption))
  | (with_reducible exact TuA.of (by assumption)) | (with_reducible exact SqLv.of (by assumption)) | (with_reducible exact WsT.wa (by assumption))
  | (with_reducible refine' TuA.sq (TuA.ext ?h ?e); (case e => with_reducible assumption); (case h => walk_at "tr"))
  | (with_reducible refine' SqA.ext ?h ?e; (case e => with_reducible assumption); (case h => walk_at "tr"))
  | (with_reducible refine' TuA.ext ?h ?e; (case e => with_reducible assumption); (case h => walk_at "tr"))
  | (with_reducible refine' SqLv.ext ?h ?e; (case e => with_reducible assumption); (case h => walk_at "tr"))
  | (with_reducible refine' WsA.ext ?h ?e; (case e => with_reducible assumption); (case h => walk_at "tr"))
  | (with_reducible refine' WsT.ext ?h ?e; (case e => with_reducible assumption); (case h => walk_at "tr"))
  | (with_reducible refine' MkrT.ext ?h ?e; (case e => with_reducible assumption); (case h => walk_at "tr"))
  | (with_reducible refine' MkrO.ext ?h ?e; (case e => with_reducible assumption); (case h => walk_at "tr"))
  | (with_reducible refine' TblO.ext ?h ?e; (case e => with_reducible assumption); (case h => walk_at "tr"))
  | (with_reducible refine' RawT.ext ?h ?e; (case e => with_reducible assumption); (case h => walk_at "tr"))
  | (with_reducible refine' ext_at ?h ?e; (case e => with_reducible assumption); (case h => walk_at "tr"))
  | (with_reducible exact Ext.rfl')
  | (with_reducible refine' Ext.trans ?h ?e; (case e => with_reducible assumption); (case h => walk_at "tr")))
local macro_rules | `(tactic| walk_at "rd1") => `(tactic| first
  | (with_reducible refine' rd_seq ?_) | (with_reducible refine' rd_asg ?_) | (with_reducible refine' rd_ret ?_) | (with_reducible refine' rd_if ?_) | (with_reducible refine' rd_drop ?_)
  | ((with_reducible refine' rd_var ?h ?q); (case h => exact rfl))
  | (with_reducible refine' rd_c ?_) | (with_reducible refine' rd_op ?_) | (with_reducible refine' rd_un ?_) | (with_reducible refine' rd_test ?_) | (with_reducible refine' rd_B ?_) | (with_reducible refine' rd_bl ?_)
  | (with_reducible refine' rd_and ?_) | (with_reducible refine' rd_or ?_) | (with_reducible refine' rd_not ?_) | (with_reducible refine' rd_andV ?_) | (with_reducible refine' rd_orV ?_) | (with_reducible refine' rd_notV ?_)
  | (with_reducible refine' rd_ifE ?_) | (with_reducible refine' rd_chain ?_) | (with_reducible refine' rd_nil ?_) | (with_reducible refine' rd_cons ?_) | (with_reducible refine' rd_cb ?_) | (with_reducible refine' rd_call0 ?_) | (with_reducible refine' rd_call ?_)
  | (with_reducible refine' rd_part ?_) | (with_reducible refine' rd_int ?_) | (with_reducible refine' rd_nopart ?_) | (with_reducible refine' rd_sl ?_) | (with_reducible refine' rd_tup ?_) | (with_reducible refine' rd_lst ?_)
  | (with_reducible refine' rd_I0 ?_) | (with_reducible refine' rd_U ?_) | (with_reducible refine' rd_intI ?_) | (with_reducible refine' rd_abs ?_) | (with_reducible refine' rd_lc ?_) | (with_reducible refine' rd_lr ?_)
  | (with_reducible refine' rd_next ?_) | (with_reducible refine' rd_cont ?_) | (with_reducible refine' rd_break ?_)
  | ((with_reducible refine' rd_len ?h ?q); (case h => walk_at "tr"))
  | ((with_reducible refine' rd_eq ?h ?q); (case h => exact rfl)) | ((with_reducible refine' rd_ne ?h ?q); (case h => exact rfl))
  | ((with_reducible refine' ite_t ?h ?q); (case h => exact rfl)) | ((with_reducible refine' ite_f ?h ?q); (case h => exact rfl))
  | (with_reducible refine' rd_gn ?_) | (with_reducible refine' rd_forL ?_) | (with_reducible refine' rd_forT ?_) | (with_reducible refine' rd_forR1 ?_) | (with_reducible refine' rd_forR2 ?_) | (with_reducible refine' rd_forR3 ?_)
  | (with_reducible refine' rd_make ?_) | (with_reducible refine' rd_sfld ?_) | (with_reducible refine' rd_mth ?_) | (with_reducible refine' rd_callO ?_)
  | (with_reducible refine' rd_forS ?_) | (with_reducible refine' rd_gsub ?_)
  | (with_reducible refine' rd_fld ?_) | (with_reducible refine' rd_asgG ?_) | (with_reducible refine' rd_bm ?_)
  | ((with_reducible refine' rd_gT2 ?h ?n ?q); (case h => walk_at "tr"); (case n => exact rfl)) | ((with_reducible refine' rd_gT3 ?h ?n ?q); (case h => walk_at "tr"); (case n => exact rfl))
  | dsimp only)
local macro_rules | `(tactic| walk_at "rd") => `(tactic| repeat (walk_at "rd1"))

def Dd.pd : Dd → PyData
  | .give => .str "give"
  | .take i => .int i
def pdDs (ds : List Dd) : PyData := .tuple (ds.map Dd.pd)
def pdWs (ws : List (List Dd)) : PyData := .tuple (ws.map pdDs)
theorem dp_all {K : PySem.W.Frag} {H : Hp} {α : Type} {f : α → PyData} : ∀ {vs : List V} {as : List α}, vs.length = as.length → (∀ (j : Nat) v a, vs[j]? = some v → as[j]? = some a → Dp K H v (f a)) → DpAll K H vs (as.map f)
  | [], [], _, _ => .nil
  | v :: vs, a :: as, hl, h => .cons (h 0 v a rfl rfl) (dp_all (Nat.succ.inj hl) fun j v a h1 h2 => h (j + 1) v a h1 h2)
  | [], _ :: _, hl, _ => by simp at hl
  | _ :: _, [], hl, _ => by simp at hl
theorem dp_ds {K : PySem.W.Frag} {H : Hp} {v : V} {ds : List Dd} (h : TuA K H v (ds.map Dd.v)) : Dp K H v (pdDs ds) := by
  obtain ⟨a, rfl, h⟩ := h
  refine .tup h (dp_all (List.length_map ..) fun j v d h1 h2 => ?_)
  rw [List.getElem?_map, h2] at h1
  have e := Option.some.inj h1
  subst e
  cases d with
  | give => exact .str _
  | take i => exact .int _
theorem dp_ws {K : PySem.W.Frag} {H : Hp} {v : V} {ws : List (List Dd)} (h : WsT K H v ws) : Dp K H v (pdWs ws) := by
  obtain ⟨us, ⟨a, rfl, h⟩, hl, hu⟩ := h
  exact .tup h (dp_all hl fun j v w h1 h2 => dp_ds (hu j v w h1 h2))
theorem can_all {α : Type} {f : α → PyData} (h : ∀ a, (f a).canLay0 = true) : ∀ as : List α, PyData.canLayAll0 (as.map f) = true
  | [] => by
    unfold PyData.canLayAll0
    rfl
  | a :: as => by
    rw [List.map_cons]
    unfold PyData.canLayAll0
    rw [h a, can_all h as]
    rfl
theorem depth_all {α : Type} {f : α → PyData} {n : Nat} (h : ∀ a, (f a).depth ≤ n) : ∀ as : List α, PyData.depthAll (as.map f) ≤ n
  | [] => by
    unfold PyData.depthAll
    exact Nat.zero_le _
  | a :: as => by
    rw [List.map_cons]
    unfold PyData.depthAll
    have := h a
    have := depth_all h as
    omega
theorem can_dd (d : Dd) : d.pd.canLay0 = true := by
  cases d with
  | give => decide +kernel
  | take i => rfl
theorem dep_dd (d : Dd) : d.pd.depth ≤ 0 := by
  cases d with
  | give => exact Nat.le_refl _
  | take i => exact Nat.le_refl _
theorem can_ds (ds : List Dd) : (pdDs ds).canLay0 = true := by
  show PyData.canLay0 (.tuple _) = true
  unfold PyData.canLay0
  exact can_all can_dd ds
theorem dep_ds (ds : List Dd) : (pdDs ds).depth ≤ 1 := by
  show PyData.depth (.tuple _) ≤ 1
  unfold PyData.depth
  have := depth_all dep_dd ds
  omega
theorem sh_ds (ds : List Dd) : SeqAt.shaped (pdDs ds) = true := by
  unfold SeqAt.shaped
  rw [can_ds, Bool.true_and]
  exact decide_eq_true (Nat.le_trans (dep_ds ds) (by decide))
theorem sh_ws (ws : List (List Dd)) : SeqAt.shaped (pdWs ws) = true := by
  unfold SeqAt.shaped
  have h1 : (pdWs ws).canLay0 = true := by
    show PyData.canLay0 (.tuple _) = true
    unfold PyData.canLay0
    exact can_all can_ds ws
  have h2 : (pdWs ws).depth ≤ 2 := by
    show PyData.depth (.tuple _) ≤ 2
    unfold PyData.depth
    have := depth_all dep_ds ws
    omega
  rw [h1, Bool.true_and]
  exact decide_eq_true (Nat.le_trans h2 (by decide))
theorem eqv_all {α : Type} [DecidableEq α] {f : α → PyData} (h : ∀ a b, PyData.eqv (f a) (f b) = decide (a = b)) : ∀ as bs : List α, PyData.eqvAll (as.map f) (bs.map f) = decide (as = bs)
  | [], [] => by
    show PyData.eqvAll [] [] = _
    unfold PyData.eqvAll
    simp
  | a :: as, b :: bs => by
    rw [List.map_cons, List.map_cons]
    unfold PyData.eqvAll
    rw [h a b, eqv_all h as bs]
    by_cases h1 : a = b <;> by_cases h2 : as = bs <;> simp [h1, h2]
  | [], b :: bs => by
    rw [List.map_cons]
    show PyData.eqvAll [] _ = _
    unfold PyData.eqvAll
    simp
  | a :: as, [] => by
    rw [List.map_cons]
    show PyData.eqvAll _ [] = _
    unfold PyData.eqvAll
    simp
theorem eqv_dd (a b : Dd) : PyData.eqv a.pd b.pd = decide (a = b) := by
  cases a <;> cases b <;> simp [Dd.pd, PyData.eqv]
  rename_i i j
  by_cases h : i = j <;> simp [h]
theorem eqv_ds (a b : List Dd) : PyData.eqv (pdDs a) (pdDs b) = decide (a = b) := by
  show PyData.eqv (.tuple _) (.tuple _) = _
  unfold PyData.eqv
  exact eqv_all eqv_dd a b
theorem eqv_ws (a b : List (List Dd)) : PyData.eqv (pdWs a) (pdWs b) = decide (a = b) := by
  show PyData.eqv (.tuple _) (.tuple _) = _
  unfold PyData.eqv
  exact eqv_all eqv_ds a b
theorem go_eqDs {K : PySem.W.Frag} {H : Hp} {x y : V} {a b : List Dd} {Q : VK} (h1 : TuA K H x (a.map Dd.v)) (h2 : TuA K H y (b.map Dd.v)) (q : Q (.bl (decide (a = b))) H) : rEqD K x y H Q :=
  ⟨_, _, dp_ds h1, dp_ds h2, sh_ds a, sh_ds b, by rw [eqv_ds]; exact q⟩
theorem go_eqWs {K : PySem.W.Frag} {H : Hp} {x y : V} {a b : List (List Dd)} {Q : VK} (h1 : WsT K H x a) (h2 : WsT K H y b) (q : Q (.bl (decide (a = b))) H) : rEqD K x y H Q :=
  ⟨_, _, dp_ws h1, dp_ws h2, sh_ws a, sh_ws b, by rw [eqv_ws]; exact q⟩
theorem WsT.extB {K : PySem.W.Frag} {H H2 : Hp} {v : V} {ws : List (List Dd)} {p C dx : Addr} {fs : List (Str × V)} (h : WsT K H v ws) (e : ExtB p H H2) (hp : H p = some (.ins C dx fs)) : WsT K H2 v ws :=
  let ⟨us, h1, h2, h3⟩ := h; ⟨us, h1.extB e hp, h2, fun j u w a b => (h3 j u w a b).extB e hp⟩
theorem SqA.extB {K : PySem.W.Frag} {H H2 : Hp} {v : V} {xs : List V} {p C dx : Addr} {fs : List (Str × V)} (h : SqA K H v xs) (e : ExtB p H H2) (hp : H p = some (.ins C dx fs)) : SqA K H2 v xs := by
  obtain ⟨a, rfl, ((h | ⟨o, h⟩) | h) | ((h | ⟨o, h⟩) | h)⟩ := h
  · exact ⟨a, rfl, .inl (.inl (.inl (e _ _ (ne_of h hp (by intro z; cases z)) h)))⟩
  · exact ⟨a, rfl, .inl (.inl (.inr ⟨o, e _ _ (ne_of h hp (by intro z; cases z)) h⟩))⟩
  · exact ⟨a, rfl, .inl (.inr h)⟩
  · exact ⟨a, rfl, .inr (.inl (.inl (e _ _ (ne_of h hp (by intro z; cases z)) h)))⟩
  · exact ⟨a, rfl, .inr (.inl (.inr ⟨o, e _ _ (ne_of h hp (by intro z; cases z)) h⟩))⟩
  · exact ⟨a, rfl, .inr (.inr h)⟩
theorem WsA.extB {K : PySem.W.Frag} {H H2 : Hp} {v : V} {ws : List (List Dd)} {p C dx : Addr} {fs : List (Str × V)} (h : WsA K H v ws) (e : ExtB p H H2) (hp : H p = some (.ins C dx fs)) : WsA K H2 v ws :=
  let ⟨us, h1, h2, h3⟩ := h; ⟨us, h1.extB e hp, h2, fun j u w a b => (h3 j u w a b).extB e hp⟩
theorem dd_flat (ds : List Dd) : ∀ z ∈ ds.map Dd.v, (∃ i, z = V.int i) ∨ ∃ s, z = V.str s := fun z hz => by
  obtain ⟨d, _, rfl⟩ := List.mem_map.mp hz
  cases d with
  | give => exact .inr ⟨_, rfl⟩
  | take i => exact .inl ⟨_, rfl⟩
def mEq (m n : Mkr) : Bool := decide (m.inlets = n.inlets) && (decide (m.begin_ = n.begin_) && decide (m.ways = n.ways))
def spMkrInit (K : PySem.W.Frag) : Sp := fun vs H Q _ => ∃ (p dx : Addr) (x y : V) (m : Mkr), vs = [.ref p, .int m.inlets, x, y] ∧ H p = some (.ins (cM K) dx []) ∧ SqA K H x (m.begin_.map Dd.v) ∧ WsA K H y m.ways ∧ m.Ok ∧
  ∀ H', MkrO K H' p m → ExtB p H H' → Q .non H'
def spMkrEq (K : PySem.W.Frag) : Sp := fun vs H Q _ => ∃ (a : Addr) (y : V) (m : Mkr) (r : Bool), vs = [.ref a, y] ∧ MkrO K H a m ∧ ((∃ b m2, y = .ref b ∧ MkrO K H b m2 ∧ r = mEq m m2) ∨ (r = false ∧ ((∃ xs, TuA K H y xs) ∨ ∃ i, y = .int i))) ∧
  ∀ H', Ext H H' → Q (.bl r) H'
theorem ty_mkr {K : PySem.W.Frag} {mg : Str → Option Value} (T : Facts K mg) {H : Hp} {a : Addr} {m : Mkr} (h : MkrO K H a m) : TyX K H (.ref a) (.ref (cM K)) := by
  obtain ⟨dx, b, w, h, _⟩ := h
  have x := exF T
  exact .base (.ins h T.cl_Maker x.cm x.sg x.ts x.om)
theorem ty_tbl {K : PySem.W.Frag} {mg : Str → Option Value} (T : Facts K mg) {H : Hp} {a : Addr} {r : Raw} (h : TblO K H a r) : TyX K H (.ref a) (.ref (cT K)) := by
  obtain ⟨dx, b, w, h, _⟩ := h
  have x := exF T
  exact .base (.ins h T.cl_Table x.ct x.sg x.ts x.ot)
section
variable {P : Program} {w : World} {K : PySem.W.Frag} {mg : Str → Option Value} {base : Heap}
theorem m_Maker3 (T : Facts K mg) : Mak P w K mg base 5 "Maker" [] (spMkrInit K) := by
  have C_is_integer := k_is_integer (P := P) (w := w) (base := base) T
  have C_is_deeds := k_is_deeds (P := P) (w := w) (base := base) T
  have C_is_ways := k_is_ways (P := P) (w := w) (base := base) T
  have C_deep1 := k_deep1 (P := P) (w := w) (base := base) T
  have C_deep2 := k_deep2 (P := P) (w := w) (base := base) T
  obtain ⟨fd, F⟩ := T.F_Makerinit
  have b := F.bindsN (ps := ["self", "inlets", "begin", "ways"]) fun _ _ _ _ _ _ us hl => match us, hl with | [_, _, _, _], _ => rfl
  refine ⟨_, fd, _, [], T.mk_Maker, F.ok sc_Makerinit (fun vs H Q E h => by obtain ⟨i, b, c, d, e, rfl, _⟩ := h; rfl) (fun cdv A outer s H vs Q E hr h => ?_), T.g_Maker, b, .nil⟩
  obtain ⟨p, dx, x, y, m, rfl, hp, hx, hy, ok, k⟩ := h
  obtain ⟨us, hys, hylen, hyu⟩ := id hy
  have i1 := ok.in1
  have i3 := ok.in3
  have bl := ok.bl
  have lb := List.length_map (as := m.begin_) Dd.v
  refine (fun (h : ∃ t, PSs _ _ t ∧ _) => let ⟨t, h1, h2⟩ := h; ⟨t, PSs.nox h1, h2⟩) ?_
  refine ⟨_, (pss_cons (ps_if (PW.pt (pw_or (pt_not (pt_val (pe_k C_is_integer hr (by decide) (by rfl) (pa_cons (pv 1) pa_nil)))) (pw_or1 (pt_not (pt_chain op_le op_le pe_int (pv 1) (pe_gi (by rfl) T.c_MOST_INLETS)))))) (pss_one ps_never) pss_nil)
      (pss_cons (ps_if (pt_not (pt_val (pe_k C_is_deeds hr (by decide) (by rfl) (pa_cons (pv 1) (pa_cons (pv 2) pa_nil))))) (pss_one ps_never) pss_nil)
      (pss_cons (ps_if (pt_not (pt_val (pe_k C_is_ways hr (by decide) (by rfl) (pa_cons (pv 1) (pa_cons (pv 3) pa_nil))))) (pss_one ps_never) pss_nil)
      (pss_cons (ps_set (i := 4) sc_Makerinit.nd rfl (Or.inr rfl) (pe_ifExp (pt_cmpR op_eq (pe_callB (call_lenK (K := K)) (by rfl) T.b_len PySem.boot_len (pa_cons (pv 3) pa_nil)) pe_int (nomark _)) (pe_gi (by rfl) T.c_MOST_DEEDS) (pe_gi (by rfl) T.c_MOST_DEEDS_EACH)))
      (Evl.pss_cut (ps_if (PW.pt (pw_or (pt_cmpR op_gt (pe_callB (call_lenK (K := K)) (by rfl) T.b_len PySem.boot_len (pa_cons (pv 2) pa_nil)) (pe_gi (by rfl) T.c_MOST_DEEDS) (nomark _)) (pw_or1 (pt_val (pe_callB (call_anyK (K := K)) (by rfl) T.b_any bt_any (pa_cons (pe_lc (own := [("way", 5)]) (g := gName 5) (tt := tYes) rfl sc_Makerinit.nd (pi_seqK (K := K) (pv 3)) (blkOk_by (N := n_Makerinit) (sc := defScope s_Makerinit) (by decide +kernel)) (fun _ _ _ _ _ => pg_name (i := 5) sc_Makerinit.nd rfl (Or.inl rfl)) (fun _ _ _ _ _ => pts_nil) (fun _ _ _ _ _ => (pe_cmpR op_gt (pe_callB (call_lenK (K := K)) (by rfl) T.b_len PySem.boot_len (pa_cons (pv 5) pa_nil)) (pv 4) (nomark _)))) pa_nil)))))) (pss_one ps_never) pss_nil)
      (pss_cons (ps_fld (pv 0) (pv 1) rfl)
      (pss_cons (ps_fld (pv 0) (pe_k C_deep1 hr (by decide) (by rfl) (pa_cons (pv 2) pa_nil)) rfl)
      (pss_one (ps_fld (pv 0) (pe_k C_deep2 hr (by decide) (by rfl) (pa_cons (pv 3) pa_nil)) rfl))))))))), ?_⟩
  try dsimp only [cxOf]
  walk_at "rd"
  refine ⟨m.inlets, rfl, fun H1 e1 => ?_⟩
  walk_at "rd"
  refine ite_t (decide_eq_true i1) ?_
  walk_at "rd"
  rw [decide_eq_true i3]
  walk_at "rd"
  refine ⟨m.inlets, x, m.begin_, rfl, hx.ext e1, ok.bo, by omega, fun H2 e2 => ?_⟩
  walk_at "rd"
  refine ⟨m.inlets, y, m.ways, rfl, (hy.ext e1).ext e2, ok.w1, ok.w4, fun w hw => ⟨ok.wn w hw, Nat.le_trans (ok.wl w hw) (by decide), ok.wo w hw⟩, fun H3 e3 => ?_⟩
  have e13 := (e1.trans e2).trans e3
  have hys3 := hys.ext e13
  have hx3 := hx.ext e13
  walk_at "rd"
  have cont : ∀ most : Int, 24 ≤ most → Evl.tCut (tIfS (tOr (tTest (tOp (rI0 fun i j => V.bl (decide (j < i))) (tCB (rLenA K) (tCons (tVar 2) tNil)) (tC (V.int 600)))) (tB (tCB (rAny K) (tCons (tLc (iSeq K (tVar 3)) (gName 5) tYes (tOp (rI0 fun i j => V.bl (decide (j < i))) (tCB (rLenA K) (tCons (tVar 5) tNil)) (tVar 4)) (List.map (fun x => x.snd) [(("way" : Str), 5)])) tNil)))) tNever tNext)
      (tSeq (sFld K (tVar 0) (tVar 1) "inlets") (tSeq (sFld K (tVar 0) (tCall (spDeep1 K) [] E0 (tCons (tVar 2) tNil)) "begin") (sFld K (tVar 0) (tCall (spDeep2 K) [] E0 (tCons (tVar 3) tNil)) "ways")))
      { nx := fun x H' => Q V.non H', rt := Q } [some (.ref p), some (.int m.inlets), some x, some y, some (.int most), none] H3 := by
    intro most hmost
    refine ⟨fun σ' H' => σ' = [some (.ref p), some (.int m.inlets), some x, some y, some (.int most), none] ∧ Ext H H', ?_, ?_⟩
    · walk_at "rd"
      refine ite_d (fun h => absurd h (by omega)) (fun _ => ?_)
      walk_at "rd"
      refine lc_val (fun _ => .bl false) hys3 (by have := ok.w4; omega) (fun _ => rfl) (fun i z H4 hz e4 Q' k' => ?_) (fun pl ys H4 hpl e4 h4 hl4 hv4 => ?_)
      · have hi : i < m.ways.length := by
          have := (List.getElem?_eq_some_iff.mp hz).1
          omega
        have hwi : m.ways[i]? = some m.ways[i] := List.getElem?_eq_getElem hi
        have hzz := ((hyu i z _ hz hwi).ext e13).ext e4
        have hwl := ok.wl _ (List.getElem_mem hi)
        have ll := List.length_map (as := m.ways[i]) Dd.v
        walk_at "rd"
        have e : decide (most < (((m.ways[i]).map Dd.v).length : Int)) = false := decide_eq_false (by omega)
        rw [e]
        exact k' _ Ext.rfl'
      · walk_at "rd"
        refine rd_any h4 hv4 ?_
        walk_at "rd"
        exact ⟨rfl, e13.trans e4⟩
    · rintro σ' H4 ⟨rfl, e4⟩
      have hp4 := e4 _ _ hp
      walk_at "rd"
      refine go_sfld hp4 T.cl_Maker T.na_Maker_inlets (by decide) fun H5 b5 hp5 => ?_
      have hx5 := (hx.ext e4).extB b5 hp4
      have hy5 := (hy.ext e4).extB b5 hp4
      walk_at "rd"
      refine ⟨x, _, rfl, hx5, dd_flat _, by omega, fun q1 H6 hq1 e6 h6 => ?_⟩
      have hp6 := e6 _ _ hp5
      walk_at "rd"
      refine go_sfld hp6 T.cl_Maker T.na_Maker_begin (Nat.lt_of_le_of_lt (length_putF _ _ _) (by decide)) fun H7 b7 hp7 => ?_
      have h7 : TuA K H7 (.ref q1) (m.begin_.map Dd.v) := (TuA.of h6).extB b7 hp6
      have hy7 := (hy5.ext e6).extB b7 hp6
      walk_at "rd"
      refine ⟨y, _, rfl, hy7, by have := ok.w4; omega, fun w hw => Nat.le_trans (ok.wl w hw) (by decide), fun v H8 e8 hv => ?_⟩
      have hp8 := e8 _ _ hp7
      walk_at "rd"
      refine go_sfld hp8 T.cl_Maker T.na_Maker_ways (Nat.lt_of_le_of_lt (Nat.le_trans (length_putF _ _ _) (Nat.add_le_add_right (length_putF _ _ _) 1)) (by decide)) fun H9 b9 hp9 => ?_
      walk_at "rd"
      exact k H9 ⟨dx, .ref q1, v, hp9, (h7.ext e8).extB b9 hp8, hv.extB b9 hp8⟩ fun b o hb e => b9 _ _ hb (e8 _ _ (b7 _ _ hb (e6 _ _ (b5 _ _ hb (e4 _ _ e)))))
  refine ite_d (fun _ => ?_) (fun _ => ?_)
  · walk_at "rd"
    exact cont 600 (by decide)
  · walk_at "rd"
    exact cont 24 (by decide)
theorem k_Makereq (T : Facts K mg) : ∃ fd, Binds K fd ["self", "other"] [] ∧ FnOk P w K mg base CX0 1 (He.ma K (cM K) "__eq__") fd ["self", "other"] (spMkrEq K) := by
  obtain ⟨fd, F⟩ := T.F_Makereq
  have b := F.bindsN (ps := ["self", "other"]) fun _ _ _ _ _ _ us hl => match us, hl with | [_, _], _ => rfl
  refine ⟨fd, b, F.ok sc_Makereq (fun vs H Q E h => by obtain ⟨i, b, c, d, rfl, _⟩ := h; rfl) (fun cdv A outer s H vs Q E hr h => ?_)⟩
  obtain ⟨a, y, m, r, rfl, hm, hy, k⟩ := h
  obtain ⟨dx, b, w, h1, h2, h3⟩ := id hm
  have x := exF T
  refine (fun (h : ∃ t, PSs _ _ t ∧ _) => let ⟨t, h1, h2⟩ := h; ⟨t, PSs.nox h1, h2⟩) ?_
  refine ⟨_, (pss_one (ps_ret (pe_and (pe_callB (call_isiK2 (K := K)) (by rfl) T.b_isinstance bt_isinstance (pa_cons (pv 1) (pa_cons (pe_glob (v := .ref (He.ga K "Maker")) (by rfl) T.g_Maker rfl) pa_nil))) (pe_and (pe_cmpR op_eq (pe_fldK (K := K) (pv 0) rfl) (pe_fldK (K := K) (pv 1) rfl) (nomark _)) (pe_and (pe_cmpR (op_eqDK (K := K) hr.units) (pe_fldK (K := K) (pv 0) rfl) (pe_fldK (K := K) (pv 1) rfl) (nomark _)) (pe_one (pe_cmpR (op_eqDK (K := K) hr.units) (pe_fldK (K := K) (pv 0) rfl) (pe_fldK (K := K) (pv 1) rfl) (nomark _)))))))), ?_⟩
  try dsimp only [cxOf]
  walk_at "rd"
  rcases hy with ⟨c, m2, rfl, hm2, rfl⟩ | ⟨rfl, ⟨xs, hy⟩ | ⟨i, rfl⟩⟩
  · obtain ⟨dx2, b2, w2, g1, g2, g3⟩ := id hm2
    refine rd_isiC (ty_mkr T hm2) x.mm ?_
    walk_at "rd"
    refine go_fld h1 T.cl_Maker T.na_Maker_inlets (mf_i _ _ _) ?_
    walk_at "rd"
    refine go_fld g1 T.cl_Maker T.na_Maker_inlets (mf_i _ _ _) ?_
    walk_at "rd"
    rw [dec_vi]
    have k := k H Ext.rfl'
    unfold mEq at k
    refine ite_d (fun q1 => ?_) (fun q1 => ?_)
    · rw [decide_eq_true q1, Bool.true_and] at k
      walk_at "rd"
      refine go_fld h1 T.cl_Maker T.na_Maker_begin (mf_b _ _ _) ?_
      walk_at "rd"
      refine go_fld g1 T.cl_Maker T.na_Maker_begin (mf_b _ _ _) ?_
      walk_at "rd"
      refine go_eqDs h2 g2 ?_
      walk_at "rd"
      refine ite_d (fun q2 => ?_) (fun q2 => ?_)
      · rw [decide_eq_true q2, Bool.true_and] at k
        walk_at "rd"
        refine go_fld h1 T.cl_Maker T.na_Maker_ways (mf_w _ _ _) ?_
        walk_at "rd"
        refine go_fld g1 T.cl_Maker T.na_Maker_ways (mf_w _ _ _) ?_
        walk_at "rd"
        exact go_eqWs h3 g3 k
      · rw [decide_eq_false q2, Bool.false_and] at k
        walk_at "rd"
        exact k
    · rw [decide_eq_false q1, Bool.false_and] at k
      walk_at "rd"
      exact k
  · refine rd_isiC (ty_tu hy) x.tm ?_
    walk_at "rd"
    exact k H Ext.rfl'
  · refine rd_isiC ty_int x.im ?_
    walk_at "rd"
    exact k H Ext.rfl'
theorem k_Makerneed (T : Facts K mg) : Mth P w K mg base 8 (cM K) "need" (spNeed K) := by
  have C_check_inlet := k_check_inlet (P := P) (w := w) (base := base) T
  have C_is_course := k_is_course (P := P) (w := w) (base := base) T
  have C_need_on := k_need_on (P := P) (w := w) (base := base) T
  obtain ⟨fd, F⟩ := T.F_Makerneed
  refine ⟨fd, ["self", "inlet", "course"], T.cl_Maker, T.me_Makerneed, F.ok sc_Makerneed (fun vs H Q E h => by obtain ⟨i, b, c, d, e, g, rfl, _⟩ := h; rfl) (fun cdv A outer s H vs Q E hr h => ?_), F.bindsN fun _ _ _ _ _ _ us hl => match us, hl with | [_, _, _], _ => rfl⟩
  obtain ⟨a, i, x, m, cf, ct, rfl, hm, ok, hx, cok, h0, h1, k⟩ := h
  refine (fun (h : ∃ t, PSs _ _ t ∧ _) => let ⟨t, h1, h2⟩ := h; ⟨t, PSs.nox h1, h2⟩) ?_
  refine ⟨_, (pss_cons (ps_expr (pe_k C_check_inlet hr (by decide) (by rfl) (pa_cons (pv 0) (pa_cons (pv 1) pa_nil))))
      (pss_cons (ps_if (pt_not (pt_val (pe_k C_is_course hr (by decide) (by rfl) (pa_cons (pv 0) (pa_cons (pv 2) pa_nil))))) (pss_one ps_never) pss_nil)
      (pss_one (ps_ret (pe_k C_need_on hr (by decide) (by rfl) (pa_cons (pv 0) (pa_cons (pv 1) (pa_cons (pv 2) pa_nil)))))))), ?_⟩
  try dsimp only [cxOf]
  walk_at "rd"
  refine ⟨a, i, m, rfl, hm, h0, h1, fun H1 e1 => ?_⟩
  walk_at "rd"
  refine ⟨a, x, m, cf, ct, rfl, hm.ext e1, hx.ext e1, cok, fun H2 e2 => ?_⟩
  walk_at "rd"
  exact ⟨a, i, x, m, cf, ct, rfl, (hm.ext e1).ext e2, ok, (hx.ext e1).ext e2, cok, h0, h1, fun p H3 e3 hT => k p H3 ((e1.trans e2).trans e3) hT⟩
end
end K24
set_option Elab.async false
set_option linter.all false
set_option maxRecDepth 100000
set_option maxHeartbeats 4000000
/-! The law's draws. -/
namespace K24
open PySem PySem.Spec PyProof.Rows L2
section
variable {K : PySem.W.Frag} {σ : L2.St} {H : Hp} {v : V}
theorem rd_gsub {to ti : TE} {t : TSet} {QS : L2.St → Hp → Prop} (q : to σ H fun o H1 => ti σ H1 fun i H2 => t o i v H2 fun H3 => QS σ H3) : gSub to ti t v σ H QS := q
theorem go_set {p : Addr} {xs : List V} {j : Nat} {z : Int} {QS : Hp → Prop} (h : H p = some (.lst xs)) (ez : z = (j : Int)) (hj : j < xs.length) (q : ∀ H2, ExtB p H H2 → H2 p = some (.lst (xs.set j v)) → QS H2) : rSetL (.ref p) (.int z) v H QS := by
  subst ez
  exact ⟨p, xs, j, j, rfl, rfl, h, Evl.ixN_nat hj, q _ extB_upd upd_same⟩
end
/-- a source of draws stands at s -/
def Src (s : Addr) (H : Hp) : Prop := ∃ x y z : Int, H s = some (.lst [.int x, .int y, .int z])
theorem Src.ext {s : Addr} {H H' : Hp} (h : Src s H) (e : Ext H H') : Src s H' := let ⟨x, y, z, h⟩ := h; ⟨x, y, z, e _ _ h⟩
theorem ExtB.refl {s : Addr} {H : Hp} : ExtB s H H := fun _ _ _ h => h
theorem ExtB.trans {s : Addr} {H H1 H2 : Hp} (a : ExtB s H H1) (b : ExtB s H1 H2) : ExtB s H H2 := fun c o hc h => b c o hc (a c o hc h)
theorem ExtB.of {s : Addr} {H H1 : Hp} (e : Ext H H1) : ExtB s H H1 := fun c o _ h => e c o h
/-- another object, new since H, changes -/
theorem ExtB.also {s p : Addr} {H H1 H2 : Hp} (a : ExtB s H H1) (b : ExtB p H1 H2) (hp : H p = none) : ExtB s H H2 := fun c o hc h => b c o (ne_of_none h hp) (a c o hc h)
theorem Src.other {s p : Addr} {H H' : Hp} (h : Src s H) (e : ExtB p H H') (hne : s ≠ p) : Src s H' := let ⟨x, y, z, h⟩ := h; ⟨x, y, z, e _ _ hne h⟩
theorem Src.ne {s p : Addr} {H : Hp} (h : Src s H) (hp : H p = none) : s ≠ p := let ⟨_, _, _, h⟩ := h; ne_of_none h hp
theorem TuA.extS {K : PySem.W.Frag} {H H2 : Hp} {v : V} {xs ys : List V} {p : Addr} (h : TuA K H v xs) (e : ExtB p H H2) (hp : H p = some (.lst ys)) : TuA K H2 v xs := by
  obtain ⟨a, rfl, (h | ⟨o, h⟩) | h⟩ := h
  · exact ⟨a, rfl, .inl (.inl (e _ _ (ne_of h hp (by intro z; cases z)) h))⟩
  · exact ⟨a, rfl, .inl (.inr ⟨o, e _ _ (ne_of h hp (by intro z; cases z)) h⟩)⟩
  · exact ⟨a, rfl, .inr h⟩
theorem WsT.extS {K : PySem.W.Frag} {H H2 : Hp} {v : V} {ws : List (List Dd)} {ys : List V} {p : Addr} (h : WsT K H v ws) (e : ExtB p H H2) (hp : H p = some (.lst ys)) : WsT K H2 v ws :=
  let ⟨us, h1, h2, h3⟩ := h; ⟨us, h1.extS e hp, h2, fun j u w a b => (h3 j u w a b).extS e hp⟩
theorem MkrT.extS {K : PySem.W.Frag} {H H2 : Hp} {v : V} {m : Mkr} {ys : List V} {p : Addr} (h : MkrT K H v m) (e : ExtB p H H2) (hp : H p = some (.lst ys)) : MkrT K H2 v m :=
  let ⟨b, w, h1, h2, h3⟩ := h; ⟨b, w, h1.extS e hp, h2.extS e hp, h3.extS e hp⟩
local macro_rules | `(tactic| walk_at "tr") => `(tactic| first
  | (with_reducible assumption)
  | (with_reducible exact TuA.sq (by assumption)) | (with_reducible exact SqLv.sq (by assumption)) | (with_reducible exact SqA.ofL (by assumption)) | (with_reducible exact SqA.ofT (by assumption))
  | (with_reducible exact TuA.of (by assumption)) | (with_reducible exact SqLv.of (by assumption)) | (with_reducible exact WsT.wa (by assumption))
  | (with_reducible refine' TuA.sq (TuA.ext ?h ?e); (case e => with_reducible assumption); (case h => walk_at "tr"))
  | (with_reducible refine' SqA.ext ?h ?e; (case e => with_reducible assumption); (case h => walk_at "tr"))
  | (with_reducible refine' TuA.ext ?h ?e; (case e => with_reducible assumption); (case h => walk_at "tr"))
  | (with_reducible refine' SqLv.ext ?h ?e; (case e => with_reducible assumption); (case h => walk_at "tr"))
  | (with_reducible refine' WsA.ext ?h ?e; (case e => with_reducible assumption); (case h => walk_at "tr"))
  | (with_reducible refine' WsT.ext ?h ?e; (case e => with_reducible assumption); (case h => walk_at "tr"))
  | (with_reducible refine' MkrT.ext ?h ?e; (case e => with_reducible assumption); (case h => walk_at "tr"))
  | (with_reducible refine' MkrO.ext ?h ?e; (case e => with_reducible assumption); (case h => walk_at "tr"))
  | (with_reducible refine' TblO.ext ?h ?e; (case e => with_reducible assumption); (case h => walk_at "tr"))
  | (with_reducible refine' RawT.ext ?h ?e; (case e => with_reducible assumption); (case h => walk_at "tr"))
  | (with_reducible refine' ext_at ?h ?e; (case e => with_reducible assumption); (case h => walk_at "tr"))
  | (with_reducible exact Ext.rfl')
  | (with_reducible refine' Ext.trans ?h ?e; (case e => with_reducible assumption); (case h => walk_at "tr")))
local macro_rules | `(tactic| walk_at "rd1") => `(tactic| first
  | (with_reducible refine' rd_seq ?_) | (with_reducible refine' rd_asg ?_) | (with_reducible refine' rd_ret ?_) | (with_reducible refine' rd_if ?_) | (with_reducible refine' rd_drop ?_)
  | ((with_reducible refine' rd_var ?h ?q); (case h => exact rfl))
  | (with_reducible refine' rd_c ?_) | (with_reducible refine' rd_op ?_) | (with_reducible refine' rd_un ?_) | (with_reducible refine' rd_test ?_) | (with_reducible refine' rd_B ?_) | (with_reducible refine' rd_bl ?_)
  | (with_reducible refine' rd_and ?_) | (with_reducible refine' rd_or ?_) | (with_reducible refine' rd_not ?_) | (with_reducible refine' rd_andV ?_) | (with_reducible refine' rd_orV ?_) | (with_reducible refine' rd_notV ?_)
  | (with_reducible refine' rd_ifE ?_) | (with_reducible refine' rd_chain ?_) | (with_reducible refine' rd_nil ?_) | (with_reducible refine' rd_cons ?_) | (with_reducible refine' rd_cb ?_) | (with_reducible refine' rd_call0 ?_) | (with_reducible refine' rd_call ?_)
  | (with_reducible refine' rd_part ?_) | (with_reducible refine' rd_int ?_) | (with_reducible refine' rd_nopart ?_) | (with_reducible refine' rd_sl ?_) | (with_reducible refine' rd_tup ?_) | (with_reducible refine' rd_lst ?_)
  | (with_reducible refine' rd_I0 ?_) | (with_reducible refine' rd_U ?_) | (with_reducible refine' rd_intI ?_) | (with_reducible refine' rd_abs ?_) | (with_reducible refine' rd_lc ?_) | (with_reducible refine' rd_lr ?_)
  | (with_reducible refine' rd_next ?_) | (with_reducible refine' rd_cont ?_) | (with_reducible refine' rd_break ?_)
  | ((with_reducible refine' rd_len ?h ?q); (case h => walk_at "tr"))
  | ((with_reducible refine' rd_eq ?h ?q); (case h => exact rfl)) | ((with_reducible refine' rd_ne ?h ?q); (case h => exact rfl))
  | ((with_reducible refine' ite_t ?h ?q); (case h => exact rfl)) | ((with_reducible refine' ite_f ?h ?q); (case h => exact rfl))
  | (with_reducible refine' rd_gn ?_) | (with_reducible refine' rd_forL ?_) | (with_reducible refine' rd_forT ?_) | (with_reducible refine' rd_forR1 ?_) | (with_reducible refine' rd_forR2 ?_) | (with_reducible refine' rd_forR3 ?_)
  | (with_reducible refine' rd_make ?_) | (with_reducible refine' rd_sfld ?_) | (with_reducible refine' rd_mth ?_) | (with_reducible refine' rd_callO ?_)
  | (with_reducible refine' rd_forS ?_) | (with_reducible refine' rd_gsub ?_)
  | (with_reducible refine' rd_fld ?_) | (with_reducible refine' rd_asgG ?_) | (with_reducible refine' rd_bm ?_)
  | ((with_reducible refine' rd_gT2 ?h ?n ?q); (case h => walk_at "tr"); (case n => exact rfl)) | ((with_reducible refine' rd_gT3 ?h ?n ?q); (case h => walk_at "tr"); (case n => exact rfl))
  | dsimp only)
local macro_rules | `(tactic| walk_at "rd") => `(tactic| repeat (walk_at "rd1"))

def spSource (K : PySem.W.Frag) : Sp := fun vs H Q _ => ∃ (x : V) (k : Nat) (ns : List Int), vs = [x, .int (k : Int)] ∧ SqLv K H x (ns.map V.int) ∧ k ≤ 1 ∧ ns.length ≤ 63 ∧ (∀ z ∈ ns, Builtin.Int.intBits z ≤ 1048576) ∧
  ∀ p H', Ext H H' → H p = none → Src p H' → Q (.ref p) H'
def spPick : Sp := fun vs H Q _ => ∃ (s : Addr) (many : Int), vs = [.ref s, .int many] ∧ 0 < many ∧ many ≤ 1000 ∧ Src s H ∧ ∀ (d : Nat) H', (d : Int) < many → ExtB s H H' → Src s H' → Q (.int (d : Int)) H'
theorem bits_lt {z : Int} (h : Builtin.Int.intBits z ≤ 1048576) : ∃ n, n ≤ 1048576 ∧ z.natAbs < 2 ^ n := by
  unfold Builtin.Int.intBits at h
  by_cases hz : z = 0
  · subst hz
    exact ⟨0, Nat.zero_le _, by decide⟩
  · rw [if_neg (by simpa using hz)] at h
    exact ⟨_, h, Nat.lt_log2_self⟩
section
variable {P : Program} {w : World} {K : PySem.W.Frag} {mg : Str → Option Value} {base : Heap}
theorem k_law_is_integer (T : Facts K mg) : Cal P w K mg base 1 "_law_is_integer" ["_law_thing"] spInt := by
  refine cal_mk T.F_law_is_integer T.g_law_is_integer sc_law_is_integer (fun _ _ _ _ _ _ us hl => match us, hl with | [_], _ => rfl) (fun vs H Q E h => by obtain ⟨i, rfl, _⟩ := h; rfl) (fun f cdv A outer s H vs Q E hr h => ?_)
  obtain ⟨i, rfl, k⟩ := h
  refine ⟨_, (pss_one (ps_ret (pe_and (pe_callB (call_isiK2 (K := K)) (by rfl) T.b_isinstance bt_isinstance (pa_cons (pv 0) (pa_cons (pe_bltn (v := .ty "int") (by rfl) T.b_int bt_int rfl) pa_nil))) (pe_one (pe_not (pe_callB (call_isiK2 (K := K)) (by rfl) T.b_isinstance bt_isinstance (pa_cons (pv 0) (pa_cons (pe_bltn (v := .ty "bool") (by rfl) T.b_bool bt_bool rfl) pa_nil)))))))), ?_⟩
  try dsimp only [cxOf]
  walk_at "rd"
  refine rd_isi ty_int kit_ii ?_
  walk_at "rd"
  refine rd_isi ty_int kit_ib ?_
  walk_at "rd"
  exact k _ Ext.rfl'
theorem k_law_is_count (T : Facts K mg) : Cal P w K mg base 2 "_law_is_count" ["_law_thing"] spCount := by
  have C_law_is_integer := k_law_is_integer (P := P) (w := w) (base := base) T
  refine cal_mk T.F_law_is_count T.g_law_is_count sc_law_is_count (fun _ _ _ _ _ _ us hl => match us, hl with | [_], _ => rfl) (fun vs H Q E h => by obtain ⟨i, rfl, _⟩ := h; rfl) (fun f cdv A outer s H vs Q E hr h => ?_)
  obtain ⟨i, rfl, h0, k⟩ := h
  refine ⟨_, (pss_one (ps_ret (pe_and (pe_k C_law_is_integer hr (by decide) (by rfl) (pa_cons (pv 0) pa_nil)) (pe_one (pe_cmpR op_ge (pv 0) pe_int (nomark _)))))), ?_⟩
  try dsimp only [cxOf]
  walk_at "rd"
  refine ⟨i, rfl, fun H1 e1 => ?_⟩
  walk_at "rd"
  rw [decide_eq_true h0]
  exact k _ e1
theorem k_law_source (T : Facts K mg) : Cal P w K mg base 1 "_law_source" ["_law_script", "_law_place"] (spSource K) := by
  refine cal_mk T.F_law_source T.g_law_source sc_law_source (fun _ _ _ _ _ _ us hl => match us, hl with | [_, _], _ => rfl) (fun vs H Q E h => by obtain ⟨i, b, c, rfl, _⟩ := h; rfl) (fun f cdv A outer s H vs Q E hr h => ?_)
  obtain ⟨x, kk, ns, rfl, hx, hk, hz, hbits, k⟩ := h
  have ll := len_int ns
  refine ⟨_, (Evl.pss_cut (ps_set (i := 2) sc_law_source.nd rfl (Or.inl rfl) (pe_ifExp (pt_cmpR op_lt (pv 1) (pe_callB (call_lenK (K := K)) (by rfl) T.b_len PySem.boot_len (pa_cons (pv 0) pa_nil)) (nomark _)) (pe_ix (ix_K (K := K)) (pv 0) (pv 1) (fun _ _ => rfl)) (pe_op op_add (pe_op op_mul pe_int (pv 1)) pe_int)))
      (pss_cons (ps_set (i := 3) sc_law_source.nd rfl (Or.inl rfl) (pe_op op_mod (pe_callTy call_intA (by rfl) T.b_int bt_int (pa_cons (pe_op op_add (pe_op op_mod (pe_callTy call_intA (by rfl) T.b_int bt_int (pa_cons (pv 2) pa_nil)) pe_int) (pe_op op_mul pe_int (pv 1))) pa_nil)) pe_int))
      (pss_cons (ps_for PassesOwn.never rfl (pi_listK (K := K) (pe_slice (sl_listK (K := K)) (pv 0) po_none (po_some pe_int))) (pg_name (i := 4) sc_law_source.nd rfl (Or.inl rfl)) (pss_one (ps_set (i := 3) sc_law_source.nd rfl (Or.inl rfl) (pe_op op_mod (pe_callTy call_intA (by rfl) T.b_int bt_int (pa_cons (pe_op op_add (pe_op op_mul (pv 3) pe_int) (pe_op op_mod (pe_callTy call_intA (by rfl) T.b_int bt_int (pa_cons (pv 4) pa_nil)) pe_int)) pa_nil)) pe_int))))
      (pss_cons (ps_set (i := 5) sc_law_source.nd rfl (Or.inl rfl) (pe_callB call_absA (by rfl) T.b_abs bt_abs (pa_cons (pv 2) pa_nil)))
      (pss_cons (ps_if (pt_cmpR op_lt (pv 5) (pe_op op_pow pe_int pe_int) (nomark _)) (pss_one (ps_ret (pe_lst (pa_cons pe_int (pa_cons (pv 3) (pa_cons pe_int pa_nil)))))) pss_nil)
      (pss_cons (ps_if (pt_cmpR op_gt (pe_op op_shr (pv 5) pe_int) pe_int (nomark _)) (pss_one (ps_set (i := 5) sc_law_source.nd rfl (Or.inl rfl) (pe_op op_sub (pv 5) (pe_op op_shlW (pe_op op_shr (pv 5) pe_int) pe_int)))) pss_nil)
      (pss_one (ps_ret (pe_lst (pa_cons (pv 5) (pa_cons (pv 3) (pa_cons pe_int pa_nil)))))))))))), ?_⟩
  try dsimp only [cxOf]
  refine ⟨fun σ' H' => ∃ (c : Int) (n : Nat), σ' = [some x, some (.int (kk : Int)), some (.int c), none, none, none] ∧ H' = H ∧ n ≤ 1048576 ∧ c.natAbs < 2 ^ n, ?_, ?_⟩
  · have hx' := hx.sq
    walk_at "rd"
    refine ite_d (fun h1 => ?_) (fun h1 => ?_)
    · have hlt : kk < ns.length := by omega
      walk_at "rd"
      refine rd_ix hx' (at_of (j := kk) rfl (getD_at hlt)) ?_
      walk_at "rd"
      have hm : ns.getD kk 0 ∈ ns := by
        rw [List.getD_eq_getElem?_getD, List.getElem?_eq_getElem hlt]
        exact List.getElem_mem _
      obtain ⟨n, h2, h3⟩ := bits_lt (hbits _ hm)
      exact ⟨_, n, rfl, rfl, h2, h3⟩
    · walk_at "rd"
      refine rd_I (show CMul _ _ from .inl ⟨by omega, by omega⟩) ?_
      walk_at "rd"
      refine ⟨_, 10, rfl, rfl, by decide, ?_⟩
      have e : (2 : Nat) ^ 10 = 1024 := by decide
      rw [e]
      omega
  rintro σ' H' ⟨c, n, rfl, rfl, hn, hc⟩
  walk_at "rd"
  refine rd_I (show (0 : Int) < _ by decide) ?_
  walk_at "rd"
  refine rd_I (show CMul _ _ from .inl ⟨by decide, by decide⟩) ?_
  walk_at "rd"
  refine rd_I (show (0 : Int) < _ by decide) ?_
  walk_at "rd"
  refine rd_slL hx fun p H1 hp e1 h1 => ?_
  walk_at "rd"
  replace h1 : H1 p = some (.lst (cutV (ns.map V.int) none (some ((2 : Nat) : Int)))) := h1
  rw [cut_to _ 2] at h1
  refine go_forL (SqLv.of h1) (fun i σ' H'' => ∃ z v4, σ' = [some x, some (.int (kk : Int)), some (.int c), some (.int z), v4, none] ∧ Ext H1 H'') ⟨_, _, rfl, Ext.rfl'⟩ (fun i σ' H'' ⟨_, _, _, e⟩ => (SqLv.of h1).ext e) ?_ ?_
  · rintro i y σ' H2 hy ⟨z, v4, rfl, e2⟩
    rw [← List.map_take] at hy
    obtain ⟨q, hq, rfl⟩ := map_at hy
    walk_at "rd"
    refine rd_I (show CMul _ _ from .inr ⟨by decide, by decide⟩) ?_
    walk_at "rd"
    refine rd_I (show (0 : Int) < _ by decide) ?_
    walk_at "rd"
    refine rd_I (show (0 : Int) < _ by decide) ?_
    walk_at "rd"
    exact ⟨_, _, rfl, e2⟩
  rintro σ' H2 ⟨z, v4, rfl, e2⟩
  have e12 := e1.trans e2
  walk_at "rd"
  refine rd_I (show CPow _ _ from ⟨by decide, by decide, by decide⟩) ?_
  walk_at "rd"
  have fin : ∀ u : Int, kLst Q [V.int u, V.int z, V.int 0] H2 := fun u => go_lst sz3 fun p H3 hp e3 h3 => k p H3 (e12.trans e3) (ext_free e12 hp) ⟨_, _, _, h3⟩
  have hnat : (if c < 0 then -c else c).natAbs < 2 ^ n := by
    split
    · rw [Int.natAbs_neg]; exact hc
    · exact hc
  generalize (if c < 0 then -c else c) = u at *
  refine ite_d (fun _ => ?_) (fun _ => ?_)
  · walk_at "rd"
    exact fin _
  · walk_at "rd"
    refine rd_I (show (0 : Int) ≤ _ by decide) ?_
    walk_at "rd"
    refine ite_d (fun _ => ?_) (fun _ => ?_)
    · walk_at "rd"
      refine rd_I (show (0 : Int) ≤ _ by decide) ?_
      walk_at "rd"
      refine rd_I (C := CShl) ?_ ?_
      · exact shl_ok (j := 4000) (n := n) (Nat.lt_of_le_of_lt (Int.natAbs_ediv_le_natAbs _ _) hnat) (by omega)
      walk_at "rd"
      exact fin _
    · walk_at "rd"
      exact fin _
theorem k_law_pick (T : Facts K mg) : Cal P w K mg base 1 "_law_pick" ["_law_source_here", "_law_many"] spPick := by
  refine cal_mk T.F_law_pick T.g_law_pick sc_law_pick (fun _ _ _ _ _ _ us hl => match us, hl with | [_, _], _ => rfl) (fun vs H Q E h => by obtain ⟨i, b, rfl, _⟩ := h; rfl) (fun f cdv A outer s H vs Q E hr h => ?_)
  obtain ⟨s, many, rfl, hm0, hm1, ⟨x, y, z, hs⟩, k⟩ := h
  refine ⟨_, (pss_cons (ps_if (pt_cmpR op_gt (pe_ix (ix_K (K := K)) (pv 0) pe_int (fun _ _ => rfl)) pe_int (nomark _)) (pss_cons (ps_set (i := 2) sc_law_pick.nd rfl (Or.inl rfl) (pe_op op_mod (pe_callTy call_intA (by rfl) T.b_int bt_int (pa_cons (pe_ix (ix_K (K := K)) (pv 0) pe_int (fun _ _ => rfl)) pa_nil)) (pv 1)))
      (pss_cons (ps_asg (pe_op op_fdiv (pe_ix (ix_K (K := K)) (pv 0) pe_int (fun _ _ => rfl)) (pv 1)) (pg_sub (pv 0) pe_int set_list))
      (pss_one (ps_ret (pv 2))))) pss_nil)
      (pss_cons (ps_asg (pe_op op_add (pe_ix (ix_K (K := K)) (pv 0) pe_int (fun _ _ => rfl)) pe_int) (pg_sub (pv 0) pe_int set_list))
      (pss_cons (ps_set (i := 3) sc_law_pick.nd rfl (Or.inl rfl) (pe_op op_mod (pe_callTy call_intA (by rfl) T.b_int bt_int (pa_cons (pe_op op_mul (pe_op op_add (pe_ix (ix_K (K := K)) (pv 0) pe_int (fun _ _ => rfl)) (pe_op op_mul pe_int (pe_ix (ix_K (K := K)) (pv 0) pe_int (fun _ _ => rfl)))) pe_int) pa_nil)) pe_int))
      (pss_cons (ps_set (i := 3) sc_law_pick.nd rfl (Or.inl rfl) (pe_op op_mod (pe_callTy call_intA (by rfl) T.b_int bt_int (pa_cons (pe_op op_add (pe_op op_add (pe_op op_mul (pv 3) (pv 3)) (pe_op op_mul pe_int (pe_ix (ix_K (K := K)) (pv 0) pe_int (fun _ _ => rfl)))) (pe_ix (ix_K (K := K)) (pv 0) pe_int (fun _ _ => rfl))) pa_nil)) pe_int))
      (pss_cons (ps_set (i := 3) sc_law_pick.nd rfl (Or.inl rfl) (pe_op op_mod (pe_callTy call_intA (by rfl) T.b_int bt_int (pa_cons (pe_op op_add (pe_op op_mul (pv 3) pe_int) pe_int) pa_nil)) pe_int))
      (pss_cons (ps_set (i := 3) sc_law_pick.nd rfl (Or.inl rfl) (pe_op op_mod (pe_callTy call_intA (by rfl) T.b_int bt_int (pa_cons (pe_op op_add (pe_op op_mul (pv 3) (pv 3)) (pv 3)) pa_nil)) pe_int))
      (pss_one (ps_ret (pe_op op_mod (pe_callTy call_intA (by rfl) T.b_int bt_int (pa_cons (pe_op op_fdiv (pv 3) pe_int) pa_nil)) (pv 1)))))))))), ?_⟩
  try dsimp only [cxOf]
  have fin : ∀ (u : Int) H' x y z, ExtB s H H' → H' s = some (.lst [.int x, .int y, .int z]) → Q (.int (u % many)) H' := fun u H' x y z e h => by
    have h0 := Int.emod_nonneg u (show many ≠ 0 by omega)
    have h1 := Int.emod_lt_of_pos u hm0
    have e2 : u % many = (((u % many).toNat : Nat) : Int) := by omega
    rw [e2]
    exact k _ H' (by omega) e ⟨x, y, z, h⟩
  have hq : SqA K H (.ref s) [.int x, .int y, .int z] := SqA.ofL hs
  walk_at "rd"
  refine rd_ix hq (at_of (j := 0) rfl rfl) ?_
  walk_at "rd"
  refine ite_d (fun h0 => ?_) (fun h0 => ?_)
  · walk_at "rd"
    refine rd_ix hq (at_of (j := 0) rfl rfl) ?_
    walk_at "rd"
    refine rd_I hm0 ?_
    walk_at "rd"
    refine rd_ix hq (at_of (j := 0) rfl rfl) ?_
    walk_at "rd"
    refine rd_I (show CDiv _ _ from ⟨hm0, by omega⟩) ?_
    walk_at "rd"
    refine go_set hs (j := 0) rfl (by simp) fun H1 b1 h1 => ?_
    walk_at "rd"
    exact fin x H1 _ _ _ b1 h1
  · walk_at "rd"
    refine rd_ix hq (at_of (j := 2) rfl rfl) ?_
    walk_at "rd"
    refine go_set hs (j := 2) rfl (by simp) fun H1 b1 h1 => ?_
    have h1' : H1 s = some (.lst [.int x, .int y, .int (z + 1)]) := h1
    have hq1 : SqA K H1 (.ref s) [.int x, .int y, .int (z + 1)] := SqA.ofL h1'
    walk_at "rd"
    refine rd_ix hq1 (at_of (j := 1) rfl rfl) ?_
    walk_at "rd"
    refine rd_ix hq1 (at_of (j := 2) rfl rfl) ?_
    refine rd_I (show CMul _ _ from .inl ⟨by decide, by decide⟩) ?_
    walk_at "rd"
    refine rd_I (show CMul _ _ from .inr ⟨by decide, by decide⟩) ?_
    walk_at "rd"
    refine rd_I (show (0 : Int) < _ by decide) ?_
    walk_at "rd"
    generalize hv1 : ((y + 104729 * (z + 1)) * 48271) % 2147483647 = v1
    have b1a : 0 ≤ v1 ∧ v1 < 2147483647 := by rw [← hv1]; exact ⟨Int.emod_nonneg _ (by decide), Int.emod_lt_of_pos _ (by decide)⟩
    refine rd_I (show CMul _ _ from .inl ⟨by omega, by omega⟩) ?_
    walk_at "rd"
    refine rd_ix hq1 (at_of (j := 2) rfl rfl) ?_
    refine rd_I (show CMul _ _ from .inl ⟨by decide, by decide⟩) ?_
    walk_at "rd"
    refine rd_ix hq1 (at_of (j := 1) rfl rfl) ?_
    walk_at "rd"
    refine rd_I (show (0 : Int) < _ by decide) ?_
    walk_at "rd"
    refine rd_I (show CMul _ _ from .inr ⟨by decide, by decide⟩) ?_
    walk_at "rd"
    refine rd_I (show (0 : Int) < _ by decide) ?_
    walk_at "rd"
    generalize hv3 : ((v1 * v1 + 7 * (z + 1) + y) % 2147483629 * 69621 + 5) % 2147483647 = v3
    have b3a : 0 ≤ v3 ∧ v3 < 2147483647 := by rw [← hv3]; exact ⟨Int.emod_nonneg _ (by decide), Int.emod_lt_of_pos _ (by decide)⟩
    refine rd_I (show CMul _ _ from .inl ⟨by omega, by omega⟩) ?_
    walk_at "rd"
    refine rd_I (show (0 : Int) < _ by decide) ?_
    walk_at "rd"
    refine rd_I (show CDiv _ _ from ⟨by decide, by decide⟩) ?_
    walk_at "rd"
    refine rd_I hm0 ?_
    walk_at "rd"
    exact fin _ H1 _ _ _ b1 h1'
end
end K24
set_option Elab.async false
set_option linter.all false
set_option maxRecDepth 100000
set_option maxHeartbeats 4000000
/-! Makers and courses that are drawn. -/
namespace K24
open PySem PySem.Spec PyProof.Rows L2
local macro_rules | `(tactic| walk_at "tr") => `(tactic| first
  | (with_reducible assumption)
  | (with_reducible exact TuA.sq (by assumption)) | (with_reducible exact SqLv.sq (by assumption)) | (with_reducible exact SqA.ofL (by assumption)) | (with_reducible exact SqA.ofT (by assumption))
  | (with_reducible exact TuA.of (by assumption)) | (with_reducible exact SqLv.of (by assumption)) | (with_reducible exact WsT.wa (by assumption))
  | (with_reducible refine' TuA.sq (TuA.ext ?h ?e); (case e => with_reducible assumption); (case h => walk_at "tr"))
  | (with_reducible refine' SqA.ext ?h ?e; (case e => with_reducible assumption); (case h => walk_at "tr"))
  | (with_reducible refine' TuA.ext ?h ?e; (case e => with_reducible assumption); (case h => walk_at "tr"))
  | (with_reducible refine' SqLv.ext ?h ?e; (case e => with_reducible assumption); (case h => walk_at "tr"))
  | (with_reducible refine' WsA.ext ?h ?e; (case e => with_reducible assumption); (case h => walk_at "tr"))
  | (with_reducible refine' WsT.ext ?h ?e; (case e => with_reducible assumption); (case h => walk_at "tr"))
  | (with_reducible refine' MkrT.ext ?h ?e; (case e => with_reducible assumption); (case h => walk_at "tr"))
  | (with_reducible refine' MkrO.ext ?h ?e; (case e => with_reducible assumption); (case h => walk_at "tr"))
  | (with_reducible refine' TblO.ext ?h ?e; (case e => with_reducible assumption); (case h => walk_at "tr"))
  | (with_reducible refine' RawT.ext ?h ?e; (case e => with_reducible assumption); (case h => walk_at "tr"))
  | (with_reducible refine' ext_at ?h ?e; (case e => with_reducible assumption); (case h => walk_at "tr"))
  | (with_reducible exact Ext.rfl')
  | (with_reducible refine' Ext.trans ?h ?e; (case e => with_reducible assumption); (case h => walk_at "tr")))
local macro_rules | `(tactic| walk_at "rd1") => `(tactic| first
  | (with_reducible refine' rd_seq ?_) | (with_reducible refine' rd_asg ?_) | (with_reducible refine' rd_ret ?_) | (with_reducible refine' rd_if ?_) | (with_reducible refine' rd_drop ?_)
  | ((with_reducible refine' rd_var ?h ?q); (case h => exact rfl))
  | (with_reducible refine' rd_c ?_) | (with_reducible refine' rd_op ?_) | (with_reducible refine' rd_un ?_) | (with_reducible refine' rd_test ?_) | (with_reducible refine' rd_B ?_) | (with_reducible refine' rd_bl ?_)
  | (with_reducible refine' rd_and ?_) | (with_reducible refine' rd_or ?_) | (with_reducible refine' rd_not ?_) | (with_reducible refine' rd_andV ?_) | (with_reducible refine' rd_orV ?_) | (with_reducible refine' rd_notV ?_)
  | (with_reducible refine' rd_ifE ?_) | (with_reducible refine' rd_chain ?_) | (with_reducible refine' rd_nil ?_) | (with_reducible refine' rd_cons ?_) | (with_reducible refine' rd_cb ?_) | (with_reducible refine' rd_call0 ?_) | (with_reducible refine' rd_call ?_)
  | (with_reducible refine' rd_part ?_) | (with_reducible refine' rd_int ?_) | (with_reducible refine' rd_nopart ?_) | (with_reducible refine' rd_sl ?_) | (with_reducible refine' rd_tup ?_) | (with_reducible refine' rd_lst ?_)
  | (with_reducible refine' rd_I0 ?_) | (with_reducible refine' rd_U ?_) | (with_reducible refine' rd_intI ?_) | (with_reducible refine' rd_abs ?_) | (with_reducible refine' rd_lc ?_) | (with_reducible refine' rd_lr ?_)
  | (with_reducible refine' rd_next ?_) | (with_reducible refine' rd_cont ?_) | (with_reducible refine' rd_break ?_)
  | ((with_reducible refine' rd_len ?h ?q); (case h => walk_at "tr"))
  | ((with_reducible refine' rd_eq ?h ?q); (case h => exact rfl)) | ((with_reducible refine' rd_ne ?h ?q); (case h => exact rfl))
  | ((with_reducible refine' ite_t ?h ?q); (case h => exact rfl)) | ((with_reducible refine' ite_f ?h ?q); (case h => exact rfl))
  | (with_reducible refine' rd_gn ?_) | (with_reducible refine' rd_forL ?_) | (with_reducible refine' rd_forT ?_) | (with_reducible refine' rd_forR1 ?_) | (with_reducible refine' rd_forR2 ?_) | (with_reducible refine' rd_forR3 ?_)
  | (with_reducible refine' rd_make ?_) | (with_reducible refine' rd_sfld ?_) | (with_reducible refine' rd_mth ?_) | (with_reducible refine' rd_callO ?_)
  | (with_reducible refine' rd_forS ?_) | (with_reducible refine' rd_gsub ?_)
  | (with_reducible refine' rd_fld ?_) | (with_reducible refine' rd_asgG ?_) | (with_reducible refine' rd_bm ?_)
  | ((with_reducible refine' rd_gT2 ?h ?n ?q); (case h => walk_at "tr"); (case n => exact rfl)) | ((with_reducible refine' rd_gT3 ?h ?n ?q); (case h => walk_at "tr"); (case n => exact rfl))
  | dsimp only)
local macro_rules | `(tactic| walk_at "rd") => `(tactic| repeat (walk_at "rd1"))

def CrsT (K : PySem.W.Frag) (H : Hp) (v : V) (f t : List Nat) : Prop := ∃ x y, TuA K H v [x, y] ∧ TuA K H x (f.map nv) ∧ TuA K H y (t.map nv)
theorem CrsT.ext {K : PySem.W.Frag} {H H' : Hp} {v : V} {f t : List Nat} (h : CrsT K H v f t) (e : Ext H H') : CrsT K H' v f t := let ⟨x, y, h1, h2, h3⟩ := h; ⟨x, y, h1.ext e, h2.ext e, h3.ext e⟩
theorem CrsT.ca {K : PySem.W.Frag} {H : Hp} {v : V} {f t : List Nat} (h : CrsT K H v f t) : CrsA K H v f t := let ⟨x, y, h1, h2, h3⟩ := h; ⟨x, y, h1.sq, h2.sq, h3.sq⟩
def spLDeeds : Sp := fun vs H Q _ => ∃ (s : Addr) (n many gives : Int), vs = [.ref s, .int n, .int many, .int gives] ∧ 1 ≤ n ∧ n ≤ 3 ∧ 0 ≤ many ∧ many ≤ 10 ∧ Src s H ∧
  ∀ p (ds : List Dd) H', H p = none → ExtB s H H' → Src s H' → H' p = some (.lst (ds.map Dd.v)) → okDs n ds → (ds.length : Int) = many → Q (.ref p) H'
def spLMaker (K : PySem.W.Frag) : Sp := fun vs H Q _ => ∃ (s : Addr) (n : Int), vs = [.ref s, .int n, .int 4, .bl true] ∧ 1 ≤ n ∧ n ≤ 3 ∧ Src s H ∧
  ∀ v (m : Mkr) H', ExtB s H H' → Src s H' → MkrT K H' v m → m.Ok → m.begin_.length ≤ 5 → (∀ w ∈ m.ways, w.length ≤ 5) → Q v H'
def spLCourse (K : PySem.W.Frag) : Sp := fun vs H Q _ => ∃ (s : Addr) (v : V) (m : Mkr) (rounds : Nat), vs = [.ref s, v, .int (rounds : Int)] ∧ MkrT K H v m ∧ m.Ok ∧ rounds ≤ 200 ∧ Src s H ∧
  ∀ u (cf ct : List Nat) H', ExtB s H H' → Src s H' → CrsT K H' u cf ct → CrsOk m.ways.length cf ct → Q u H'
def spMade (K : PySem.W.Frag) : Sp := fun vs H Q _ => ∃ (v : V) (m : Mkr), vs = [v] ∧ MkrT K H v m ∧ m.Ok ∧ ∀ p H', Ext H H' → MkrO K H' p m → Q (.ref p) H'
theorem okDs_app {n : Int} {ds : List Dd} {d : Dd} (h : okDs n ds) (hd : ∀ i, d = .take i → 0 ≤ i ∧ i < n) : okDs n (ds ++ [d]) := fun i hi => by
  rcases List.mem_append.mp hi with hi | hi
  · exact h i hi
  · exact hd i (List.mem_singleton.mp hi).symm
section
variable {K : PySem.W.Frag} {σ : L2.St} {H : Hp} {Q : VK} {te : TE} {j : Nat} {vs : List Nat} {s : Addr}
theorem lr_draw {n many : Nat} (hn : n ≤ 1000) (src : Src s H) (hw : ∀ x, wipe ((wipe σ vs).set j (some x)) vs = wipe σ vs)
    (el : ∀ (i : Nat) H2, ExtB s H H2 → Src s H2 → ∀ Q' : VK, (∀ (d : Nat) H3, d < many → ExtB s H2 H3 → Src s H3 → Q' (nv d) H3) → te ((wipe σ vs).set j (some (.int (i : Int)))) H2 Q')
    (q : ∀ p (ns : List Nat) H2, H p = none → ExtB s H H2 → Src s H2 → H2 p = some (.lst (ns.map nv)) → ns.length = n → (∀ k ∈ ns, k < many) → Q (.ref p) H2) : lrK j te vs σ Q [.int (n : Int)] H := by
  refine ⟨n, rfl, by omega, by omega, fun D hD => ?_⟩
  have hne := src.ne hD
  have en : (n : Int).toNat = n := by omega
  rw [en]
  refine lc_range (lo := 0) (n := n) (fun i H' => ExtB s H H' ∧ Src s H' ∧ ∃ ns : List Nat, H' D = some (.lst (ns.map nv)) ∧ ns.length = i ∧ ∀ k ∈ ns, k < many)
    ⟨ExtB.of (Ext.upd hD), src.ext (Ext.upd hD), [], upd_same, rfl, fun k hk => by cases hk⟩ (fun i H' hi I => ?_) (fun H' I => ?_)
  · refine ⟨hw _, ?_⟩
    obtain ⟨b, sr, ns, h1, h2, h3⟩ := I
    show (if true = true then te ((wipe σ vs).set j (some (.int ((0 : Int) + (i : Int))))) H' (fun y H4 => ∃ acc, H4 D = some (.lst acc) ∧ acc.length < sizeLine ∧ (ExtB s H (upd H4 D (.lst (acc ++ [y]))) ∧ Src s (upd H4 D (.lst (acc ++ [y]))) ∧ ∃ ns : List Nat, (upd H4 D (.lst (acc ++ [y]))) D = some (.lst (ns.map nv)) ∧ ns.length = i + 1 ∧ ∀ k ∈ ns, k < many)) else (ExtB s H H' ∧ Src s H' ∧ ∃ ns : List Nat, H' D = some (.lst (ns.map nv)) ∧ ns.length = i + 1 ∧ ∀ k ∈ ns, k < many))
    rw [if_pos rfl]
    have ez : (0 : Int) + (i : Int) = (i : Int) := by omega
    rw [ez]
    refine el i H' b sr _ fun d H4 hd b4 sr4 => ?_
    have hl : (ns.map nv).length = ns.length := List.length_map ..
    refine ⟨ns.map nv, b4 _ _ (Ne.symm hne) h1, Nat.lt_of_le_of_lt (show (ns.map nv).length ≤ 1000 by omega) (by decide), (b.trans b4).also extB_upd hD, sr4.other extB_upd hne, ns ++ [d], ?_, by simp [h2], fun k hk => ?_⟩
    · rw [upd_same, List.map_append]
      rfl
    · rcases List.mem_append.mp hk with hk | hk
      · exact h3 k hk
      · rw [List.mem_singleton.mp hk]
        exact hd
  · obtain ⟨b, sr, ns, h1, h2, h3⟩ := I
    exact q D ns H' hD b sr h1 h2 h3
theorem go_notIn {x y : V} {xs : List V} (h : SqA K H y xs) (hx : flatV x = true) (ha : xs.all flatV = true) (q : Q (.bl (!inV x xs)) H) : rIn K true x y H Q := by
  obtain ⟨a, rfl, h⟩ := h
  exact ⟨a, xs, rfl, h, hx, ha, q⟩
theorem go_in {x y : V} {xs : List V} (h : SqA K H y xs) (hx : flatV x = true) (ha : xs.all flatV = true) (q : Q (.bl (inV x xs)) H) : rIn K false x y H Q := by
  obtain ⟨a, rfl, h⟩ := h
  exact ⟨a, xs, rfl, h, hx, ha, q⟩
end
theorem flat_dds (ds : List Dd) : (ds.map Dd.v).all flatV = true := by
  rw [List.all_eq_true]
  intro z hz
  obtain ⟨d, _, rfl⟩ := List.mem_map.mp hz
  exact d.flat
theorem menu8 {d : Nat} (h : d < 8) : ∃ v : Int, atI [V.int 0, .int 1, .int 2, .int 0, .int 3, .int 1, .int 4, .int 2] (d : Int) = some (.int v) ∧ 0 ≤ v ∧ v ≤ 4 := by
  have : d = 0 ∨ d = 1 ∨ d = 2 ∨ d = 3 ∨ d = 4 ∨ d = 5 ∨ d = 6 ∨ d = 7 := by omega
  rcases this with rfl | rfl | rfl | rfl | rfl | rfl | rfl | rfl <;> exact ⟨_, rfl, by decide, by decide⟩
theorem menu4 {d : Nat} (h : d < 4) : ∃ v : Int, atI [V.int 2, .int 2, .int 1, .int 3] (d : Int) = some (.int v) := by
  have : d = 0 ∨ d = 1 ∨ d = 2 ∨ d = 3 := by omega
  rcases this with rfl | rfl | rfl | rfl <;> exact ⟨_, rfl⟩
section
variable {P : Program} {w : World} {K : PySem.W.Frag} {mg : Str → Option Value} {base : Heap}
theorem k_law_deeds (T : Facts K mg) : Cal P w K mg base 2 "_law_deeds" ["_law_source_here", "_law_inlets", "_law_many", "_law_gives"] spLDeeds := by
  have C_law_pick := k_law_pick (P := P) (w := w) (base := base) T
  refine cal_mk T.F_law_deeds T.g_law_deeds sc_law_deeds (fun _ _ _ _ _ _ us hl => match us, hl with | [_, _, _, _], _ => rfl) (fun vs H Q E h => by obtain ⟨i, b, c, d, rfl, _⟩ := h; rfl) (fun f cdv A outer s0 H vs Q E hr h => ?_)
  obtain ⟨s, n, many, gives, rfl, hn1, hn3, hm0, hm1, src, k⟩ := h
  refine ⟨_, (pss_cons (ps_set (i := 4) sc_law_deeds.nd rfl (Or.inl rfl) (pe_lst pa_nil))
      (pss_cons (ps_for PassesOwn.never rfl (pi_range1 (by rfl) T.b_range (pa_cons (pv 2) pa_nil)) (pg_name (i := 5) sc_law_deeds.nd rfl (Or.inl rfl)) (pss_one (ps_if (pt_cmpR op_lt (pe_k C_law_pick hr (by decide) (by rfl) (pa_cons (pv 0) (pa_cons pe_int pa_nil))) (pv 3) (nomark _)) (pss_one (ps_expr (pe_bm PySem.F.plainAttrs_list PySem.F.slot_list_append PySem.F.type_list_append mt_append (pv 4) (pa_cons pe_str pa_nil)))) (pss_one (ps_expr (pe_bm PySem.F.plainAttrs_list PySem.F.slot_list_append PySem.F.type_list_append mt_append (pv 4) (pa_cons (pe_k C_law_pick hr (by decide) (by rfl) (pa_cons (pv 0) (pa_cons (pv 1) pa_nil))) pa_nil)))))))
      (pss_one (ps_ret (pv 4))))), ?_⟩
  try dsimp only [cxOf]
  walk_at "rd"
  refine go_lst (Nat.zero_le _) fun p H1 hp e1 h1 => ?_
  have hne := src.ne hp
  walk_at "rd"
  refine go_forR1 (n := many) ⟨by omega, by omega⟩ (fun i σ H' => ∃ (ds : List Dd) (v5 : Option V), σ = [some (.ref s), some (.int n), some (.int many), some (.int gives), some (.ref p), v5] ∧ ExtB s H H' ∧ Src s H' ∧ H' p = some (.lst (ds.map Dd.v)) ∧ ds.length = i ∧ okDs n ds)
    ⟨[], none, rfl, ExtB.of e1, src.ext e1, h1, rfl, (fun i hi => by cases hi)⟩ ?_ ?_
  · rintro i σ H' hi ⟨ds, v5, rfl, b, sr, hl, hlen, hok⟩
    have ll := len_dd ds
    walk_at "rd"
    refine ⟨s, 4, rfl, by decide, by decide, sr, fun d H2 hd b2 sr2 => ?_⟩
    have hl2 := b2 _ _ (Ne.symm hne) hl
    walk_at "rd"
    refine ite_d (fun _ => ?_) (fun _ => ?_)
    · walk_at "rd"
      refine ⟨ty_list hl2, ?_⟩
      walk_at "rd"
      refine go_append hl2 (by omega) fun H3 b3 h3 => ?_
      walk_at "rd"
      refine ⟨ds ++ [.give], _, rfl, (b.trans b2).also b3 hp, sr2.other b3 hne, ?_, by simp [hlen], okDs_app hok fun i e => nomatch e⟩
      rw [h3, List.map_append]
      rfl
    · walk_at "rd"
      refine ⟨ty_list hl2, ?_⟩
      walk_at "rd"
      refine ⟨s, n, rfl, by omega, by omega, sr2, fun d2 H3 hd2 b3 sr3 => ?_⟩
      have hl3 := b3 _ _ (Ne.symm hne) hl2
      walk_at "rd"
      refine go_append hl3 (by omega) fun H4 b4 h4 => ?_
      walk_at "rd"
      refine ⟨ds ++ [.take (d2 : Int)], _, rfl, ((b.trans b2).trans b3).also b4 hp, sr3.other b4 hne, ?_, by simp [hlen], okDs_app hok fun i e => by cases e; omega⟩
      rw [h4, List.map_append]
      rfl
  · rintro σ H' ⟨ds, v5, rfl, b, sr, hl, hlen, hok⟩
    walk_at "rd"
    exact k p ds H' hp b sr hl hok (by omega)
theorem k_law_maker (T : Facts K mg) : Cal P w K mg base 3 "_law_maker" ["_law_source_here", "_law_inlets", "_law_most", "_law_stops"] (spLMaker K) := by
  have C_law_pick := k_law_pick (P := P) (w := w) (base := base) T
  have C_law_deeds := k_law_deeds (P := P) (w := w) (base := base) T
  refine cal_mk T.F_law_maker T.g_law_maker sc_law_maker (fun _ _ _ _ _ _ us hl => match us, hl with | [_, _, _, _], _ => rfl) (fun vs H Q E h => by obtain ⟨i, b, rfl, _⟩ := h; rfl) (fun f cdv A outer s0 H vs Q E hr h => ?_)
  obtain ⟨s, n, rfl, hn1, hn3, src, k⟩ := h
  refine ⟨_, (pss_cons (ps_set (i := 4) sc_law_maker.nd rfl (Or.inl rfl) (pe_k C_law_deeds hr (by decide) (by rfl) (pa_cons (pv 0) (pa_cons (pv 1) (pa_cons (pe_ix (ix_K (K := K)) (pe_lst (pa_cons pe_int (pa_cons pe_int (pa_cons pe_int (pa_cons pe_int (pa_cons pe_int (pa_cons pe_int (pa_cons pe_int (pa_cons pe_int pa_nil))))))))) (pe_k C_law_pick hr (by decide) (by rfl) (pa_cons (pv 0) (pa_cons pe_int pa_nil))) (fun _ _ => rfl)) (pa_cons pe_int pa_nil))))))
      (pss_cons (ps_set (i := 5) sc_law_maker.nd rfl (Or.inl rfl) (pe_lst pa_nil))
      (pss_cons (ps_for PassesOwn.never rfl (pi_range1 (by rfl) T.b_range (pa_cons (pe_op op_add pe_int (pe_k C_law_pick hr (by decide) (by rfl) (pa_cons (pv 0) (pa_cons (pv 2) pa_nil)))) pa_nil)) (pg_name (i := 6) sc_law_maker.nd rfl (Or.inl rfl)) (pss_cons (ps_set (i := 7) sc_law_maker.nd rfl (Or.inl rfl) (pe_k C_law_deeds hr (by decide) (by rfl) (pa_cons (pv 0) (pa_cons (pv 1) (pa_cons (pe_op op_add pe_int (pe_k C_law_pick hr (by decide) (by rfl) (pa_cons (pv 0) (pa_cons pe_int pa_nil)))) (pa_cons (pe_ix (ix_K (K := K)) (pe_lst (pa_cons pe_int (pa_cons pe_int (pa_cons pe_int (pa_cons pe_int pa_nil))))) (pe_k C_law_pick hr (by decide) (by rfl) (pa_cons (pv 0) (pa_cons pe_int pa_nil))) (fun _ _ => rfl)) pa_nil))))))
      (Evl.pss_cut (ps_if (PW.pt (pw_and (pt_cmpR (op_notInK (K := K)) pe_str (pv 7) (by rfl)) (pw_and1 (pt_not (PW.pt (pw_and (pt_val (pv 3)) (pw_and1 (pt_cmpR op_eq (pe_k C_law_pick hr (by decide) (by rfl) (pa_cons (pv 0) (pa_cons pe_int pa_nil))) pe_int (nomark _))))))))) (pss_one (ps_expr (pe_bm PySem.F.plainAttrs_list PySem.F.slot_list_insert PySem.F.type_list_insert mt_insert (pv 7) (pa_cons (pe_k C_law_pick hr (by decide) (by rfl) (pa_cons (pv 0) (pa_cons (pe_op op_add (pe_callB (call_lenK (K := K)) (by rfl) T.b_len PySem.boot_len (pa_cons (pv 7) pa_nil)) pe_int) pa_nil))) (pa_cons pe_str pa_nil))))) pss_nil)
      (pss_one (ps_expr (pe_bm PySem.F.plainAttrs_list PySem.F.slot_list_append PySem.F.type_list_append mt_append (pv 5) (pa_cons (pe_callTy (call_tupK (K := K)) (by rfl) T.b_tuple bt_tuple (pa_cons (pv 7) pa_nil)) pa_nil)))))))
      (pss_one (ps_ret (pe_tup (pa_cons (pv 1) (pa_cons (pe_callTy (call_tupK (K := K)) (by rfl) T.b_tuple bt_tuple (pa_cons (pv 4) pa_nil)) (pa_cons (pe_callTy (call_tupK (K := K)) (by rfl) T.b_tuple bt_tuple (pa_cons (pv 5) pa_nil)) pa_nil))))))))), ?_⟩
  try dsimp only [cxOf]
  walk_at "rd"
  refine go_lst (Nat.le_trans (by decide) zS) fun p0 H1 hp0 e1 h1 => ?_
  walk_at "rd"
  refine ⟨s, 8, rfl, by decide, by decide, src.ext e1, fun d H2 hd b2 sr2 => ?_⟩
  have hne0 := src.ne hp0
  obtain ⟨v8, hv8, h80, h84⟩ := menu8 (d := d) (by omega)
  refine rd_ix (SqA.ofL (b2 _ _ (Ne.symm hne0) h1)) hv8 ?_
  walk_at "rd"
  refine ⟨s, n, v8, 2, rfl, hn1, hn3, h80, by omega, sr2, fun pb bd H3 hpb b3 sr3 hb3 hbo hbl => ?_⟩
  have b03 : ExtB s H H3 := ((ExtB.of e1).trans b2).trans b3
  have hneb : s ≠ pb := sr2.ne hpb
  walk_at "rd"
  refine go_lst (Nat.zero_le _) fun pf H4 hpf e4 h4 => ?_
  have hpf0 : H pf = none := by
    cases q : H pf with
    | none => rfl
    | some o =>
      by_cases e : pf = s
      · rw [e] at hpf
        obtain ⟨_, _, _, z⟩ := sr3
        rw [z] at hpf
        cases hpf
      · rw [b03 _ _ e q] at hpf
        cases hpf
  have hnef := src.ne hpf0
  have hnebf : pb ≠ pf := ne_of_none hb3 hpf
  walk_at "rd"
  refine ⟨s, 4, rfl, by decide, by decide, sr3.ext e4, fun dn H5 hdn b5 sr5 => ?_⟩
  walk_at "rd"
  have b05 : ExtB s H H5 := (b03.trans (ExtB.of e4)).trans b5
  refine go_forR1 (n := 1 + (dn : Int)) ⟨by omega, by omega⟩ (fun i σ H' => ∃ (us : List V) (ws : List (List Dd)) (v6 v7 : Option V), σ = [some (.ref s), some (.int n), some (.int 4), some (.bl true), some (.ref pb), some (.ref pf), v6, v7] ∧ ExtB s H H' ∧ Src s H' ∧ H' pb = some (.lst (bd.map Dd.v)) ∧
      H' pf = some (.lst us) ∧ us.length = i ∧ ws.length = i ∧ (∀ (j : Nat) u w, us[j]? = some u → ws[j]? = some w → TuA K H' u (w.map Dd.v)) ∧ ∀ w ∈ ws, w ≠ [] ∧ w.length ≤ 5 ∧ okDs n w)
    ⟨[], [], none, none, rfl, b05, sr5, b5 _ _ (Ne.symm hneb) (e4 _ _ hb3), b5 _ _ (Ne.symm hnef) h4, rfl, rfl, (fun j u w h => by simp at h), (fun w hw => by cases hw)⟩ ?_ ?_
  · rintro i σ H' hi ⟨us, ws, v6, v7, rfl, b, sr, hpb', hpf', hus, hwsl, hut, hwo⟩
    walk_at "rd"
    refine ⟨s, 3, rfl, by decide, by decide, sr, fun d3 H6 hd3 b6 sr6 => ?_⟩
    walk_at "rd"
    refine go_lst (Nat.le_trans (by decide) zS) fun p4 H7 hp4 e7 h7 => ?_
    walk_at "rd"
    refine ⟨s, 4, rfl, by decide, by decide, sr6.ext e7, fun d4 H8 hd4 b8 sr8 => ?_⟩
    obtain ⟨v4, hv4⟩ := menu4 (d := d4) (by omega)
    refine rd_ix (SqA.ofL (b8 _ _ (Ne.symm (sr6.ne hp4)) h7)) hv4 ?_
    walk_at "rd"
    refine ⟨s, n, 1 + d3, v4, rfl, hn1, hn3, by omega, by omega, sr8, fun q ds H9 hq b9 sr9 hq9 hdo hdl => ?_⟩
    have c89 : ExtB s H' H9 := ((b6.trans (ExtB.of e7)).trans b8).trans b9
    have b09 : ExtB s H H9 := b.trans c89
    have hpb9 := c89 _ _ (Ne.symm hneb) hpb'
    have hpf9 := c89 _ _ (Ne.symm hnef) hpf'
    obtain ⟨sx, sy, sz, hsr⟩ := id sr
    have hut9 : ∀ (j : Nat) u w, us[j]? = some u → ws[j]? = some w → TuA K H9 u (w.map Dd.v) := fun j u w h1 h2 => (hut j u w h1 h2).extS c89 hsr
    have hneq : s ≠ q := sr8.ne hq
    have c8 : ExtB s H' H8 := (b6.trans (ExtB.of e7)).trans b8
    have hnqb : q ≠ pb := (ne_of_none (c8 _ _ (Ne.symm hneb) hpb') hq).symm
    have hnqf : q ≠ pf := (ne_of_none (c8 _ _ (Ne.symm hnef) hpf') hq).symm
    have hq0 : H q = none := by
      cases z : H q with
      | none => rfl
      | some o =>
        have := (b.trans c8) _ _ (Ne.symm hneq) z
        rw [hq] at this
        cases this
    have hd1 : 1 ≤ ds.length := by omega
    have hd4' : ds.length ≤ 4 := by omega
    walk_at "rd"
    refine ⟨fun σ' H' => ∃ (ds : List Dd), σ' = [some (.ref s), some (.int n), some (.int 4), some (.bl true), some (.ref pb), some (.ref pf), some (.int (i : Int)), some (.ref q)] ∧ ExtB s H H' ∧ Src s H' ∧ H' pb = some (.lst (bd.map Dd.v)) ∧
      H' pf = some (.lst us) ∧ (∀ (j : Nat) u w, us[j]? = some u → ws[j]? = some w → TuA K H' u (w.map Dd.v)) ∧ H' q = some (.lst (ds.map Dd.v)) ∧ ds ≠ [] ∧ ds.length ≤ 5 ∧ okDs n ds, ?_, ?_⟩
    · have stay : ∀ H2, ExtB s H9 H2 → Src s H2 → ∃ (ds : List Dd), [some (V.ref s), some (.int n), some (.int 4), some (.bl true), some (.ref pb), some (.ref pf), some (.int (i : Int)), some (.ref q)] = [some (.ref s), some (.int n), some (.int 4), some (.bl true), some (.ref pb), some (.ref pf), some (.int (i : Int)), some (.ref q)] ∧ ExtB s H H2 ∧ Src s H2 ∧ H2 pb = some (.lst (bd.map Dd.v)) ∧
          H2 pf = some (.lst us) ∧ (∀ (j : Nat) u w, us[j]? = some u → ws[j]? = some w → TuA K H2 u (w.map Dd.v)) ∧ H2 q = some (.lst (ds.map Dd.v)) ∧ ds ≠ [] ∧ ds.length ≤ 5 ∧ okDs n ds := fun H2 bb ss => by
        obtain ⟨tx, ty, tz, htr⟩ := id sr9
        exact ⟨ds, rfl, b09.trans bb, ss, bb _ _ (Ne.symm hneb) hpb9, bb _ _ (Ne.symm hnef) hpf9, fun j u w h1 h2 => (hut9 j u w h1 h2).extS bb htr, bb _ _ (Ne.symm hneq) hq9, fun e => by rw [e] at hd1; simp at hd1, by omega, hdo⟩
      walk_at "rd"
      refine go_notIn (SqA.ofL hq9) rfl (flat_dds ds) ?_
      walk_at "rd"
      refine ite_b (fun _ => ?_) (fun _ => ?_)
      · walk_at "rd"
        refine ⟨s, 3, rfl, by decide, by decide, sr9, fun d5 H10 hd5 b10 sr10 => ?_⟩
        have hq10 := b10 _ _ (Ne.symm hneq) hq9
        walk_at "rd"
        refine ite_b (fun _ => ?_) (fun _ => ?_)
        · walk_at "rd"
          refine ⟨ty_list hq10, ?_⟩
          walk_at "rd"
          have ll := len_dd ds
          refine ⟨s, _, rfl, by omega, by omega, sr10, fun d6 H11 hd6 b11 sr11 => ?_⟩
          have hq11 := b11 _ _ (Ne.symm hneq) hq10
          walk_at "rd"
          refine ⟨q, _, (d6 : Int), _, rfl, rfl, hq11, Nat.lt_of_le_of_lt (show (ds.map Dd.v).length ≤ 1000 by omega) (by decide), by omega, by omega, ?_⟩
          obtain ⟨_, _, b9', _, c1, c2, c3, _⟩ := stay H11 (b10.trans b11) sr11
          walk_at "rd"
          refine ⟨ds.take d6 ++ [.give] ++ ds.drop d6, rfl, ((b09.trans b10).trans b11).also extB_upd hq0, sr11.other extB_upd hneq, ?_, ?_, ?_, ?_, by simp, ?_, ?_⟩
          · rw [upd_ne (Ne.symm hnqb)]; exact c1
          · rw [upd_ne (Ne.symm hnqf)]; exact c2
          · exact fun j u w h1 h2 => (c3 j u w h1 h2).extS extB_upd hq11
          · rw [upd_same, List.map_append, List.map_append, List.map_take, List.map_drop]
            have e : (d6 : Int).toNat = d6 := by omega
            rw [e]
            rfl
          · simp only [List.length_append, List.length_take, List.length_drop, List.length_singleton]
            omega
          · intro i hi
            rcases List.mem_append.mp hi with hi | hi
            · rcases List.mem_append.mp hi with hi | hi
              · exact hdo i (List.mem_of_mem_take hi)
              · cases List.mem_singleton.mp hi
            · exact hdo i (List.mem_of_mem_drop hi)
        · walk_at "rd"
          exact stay H10 b10 sr10
      · walk_at "rd"
        exact stay H9 ExtB.refl sr9
    · rintro σ' H10 ⟨ds2, rfl, b10, sr10, k1, k2, k3, k4, k5, k6, k7⟩
      walk_at "rd"
      refine ⟨ty_list k2, ?_⟩
      walk_at "rd"
      refine rd_tupleL (SqLv.of k4) fun t H11 ht e11 h11 => ?_
      walk_at "rd"
      have k2' := e11 _ _ k2
      refine go_append k2' (by omega) fun H12 b12 h12 => ?_
      walk_at "rd"
      refine ⟨us ++ [.ref t], ws ++ [ds2], _, _, rfl, (b10.trans (ExtB.of e11)).also b12 hpf0, (sr10.ext e11).other b12 hnef, b12 _ _ hnebf (e11 _ _ k1), h12, by simp [hus], by simp [hwsl], fun j u w h1 h2 => ?_, fun w hw => ?_⟩
      · by_cases hj : j < us.length
        · rw [List.getElem?_append_left hj] at h1
          rw [List.getElem?_append_left (by omega)] at h2
          exact ((k3 j u w h1 h2).ext e11).extS b12 k2'
        · rw [List.getElem?_append_right (by omega)] at h1
          rw [List.getElem?_append_right (by omega)] at h2
          have hj0 : j - us.length = 0 := by
            rcases Nat.eq_zero_or_pos (j - us.length) with z | z
            · exact z
            · rw [List.getElem?_eq_none (by simp; omega)] at h1
              cases h1
          rw [hj0] at h1
          have hj1 : j - ws.length = 0 := by omega
          rw [hj1] at h2
          have e1 : V.ref t = u := Option.some.inj h1
          have e2 : ds2 = w := Option.some.inj h2
          subst e1 e2
          exact (TuA.of h11).extS b12 k2'
      · rcases List.mem_append.mp hw with hw | hw
        · exact hwo w hw
        · rw [List.mem_singleton.mp hw]
          exact ⟨k5, k6, k7⟩
  · rintro σ H' ⟨us, ws, v6, v7, rfl, b, sr, hpb', hpf', hus, hwsl, hut, hwo⟩
    walk_at "rd"
    refine rd_tupleL (SqLv.of hpb') fun t1 H6 ht1 e6 h6 => ?_
    walk_at "rd"
    refine rd_tupleL (SqLv.of (e6 _ _ hpf')) fun t2 H7 ht2 e7 h7 => ?_
    walk_at "rd"
    refine go_tup sz3 fun t3 H8 ht3 e8 h8 => ?_
    walk_at "rd"
    have e68 := (e6.trans e7).trans e8
    refine k (.ref t3) ⟨n, bd, ws⟩ H8 (b.trans (ExtB.of e68)) (sr.ext e68) ⟨.ref t1, .ref t2, TuA.of h8, TuA.of ((e7.trans e8) _ _ h6), us, TuA.of (e8 _ _ h7), (show us.length = ws.length by omega), fun j u w h1 h2 => (hut j u w h1 h2).ext e68⟩
      ⟨hn1, hn3, by show bd.length ≤ 10; omega, hbo, by show 1 ≤ ws.length; omega, by show ws.length ≤ 4; omega, fun w hw => (hwo w hw).1, fun w hw => Nat.le_trans (hwo w hw).2.1 (by decide), fun w hw => (hwo w hw).2.2⟩ (by show bd.length ≤ 5; omega) (fun w hw => (hwo w hw).2.1)
end
end K24
set_option Elab.async false
set_option linter.all false
set_option maxRecDepth 100000
set_option maxHeartbeats 4000000
/-! A drawn course, a maker made, the needs by going through the deeds. -/
namespace K24
open PySem PySem.Spec PyProof.Rows L2
local macro_rules | `(tactic| walk_at "tr") => `(tactic| first
  | (with_reducible assumption)
  | (with_reducible exact TuA.sq (by assumption)) | (with_reducible exact SqLv.sq (by assumption)) | (with_reducible exact SqA.ofL (by assumption)) | (with_reducible exact SqA.ofT (by assumption))
  | (with_reducible exact TuA.of (by assumption)) | (with_reducible exact SqLv.of (by assumption)) | (with_reducible exact WsT.wa (by assumption))
  | (with_reducible refine' TuA.sq (TuA.ext ?h ?e); (case e => with_reducible assumption); (case h => walk_at "tr"))
  | (with_reducible refine' SqA.ext ?h ?e; (case e => with_reducible assumption); (case h => walk_at "tr"))
  | (with_reducible refine' TuA.ext ?h ?e; (case e => with_reducible assumption); (case h => walk_at "tr"))
  | (with_reducible refine' SqLv.ext ?h ?e; (case e => with_reducible assumption); (case h => walk_at "tr"))
  | (with_reducible refine' WsA.ext ?h ?e; (case e => with_reducible assumption); (case h => walk_at "tr"))
  | (with_reducible refine' WsT.ext ?h ?e; (case e => with_reducible assumption); (case h => walk_at "tr"))
  | (with_reducible refine' MkrT.ext ?h ?e; (case e => with_reducible assumption); (case h => walk_at "tr"))
  | (with_reducible refine' MkrO.ext ?h ?e; (case e => with_reducible assumption); (case h => walk_at "tr"))
  | (with_reducible refine' TblO.ext ?h ?e; (case e => with_reducible assumption); (case h => walk_at "tr"))
  | (with_reducible refine' RawT.ext ?h ?e; (case e => with_reducible assumption); (case h => walk_at "tr"))
  | (with_reducible refine' ext_at ?h ?e; (case e => with_reducible assumption); (case h => walk_at "tr"))
  | (with_reducible exact Ext.rfl')
  | (with_reducible refine' Ext.trans ?h ?e; (case e => with_reducible assumption); (case h => walk_at "tr")))
local macro_rules | `(tactic| walk_at "rd1") => `(tactic| first
  | (with_reducible refine' rd_seq ?_) | (with_reducible refine' rd_asg ?_) | (with_reducible refine' rd_ret ?_) | (with_reducible refine' rd_if ?_) | (with_reducible refine' rd_drop ?_)
  | ((with_reducible refine' rd_var ?h ?q); (case h => exact rfl))
  | (with_reducible refine' rd_c ?_) | (with_reducible refine' rd_op ?_) | (with_reducible refine' rd_un ?_) | (with_reducible refine' rd_test ?_) | (with_reducible refine' rd_B ?_) | (with_reducible refine' rd_bl ?_)
  | (with_reducible refine' rd_and ?_) | (with_reducible refine' rd_or ?_) | (with_reducible refine' rd_not ?_) | (with_reducible refine' rd_andV ?_) | (with_reducible refine' rd_orV ?_) | (with_reducible refine' rd_notV ?_)
  | (with_reducible refine' rd_ifE ?_) | (with_reducible refine' rd_chain ?_) | (with_reducible refine' rd_nil ?_) | (with_reducible refine' rd_cons ?_) | (with_reducible refine' rd_cb ?_) | (with_reducible refine' rd_call0 ?_) | (with_reducible refine' rd_call ?_)
  | (with_reducible refine' rd_part ?_) | (with_reducible refine' rd_int ?_) | (with_reducible refine' rd_nopart ?_) | (with_reducible refine' rd_sl ?_) | (with_reducible refine' rd_tup ?_) | (with_reducible refine' rd_lst ?_)
  | (with_reducible refine' rd_I0 ?_) | (with_reducible refine' rd_U ?_) | (with_reducible refine' rd_intI ?_) | (with_reducible refine' rd_abs ?_) | (with_reducible refine' rd_lc ?_) | (with_reducible refine' rd_lr ?_)
  | (with_reducible refine' rd_next ?_) | (with_reducible refine' rd_cont ?_) | (with_reducible refine' rd_break ?_)
  | ((with_reducible refine' rd_len ?h ?q); (case h => walk_at "tr"))
  | ((with_reducible refine' rd_eq ?h ?q); (case h => exact rfl)) | ((with_reducible refine' rd_ne ?h ?q); (case h => exact rfl))
  | ((with_reducible refine' ite_t ?h ?q); (case h => exact rfl)) | ((with_reducible refine' ite_f ?h ?q); (case h => exact rfl))
  | (with_reducible refine' rd_gn ?_) | (with_reducible refine' rd_forL ?_) | (with_reducible refine' rd_forT ?_) | (with_reducible refine' rd_forR1 ?_) | (with_reducible refine' rd_forR2 ?_) | (with_reducible refine' rd_forR3 ?_)
  | (with_reducible refine' rd_make ?_) | (with_reducible refine' rd_sfld ?_) | (with_reducible refine' rd_mth ?_) | (with_reducible refine' rd_callO ?_)
  | (with_reducible refine' rd_forS ?_) | (with_reducible refine' rd_gsub ?_)
  | (with_reducible refine' rd_fld ?_) | (with_reducible refine' rd_asgG ?_) | (with_reducible refine' rd_bm ?_)
  | ((with_reducible refine' rd_gT2 ?h ?n ?q); (case h => walk_at "tr"); (case n => exact rfl)) | ((with_reducible refine' rd_gT3 ?h ?n ?q); (case h => walk_at "tr"); (case n => exact rfl))
  | dsimp only)
local macro_rules | `(tactic| walk_at "rd") => `(tactic| repeat (walk_at "rd1"))

def spLOn (K : PySem.W.Frag) : Sp := fun vs H Q _ => ∃ (v : V) (i : Int) (u : V) (m : Mkr) (f t : List Nat), vs = [v, .int i, u] ∧ MkrT K H v m ∧ m.Ok ∧ CrsT K H u f t ∧ CrsOk m.ways.length f t ∧
  ∀ z H', Ext H H' → RawT K H' z (plainR (needR m i f t)) → Q z H'
def spLPlain (K : PySem.W.Frag) : Sp := fun vs H Q _ => ∃ (x y : V) (rise : Int) (hd lp : List Int), vs = [x, y, .int rise] ∧ SqLv K H x (hd.map V.int) ∧ SqLv K H y (lp.map V.int) ∧ RawOk hd lp rise ∧
  ∀ v H', Ext H H' → RawT K H' v (plainF hd lp rise) → Q v H'
section
variable {P : Program} {w : World} {K : PySem.W.Frag} {mg : Str → Option Value} {base : Heap}
theorem k_law_course (T : Facts K mg) : Cal P w K mg base 2 "_law_course" ["_law_source_here", "_law_maker_here", "_law_rounds"] (spLCourse K) := by
  have C_law_pick := k_law_pick (P := P) (w := w) (base := base) T
  refine cal_mk T.F_law_course T.g_law_course sc_law_course (fun _ _ _ _ _ _ us hl => match us, hl with | [_, _, _], _ => rfl) (fun vs H Q E h => by obtain ⟨i, b, c, d, rfl, _⟩ := h; rfl) (fun f cdv A outer s0 H vs Q E hr h => ?_)
  obtain ⟨s, v, m, rounds, rfl, hm, ok, hr2, src, k⟩ := h
  obtain ⟨b, ww, hv, hb, us, hws, hlen, hu⟩ := id hm
  have hw1 := ok.w1
  have hw4 := ok.w4
  refine ⟨_, (pss_cons (ps_set (i := 3) sc_law_course.nd rfl (Or.inr rfl) (pe_callB (call_lenK (K := K)) (by rfl) T.b_len PySem.boot_len (pa_cons (pe_ix (ix_K (K := K)) (pv 1) pe_int (fun _ _ => rfl)) pa_nil)))
      (pss_cons (ps_setLc (i := 4) (own := [("_law_k", 6)]) (g := gName 6) (tt := tYes) rfl sc_law_course.nd rfl rfl (sw_true rfl rfl rfl (by decide +kernel)) (pi_range1 (by rfl) T.b_range (pa_cons (pe_k C_law_pick hr (by decide) (by rfl) (pa_cons (pv 0) (pa_cons (pe_op op_add (pv 2) pe_int) pa_nil))) pa_nil)) (blkOk_by (N := n_law_course) (sc := defScope s_law_course) (by decide +kernel)) (fun _ _ _ _ _ => pg_name (i := 6) sc_law_course.nd rfl (Or.inl rfl)) (fun _ _ _ _ _ => pts_nil) (fun _ _ _ _ _ => (pe_k C_law_pick hr (by decide) (by rfl) (pa_cons (pv 0) (pa_cons (pv 3) pa_nil)))))
      (pss_cons (ps_setLc (i := 5) (own := [("_law_k", 6)]) (g := gName 6) (tt := tYes) rfl sc_law_course.nd rfl rfl (sw_true rfl rfl rfl (by decide +kernel)) (pi_range1 (by rfl) T.b_range (pa_cons (pe_op op_add pe_int (pe_k C_law_pick hr (by decide) (by rfl) (pa_cons (pv 0) (pa_cons pe_int pa_nil)))) pa_nil)) (blkOk_by (N := n_law_course) (sc := defScope s_law_course) (by decide +kernel)) (fun _ _ _ _ _ => pg_name (i := 6) sc_law_course.nd rfl (Or.inl rfl)) (fun _ _ _ _ _ => pts_nil) (fun _ _ _ _ _ => (pe_k C_law_pick hr (by decide) (by rfl) (pa_cons (pv 0) (pa_cons (pv 3) pa_nil)))))
      (pss_one (ps_ret (pe_tup (pa_cons (pe_callTy (call_tupK (K := K)) (by rfl) T.b_tuple bt_tuple (pa_cons (pv 4) pa_nil)) (pa_cons (pe_callTy (call_tupK (K := K)) (by rfl) T.b_tuple bt_tuple (pa_cons (pv 5) pa_nil)) pa_nil)))))))), ?_⟩
  try dsimp only [cxOf]
  walk_at "rd"
  refine rd_ix hv.sq (at_of (j := 2) rfl rfl) ?_
  walk_at "rd"
  refine ⟨s, (rounds : Int) + 1, rfl, by omega, by omega, src, fun d H1 hd b1 s1 => ?_⟩
  walk_at "rd"
  refine lr_draw (n := d) (many := us.length) (by omega) s1 (fun _ => rfl) (fun i H2 b2 s2 Q' k' => ?_) (fun p ns H2 hp b2 s2 h2 hl2 hn2 => ?_)
  · walk_at "rd"
    exact ⟨s, _, rfl, by omega, by omega, s2, fun d H3 hd b3 s3 => k' d H3 (by omega) b3 s3⟩
  walk_at "rd"
  refine ⟨s, 2, rfl, by decide, by decide, s2, fun d2 H3 hd2 b3 s3 => ?_⟩
  walk_at "rd"
  have ed : (1 : Int) + (d2 : Int) = ((1 + d2 : Nat) : Int) := by omega
  rw [ed]
  refine lr_draw (n := 1 + d2) (many := us.length) (by omega) s3 (fun _ => rfl) (fun i H4 b4 s4 Q' k' => ?_) (fun q ns2 H4 hq b4 s4 h4 hl4 hn4 => ?_)
  · walk_at "rd"
    exact ⟨s, _, rfl, by omega, by omega, s4, fun d H3 hd b3 s3 => k' d H3 (by omega) b3 s3⟩
  have hp4 := (b3.trans b4) _ _ (Ne.symm (s1.ne hp)) h2
  walk_at "rd"
  refine rd_tupleL (SqLv.of hp4) fun t1 H5 ht1 e5 h5 => ?_
  walk_at "rd"
  refine rd_tupleL (SqLv.of (e5 _ _ h4)) fun t2 H6 ht2 e6 h6 => ?_
  walk_at "rd"
  refine go_tup sz2 fun t3 H7 ht3 e7 h7 => ?_
  walk_at "rd"
  have e57 := (e5.trans e6).trans e7
  exact k _ ns ns2 H7 ((((b1.trans b2).trans b3).trans b4).trans (ExtB.of e57)) (s4.ext e57) ⟨.ref t1, .ref t2, TuA.of h7, TuA.of ((e6.trans e7) _ _ h5), TuA.of (e7 _ _ h6)⟩
    ⟨fun k hk => by have := hn2 k hk; omega, fun k hk => by have := hn4 k hk; omega, by omega, by omega, by omega⟩
theorem k_law_made (T : Facts K mg) : Cal P w K mg base 7 "_law_made" ["_law_maker_here"] (spMade K) := by
  have M_Maker3 := m_Maker3 (P := P) (w := w) (base := base) T
  refine cal_mk T.F_law_made T.g_law_made sc_law_made (fun _ _ _ _ _ _ us hl => match us, hl with | [_], _ => rfl) (fun vs H Q E h => by obtain ⟨i, b, rfl, _⟩ := h; rfl) (fun f cdv A outer s0 H vs Q E hr h => ?_)
  obtain ⟨v, m, rfl, hm, ok, k⟩ := h
  obtain ⟨b, ww, hv, hb, hw⟩ := id hm
  refine ⟨_, (pss_one (ps_ret (pe_mkk M_Maker3 hr (by decide) (by rfl) (pa_cons (pe_ix (ix_K (K := K)) (pv 0) pe_int (fun _ _ => rfl)) (pa_cons (pe_ix (ix_K (K := K)) (pv 0) pe_int (fun _ _ => rfl)) (pa_cons (pe_ix (ix_K (K := K)) (pv 0) pe_int (fun _ _ => rfl)) pa_nil)))))), ?_⟩
  try dsimp only [cxOf]
  walk_at "rd"
  refine rd_ix hv.sq (at_of (j := 0) rfl rfl) ?_
  walk_at "rd"
  refine rd_ix hv.sq (at_of (j := 1) rfl rfl) ?_
  walk_at "rd"
  refine rd_ix hv.sq (at_of (j := 2) rfl rfl) ?_
  walk_at "rd"
  refine go_make fun o H1 dx ho e1 hO => ?_
  refine ⟨o, dx, b, ww, m, rfl, hO, (hb.ext e1).sq, (hw.ext e1).wa, ok, fun H2 hM b2 => ⟨rfl, ?_⟩⟩
  walk_at "rd"
  exact k o H2 (b2.from e1 ho) hM
theorem k_law_ahead (T : Facts K mg) : Cal P w K mg base 1 "_law_ahead" ["_law_deeds_here", "_law_inlet"] (spTakes K) := by
  refine cal_mk T.F_law_ahead T.g_law_ahead sc_law_ahead (fun _ _ _ _ _ _ us hl => match us, hl with | [_, _], _ => rfl) (fun vs H Q E h => by obtain ⟨i, b, c, rfl, _⟩ := h; rfl) (fun f cdv A outer s H vs Q E hr h => ?_)
  obtain ⟨x, i, ds, rfl, ⟨a, rfl, hx⟩, hz, k⟩ := h
  refine ⟨_, (pss_cons (ps_set (i := 2) sc_law_ahead.nd rfl (Or.inl rfl) (pe_lst pa_nil))
      (pss_cons (ps_set (i := 3) sc_law_ahead.nd rfl (Or.inl rfl) pe_int)
      (pss_cons (ps_for PassesOwn.never rfl (pi_listK (K := K) (pv 0)) (pg_name (i := 4) sc_law_ahead.nd rfl (Or.inl rfl)) (pss_one (ps_if (pt_cmpR op_eq (pv 4) pe_str (nomark _)) (pss_one (ps_expr (pe_bm PySem.F.plainAttrs_list PySem.F.slot_list_append PySem.F.type_list_append mt_append (pv 2) (pa_cons (pv 3) pa_nil)))) (pss_one (ps_if (pt_cmpR op_eq (pv 4) (pv 1) (nomark _)) (pss_one (ps_set (i := 3) sc_law_ahead.nd rfl (Or.inl rfl) (pe_op op_add (pv 3) pe_int))) pss_nil)))))
      (pss_one (ps_ret (pe_tup (pa_cons (pv 2) (pa_cons (pv 3) pa_nil)))))))), ?_⟩
  try dsimp only [cxOf]
  walk_at "rd"
  refine go_lst (Nat.zero_le _) fun p H1 hp e1 h1 => ?_
  walk_at "rd"
  refine go_forL (SqLv.ext ⟨a, rfl, hx⟩ e1) (fun n σ H' => ∃ v4, σ = [some (.ref a), some (.int i), some (.ref p), some (.int ((ds.take n).foldl (step i) ([], 0)).2), v4] ∧ Ext H H' ∧ H' p = some (.lst (((ds.take n).foldl (step i) ([], 0)).1.map V.int)))
    ⟨none, rfl, e1, h1⟩ (fun n σ H' ⟨_, _, e, _⟩ => SqLv.ext ⟨a, rfl, hx⟩ e) ?_ ?_
  · rintro n y σ H' hy ⟨v4, rfl, e, hl⟩
    obtain ⟨d, hd, rfl⟩ := map_at hy
    have hstep := fold_take (step i) (([] : List Int), (0 : Int)) hd
    have hlen : ((ds.take n).foldl (step i) ([], 0)).1.length ≤ n := by
      have := (ahead_bounds i (ds.take n)).2.2.2.1
      have e2 : ahead i (ds.take n) = (ds.take n).foldl (step i) ([], 0) := rfl
      rw [e2] at this
      exact Nat.le_trans this (List.length_take_le ..)
    have hn := (List.getElem?_eq_some_iff.mp hd).1
    generalize ((ds.take n).foldl (step i) ([], 0)) = st at *
    rw [hstep]
    cases d with
    | give =>
      show tIfS _ _ _ _ _ _
      dsimp only [Dd.v]
      walk_at "rd"
      refine ⟨ty_list hl, ?_⟩
      walk_at "rd"
      refine go_append hl (by rw [len_int]; omega) fun H2 e2 h2 => ?_
      walk_at "rd"
      refine ⟨_, rfl, e2.from e hp, ?_⟩
      rw [h2]
      show some (HO.lst (st.1.map V.int ++ [V.int st.2])) = some (.lst ((st.1 ++ [st.2]).map V.int))
      rw [List.map_append]
      rfl
    | take j =>
      show tIfS _ _ _ _ _ _
      dsimp only [Dd.v]
      walk_at "rd"
      refine ite_d (fun hj => ?_) (fun hj => ?_)
      · have ej : j = i := V.int.inj hj
        walk_at "rd"
        refine ⟨some (.int j), ?_, e, hl⟩
        show _ = [_, _, _, some (V.int (if j = i then st.2 + 1 else st.2)), _]
        rw [if_pos ej]
        rfl
      · have ej : ¬ j = i := fun z => hj (by rw [z])
        walk_at "rd"
        refine ⟨some (.int j), ?_, e, hl⟩
        show _ = [_, _, _, some (V.int (if j = i then st.2 + 1 else st.2)), _]
        rw [if_neg ej]
        rfl
  · rintro σ H' ⟨v4, rfl, e, hl⟩
    have et : (ds.take (ds.map Dd.v).length).foldl (step i) ([], 0) = ahead i ds := by
      rw [List.length_map, List.take_of_length_le (Nat.le_refl _)]
      rfl
    rw [et] at hl ⊢
    walk_at "rd"
    refine go_tup sz2 fun q H2 hq e2 h2 => ?_
    walk_at "rd"
    exact k p q H2 (e.trans e2) hp h2 (e2 _ _ hl)
end
end K24
set_option Elab.async false
set_option linter.all false
set_option maxRecDepth 100000
set_option maxHeartbeats 4000000
/-! The plain form as the law reckons it. -/
namespace K24
open PySem PySem.Spec PyProof.Rows L2
local macro_rules | `(tactic| walk_at "tr") => `(tactic| first
  | (with_reducible assumption)
  | (with_reducible exact TuA.sq (by assumption)) | (with_reducible exact SqLv.sq (by assumption)) | (with_reducible exact SqA.ofL (by assumption)) | (with_reducible exact SqA.ofT (by assumption))
  | (with_reducible exact TuA.of (by assumption)) | (with_reducible exact SqLv.of (by assumption)) | (with_reducible exact WsT.wa (by assumption))
  | (with_reducible refine' TuA.sq (TuA.ext ?h ?e); (case e => with_reducible assumption); (case h => walk_at "tr"))
  | (with_reducible refine' SqA.ext ?h ?e; (case e => with_reducible assumption); (case h => walk_at "tr"))
  | (with_reducible refine' TuA.ext ?h ?e; (case e => with_reducible assumption); (case h => walk_at "tr"))
  | (with_reducible refine' SqLv.ext ?h ?e; (case e => with_reducible assumption); (case h => walk_at "tr"))
  | (with_reducible refine' WsA.ext ?h ?e; (case e => with_reducible assumption); (case h => walk_at "tr"))
  | (with_reducible refine' WsT.ext ?h ?e; (case e => with_reducible assumption); (case h => walk_at "tr"))
  | (with_reducible refine' MkrT.ext ?h ?e; (case e => with_reducible assumption); (case h => walk_at "tr"))
  | (with_reducible refine' MkrO.ext ?h ?e; (case e => with_reducible assumption); (case h => walk_at "tr"))
  | (with_reducible refine' TblO.ext ?h ?e; (case e => with_reducible assumption); (case h => walk_at "tr"))
  | (with_reducible refine' RawT.ext ?h ?e; (case e => with_reducible assumption); (case h => walk_at "tr"))
  | (with_reducible refine' ext_at ?h ?e; (case e => with_reducible assumption); (case h => walk_at "tr"))
  | (with_reducible exact Ext.rfl')
  | (with_reducible refine' Ext.trans ?h ?e; (case e => with_reducible assumption); (case h => walk_at "tr")))
local macro_rules | `(tactic| walk_at "rd1") => `(tactic| first
  | (with_reducible refine' rd_seq ?_) | (with_reducible refine' rd_asg ?_) | (with_reducible refine' rd_ret ?_) | (with_reducible refine' rd_if ?_) | (with_reducible refine' rd_drop ?_)
  | ((with_reducible refine' rd_var ?h ?q); (case h => exact rfl))
  | (with_reducible refine' rd_c ?_) | (with_reducible refine' rd_op ?_) | (with_reducible refine' rd_un ?_) | (with_reducible refine' rd_test ?_) | (with_reducible refine' rd_B ?_) | (with_reducible refine' rd_bl ?_)
  | (with_reducible refine' rd_and ?_) | (with_reducible refine' rd_or ?_) | (with_reducible refine' rd_not ?_) | (with_reducible refine' rd_andV ?_) | (with_reducible refine' rd_orV ?_) | (with_reducible refine' rd_notV ?_)
  | (with_reducible refine' rd_ifE ?_) | (with_reducible refine' rd_chain ?_) | (with_reducible refine' rd_nil ?_) | (with_reducible refine' rd_cons ?_) | (with_reducible refine' rd_cb ?_) | (with_reducible refine' rd_call0 ?_) | (with_reducible refine' rd_call ?_)
  | (with_reducible refine' rd_part ?_) | (with_reducible refine' rd_int ?_) | (with_reducible refine' rd_nopart ?_) | (with_reducible refine' rd_sl ?_) | (with_reducible refine' rd_tup ?_) | (with_reducible refine' rd_lst ?_)
  | (with_reducible refine' rd_I0 ?_) | (with_reducible refine' rd_U ?_) | (with_reducible refine' rd_intI ?_) | (with_reducible refine' rd_abs ?_) | (with_reducible refine' rd_lc ?_) | (with_reducible refine' rd_lr ?_)
  | (with_reducible refine' rd_next ?_) | (with_reducible refine' rd_cont ?_) | (with_reducible refine' rd_break ?_)
  | ((with_reducible refine' rd_len ?h ?q); (case h => walk_at "tr"))
  | ((with_reducible refine' rd_eq ?h ?q); (case h => exact rfl)) | ((with_reducible refine' rd_ne ?h ?q); (case h => exact rfl))
  | ((with_reducible refine' ite_t ?h ?q); (case h => exact rfl)) | ((with_reducible refine' ite_f ?h ?q); (case h => exact rfl))
  | (with_reducible refine' rd_gn ?_) | (with_reducible refine' rd_forL ?_) | (with_reducible refine' rd_forT ?_) | (with_reducible refine' rd_forR1 ?_) | (with_reducible refine' rd_forR2 ?_) | (with_reducible refine' rd_forR3 ?_)
  | (with_reducible refine' rd_make ?_) | (with_reducible refine' rd_sfld ?_) | (with_reducible refine' rd_mth ?_) | (with_reducible refine' rd_callO ?_)
  | (with_reducible refine' rd_forS ?_) | (with_reducible refine' rd_gsub ?_)
  | (with_reducible refine' rd_fld ?_) | (with_reducible refine' rd_asgG ?_) | (with_reducible refine' rd_bm ?_)
  | ((with_reducible refine' rd_gT2 ?h ?n ?q); (case h => walk_at "tr"); (case n => exact rfl)) | ((with_reducible refine' rd_gT3 ?h ?n ?q); (case h => walk_at "tr"); (case n => exact rfl))
  | dsimp only)
local macro_rules | `(tactic| walk_at "rd") => `(tactic| repeat (walk_at "rd1"))

theorem cut_last (xs : List V) : cutV xs none (some (-1)) = xs.take (xs.length - 1) := by
  unfold cutV
  rw [HT.sIx_none, List.drop_zero, Nat.sub_zero]
  congr 1
  unfold HT.sIx
  simp
  omega
theorem cut_from (xs : List V) (m : Nat) : cutV xs (some (m : Int)) none = xs.drop m := by
  unfold cutV
  rw [HT.sIx_none, HT.sIx_nat]
  by_cases h : m ≤ xs.length
  · rw [Nat.min_eq_left h, List.take_of_length_le (by rw [List.length_drop]; omega)]
  · rw [Nat.min_eq_right (by omega), List.drop_eq_nil_of_le (Nat.le_refl _), List.drop_eq_nil_of_le (by omega)]
    simp
section
variable {P : Program} {w : World} {K : PySem.W.Frag} {mg : Str → Option Value} {base : Heap}
theorem k_law_plain (T : Facts K mg) : Cal P w K mg base 1 "_law_plain" ["_law_head", "_law_loop", "_law_rise"] (spLPlain K) := by
  refine cal_mk T.F_law_plain T.g_law_plain sc_law_plain (fun _ _ _ _ _ _ us hl => match us, hl with | [_, _, _], _ => rfl) (fun vs H Q E h => by obtain ⟨i, b, c, d, e, rfl, _⟩ := h; rfl) (fun f cdv A outer s H vs Q E hr h => ?_)
  obtain ⟨x, y, rise, hd, lp, rfl, hx, hy, ok, k⟩ := h
  have lh := len_int hd
  have ll := len_int lp
  have zh := ok.zh
  have zl := ok.zl
  refine ⟨_, (pss_cons (ps_if (pt_cmpR op_eq (pe_callB (call_lenK (K := K)) (by rfl) T.b_len PySem.boot_len (pa_cons (pv 1) pa_nil)) pe_int (nomark _)) (pss_one (ps_ret (pe_tup (pa_cons (pe_callTy (call_tupK (K := K)) (by rfl) T.b_tuple bt_tuple (pa_cons (pv 0) pa_nil)) (pa_cons (pe_tup pa_nil) (pa_cons pe_int pa_nil)))))) pss_nil)
      (pss_cons (ps_set (i := 3) sc_law_plain.nd rfl (Or.inl rfl) (pe_callB (call_lenK (K := K)) (by rfl) T.b_len PySem.boot_len (pa_cons (pv 1) pa_nil)))
      (pss_cons (ps_for PassesOwn.never rfl (pi_range3 (by rfl) T.b_range (pa_cons (pe_callB (call_lenK (K := K)) (by rfl) T.b_len PySem.boot_len (pa_cons (pv 1) pa_nil)) (pa_cons pe_int (pa_cons (pe_un un_neg pe_int) pa_nil)))) (pg_name (i := 4) sc_law_plain.nd rfl (Or.inr rfl)) (pss_cons (ps_set (i := 5) sc_law_plain.nd rfl (Or.inl rfl) (pe_op op_fdiv (pe_callB (call_lenK (K := K)) (by rfl) T.b_len PySem.boot_len (pa_cons (pv 1) pa_nil)) (pv 4)))
      (pss_cons (ps_if (PW.pt (pw_or (pt_cmpR op_ne (pe_op op_mul (pv 5) (pv 4)) (pe_callB (call_lenK (K := K)) (by rfl) T.b_len PySem.boot_len (pa_cons (pv 1) pa_nil)) (nomark _)) (pw_or1 (pt_cmpR op_ne (pe_op op_mod (pe_callTy call_intA (by rfl) T.b_int bt_int (pa_cons (pv 2) pa_nil)) (pv 5)) pe_int (nomark _))))) (pss_one ps_continue) pss_nil)
      (pss_cons (ps_set (i := 6) sc_law_plain.nd rfl (Or.inr rfl) (pe_op op_fdiv (pv 2) (pv 5)))
      (pss_one (ps_if (pt_val (pe_callB (call_allK (K := K)) (by rfl) T.b_all bt_all (pa_cons (pe_lc (own := [("_law_k", 8)]) (g := gName 8) (tt := tYes) rfl sc_law_plain.nd (pi_range1 (by rfl) T.b_range (pa_cons (pe_op op_sub (pe_callB (call_lenK (K := K)) (by rfl) T.b_len PySem.boot_len (pa_cons (pv 1) pa_nil)) (pv 4)) pa_nil)) (blkOk_by (N := n_law_plain) (sc := defScope s_law_plain) (by decide +kernel)) (fun _ _ _ _ _ => pg_name (i := 8) sc_law_plain.nd rfl (Or.inl rfl)) (fun _ _ _ _ _ => pts_nil) (fun _ _ _ _ _ => (pe_cmpR op_eq (pe_ix (ix_K (K := K)) (pv 1) (pe_op op_add (pv 8) (pv 4)) (fun _ _ => rfl)) (pe_op op_add (pe_ix (ix_K (K := K)) (pv 1) (pv 8) (fun _ _ => rfl)) (pv 6)) (nomark _)))) pa_nil))) (pss_one (ps_set (i := 3) sc_law_plain.nd rfl (Or.inl rfl) (pv 4))) pss_nil))))))
      (pss_cons (ps_set (i := 2) sc_law_plain.nd rfl (Or.inl rfl) (pe_op op_fdiv (pv 2) (pe_op op_fdiv (pe_callB (call_lenK (K := K)) (by rfl) T.b_len PySem.boot_len (pa_cons (pv 1) pa_nil)) (pv 3))))
      (pss_cons (ps_set (i := 7) sc_law_plain.nd rfl (Or.inl rfl) (pe_op op_cat (pe_callTy (call_listK (K := K)) (by rfl) T.b_list bt_list (pa_cons (pv 0) pa_nil)) (pe_callTy (call_listK (K := K)) (by rfl) T.b_list bt_list (pa_cons (pe_slice (sl_listK (K := K)) (pv 1) po_none (po_some (pv 3))) pa_nil))))
      (Evl.pss_cut (ps_while PassesOwn.never (PW.pt (pw_and (pt_cmpR op_gt (pe_callB (call_lenK (K := K)) (by rfl) T.b_len PySem.boot_len (pa_cons (pv 7) pa_nil)) (pv 3) (nomark _)) (pw_and1 (pt_cmpR op_eq (pe_ix (ix_K (K := K)) (pv 7) (pe_op op_sub (pe_un un_neg pe_int) (pv 3)) (fun _ _ => rfl)) (pe_op op_sub (pe_ix (ix_K (K := K)) (pv 7) (pe_un un_neg pe_int) (fun _ _ => rfl)) (pv 2)) (nomark _))))) (pss_one (ps_set (i := 7) sc_law_plain.nd rfl (Or.inl rfl) (pe_slice (sl_listK (K := K)) (pv 7) po_none (po_some (pe_un un_neg pe_int))))))
      (pss_one (ps_ret (pe_tup (pa_cons (pe_callTy (call_tupK (K := K)) (by rfl) T.b_tuple bt_tuple (pa_cons (pe_slice (sl_listK (K := K)) (pv 7) po_none (po_some (pe_op op_sub (pe_callB (call_lenK (K := K)) (by rfl) T.b_len PySem.boot_len (pa_cons (pv 7) pa_nil)) (pv 3)))) pa_nil)) (pa_cons (pe_callTy (call_tupK (K := K)) (by rfl) T.b_tuple bt_tuple (pa_cons (pe_slice (sl_listK (K := K)) (pv 7) (po_some (pe_op op_sub (pe_callB (call_lenK (K := K)) (by rfl) T.b_len PySem.boot_len (pa_cons (pv 7) pa_nil)) (pv 3))) po_none) pa_nil)) (pa_cons (pv 2) pa_nil)))))))))))), ?_⟩
  try dsimp only [cxOf]
  have hys := hy.sq
  walk_at "rd"
  rw [ll]
  refine ite_d (fun h1 => ?_) (fun h1 => ?_)
  · have e : lp = [] := List.length_eq_zero_iff.mp (by have := V.int.inj h1; omega)
    subst e
    walk_at "rd"
    refine rd_tupleL hx fun p0 H0 hp0 e0 h0 => ?_
    walk_at "rd"
    refine go_tup (Nat.zero_le _) fun p H1 hp e1 h1 => ?_
    walk_at "rd"
    refine go_tup sz3 fun q H2 hq e2 h2 => ?_
    walk_at "rd"
    refine k _ H2 ((e0.trans e1).trans e2) ?_
    rw [plainF_nil]
    exact ⟨.ref p0, .ref p, TuA.of h2, TuA.of ((e1.trans e2) _ _ h0), TuA.of (e2 _ _ h1)⟩
  have hne : lp ≠ [] := fun z => h1 (by rw [z]; rfl)
  have hl : 0 < lp.length := List.length_pos_iff.mpr hne
  walk_at "rd"
  rw [ll]
  refine go_forDown (n := lp.length) (by omega) (fun i σ' H' => ∃ (sz : Nat) (v4 v5 v6 : Option V), σ' = [some x, some y, some (.int rise), some (.int (sz : Int)), v4, v5, v6, none, none] ∧ Ext H H' ∧ szL (cnd lp rise) (lp.length - i) sz = pSize lp rise)
    ⟨lp.length, none, none, none, rfl, Ext.rfl', rfl⟩ ?_ ?_
  · rintro i σ' H' hi ⟨sz, v4, v5, v6, rfl, e, hsz⟩
    have hys' := hys.ext e
    obtain ⟨mm, hmm⟩ : ∃ mm, lp.length - i = mm + 1 := ⟨lp.length - i - 1, by omega⟩
    have hnx : lp.length - (i + 1) = mm := by omega
    rw [hmm] at hsz
    rw [hmm]
    have hsz' : szL (cnd lp rise) mm (if cnd lp rise (mm + 1) = true then mm + 1 else sz) = pSize lp rise := hsz
    have stayF : ∀ (σ2 : L2.St) (v5 v6 : Option V) H2, Ext H H2 → cnd lp rise (mm + 1) = false → σ2 = [some x, some y, some (.int rise), some (.int (sz : Int)), some (.int ((mm + 1 : Nat) : Int)), v5, v6, none, none] →
        ∃ (sz : Nat) (v4 v5 v6 : Option V), σ2 = [some x, some y, some (.int rise), some (.int (sz : Int)), v4, v5, v6, none, none] ∧ Ext H H2 ∧ szL (cnd lp rise) (lp.length - (i + 1)) sz = pSize lp rise := fun σ2 v5 v6 H2 e2 hc hs => by
      refine ⟨sz, _, v5, v6, hs, e2, ?_⟩
      rw [hnx]
      rw [if_neg (by rw [hc]; decide)] at hsz'
      exact hsz'
    have hmpos : (0 : Int) < ((mm + 1 : Nat) : Int) := by omega
    have htp : 0 < lp.length / (mm + 1) := Nat.div_pos (by omega) (by omega)
    have htl : lp.length / (mm + 1) ≤ lp.length := Nat.div_le_self _ _
    walk_at "rd"
    rw [ll]
    refine rd_I (show CDiv _ _ from ⟨hmpos, by omega⟩) ?_
    rw [← Int.natCast_ediv]
    walk_at "rd"
    refine rd_I (show CMul _ _ from .inl ⟨by omega, by omega⟩) ?_
    walk_at "rd"
    rw [dec_vi, ll, ← Int.natCast_mul]
    have htwo : ((lp.length / (mm + 1) : Nat) * (mm + 1) = lp.length) ↔ lp.length % (mm + 1) = 0 := by
      have := Nat.div_add_mod lp.length (mm + 1)
      rw [Nat.mul_comm] at this
      constructor <;> intro h <;> omega
    have hcnd : cnd lp rise (mm + 1) = (decide (lp.length % (mm + 1) = 0) && (decide (rise % ((lp.length / (mm + 1) : Nat) : Int) = 0) && (List.range (lp.length - (mm + 1))).all fun k => decide (lp.getD (k + (mm + 1)) 0 = lp.getD k 0 + rise / ((lp.length / (mm + 1) : Nat) : Int)))) := rfl
    generalize hT : lp.length / (mm + 1) = tn at *
    by_cases hA : lp.length % (mm + 1) = 0
    · have hA' := htwo.mpr hA
      have hA2 : decide (((tn * (mm + 1) : Nat) : Int) = (lp.length : Int)) = true := decide_eq_true (by omega)
      rw [hA2]
      walk_at "rd"
      refine rd_I (show (0 : Int) < _ by omega) ?_
      walk_at "rd"
      rw [dec_vi]
      rw [decide_eq_true hA, Bool.true_and] at hcnd
      by_cases hB : rise % (tn : Int) = 0
      · rw [decide_eq_true hB] at hcnd ⊢
        rw [Bool.true_and] at hcnd
        walk_at "rd"
        refine rd_I (show CDiv _ _ from ⟨by omega, by have := ok.r0; have := ok.rb; omega⟩) ?_
        walk_at "rd"
        rw [ll]
        refine lr_val (n := (lp.length : Int) - ((mm + 1 : Nat) : Int)) (fun k => .bl (decide (lp.getD (k + (mm + 1)) 0 = lp.getD k 0 + rise / (tn : Int)))) (by omega) (by omega) (fun _ => rfl) (fun k H3 hk e3 Q' k' => ?_) (fun pp ys H3 hp3 e3 h3 hl3 hv3 => ?_)
        · have hy3 := hys'.ext e3
          walk_at "rd"
          refine rd_ix hy3 (at_of (j := k + (mm + 1)) (by omega) (getD_at (by omega))) ?_
          walk_at "rd"
          refine rd_ix hy3 (at_of (j := k) (by omega) (getD_at (by omega))) ?_
          walk_at "rd"
          rw [dec_vi]
          exact k' _ Ext.rfl'
        · walk_at "rd"
          have hl3' : ys.length = lp.length - (mm + 1) := by omega
          refine rd_allB h3 hl3' hv3 ?_
          walk_at "rd"
          rw [← hcnd]
          refine ite_b (fun h4 => ?_) (fun h4 => ?_)
          · walk_at "rd"
            refine ⟨mm + 1, _, _, _, rfl, e.trans e3, ?_⟩
            rw [if_pos h4] at hsz'
            rw [hnx]
            exact hsz'
          · walk_at "rd"
            exact stayF _ _ _ H3 (e.trans e3) h4 rfl
      · rw [decide_eq_false hB] at hcnd ⊢
        rw [Bool.false_and] at hcnd
        walk_at "rd"
        exact stayF _ _ _ H' e hcnd rfl
    · have hA2 : decide (((tn * (mm + 1) : Nat) : Int) = (lp.length : Int)) = false := decide_eq_false (fun z => hA (htwo.mp (by omega)))
      rw [hA2]
      rw [decide_eq_false hA, Bool.false_and] at hcnd
      walk_at "rd"
      exact stayF _ _ _ H' e hcnd rfl
  rintro σ' H1 ⟨sz, v4, v5, v6, rfl, e1, hsz⟩
  rw [Nat.sub_self] at hsz
  have hsz' : sz = pSize lp rise := hsz
  subst hsz'
  have g := pSize_good (rise := rise) hne
  have hx1 := hx.ext e1
  have hy1 := hy.ext e1
  have kp := pKeep_le hd lp rise
  have hF := plainF_cons (head := hd) (rise := rise) hne
  have hKd : pKeep hd lp rise = keepL (mt (pRow hd lp rise) (pSize lp rise) (pStep lp rise)) hd.length := rfl
  have hRd : pRow hd lp rise = hd ++ lp.take (pSize lp rise) := rfl
  have hSt : pStep lp rise = rise / ((lp.length / pSize lp rise : Nat) : Int) := rfl
  have hq : 0 < lp.length / pSize lp rise := Nat.div_pos g.2.2 g.2.1
  have hq2 : lp.length / pSize lp rise ≤ lp.length := Nat.div_le_self _ _
  have hy1s := hy1.sq
  walk_at "rd"
  rw [ll]
  refine rd_I (show CDiv _ _ from ⟨by omega, by omega⟩) ?_
  rw [← Int.natCast_ediv]
  refine rd_I (show CDiv _ _ from ⟨by omega, by have := ok.r0; have := ok.rb; omega⟩) ?_
  rw [← hSt]
  walk_at "rd"
  generalize pStep lp rise = st at *
  generalize hpk : pKeep hd lp rise = pk at *
  generalize hrow : pRow hd lp rise = row at *
  generalize pSize lp rise = p at *
  have lt : (lp.take p).length = p := by rw [List.length_take]; omega
  have hrl : row.length = hd.length + p := by rw [hRd, List.length_append, lt]
  have zS2 : 200000 ≤ sizeLine := by decide
  refine rd_list hx1.sq fun p1 H2 hp1 e2 h2 => ?_
  walk_at "rd"
  refine rd_slL (hy1.ext e2) fun p2 H3 hp2 e3 h3 => ?_
  rw [cut_to, ← List.map_take] at h3
  walk_at "rd"
  refine rd_list (SqA.ofL h3) fun p3 H4 hp3 e4 h4 => ?_
  walk_at "rd"
  refine rd_cat (e4 _ _ (e3 _ _ h2)) h4 (by rw [lh, len_int, lt]; refine Nat.le_trans ?_ zS2; omega) fun p4 H5 hp4 e5 h5 => ?_
  rw [← List.map_append, ← hRd] at h5
  walk_at "rd"
  have e15 := (((e1.trans e2).trans e3).trans e4).trans e5
  refine ⟨fun σ' H' => ∃ (pr : Addr), σ' = [some x, some y, some (.int st), some (.int (p : Int)), v4, v5, v6, some (.ref pr), none] ∧ Ext H H' ∧ H' pr = some (.lst ((row.take (p + pk)).map V.int)), ?_, ?_⟩
  · refine ⟨fun kk σ' H' => ∃ (pr : Addr), σ' = [some x, some y, some (.int st), some (.int (p : Int)), v4, v5, v6, some (.ref pr), none] ∧ Ext H H' ∧ H' pr = some (.lst ((row.take (p + kk)).map V.int)) ∧ kk ≤ hd.length ∧ pk = keepL (mt row p st) kk,
      ⟨hd.length, p4, rfl, e15, by rw [List.take_of_length_le (by omega)]; exact h5, Nat.le_refl _, hKd⟩, ?_⟩
    rintro kk σ' H' ⟨pr, rfl, e6, hpr, hkk, hK⟩
    have hlr : (row.take (p + kk)).length = p + kk := by rw [List.length_take]; omega
    have hlr2 := len_int (row.take (p + kk))
    have hq1 := SqA.ofL (K := K) hpr
    walk_at "rd"
    rw [hlr2, hlr]
    refine ite_d (fun hpos => ?_) (fun hpos => ?_)
    · have hk1 : 1 ≤ kk := by omega
      obtain ⟨k', rfl⟩ : ∃ k', kk = k' + 1 := ⟨kk - 1, by omega⟩
      walk_at "rd"
      refine rd_ix hq1 (v := .int (row.getD k' 0)) ?_ ?_
      · rw [atI_neg (by omega), hlr2, hlr, getD_at (show p + (k' + 1) - 1 - p < (row.take (p + (k' + 1))).length by omega)]
        have e : p + (k' + 1) - 1 - p = k' := by omega
        rw [e, getD_take _ _ (by omega)]
      walk_at "rd"
      refine rd_ix hq1 (v := .int (row.getD (k' + p) 0)) ?_ ?_
      · refine atI_lst ?_
        rw [hlr2, hlr, getD_at (show p + (k' + 1) - 1 < (row.take (p + (k' + 1))).length by omega)]
        have e : p + (k' + 1) - 1 = k' + p := by omega
        rw [e, getD_take _ _ (by omega)]
      walk_at "rd"
      rw [dec_vi]
      have hmt : mt row p st (k' + 1) = decide (row.getD k' 0 = row.getD (k' + p) 0 - st) := by
        unfold mt
        have e : k' + 1 - 1 = k' := by omega
        rw [e]
      rw [← hmt]
      refine ite_b (fun h4 => ?_) (fun h4 => ?_)
      · refine ⟨fun σ'' H'' => ∃ (pr : Addr), σ'' = [some x, some y, some (.int st), some (.int (p : Int)), v4, v5, v6, some (.ref pr), none] ∧ Ext H H'' ∧ H'' pr = some (.lst ((row.take (p + k')).map V.int)) ∧ k' ≤ hd.length ∧ pk = keepL (mt row p st) k', fun σ'' H'' hN => ⟨k', by omega, hN⟩, ?_⟩
        walk_at "rd"
        refine rd_slL (SqLv.of hpr) fun p5 H6 hp5 e7 h7 => ?_
        rw [cut_last, hlr2, hlr, ← List.map_take, List.take_take] at h7
        have em : min (p + (k' + 1) - 1) (p + (k' + 1)) = p + k' := by omega
        rw [em] at h7
        walk_at "rd"
        exact ⟨p5, rfl, e6.trans e7, h7, by omega, by rw [hK]; exact keepL_step h4⟩
      · walk_at "rd"
        have : pk = k' + 1 := by rw [hK]; exact keepL_stop h4
        rw [this]
        exact ⟨pr, rfl, e6, hpr⟩
    · walk_at "rd"
      have h0 : kk = 0 := by omega
      subst h0
      have : pk = 0 := hK
      rw [this]
      exact ⟨pr, rfl, e6, hpr⟩
  rintro σ' H6 ⟨pr, rfl, e6, hpr⟩
  have hlr : (row.take (p + pk)).length = p + pk := by rw [List.length_take]; omega
  have hlr2 := len_int (row.take (p + pk))
  have hq6 := SqA.ofL (K := K) hpr
  have eqs : ((p + pk : Nat) : Int) - (p : Int) = (pk : Int) := by omega
  walk_at "rd"
  rw [hlr2, hlr, eqs]
  refine rd_slL (SqLv.of hpr) fun p5 H7 hp5 e7 h7 => ?_
  rw [cut_to, ← List.map_take, List.take_take, Nat.min_eq_left (by omega)] at h7
  walk_at "rd"
  refine rd_tupleL (SqLv.of h7) fun p6 H8 hp6 e8 h8 => ?_
  have hpr8 := e8 _ _ (e7 _ _ hpr)
  have hq8 := SqA.ofL (K := K) hpr8
  walk_at "rd"
  rw [hlr2, hlr, eqs]
  walk_at "rd"
  refine rd_slL (SqLv.of hpr8) fun p7 H9 hp7 e9 h9 => ?_
  rw [cut_from, ← List.map_drop] at h9
  walk_at "rd"
  refine rd_tupleL (SqLv.of h9) fun p8 H10 hp8 e10 h10 => ?_
  walk_at "rd"
  refine go_tup sz3 fun p9 H11 hp9 e11 h11 => ?_
  walk_at "rd"
  have e911 := (e9.trans e10).trans e11
  refine k _ H11 (((e6.trans e7).trans e8).trans e911) ?_
  rw [hF]
  refine ⟨.ref p6, .ref p8, TuA.of h11, TuA.of (e911 _ _ h8), ?_⟩
  have e : (row.drop pk).take p = (row.take (p + pk)).drop pk := by rw [List.drop_take]; congr 1; omega
  show TuA K H11 (.ref p8) (((row.drop pk).take p).map V.int)
  rw [e]
  exact TuA.of (e11 _ _ h10)
end
end K24
set_option Elab.async false
set_option linter.all false
set_option maxRecDepth 100000
set_option maxHeartbeats 4000000
/-! The need by going through the deeds; whether a table is the one; the walk. -/
namespace K24
open PySem PySem.Spec PyProof.Rows L2
local macro_rules | `(tactic| walk_at "tr") => `(tactic| first
  | (with_reducible assumption)
  | (with_reducible exact TuA.sq (by assumption)) | (with_reducible exact SqLv.sq (by assumption)) | (with_reducible exact SqA.ofL (by assumption)) | (with_reducible exact SqA.ofT (by assumption))
  | (with_reducible exact TuA.of (by assumption)) | (with_reducible exact SqLv.of (by assumption)) | (with_reducible exact WsT.wa (by assumption))
  | (with_reducible refine' TuA.sq (TuA.ext ?h ?e); (case e => with_reducible assumption); (case h => walk_at "tr"))
  | (with_reducible refine' SqA.ext ?h ?e; (case e => with_reducible assumption); (case h => walk_at "tr"))
  | (with_reducible refine' TuA.ext ?h ?e; (case e => with_reducible assumption); (case h => walk_at "tr"))
  | (with_reducible refine' SqLv.ext ?h ?e; (case e => with_reducible assumption); (case h => walk_at "tr"))
  | (with_reducible refine' WsA.ext ?h ?e; (case e => with_reducible assumption); (case h => walk_at "tr"))
  | (with_reducible refine' WsT.ext ?h ?e; (case e => with_reducible assumption); (case h => walk_at "tr"))
  | (with_reducible refine' MkrT.ext ?h ?e; (case e => with_reducible assumption); (case h => walk_at "tr"))
  | (with_reducible refine' MkrO.ext ?h ?e; (case e => with_reducible assumption); (case h => walk_at "tr"))
  | (with_reducible refine' TblO.ext ?h ?e; (case e => with_reducible assumption); (case h => walk_at "tr"))
  | (with_reducible refine' RawT.ext ?h ?e; (case e => with_reducible assumption); (case h => walk_at "tr"))
  | (with_reducible refine' ext_at ?h ?e; (case e => with_reducible assumption); (case h => walk_at "tr"))
  | (with_reducible exact Ext.rfl')
  | (with_reducible refine' Ext.trans ?h ?e; (case e => with_reducible assumption); (case h => walk_at "tr")))
local macro_rules | `(tactic| walk_at "rd1") => `(tactic| first
  | (with_reducible refine' rd_seq ?_) | (with_reducible refine' rd_asg ?_) | (with_reducible refine' rd_ret ?_) | (with_reducible refine' rd_if ?_) | (with_reducible refine' rd_drop ?_)
  | ((with_reducible refine' rd_var ?h ?q); (case h => exact rfl))
  | (with_reducible refine' rd_c ?_) | (with_reducible refine' rd_op ?_) | (with_reducible refine' rd_un ?_) | (with_reducible refine' rd_test ?_) | (with_reducible refine' rd_B ?_) | (with_reducible refine' rd_bl ?_)
  | (with_reducible refine' rd_and ?_) | (with_reducible refine' rd_or ?_) | (with_reducible refine' rd_not ?_) | (with_reducible refine' rd_andV ?_) | (with_reducible refine' rd_orV ?_) | (with_reducible refine' rd_notV ?_)
  | (with_reducible refine' rd_ifE ?_) | (with_reducible refine' rd_chain ?_) | (with_reducible refine' rd_nil ?_) | (with_reducible refine' rd_cons ?_) | (with_reducible refine' rd_cb ?_) | (with_reducible refine' rd_call0 ?_) | (with_reducible refine' rd_call ?_)
  | (with_reducible refine' rd_part ?_) | (with_reducible refine' rd_int ?_) | (with_reducible refine' rd_nopart ?_) | (with_reducible refine' rd_sl ?_) | (with_reducible refine' rd_tup ?_) | (with_reducible refine' rd_lst ?_)
  | (with_reducible refine' rd_I0 ?_) | (with_reducible refine' rd_U ?_) | (with_reducible refine' rd_intI ?_) | (with_reducible refine' rd_abs ?_) | (with_reducible refine' rd_lc ?_) | (with_reducible refine' rd_lr ?_)
  | (with_reducible refine' rd_next ?_) | (with_reducible refine' rd_cont ?_) | (with_reducible refine' rd_break ?_)
  | ((with_reducible refine' rd_len ?h ?q); (case h => walk_at "tr"))
  | ((with_reducible refine' rd_eq ?h ?q); (case h => exact rfl)) | ((with_reducible refine' rd_ne ?h ?q); (case h => exact rfl))
  | ((with_reducible refine' ite_t ?h ?q); (case h => exact rfl)) | ((with_reducible refine' ite_f ?h ?q); (case h => exact rfl))
  | (with_reducible refine' rd_gn ?_) | (with_reducible refine' rd_forL ?_) | (with_reducible refine' rd_forT ?_) | (with_reducible refine' rd_forR1 ?_) | (with_reducible refine' rd_forR2 ?_) | (with_reducible refine' rd_forR3 ?_)
  | (with_reducible refine' rd_make ?_) | (with_reducible refine' rd_sfld ?_) | (with_reducible refine' rd_mth ?_) | (with_reducible refine' rd_callO ?_)
  | (with_reducible refine' rd_forS ?_) | (with_reducible refine' rd_gsub ?_)
  | (with_reducible refine' rd_fld ?_) | (with_reducible refine' rd_asgG ?_) | (with_reducible refine' rd_bm ?_)
  | ((with_reducible refine' rd_gT2 ?h ?n ?q); (case h => walk_at "tr"); (case n => exact rfl)) | ((with_reducible refine' rd_gT3 ?h ?n ?q); (case h => walk_at "tr"); (case n => exact rfl))
  | dsimp only)
local macro_rules | `(tactic| walk_at "rd") => `(tactic| repeat (walk_at "rd1"))

def pdIs (ns : List Int) : PyData := .tuple (ns.map PyData.int)
theorem dp_is {K : PySem.W.Frag} {H : Hp} {v : V} {ns : List Int} (h : TuA K H v (ns.map V.int)) : Dp K H v (pdIs ns) := by
  obtain ⟨a, rfl, h⟩ := h
  refine .tup h (dp_all (List.length_map ..) fun j v d h1 h2 => ?_)
  rw [List.getElem?_map, h2] at h1
  have e := Option.some.inj h1
  subst e
  exact .int _
theorem sh_is (ns : List Int) : SeqAt.shaped (pdIs ns) = true := by
  unfold SeqAt.shaped
  have h1 : (pdIs ns).canLay0 = true := by
    show PyData.canLay0 (.tuple _) = true
    unfold PyData.canLay0
    exact can_all (f := PyData.int) (fun a => rfl) ns
  have h2 : (pdIs ns).depth ≤ 1 := by
    show PyData.depth (.tuple _) ≤ 1
    unfold PyData.depth
    have := depth_all (f := PyData.int) (n := 0) (fun a => Nat.le_refl _) ns
    omega
  rw [h1, Bool.true_and]
  exact decide_eq_true (Nat.le_trans h2 (by decide))
theorem eqv_i (a b : Int) : PyData.eqv (.int a) (.int b) = decide (a = b) := by
  simp [PyData.eqv]
  by_cases h : a = b <;> simp [h]
theorem eqv_is (a b : List Int) : PyData.eqv (pdIs a) (pdIs b) = decide (a = b) := by
  show PyData.eqv (.tuple _) (.tuple _) = _
  unfold PyData.eqv
  exact eqv_all eqv_i a b
theorem go_neIs {K : PySem.W.Frag} {H : Hp} {x y : V} {a b : List Int} {Q : VK} (h1 : TuA K H x (a.map V.int)) (h2 : TuA K H y (b.map V.int)) (q : Q (.bl (!decide (a = b))) H) : rNeD K x y H Q :=
  ⟨_, _, dp_is h1, dp_is h2, sh_is a, sh_is b, by rw [eqv_is]; exact q⟩
theorem ahead_snoc (i : Int) (ds : List Dd) (d : Dd) : ahead i (ds ++ [d]) = step i (ahead i ds) d := by
  unfold ahead
  rw [List.foldl_append]
  rfl
theorem take_snoc {α : Type} {l : List α} {j : Nat} {d : α} (h : l[j]? = some d) : l.take (j + 1) = l.take j ++ [d] := by
  rw [List.take_add_one, h]
  rfl
def spLSame (K : PySem.W.Frag) : Sp := fun vs H Q _ => ∃ (p : Addr) (u : V) (r : Raw), vs = [.ref p, u] ∧ TblO K H p r ∧ RawT K H u r ∧ (∀ x ∈ r.1 ++ r.2.1, 0 ≤ x) ∧ 0 ≤ r.2.2 ∧ r.1.length ≤ 50000 ∧ r.2.1.length ≤ 50000 ∧
  ∀ H', Ext H H' → Q (.bl true) H'
def spLWalked (K : PySem.W.Frag) : Sp := fun vs H Q _ => ∃ (v : V) (i : Int) (u : V) (m : Mkr) (f t : List Nat), vs = [v, .int i, u, .int 30] ∧ MkrT K H v m ∧ m.Ok ∧ CrsT K H u f t ∧ CrsOk m.ways.length f t ∧
  ∀ p H', Ext H H' → H' p = some (.lst ((List.range 30).map fun j => ov (rowAt (needR m i f t) j))) → Q (.ref p) H'
section
variable {P : Program} {w : World} {K : PySem.W.Frag} {mg : Str → Option Value} {base : Heap}
theorem k_law_on (T : Facts K mg) : Cal P w K mg base 2 "_law_on" ["_law_maker_here", "_law_inlet", "_law_course_here"] (spLOn K) := by
  have C_law_ahead := k_law_ahead (P := P) (w := w) (base := base) T
  have C_law_plain := k_law_plain (P := P) (w := w) (base := base) T
  refine cal_mk T.F_law_on T.g_law_on sc_law_on (fun _ _ _ _ _ _ us hl => match us, hl with | [_, _, _], _ => rfl) (fun vs H Q E h => by obtain ⟨i, b, c, d, e, g, rfl, _⟩ := h; rfl) (fun f cdv A outer s H vs Q E hr h => ?_)
  obtain ⟨a, i, x, m, cf, ct, rfl, ⟨b, ww, hm, hb, us, hws, hlen, hu⟩, ok, ⟨u, v, hx, hf, ht⟩, cok, k⟩ := h
  have hlens := need_len ok cok
  have nok := needR_ok i ok cok
  have hnd : needR m i cf ct = ((ahead i (m.begin_ ++ pick m.ways cf)).1, (ahead i (pick m.ways ct)).1.map ((ahead i (m.begin_ ++ pick m.ways cf)).2 + ·), if (ahead i (pick m.ways ct)).1 = [] then 0 else (ahead i (pick m.ways ct)).2) := rfl
  refine ⟨_, (pss_cons (ps_set (i := 3) sc_law_on.nd rfl (Or.inl rfl) (pe_callTy (call_listK (K := K)) (by rfl) T.b_list bt_list (pa_cons (pe_ix (ix_K (K := K)) (pv 0) pe_int (fun _ _ => rfl)) pa_nil)))
      (pss_cons (ps_for PassesOwn.never rfl (pi_tupK (K := K) (pe_ix (ix_K (K := K)) (pv 2) pe_int (fun _ _ => rfl))) (pg_name (i := 4) sc_law_on.nd rfl (Or.inl rfl)) (pss_one (ps_set (i := 3) sc_law_on.nd rfl (Or.inl rfl) (pe_op op_cat (pv 3) (pe_callTy (call_listK (K := K)) (by rfl) T.b_list bt_list (pa_cons (pe_ix (ix_K (K := K)) (pe_ix (ix_K (K := K)) (pv 0) pe_int (fun _ _ => rfl)) (pv 4) (fun _ _ => rfl)) pa_nil))))))
      (pss_cons (ps_asg (pe_k C_law_ahead hr (by decide) (by rfl) (pa_cons (pv 3) (pa_cons (pv 1) pa_nil))) (pg_tupK (K := K) rfl (pgs_cons (pg_name (i := 5) sc_law_on.nd rfl (Or.inl rfl)) (pgs_cons (pg_name (i := 6) sc_law_on.nd rfl (Or.inr rfl)) pgs_nil))))
      (pss_cons (ps_set (i := 7) sc_law_on.nd rfl (Or.inl rfl) (pe_lst pa_nil))
      (pss_cons (ps_for PassesOwn.never rfl (pi_tupK (K := K) (pe_ix (ix_K (K := K)) (pv 2) pe_int (fun _ _ => rfl))) (pg_name (i := 4) sc_law_on.nd rfl (Or.inl rfl)) (pss_one (ps_set (i := 7) sc_law_on.nd rfl (Or.inl rfl) (pe_op op_cat (pv 7) (pe_callTy (call_listK (K := K)) (by rfl) T.b_list bt_list (pa_cons (pe_ix (ix_K (K := K)) (pe_ix (ix_K (K := K)) (pv 0) pe_int (fun _ _ => rfl)) (pv 4) (fun _ _ => rfl)) pa_nil))))))
      (pss_cons (ps_asg (pe_k C_law_ahead hr (by decide) (by rfl) (pa_cons (pv 7) (pa_cons (pv 1) pa_nil))) (pg_tupK (K := K) rfl (pgs_cons (pg_name (i := 8) sc_law_on.nd rfl (Or.inl rfl)) (pgs_cons (pg_name (i := 9) sc_law_on.nd rfl (Or.inl rfl)) pgs_nil))))
      (pss_one (ps_ret (pe_k C_law_plain hr (by decide) (by rfl) (pa_cons (pv 5) (pa_cons (pe_lc (own := [("_law_more", 10)]) (g := gName 10) (tt := tYes) rfl sc_law_on.nd (pi_seqK (K := K) (pv 8)) (blkOk_by (N := n_law_on) (sc := defScope s_law_on) (by decide +kernel)) (fun _ _ _ _ _ => pg_name (i := 10) sc_law_on.nd rfl (Or.inl rfl)) (fun _ _ _ _ _ => pts_nil) (fun _ _ _ _ _ => (pe_op op_add (pv 6) (pv 10)))) (pa_cons (pe_ifExp (pt_cmpR op_gt (pe_callB (call_lenK (K := K)) (by rfl) T.b_len PySem.boot_len (pa_cons (pv 8) pa_nil)) pe_int (nomark _)) (pv 9) pe_int) pa_nil)))))))))))), ?_⟩
  try dsimp only [cxOf]
  walk_at "rd"
  refine rd_ix hm.sq (at_of (j := 1) rfl rfl) ?_
  walk_at "rd"
  refine rd_list hb.sq fun p1 H1 hp1 e1 h1 => ?_
  walk_at "rd"
  refine rd_ix (hx.ext e1).sq (at_of (j := 0) rfl rfl) ?_
  walk_at "rd"
  refine go_forT (hf.ext e1) (fun n σ H' => ∃ p v4, σ = [some a, some (.int i), some x, some (.ref p), v4, none, none, none, none, none, none] ∧ Ext H1 H' ∧ H' p = some (.lst ((m.begin_ ++ pick m.ways (cf.take n)).map Dd.v)))
    ⟨p1, none, rfl, Ext.rfl', by rw [h1]; simp [pick]⟩ (fun n σ' H' ⟨_, _, _, e, _⟩ => (hf.ext e1).ext e) ?_ ?_
  · rintro n y σ' H' hy ⟨p, v4, rfl, e, hp⟩
    obtain ⟨kk, hk, rfl⟩ := map_at hy
    obtain ⟨u2, hu1, hu2⟩ := ws_at hlen hu (cok.f1 kk (List.mem_of_getElem? hk))
    have e' := e1.trans e
    have hn := (List.getElem?_eq_some_iff.mp hk).1
    unfold nv
    walk_at "rd"
    refine rd_ix (hm.ext e').sq (at_of (j := 2) rfl rfl) ?_
    walk_at "rd"
    refine rd_ix (hws.ext e').sq (at_of (j := kk) rfl hu1) ?_
    walk_at "rd"
    refine rd_list (hu2.ext e').sq fun p2 H2 hp2 e2 h2 => ?_
    walk_at "rd"
    refine rd_cat (e2 _ _ hp) h2 ?_ fun p3 H3 hp3 e3 h3 => ?_
    · have hb1 := pick_len ok.wl (cf.take (n + 1))
      rw [pick_take _ hk, List.length_append] at hb1
      have hb2 : (cf.take (n + 1)).length ≤ 200 := by rw [List.length_take]; have := cok.fl; omega
      have := ok.bl
      rw [len_dd, len_dd, List.length_append]
      refine Nat.le_trans ?_ zS
      omega
    walk_at "rd"
    refine ⟨p3, _, rfl, (e.trans e2).trans e3, ?_⟩
    rw [h3, pick_take _ hk, ← List.append_assoc, List.map_append (l₁ := m.begin_ ++ pick m.ways (cf.take n))]
  rintro σ' H2 ⟨pd, v4, rfl, e2, hp⟩
  have et : cf.take (cf.map nv).length = cf := by rw [List.length_map, List.take_of_length_le (Nat.le_refl _)]
  rw [et] at hp
  have e12 := e1.trans e2
  walk_at "rd"
  refine ⟨.ref pd, i, _, rfl, SqLv.of hp, by omega, fun q1 q2 H3 e3 _ hq2 hq1 => ?_⟩
  have e13 := e12.trans e3
  walk_at "rd"
  refine go_lst (Nat.zero_le _) fun p4 H4 hp4 e4 h4 => ?_
  have e14 := e13.trans e4
  have hq1' := e4 _ _ hq1
  walk_at "rd"
  refine rd_ix (hx.ext e14).sq (at_of (j := 1) rfl rfl) ?_
  walk_at "rd"
  refine go_forT (ht.ext e14) (fun n σ H' => ∃ p v4, σ = [some a, some (.int i), some x, some (.ref pd), v4, some (.ref q1), some (.int (ahead i (m.begin_ ++ pick m.ways cf)).2), some (.ref p), none, none, none] ∧ Ext H4 H' ∧ H' p = some (.lst ((pick m.ways (ct.take n)).map Dd.v)))
    ⟨p4, _, rfl, Ext.rfl', by rw [h4]; rfl⟩ (fun n σ' H' ⟨_, _, _, e, _⟩ => (ht.ext e14).ext e) ?_ ?_
  · rintro n y σ' H' hy ⟨p, v4, rfl, e, hp⟩
    obtain ⟨kk, hk, rfl⟩ := map_at hy
    obtain ⟨u2, hu1, hu2⟩ := ws_at hlen hu (cok.t1 kk (List.mem_of_getElem? hk))
    have e' := e14.trans e
    have hn := (List.getElem?_eq_some_iff.mp hk).1
    unfold nv
    walk_at "rd"
    refine rd_ix (hm.ext e').sq (at_of (j := 2) rfl rfl) ?_
    walk_at "rd"
    refine rd_ix (hws.ext e').sq (at_of (j := kk) rfl hu1) ?_
    walk_at "rd"
    refine rd_list (hu2.ext e').sq fun p2 H2 hp2 e2 h2 => ?_
    walk_at "rd"
    refine rd_cat (e2 _ _ hp) h2 ?_ fun p3 H3 hp3 e3 h3 => ?_
    · have hb1 := pick_len ok.wl (ct.take (n + 1))
      rw [pick_take _ hk, List.length_append] at hb1
      have hb2 : (ct.take (n + 1)).length ≤ 40 := by rw [List.length_take]; have := cok.tl; omega
      rw [len_dd, len_dd]
      refine Nat.le_trans ?_ zS
      omega
    walk_at "rd"
    refine ⟨p3, _, rfl, (e.trans e2).trans e3, ?_⟩
    rw [h3, pick_take _ hk, List.map_append]
  rintro σ' H5 ⟨p5, v5, rfl, e5, hp5⟩
  have et : ct.take (ct.map nv).length = ct := by rw [List.length_map, List.take_of_length_le (Nat.le_refl _)]
  rw [et] at hp5
  have e15 := e14.trans e5
  have hq1'' := e5 _ _ hq1'
  walk_at "rd"
  refine ⟨.ref p5, i, _, rfl, SqLv.of hp5, by omega, fun r1 r2 H6 e6 _ hr2 hr1 => ?_⟩
  have e16 := e15.trans e6
  have hq6 := e6 _ _ hq1''
  walk_at "rd"
  have hl2 := len_int (ahead i (pick m.ways ct)).1
  have hz2 := (ahead_bounds i (pick m.ways ct)).2.2.2.1
  refine lc_val (fun n => .int ((ahead i (m.begin_ ++ pick m.ways cf)).2 + (ahead i (pick m.ways ct)).1.getD n 0)) (SqA.ofL hr1) (by omega) (fun _ => rfl) (fun n y H7 hy e7 Q' k' => ?_) (fun pl ys H7 hpl e7 h7 hl7 hv7 => ?_)
  · obtain ⟨z, hz, rfl⟩ := map_at hy
    have ez : (ahead i (pick m.ways ct)).1.getD n 0 = z := by rw [List.getD_eq_getElem?_getD, hz]; rfl
    rw [ez] at k'
    walk_at "rd"
    exact k' _ Ext.rfl'
  have ey : ys = ((ahead i (pick m.ways ct)).1.map ((ahead i (m.begin_ ++ pick m.ways cf)).2 + ·)).map V.int := by
    rw [list_of hl7 hv7]
    apply List.ext_getElem?
    intro n
    rw [List.getElem?_map, List.getElem?_map, List.getElem?_map]
    by_cases hi : n < (ahead i (pick m.ways ct)).1.length
    · rw [List.getElem?_range (by omega), List.getElem?_eq_getElem hi]
      show some (V.int ((ahead i (m.begin_ ++ pick m.ways cf)).2 + (ahead i (pick m.ways ct)).1.getD n 0)) = some (V.int ((ahead i (m.begin_ ++ pick m.ways cf)).2 + (ahead i (pick m.ways ct)).1[n]))
      rw [List.getD_eq_getElem?_getD, List.getElem?_eq_getElem hi]
      rfl
    · rw [List.getElem?_eq_none (by rw [List.length_range]; omega), List.getElem?_eq_none (by omega)]
      rfl
  have hr7 := SqA.ofL (K := K) (e7 _ _ hr1)
  walk_at "rd"
  refine ite_d (fun he => ?_) (fun he => ?_)
  · have hne : ¬ (ahead i (pick m.ways ct)).1 = [] := fun z => by rw [z] at he; exact absurd he (by decide)
    rw [if_neg hne] at hnd
    rw [hnd] at nok k
    walk_at "rd"
    exact ⟨.ref q1, .ref pl, _, _, _, rfl, SqLv.of (e7 _ _ hq6), SqLv.of (by rw [← ey]; exact h7), nok, fun z H8 e8 hz => k z H8 ((e16.trans e7).trans e8) hz⟩
  · have e0 : (ahead i (pick m.ways ct)).1 = [] := List.length_eq_zero_iff.mp (by omega)
    rw [if_pos e0] at hnd
    rw [hnd] at nok k
    walk_at "rd"
    exact ⟨.ref q1, .ref pl, _, _, _, rfl, SqLv.of (e7 _ _ hq6), SqLv.of (by rw [← ey]; exact h7), nok, fun z H8 e8 hz => k z H8 ((e16.trans e7).trans e8) hz⟩
theorem k_law_same (T : Facts K mg) : Cal P w K mg base 3 "_law_same" ["_law_table", "_law_raw"] (spLSame K) := by
  have C_law_is_count := k_law_is_count (P := P) (w := w) (base := base) T
  refine cal_mk T.F_law_same T.g_law_same sc_law_same (fun _ _ _ _ _ _ us hl => match us, hl with | [_, _], _ => rfl) (fun vs H Q E h => by obtain ⟨i, b, c, rfl, _⟩ := h; rfl) (fun f cdv A outer s H vs Q E hr h => ?_)
  obtain ⟨p, u, ⟨hd, lp, rise⟩, rfl, hT, ⟨rh, rl, hu, hrh, hrl⟩, hpos, hr0, zh, zl, k⟩ := h
  have hTo := hT
  obtain ⟨dx, th, tl, ht, hth, htl⟩ := hT
  dsimp only at ht hth htl hu hrh hrl hpos hr0 zh zl
  have lh := len_int hd
  have ll := len_int lp
  have zS2 : 200000 ≤ sizeLine := by decide
  refine ⟨_, (pss_cons (ps_if (PW.pt (pw_or (pt_not (pt_val (pe_callB (call_isiK2 (K := K)) (by rfl) T.b_isinstance bt_isinstance (pa_cons (pv 0) (pa_cons (pe_glob (v := .ref (He.ga K "Table")) (by rfl) T.g_Table rfl) pa_nil))))) (pw_or (pt_cmpR (op_neDK (K := K) hr.units) (pe_fldK (K := K) (pv 0) rfl) (pe_ix (ix_K (K := K)) (pv 1) pe_int (fun _ _ => rfl)) (nomark _)) (pw_or1 (pt_cmpR (op_neDK (K := K) hr.units) (pe_fldK (K := K) (pv 0) rfl) (pe_ix (ix_K (K := K)) (pv 1) pe_int (fun _ _ => rfl)) (nomark _)))))) (pss_one (ps_ret pe_bl)) pss_nil)
      (pss_cons (ps_if (PW.pt (pw_or (pt_not (pt_val (pe_callB (call_isiK2 (K := K)) (by rfl) T.b_isinstance bt_isinstance (pa_cons (pe_fldK (K := K) (pv 0) rfl) (pa_cons (pe_bltn (v := .ty "tuple") (by rfl) T.b_tuple bt_tuple rfl) pa_nil))))) (pw_or1 (pt_not (pt_val (pe_callB (call_isiK2 (K := K)) (by rfl) T.b_isinstance bt_isinstance (pa_cons (pe_fldK (K := K) (pv 0) rfl) (pa_cons (pe_bltn (v := .ty "tuple") (by rfl) T.b_tuple bt_tuple rfl) pa_nil)))))))) (pss_one (ps_ret pe_bl)) pss_nil)
      (pss_cons (ps_if (pt_not (pt_val (pe_callB (call_allK (K := K)) (by rfl) T.b_all bt_all (pa_cons (pe_lc (own := [("_law_one", 2)]) (g := gName 2) (tt := tYes) rfl sc_law_same.nd (pi_seqK (K := K) (pe_op (op_catK (K := K)) (pe_fldK (K := K) (pv 0) rfl) (pe_fldK (K := K) (pv 0) rfl))) (blkOk_by (N := n_law_same) (sc := defScope s_law_same) (by decide +kernel)) (fun _ _ _ _ _ => pg_name (i := 2) sc_law_same.nd rfl (Or.inl rfl)) (fun _ _ _ _ _ => pts_nil) (fun _ _ _ _ _ => (pe_k C_law_is_count hr (by decide) (by rfl) (pa_cons (pv 2) pa_nil)))) pa_nil)))) (pss_one (ps_ret pe_bl)) pss_nil)
      (pss_one (ps_ret (pe_and (pe_k C_law_is_count hr (by decide) (by rfl) (pa_cons (pe_fldK (K := K) (pv 0) rfl) pa_nil)) (pe_one (pe_cmpR op_eq (pe_fldK (K := K) (pv 0) rfl) (pe_ix (ix_K (K := K)) (pv 1) pe_int (fun _ _ => rfl)) (nomark _))))))))), ?_⟩
  try dsimp only [cxOf]
  walk_at "rd"
  refine rd_isiC (ty_tbl T hTo) (exF T).tt ?_
  walk_at "rd"
  refine go_fld ht T.cl_Table T.na_Table_head (tf_h _ _ _) ?_
  walk_at "rd"
  refine rd_ix hu.sq (at_of (j := 0) rfl rfl) ?_
  refine go_neIs hth hrh ?_
  rw [decide_eq_true rfl]
  walk_at "rd"
  refine go_fld ht T.cl_Table T.na_Table_loop (tf_l _ _ _) ?_
  walk_at "rd"
  refine rd_ix hu.sq (at_of (j := 1) rfl rfl) ?_
  refine go_neIs htl hrl ?_
  rw [decide_eq_true rfl]
  walk_at "rd"
  refine go_fld ht T.cl_Table T.na_Table_head (tf_h _ _ _) ?_
  walk_at "rd"
  refine rd_isi (ty_tu hth) kit_tt ?_
  walk_at "rd"
  refine go_fld ht T.cl_Table T.na_Table_loop (tf_l _ _ _) ?_
  walk_at "rd"
  refine rd_isi (ty_tu htl) kit_tt ?_
  walk_at "rd"
  refine go_fld ht T.cl_Table T.na_Table_head (tf_h _ _ _) ?_
  walk_at "rd"
  refine go_fld ht T.cl_Table T.na_Table_loop (tf_l _ _ _) ?_
  refine rd_catT hth htl (by rw [lh, ll]; refine Nat.le_trans ?_ zS2; omega) fun v H1 e1 hv => ?_
  rw [← List.map_append] at hv
  refine lc_val (fun _ => .bl true) hv.sq (by rw [len_int, List.length_append]; omega) (fun _ => rfl) (fun i z H2 hz e2 Q' k' => ?_) (fun pl ys H2 hpl e2 h2 hl2 hv2 => ?_)
  · obtain ⟨n, hn, rfl⟩ := map_at hz
    walk_at "rd"
    exact ⟨n, rfl, hpos n (List.mem_of_getElem? hn), fun H3 e3 => k' H3 e3⟩
  walk_at "rd"
  refine rd_all h2 hv2 ?_
  walk_at "rd"
  have e12 := e1.trans e2
  refine go_fld (e12 _ _ ht) T.cl_Table T.na_Table_rise (tf_r _ _ _) ?_
  walk_at "rd"
  refine ⟨rise, rfl, hr0, fun H3 e3 => ?_⟩
  walk_at "rd"
  refine go_fld (e3 _ _ (e12 _ _ ht)) T.cl_Table T.na_Table_rise (tf_r _ _ _) ?_
  walk_at "rd"
  refine rd_ix ((hu.ext e12).ext e3).sq (at_of (j := 2) rfl rfl) ?_
  walk_at "rd"
  rw [dec_vi, decide_eq_true rfl]
  exact k _ (e12.trans e3)
end
end K24
set_option Elab.async false
set_option linter.all false
set_option maxRecDepth 100000
set_option maxHeartbeats 4000000
/-! The walk; another maker. -/
namespace K24
open PySem PySem.Spec PyProof.Rows L2
local macro_rules | `(tactic| walk_at "tr") => `(tactic| first
  | (with_reducible assumption)
  | (with_reducible exact TuA.sq (by assumption)) | (with_reducible exact SqLv.sq (by assumption)) | (with_reducible exact SqA.ofL (by assumption)) | (with_reducible exact SqA.ofT (by assumption))
  | (with_reducible exact TuA.of (by assumption)) | (with_reducible exact SqLv.of (by assumption)) | (with_reducible exact WsT.wa (by assumption))
  | (with_reducible refine' TuA.sq (TuA.ext ?h ?e); (case e => with_reducible assumption); (case h => walk_at "tr"))
  | (with_reducible refine' SqA.ext ?h ?e; (case e => with_reducible assumption); (case h => walk_at "tr"))
  | (with_reducible refine' TuA.ext ?h ?e; (case e => with_reducible assumption); (case h => walk_at "tr"))
  | (with_reducible refine' SqLv.ext ?h ?e; (case e => with_reducible assumption); (case h => walk_at "tr"))
  | (with_reducible refine' WsA.ext ?h ?e; (case e => with_reducible assumption); (case h => walk_at "tr"))
  | (with_reducible refine' WsT.ext ?h ?e; (case e => with_reducible assumption); (case h => walk_at "tr"))
  | (with_reducible refine' MkrT.ext ?h ?e; (case e => with_reducible assumption); (case h => walk_at "tr"))
  | (with_reducible refine' MkrO.ext ?h ?e; (case e => with_reducible assumption); (case h => walk_at "tr"))
  | (with_reducible refine' TblO.ext ?h ?e; (case e => with_reducible assumption); (case h => walk_at "tr"))
  | (with_reducible refine' RawT.ext ?h ?e; (case e => with_reducible assumption); (case h => walk_at "tr"))
  | (with_reducible refine' ext_at ?h ?e; (case e => with_reducible assumption); (case h => walk_at "tr"))
  | (with_reducible exact Ext.rfl')
  | (with_reducible refine' Ext.trans ?h ?e; (case e => with_reducible assumption); (case h => walk_at "tr")))
local macro_rules | `(tactic| walk_at "rd1") => `(tactic| first
  | (with_reducible refine' rd_seq ?_) | (with_reducible refine' rd_asg ?_) | (with_reducible refine' rd_ret ?_) | (with_reducible refine' rd_if ?_) | (with_reducible refine' rd_drop ?_)
  | ((with_reducible refine' rd_var ?h ?q); (case h => exact rfl))
  | (with_reducible refine' rd_c ?_) | (with_reducible refine' rd_op ?_) | (with_reducible refine' rd_un ?_) | (with_reducible refine' rd_test ?_) | (with_reducible refine' rd_B ?_) | (with_reducible refine' rd_bl ?_)
  | (with_reducible refine' rd_and ?_) | (with_reducible refine' rd_or ?_) | (with_reducible refine' rd_not ?_) | (with_reducible refine' rd_andV ?_) | (with_reducible refine' rd_orV ?_) | (with_reducible refine' rd_notV ?_)
  | (with_reducible refine' rd_ifE ?_) | (with_reducible refine' rd_chain ?_) | (with_reducible refine' rd_nil ?_) | (with_reducible refine' rd_cons ?_) | (with_reducible refine' rd_cb ?_) | (with_reducible refine' rd_call0 ?_) | (with_reducible refine' rd_call ?_)
  | (with_reducible refine' rd_part ?_) | (with_reducible refine' rd_int ?_) | (with_reducible refine' rd_nopart ?_) | (with_reducible refine' rd_sl ?_) | (with_reducible refine' rd_tup ?_) | (with_reducible refine' rd_lst ?_)
  | (with_reducible refine' rd_I0 ?_) | (with_reducible refine' rd_U ?_) | (with_reducible refine' rd_intI ?_) | (with_reducible refine' rd_abs ?_) | (with_reducible refine' rd_lc ?_) | (with_reducible refine' rd_lr ?_)
  | (with_reducible refine' rd_next ?_) | (with_reducible refine' rd_cont ?_) | (with_reducible refine' rd_break ?_)
  | ((with_reducible refine' rd_len ?h ?q); (case h => walk_at "tr"))
  | ((with_reducible refine' rd_eq ?h ?q); (case h => exact rfl)) | ((with_reducible refine' rd_ne ?h ?q); (case h => exact rfl))
  | ((with_reducible refine' ite_t ?h ?q); (case h => exact rfl)) | ((with_reducible refine' ite_f ?h ?q); (case h => exact rfl))
  | (with_reducible refine' rd_gn ?_) | (with_reducible refine' rd_forL ?_) | (with_reducible refine' rd_forT ?_) | (with_reducible refine' rd_forR1 ?_) | (with_reducible refine' rd_forR2 ?_) | (with_reducible refine' rd_forR3 ?_)
  | (with_reducible refine' rd_make ?_) | (with_reducible refine' rd_sfld ?_) | (with_reducible refine' rd_mth ?_) | (with_reducible refine' rd_callO ?_)
  | (with_reducible refine' rd_forS ?_) | (with_reducible refine' rd_gsub ?_)
  | (with_reducible refine' rd_fld ?_) | (with_reducible refine' rd_asgG ?_) | (with_reducible refine' rd_bm ?_)
  | ((with_reducible refine' rd_gT2 ?h ?n ?q); (case h => walk_at "tr"); (case n => exact rfl)) | ((with_reducible refine' rd_gT3 ?h ?n ?q); (case h => walk_at "tr"); (case n => exact rfl))
  | dsimp only)
local macro_rules | `(tactic| walk_at "rd") => `(tactic| repeat (walk_at "rd1"))

theorem rep_len {α : Type} (n : Nat) (l : List α) : (List.replicate n l).flatten.length = n * l.length := by
  induction n with
  | zero => simp
  | succ n ih => rw [List.replicate_succ, List.flatten_cons, List.length_append, ih, Nat.add_mul]; omega
theorem rep_snoc {α : Type} (n : Nat) (l : List α) : (List.replicate (n + 1) l).flatten = (List.replicate n l).flatten ++ l := by
  rw [List.replicate_succ', List.flatten_append]
  simp
theorem rep_map {α β : Type} (f : α → β) (n : Nat) (l : List α) : (List.replicate n (l.map f)).flatten = ((List.replicate n l).flatten).map f := by
  induction n with
  | zero => rfl
  | succ n ih => rw [List.replicate_succ, List.replicate_succ, List.flatten_cons, List.flatten_cons, List.map_append, ih]
/-- the row that the walk ends with -/
theorem walk_row (xs : List Int) : ((xs.map V.int) ++ (List.replicate 30 [V.non]).flatten).take 30 = (List.range 30).map fun j => ov xs[j]? := by
  apply List.ext_getElem?
  intro j
  rw [List.getElem?_map]
  by_cases hj : j < 30
  · rw [List.getElem?_take_of_lt hj, List.getElem?_range hj]
    by_cases hx : j < xs.length
    · rw [List.getElem?_append_left (by rw [List.length_map]; exact hx), List.getElem?_map, List.getElem?_eq_getElem hx]
      show some (V.int xs[j]) = some (ov xs[j]?)
      rw [List.getElem?_eq_getElem hx]
      rfl
    · rw [List.getElem?_append_right (by rw [List.length_map]; omega), List.length_map]
      have e : (List.replicate 30 [V.non]).flatten = List.replicate 30 V.non := by decide
      rw [e, List.getElem?_replicate, if_pos (by omega)]
      show _ = some (ov xs[j]?)
      rw [List.getElem?_eq_none (by omega)]
      rfl
  · rw [List.getElem?_eq_none (by rw [List.length_take]; omega), List.getElem?_eq_none (by rw [List.length_range]; omega)]
    rfl
section
variable {P : Program} {w : World} {K : PySem.W.Frag} {mg : Str → Option Value} {base : Heap}
theorem k_law_walked (T : Facts K mg) : Cal P w K mg base 1 "_law_walked" ["_law_maker_here", "_law_inlet", "_law_course_here", "_law_gives"] (spLWalked K) := by
  refine cal_mk T.F_law_walked T.g_law_walked sc_law_walked (fun _ _ _ _ _ _ us hl => match us, hl with | [_, _, _, _], _ => rfl) (fun vs H Q E h => by obtain ⟨i, b, c, d, e, g, rfl, _⟩ := h; rfl) (fun f cdv A outer s H vs Q E hr h => ?_)
  obtain ⟨a, i, x, m, cf, ct, rfl, ⟨b, ww, hm, hb, us, hws, hlen, hu⟩, ok, ⟨u, v, hx, hf, ht⟩, cok, k⟩ := h
  have zS2 : 200000 ≤ sizeLine := by decide
  have hbl := ok.bl
  have hfl := cok.fl
  have htl := cok.tl
  have ltn : (ct.map nv).length = ct.length := List.length_map ..
  refine ⟨_, (pss_cons (ps_set (i := 4) sc_law_walked.nd rfl (Or.inl rfl) (pe_lst pa_nil))
      (pss_cons (ps_set (i := 5) sc_law_walked.nd rfl (Or.inl rfl) pe_int)
      (pss_cons (ps_for PassesOwn.never rfl (pi_tupK (K := K) (pe_ix (ix_K (K := K)) (pv 0) pe_int (fun _ _ => rfl))) (pg_name (i := 6) sc_law_walked.nd rfl (Or.inl rfl)) (pss_one (ps_if (pt_cmpR op_eq (pv 6) pe_str (nomark _)) (pss_one (ps_expr (pe_bm PySem.F.plainAttrs_list PySem.F.slot_list_append PySem.F.type_list_append mt_append (pv 4) (pa_cons (pv 5) pa_nil)))) (pss_one (ps_if (pt_cmpR op_eq (pv 6) (pv 1) (nomark _)) (pss_one (ps_set (i := 5) sc_law_walked.nd rfl (Or.inl rfl) (pe_op op_add (pv 5) pe_int))) pss_nil)))))
      (pss_cons (ps_set (i := 7) sc_law_walked.nd rfl (Or.inl rfl) (pe_callTy (call_listK (K := K)) (by rfl) T.b_list bt_list (pa_cons (pe_ix (ix_K (K := K)) (pv 2) pe_int (fun _ _ => rfl)) pa_nil)))
      (pss_cons (ps_for PassesOwn.never rfl (pi_range1 (by rfl) T.b_range (pa_cons (pe_op op_add (pv 3) (pe_callB (call_lenK (K := K)) (by rfl) T.b_len PySem.boot_len (pa_cons (pe_ix (ix_K (K := K)) (pv 2) pe_int (fun _ _ => rfl)) pa_nil))) pa_nil)) (pg_name (i := 8) sc_law_walked.nd rfl (Or.inl rfl)) (pss_one (ps_set (i := 7) sc_law_walked.nd rfl (Or.inl rfl) (pe_op op_cat (pv 7) (pe_callTy (call_listK (K := K)) (by rfl) T.b_list bt_list (pa_cons (pe_ix (ix_K (K := K)) (pv 2) pe_int (fun _ _ => rfl)) pa_nil))))))
      (pss_cons (ps_for PassesOwn.never rfl (pi_listK (K := K) (pv 7)) (pg_name (i := 9) sc_law_walked.nd rfl (Or.inl rfl)) (pss_one (ps_for PassesOwn.never rfl (pi_tupK (K := K) (pe_ix (ix_K (K := K)) (pe_ix (ix_K (K := K)) (pv 0) pe_int (fun _ _ => rfl)) (pv 9) (fun _ _ => rfl))) (pg_name (i := 6) sc_law_walked.nd rfl (Or.inl rfl)) (pss_one (ps_if (pt_cmpR op_eq (pv 6) pe_str (nomark _)) (pss_one (ps_expr (pe_bm PySem.F.plainAttrs_list PySem.F.slot_list_append PySem.F.type_list_append mt_append (pv 4) (pa_cons (pv 5) pa_nil)))) (pss_one (ps_if (pt_cmpR op_eq (pv 6) (pv 1) (nomark _)) (pss_one (ps_set (i := 5) sc_law_walked.nd rfl (Or.inl rfl) (pe_op op_add (pv 5) pe_int))) pss_nil)))))))
      (pss_one (ps_ret (pe_slice (sl_listK (K := K)) (pe_op op_cat (pv 4) (pe_op op_rep (pe_lst (pa_cons pe_non pa_nil)) (pv 3))) po_none (po_some (pv 3))))))))))), ?_⟩
  try dsimp only [cxOf]
  walk_at "rd"
  refine go_lst (Nat.zero_le _) fun p H1 hp e1 h1 => ?_
  walk_at "rd"
  refine rd_ix (hm.ext e1).sq (at_of (j := 1) rfl rfl) ?_
  walk_at "rd"
  refine go_forT (hb.ext e1) (fun n σ H' => ∃ (v6 : Option V), σ = [some a, some (.int i), some x, some (.int 30), some (.ref p), some (.int (ahead i (m.begin_.take n)).2), v6, none, none, none] ∧ Ext H H' ∧ H' p = some (.lst ((ahead i (m.begin_.take n)).1.map V.int)))
    ⟨none, rfl, e1, h1⟩ (fun n σ' H' ⟨_, _, e, _⟩ => hb.ext e) ?_ ?_
  · rintro n y σ H' hy ⟨v6, rfl, e, hl⟩
    obtain ⟨d, hd, rfl⟩ := map_at hy
    have hn := (List.getElem?_eq_some_iff.mp hd).1
    have hlen2 : (ahead i (m.begin_.take n)).1.length ≤ n := Nat.le_trans (ahead_bounds i (m.begin_.take n)).2.2.2.1 (List.length_take_le ..)
    rw [take_snoc hd, ahead_snoc]
    generalize ahead i (m.begin_.take n) = st at *
    cases d with
    | give =>
      show tIfS _ _ _ _ _ _
      dsimp only [Dd.v]
      walk_at "rd"
      refine ⟨ty_list hl, ?_⟩
      walk_at "rd"
      refine go_append hl (by rw [len_int]; omega) fun H2 e2 h2 => ?_
      walk_at "rd"
      refine ⟨_, rfl, e2.from e hp, ?_⟩
      rw [h2]
      show some (HO.lst (st.1.map V.int ++ [V.int st.2])) = some (.lst ((st.1 ++ [st.2]).map V.int))
      rw [List.map_append]
      rfl
    | take j =>
      show tIfS _ _ _ _ _ _
      dsimp only [Dd.v]
      walk_at "rd"
      refine ite_d (fun hj => ?_) (fun hj => ?_)
      · have ej : j = i := V.int.inj hj
        walk_at "rd"
        refine ⟨some (.int j), ?_, e, hl⟩
        show _ = [_, _, _, _, _, some (V.int (if j = i then st.2 + 1 else st.2)), _, _, _, _]
        rw [if_pos ej]
        rfl
      · have ej : ¬ j = i := fun z => hj (by rw [z])
        walk_at "rd"
        refine ⟨some (.int j), ?_, e, hl⟩
        show _ = [_, _, _, _, _, some (V.int (if j = i then st.2 + 1 else st.2)), _, _, _, _]
        rw [if_neg ej]
        rfl
  rintro σ H2 ⟨v6, rfl, e2, h2⟩
  have et : m.begin_.take (m.begin_.map Dd.v).length = m.begin_ := by rw [List.length_map, List.take_of_length_le (Nat.le_refl _)]
  rw [et] at h2 ⊢
  walk_at "rd"
  refine rd_ix (hx.ext e2).sq (at_of (j := 0) rfl rfl) ?_
  walk_at "rd"
  refine rd_list (hf.ext e2).sq fun p1 H3 hp1 e3 h3 => ?_
  have e03 := e2.trans e3
  have h23 := e3 _ _ h2
  walk_at "rd"
  refine rd_ix (hx.ext e03).sq (at_of (j := 1) rfl rfl) ?_
  have ht3 := (ht.ext e03).sq
  walk_at "rd"
  rw [ltn]
  refine go_forR1 (n := 30 + (ct.length : Int)) ⟨by omega, by omega⟩ (fun n σ H' => ∃ (pr : Addr) (v8 : Option V), σ = [some a, some (.int i), some x, some (.int 30), some (.ref p), some (.int (ahead i m.begin_).2), v6, some (.ref pr), v8, none] ∧ Ext H3 H' ∧ H' pr = some (.lst ((cf ++ (List.replicate n ct).flatten).map nv)) ∧ ¬ pr = p)
    ⟨p1, none, rfl, Ext.rfl', by rw [h3]; simp, Ne.symm (ne_of_none h2 hp1)⟩ ?_ ?_
  · rintro n σ H' hn ⟨pr, v8, rfl, e, hpr, _⟩
    have e' := e03.trans e
    walk_at "rd"
    refine rd_ix (hx.ext e').sq (at_of (j := 1) rfl rfl) ?_
    walk_at "rd"
    refine rd_list (ht.ext e').sq fun p2 H4 hp2 e4 h4 => ?_
    walk_at "rd"
    refine rd_cat (e4 _ _ hpr) h4 ?_ fun p3 H5 hp3 e5 h5 => ?_
    · rw [List.length_map, List.length_map, List.length_append, rep_len]
      have h1 : n * ct.length ≤ 70 * 40 := Nat.mul_le_mul (by omega) htl
      refine Nat.le_trans ?_ zS2
      omega
    walk_at "rd"
    refine ⟨p3, _, rfl, (e.trans e4).trans e5, ?_, Ne.symm (ne_of_none (e4 _ _ (e _ _ h23)) hp3)⟩
    rw [h5, rep_snoc, ← List.append_assoc, List.map_append (l₁ := cf ++ (List.replicate n ct).flatten)]
  rintro σ H4 ⟨pr, v8, rfl, e4, hpr, hprp⟩
  have en : (30 + (ct.length : Int)).toNat = 30 + ct.length := by omega
  rw [en] at hpr
  have hR : ∀ kk ∈ cf ++ (List.replicate (30 + ct.length) ct).flatten, kk < m.ways.length := fun kk hk => by
    rcases List.mem_append.mp hk with hk | hk
    · exact cok.f1 kk hk
    · obtain ⟨l, hl, hk⟩ := List.mem_flatten.mp hk
      rw [(List.mem_replicate.mp hl).2] at hk
      exact cok.t1 kk hk
  have hRl : (cf ++ (List.replicate (30 + ct.length) ct).flatten).length ≤ 3000 := by
    rw [List.length_append, rep_len]
    have h1 : (30 + ct.length) * ct.length ≤ 70 * 40 := Nat.mul_le_mul (by omega) htl
    omega
  have hfin : ∀ j, j < 30 → (ahead i (m.begin_ ++ pick m.ways (cf ++ (List.replicate (30 + ct.length) ct).flatten))).1[j]? = rowAt (needR m i cf ct) j := fun j hj => by
    rw [pick_app, pick_rep, ← List.append_assoc]
    exact walk_at i (m.begin_ ++ pick m.ways cf) (pick m.ways ct) (30 + ct.length) j (by omega)
  generalize cf ++ (List.replicate (30 + ct.length) ct).flatten = R at *
  have e04 := e03.trans e4
  have h24 := e4 _ _ h23
  walk_at "rd"
  refine go_forL (SqLv.of hpr) (fun n σ H' => ∃ (v6 v9 : Option V), σ = [some a, some (.int i), some x, some (.int 30), some (.ref p), some (.int (ahead i (m.begin_ ++ pick m.ways (R.take n))).2), v6, some (.ref pr), v8, v9] ∧ Ext H H' ∧ H' pr = some (.lst (R.map nv)) ∧ H' p = some (.lst ((ahead i (m.begin_ ++ pick m.ways (R.take n))).1.map V.int)))
    ⟨v6, none, by show _ = [_, _, _, _, _, some (V.int (ahead i (m.begin_ ++ [])).2), _, _, _, _]; rw [List.append_nil], e04, hpr, by show _ = some (HO.lst ((ahead i (m.begin_ ++ [])).1.map V.int)); rw [List.append_nil]; exact h24⟩ (fun n σ H' ⟨_, _, _, _, h, _⟩ => SqLv.of h) ?_ ?_
  · rintro n y σ H5 hy ⟨v6, v9, rfl, e5, hpr5, hl5⟩
    obtain ⟨kk, hk, rfl⟩ := map_at hy
    obtain ⟨u2, hu1, hu2⟩ := ws_at hlen hu (hR kk (List.mem_of_getElem? hk))
    have hwl : (m.ways.getD kk []).length ≤ 10 := by
      have hlt := hR kk (List.mem_of_getElem? hk)
      rw [List.getD_eq_getElem?_getD, List.getElem?_eq_getElem hlt]
      exact ok.wl _ (List.getElem_mem hlt)
    have hDl : (m.begin_ ++ pick m.ways (R.take n)).length ≤ 40000 := by
      have h1 := pick_len ok.wl (R.take n)
      have h2 : (R.take n).length ≤ R.length := by rw [List.length_take]; omega
      rw [List.length_append]
      omega
    have hnx : m.begin_ ++ pick m.ways (R.take (n + 1)) = (m.begin_ ++ pick m.ways (R.take n)) ++ m.ways.getD kk [] := by
      rw [pick_take _ hk, List.append_assoc]
    rw [hnx]
    generalize m.begin_ ++ pick m.ways (R.take n) = D at *
    generalize m.ways.getD kk [] = wy at *
    show tFor _ _ _ _ _ _
    unfold nv
    walk_at "rd"
    refine rd_ix (hm.ext e5).sq (at_of (j := 2) rfl rfl) ?_
    walk_at "rd"
    refine rd_ix (hws.ext e5).sq (at_of (j := kk) rfl hu1) ?_
    refine go_forT (hu2.ext e5) (fun l σ H' => ∃ (v6 : Option V), σ = [some a, some (.int i), some x, some (.int 30), some (.ref p), some (.int (ahead i (D ++ wy.take l)).2), v6, some (.ref pr), v8, some (.int (kk : Int))] ∧ Ext H H' ∧ H' pr = some (.lst (R.map nv)) ∧ H' p = some (.lst ((ahead i (D ++ wy.take l)).1.map V.int)))
      ⟨v6, by rw [List.take_zero, List.append_nil] <;> rfl, e5, hpr5, by rw [List.take_zero, List.append_nil]; exact hl5⟩ (fun n σ' H' ⟨_, _, e, _⟩ => hu2.ext e) ?_ ?_
    · rintro l y σ H' hy ⟨v6, rfl, e, hpr', hl⟩
      obtain ⟨d, hd, rfl⟩ := map_at hy
      have hn := (List.getElem?_eq_some_iff.mp hd).1
      have hlen2 : (ahead i (D ++ wy.take l)).1.length ≤ 40010 := by
        have h1 := (ahead_bounds i (D ++ wy.take l)).2.2.2.1
        rw [List.length_append, List.length_take] at h1
        omega
      rw [take_snoc hd, ← List.append_assoc, ahead_snoc]
      generalize ahead i (D ++ wy.take l) = st at *
      have hneq : ¬ pr = p := hprp
      cases d with
      | give =>
        show tIfS _ _ _ _ _ _
        dsimp only [Dd.v]
        walk_at "rd"
        refine ⟨ty_list hl, ?_⟩
        walk_at "rd"
        refine go_append hl (by rw [len_int]; omega) fun H2 e2 h2 => ?_
        walk_at "rd"
        refine ⟨_, rfl, e2.from e hp, e2 _ _ hneq hpr', ?_⟩
        rw [h2]
        show some (HO.lst (st.1.map V.int ++ [V.int st.2])) = some (.lst ((st.1 ++ [st.2]).map V.int))
        rw [List.map_append]
        rfl
      | take j =>
        show tIfS _ _ _ _ _ _
        dsimp only [Dd.v]
        walk_at "rd"
        refine ite_d (fun hj => ?_) (fun hj => ?_)
        · have ej : j = i := V.int.inj hj
          walk_at "rd"
          refine ⟨some (.int j), ?_, e, hpr', hl⟩
          show _ = [_, _, _, _, _, some (V.int (if j = i then st.2 + 1 else st.2)), _, _, _, _]
          rw [if_pos ej]
          rfl
        · have ej : ¬ j = i := fun z => hj (by rw [z])
          walk_at "rd"
          refine ⟨some (.int j), ?_, e, hpr', hl⟩
          show _ = [_, _, _, _, _, some (V.int (if j = i then st.2 + 1 else st.2)), _, _, _, _]
          rw [if_neg ej]
          rfl
    · rintro σ H6 ⟨v6, rfl, e6, hpr6, hl6⟩
      have et : wy.take (wy.map Dd.v).length = wy := by rw [List.length_map, List.take_of_length_le (Nat.le_refl _)]
      rw [et] at hl6 ⊢
      walk_at "rd"
      exact ⟨_, _, rfl, e6, hpr6, hl6⟩
  · rintro σ H5 ⟨v6, v9, rfl, e5, hpr5, hl5⟩
    have et : R.take (R.map nv).length = R := by rw [List.length_map, List.take_of_length_le (Nat.le_refl _)]
    rw [et] at hl5 ⊢
    have hDl : (ahead i (m.begin_ ++ pick m.ways R)).1.length ≤ 40000 := by
      have h1 := pick_len ok.wl R
      have h2 := (ahead_bounds i (m.begin_ ++ pick m.ways R)).2.2.2.1
      rw [List.length_append] at h2
      omega
    walk_at "rd"
    refine go_lst (by decide) fun p5 H6 hp5 e6 h6 => ?_
    walk_at "rd"
    refine rd_rep h6 (by decide) (by decide) fun p6 H7 hp6 e7 h7 => ?_
    refine rd_cat (e7 _ _ (e6 _ _ hl5)) h7 ?_ fun p7 H8 hp7 e8 h8 => ?_
    · rw [len_int]
      have e : ((List.replicate (Int.toNat 30) [V.non]).flatten).length = 30 := by decide
      rw [e]
      refine Nat.le_trans ?_ zS2
      omega
    walk_at "rd"
    refine rd_slL (SqLv.of h8) fun p8 H9 hp8 e9 h9 => ?_
    replace h9 : H9 p8 = some (.lst (cutV ((ahead i (m.begin_ ++ pick m.ways R)).1.map V.int ++ (List.replicate 30 [V.non]).flatten) none (some ((30 : Nat) : Int)))) := h9
    rw [cut_to _ 30, walk_row] at h9
    walk_at "rd"
    refine k p8 H9 ((((e5.trans e6).trans e7).trans e8).trans e9) ?_
    rw [h9]
    congr 2
    exact List.map_congr_left fun j hj => by rw [hfin j (List.mem_range.mp hj)]
end
end K24
set_option Elab.async false
set_option linter.all false
set_option maxRecDepth 100000
set_option maxHeartbeats 4000000
/-! Another maker; whether the needs are due. -/
namespace K24
open PySem PySem.Spec PyProof.Rows L2
local macro_rules | `(tactic| walk_at "tr") => `(tactic| first
  | (with_reducible assumption)
  | (with_reducible exact TuA.sq (by assumption)) | (with_reducible exact SqLv.sq (by assumption)) | (with_reducible exact SqA.ofL (by assumption)) | (with_reducible exact SqA.ofT (by assumption))
  | (with_reducible exact TuA.of (by assumption)) | (with_reducible exact SqLv.of (by assumption)) | (with_reducible exact WsT.wa (by assumption))
  | (with_reducible refine' TuA.sq (TuA.ext ?h ?e); (case e => with_reducible assumption); (case h => walk_at "tr"))
  | (with_reducible refine' SqA.ext ?h ?e; (case e => with_reducible assumption); (case h => walk_at "tr"))
  | (with_reducible refine' TuA.ext ?h ?e; (case e => with_reducible assumption); (case h => walk_at "tr"))
  | (with_reducible refine' SqLv.ext ?h ?e; (case e => with_reducible assumption); (case h => walk_at "tr"))
  | (with_reducible refine' WsA.ext ?h ?e; (case e => with_reducible assumption); (case h => walk_at "tr"))
  | (with_reducible refine' WsT.ext ?h ?e; (case e => with_reducible assumption); (case h => walk_at "tr"))
  | (with_reducible refine' MkrT.ext ?h ?e; (case e => with_reducible assumption); (case h => walk_at "tr"))
  | (with_reducible refine' MkrO.ext ?h ?e; (case e => with_reducible assumption); (case h => walk_at "tr"))
  | (with_reducible refine' TblO.ext ?h ?e; (case e => with_reducible assumption); (case h => walk_at "tr"))
  | (with_reducible refine' RawT.ext ?h ?e; (case e => with_reducible assumption); (case h => walk_at "tr"))
  | (with_reducible refine' ext_at ?h ?e; (case e => with_reducible assumption); (case h => walk_at "tr"))
  | (with_reducible exact Ext.rfl')
  | (with_reducible refine' Ext.trans ?h ?e; (case e => with_reducible assumption); (case h => walk_at "tr")))
local macro_rules | `(tactic| walk_at "rd1") => `(tactic| first
  | (with_reducible refine' rd_seq ?_) | (with_reducible refine' rd_asg ?_) | (with_reducible refine' rd_ret ?_) | (with_reducible refine' rd_if ?_) | (with_reducible refine' rd_drop ?_)
  | ((with_reducible refine' rd_var ?h ?q); (case h => exact rfl))
  | (with_reducible refine' rd_c ?_) | (with_reducible refine' rd_op ?_) | (with_reducible refine' rd_un ?_) | (with_reducible refine' rd_test ?_) | (with_reducible refine' rd_B ?_) | (with_reducible refine' rd_bl ?_)
  | (with_reducible refine' rd_and ?_) | (with_reducible refine' rd_or ?_) | (with_reducible refine' rd_not ?_) | (with_reducible refine' rd_andV ?_) | (with_reducible refine' rd_orV ?_) | (with_reducible refine' rd_notV ?_)
  | (with_reducible refine' rd_ifE ?_) | (with_reducible refine' rd_chain ?_) | (with_reducible refine' rd_nil ?_) | (with_reducible refine' rd_cons ?_) | (with_reducible refine' rd_cb ?_) | (with_reducible refine' rd_call0 ?_) | (with_reducible refine' rd_call ?_)
  | (with_reducible refine' rd_part ?_) | (with_reducible refine' rd_int ?_) | (with_reducible refine' rd_nopart ?_) | (with_reducible refine' rd_sl ?_) | (with_reducible refine' rd_tup ?_) | (with_reducible refine' rd_lst ?_)
  | (with_reducible refine' rd_I0 ?_) | (with_reducible refine' rd_U ?_) | (with_reducible refine' rd_intI ?_) | (with_reducible refine' rd_abs ?_) | (with_reducible refine' rd_lc ?_) | (with_reducible refine' rd_lr ?_)
  | (with_reducible refine' rd_next ?_) | (with_reducible refine' rd_cont ?_) | (with_reducible refine' rd_break ?_)
  | ((with_reducible refine' rd_len ?h ?q); (case h => walk_at "tr"))
  | ((with_reducible refine' rd_eq ?h ?q); (case h => exact rfl)) | ((with_reducible refine' rd_ne ?h ?q); (case h => exact rfl))
  | ((with_reducible refine' ite_t ?h ?q); (case h => exact rfl)) | ((with_reducible refine' ite_f ?h ?q); (case h => exact rfl))
  | (with_reducible refine' rd_gn ?_) | (with_reducible refine' rd_forL ?_) | (with_reducible refine' rd_forT ?_) | (with_reducible refine' rd_forR1 ?_) | (with_reducible refine' rd_forR2 ?_) | (with_reducible refine' rd_forR3 ?_)
  | (with_reducible refine' rd_make ?_) | (with_reducible refine' rd_sfld ?_) | (with_reducible refine' rd_mth ?_) | (with_reducible refine' rd_callO ?_)
  | (with_reducible refine' rd_forS ?_) | (with_reducible refine' rd_gsub ?_)
  | (with_reducible refine' rd_fld ?_) | (with_reducible refine' rd_asgG ?_) | (with_reducible refine' rd_bm ?_)
  | ((with_reducible refine' rd_gT2 ?h ?n ?q); (case h => walk_at "tr"); (case n => exact rfl)) | ((with_reducible refine' rd_gT3 ?h ?n ?q); (case h => walk_at "tr"); (case n => exact rfl))
  | dsimp only)
local macro_rules | `(tactic| walk_at "rd") => `(tactic| repeat (walk_at "rd1"))

theorem wsT_snoc {K : PySem.W.Frag} {H : Hp} {us : List V} {ws : List (List Dd)} {z v : V} {w : List Dd} (hl : us.length = ws.length) (hu : ∀ (j : Nat) u w, us[j]? = some u → ws[j]? = some w → TuA K H u (w.map Dd.v))
    (hv : TuA K H v (w.map Dd.v)) (hz : TuA K H z (us ++ [v])) : WsT K H z (ws ++ [w]) := by
  refine ⟨us ++ [v], hz, by simp [hl], fun j u x h1 h2 => ?_⟩
  by_cases hj : j < us.length
  · rw [List.getElem?_append_left hj] at h1
    rw [List.getElem?_append_left (by omega)] at h2
    exact hu j u x h1 h2
  · rw [List.getElem?_append_right (by omega)] at h1
    rw [List.getElem?_append_right (by omega)] at h2
    have hj0 : j - us.length = 0 := by
      rcases Nat.eq_zero_or_pos (j - us.length) with z | z
      · exact z
      · rw [List.getElem?_eq_none (by simp; omega)] at h1
        cases h1
    rw [hj0] at h1
    have hj1 : j - ws.length = 0 := by omega
    rw [hj1] at h2
    have e1 : v = u := Option.some.inj h1
    have e2 : w = x := Option.some.inj h2
    subst e1 e2
    exact hv
theorem take_at {α : Type} {l : List α} {n j : Nat} {x : α} (h : (l.take n)[j]? = some x) : l[j]? = some x := by
  by_cases hj : j < n
  · rw [List.getElem?_take_of_lt hj] at h
    exact h
  · rw [List.getElem?_eq_none (by rw [List.length_take]; omega)] at h
    cases h
def spLOther (K : PySem.W.Frag) : Sp := fun vs H Q _ => ∃ (s : Addr) (v : V) (m : Mkr), vs = [.ref s, v] ∧ MkrT K H v m ∧ m.Ok ∧ m.begin_.length ≤ 5 ∧ (∀ w ∈ m.ways, w.length ≤ 5) ∧ Src s H ∧
  ∀ v2 m2 H', ExtB s H H' → Src s H' → MkrT K H' v2 m2 → m2.Ok → mEq m2 m = false → Q v2 H'
def spLAsked (K : PySem.W.Frag) : Sp := fun vs H Q _ => ∃ (x v u : V) (m : Mkr) (f t : List Nat), vs = [x, v, u] ∧ MkrT K H v m ∧ m.Ok ∧ CrsT K H u f t ∧ CrsOk m.ways.length f t ∧ ∀ H', Ext H H' → Q (.bl true) H'
theorem ov_scal (o : Option Int) : scal (ov o) (ov o) = true := by
  cases o <;> rfl
theorem mf_need (i b w : V) : (mf i b w).lookup ("need" : Str) = none := mf_no i b w (by decide +kernel) (by decide +kernel) (by decide +kernel)
section
variable {P : Program} {w : World} {K : PySem.W.Frag} {mg : Str → Option Value} {base : Heap}
theorem k_law_other (T : Facts K mg) : Cal P w K mg base 2 "_law_other" ["_law_source_here", "_law_maker_here"] (spLOther K) := by
  have C_law_pick := k_law_pick (P := P) (w := w) (base := base) T
  refine cal_mk T.F_law_other T.g_law_other sc_law_other (fun _ _ _ _ _ _ us hl => match us, hl with | [_, _], _ => rfl) (fun vs H Q E h => by obtain ⟨i, b, c, rfl, _⟩ := h; rfl) (fun f cdv A outer s0 H vs Q E hr h => ?_)
  obtain ⟨s, v, m, rfl, hm, ok, hb5, hw5, src, k⟩ := h
  have zS2 : 200000 ≤ sizeLine := by decide
  have sz1 : 1 ≤ sizeLine := by decide
  have ldd := len_dd m.begin_
  refine ⟨_, (pss_cons (ps_set (i := 2) sc_law_other.nd rfl (Or.inl rfl) (pe_k C_law_pick hr (by decide) (by rfl) (pa_cons (pv 0) (pa_cons pe_int pa_nil))))
      (pss_cons (ps_if (pt_cmpR op_eq (pv 2) pe_int (nomark _)) (pss_one (ps_ret (pe_tup (pa_cons (pe_ix (ix_K (K := K)) (pv 1) pe_int (fun _ _ => rfl)) (pa_cons (pe_op (op_catK (K := K)) (pe_ix (ix_K (K := K)) (pv 1) pe_int (fun _ _ => rfl)) (pe_tup (pa_cons pe_str pa_nil))) (pa_cons (pe_ix (ix_K (K := K)) (pv 1) pe_int (fun _ _ => rfl)) pa_nil)))))) pss_nil)
      (pss_cons (ps_if (pt_cmpR op_eq (pv 2) pe_int (nomark _)) (pss_one (ps_ret (pe_tup (pa_cons (pe_ix (ix_K (K := K)) (pv 1) pe_int (fun _ _ => rfl)) (pa_cons (pe_ix (ix_K (K := K)) (pv 1) pe_int (fun _ _ => rfl)) (pa_cons (pe_op (op_catK (K := K)) (pe_slice (sl_tupK (K := K)) (pe_ix (ix_K (K := K)) (pv 1) pe_int (fun _ _ => rfl)) po_none (po_some (pe_un un_neg pe_int))) (pe_tup (pa_cons (pe_op (op_catK (K := K)) (pe_ix (ix_K (K := K)) (pe_ix (ix_K (K := K)) (pv 1) pe_int (fun _ _ => rfl)) (pe_un un_neg pe_int) (fun _ _ => rfl)) (pe_tup (pa_cons pe_int pa_nil))) pa_nil))) pa_nil)))))) pss_nil)
      (pss_one (ps_ret (pe_tup (pa_cons (pe_ix (ix_K (K := K)) (pv 1) pe_int (fun _ _ => rfl)) (pa_cons (pe_ix (ix_K (K := K)) (pv 1) pe_int (fun _ _ => rfl)) (pa_cons (pe_ifExp (pt_cmpR op_lt (pe_callB (call_lenK (K := K)) (by rfl) T.b_len PySem.boot_len (pa_cons (pe_ix (ix_K (K := K)) (pv 1) pe_int (fun _ _ => rfl)) pa_nil)) pe_int (nomark _)) (pe_op (op_catK (K := K)) (pe_ix (ix_K (K := K)) (pv 1) pe_int (fun _ _ => rfl)) (pe_tup (pa_cons (pe_tup (pa_cons pe_str pa_nil)) pa_nil))) (pe_slice (sl_tupK (K := K)) (pe_ix (ix_K (K := K)) (pv 1) pe_int (fun _ _ => rfl)) po_none (po_some (pe_un un_neg pe_int)))) pa_nil))))))))), ?_⟩
  try dsimp only [cxOf]
  walk_at "rd"
  refine ⟨s, 3, rfl, by decide, by decide, src, fun d H1 hd b1 s1 => ?_⟩
  obtain ⟨sx, sy, sz, hsr⟩ := id src
  obtain ⟨b, ww, hv, hb, us, hws, hlen, hu⟩ := hm.extS b1 hsr
  have hw1 := ok.w1
  have hw4 := ok.w4
  walk_at "rd"
  refine ite_d (fun _ => ?_) (fun _ => ?_)
  · walk_at "rd"
    refine rd_ix hv.sq (at_of (j := 0) rfl rfl) ?_
    walk_at "rd"
    refine rd_ix hv.sq (at_of (j := 1) rfl rfl) ?_
    walk_at "rd"
    refine go_tup sz1 fun t1 H2 ht1 e2 h2 => ?_
    refine rd_catT (hb.ext e2) (TuA.of h2) (by rw [ldd]; show m.begin_.length + 1 ≤ _; omega) fun z H3 e3 hz => ?_
    walk_at "rd"
    refine rd_ix ((hv.ext e2).ext e3).sq (at_of (j := 2) rfl rfl) ?_
    walk_at "rd"
    refine go_tup sz3 fun t2 H4 ht2 e4 h4 => ?_
    walk_at "rd"
    have e24 := (e2.trans e3).trans e4
    refine k _ ⟨m.inlets, m.begin_ ++ [.give], m.ways⟩ H4 (b1.trans (ExtB.of e24)) (s1.ext e24) ⟨z, ww, TuA.of h4, by rw [List.map_append]; exact hz.ext e4, us, hws.ext e24, hlen, fun j u w a b => (hu j u w a b).ext e24⟩
      ⟨ok.in1, ok.in3, by show (m.begin_ ++ [Dd.give]).length ≤ 10; rw [List.length_append]; show m.begin_.length + 1 ≤ 10; omega, okDs_app ok.bo fun i e => (nomatch e), ok.w1, ok.w4, ok.wn, ok.wl, ok.wo⟩ ?_
    unfold mEq
    have : decide (m.begin_ ++ [Dd.give] = m.begin_) = false := decide_eq_false fun e => by
      have := congrArg List.length e
      rw [List.length_append] at this
      have h : [Dd.give].length = 1 := rfl
      omega
    show (decide (m.inlets = m.inlets) && (decide (m.begin_ ++ [Dd.give] = m.begin_) && _)) = false
    rw [this, Bool.false_and, Bool.and_false]
  have lus : us.length - 1 < us.length := by omega
  have htk : ∀ H', Ext H1 H' → ∀ (j : Nat) u w, (us.take (us.length - 1))[j]? = some u → (m.ways.take (us.length - 1))[j]? = some w → TuA K H' u (w.map Dd.v) := fun H' e j u w h1 h2 => (hu j u w (take_at h1) (take_at h2)).ext e
  have hll : (us.take (us.length - 1)).length = (m.ways.take (us.length - 1)).length := by rw [List.length_take, List.length_take]; omega
  have hltk : (m.ways.take (us.length - 1)).length = us.length - 1 := by rw [List.length_take]; omega
  have hltku : (us.take (us.length - 1)).length = us.length - 1 := by rw [List.length_take]; omega
  walk_at "rd"
  refine ite_d (fun _ => ?_) (fun _ => ?_)
  · walk_at "rd"
    refine rd_ix hv.sq (at_of (j := 0) rfl rfl) ?_
    walk_at "rd"
    refine rd_ix hv.sq (at_of (j := 1) rfl rfl) ?_
    walk_at "rd"
    refine rd_ix hv.sq (at_of (j := 2) rfl rfl) ?_
    walk_at "rd"
    refine rd_slT hws fun z1 H2 e2 hz1 => ?_
    rw [cut_last] at hz1
    walk_at "rd"
    refine rd_ix (hv.ext e2).sq (at_of (j := 2) rfl rfl) ?_
    walk_at "rd"
    refine rd_ix (hws.ext e2).sq (atI_lst (List.getElem?_eq_getElem lus)) ?_
    walk_at "rd"
    refine go_tup sz1 fun t1 H3 ht1 e3 h3 => ?_
    have hwl : m.ways[us.length - 1]? = some (m.ways[us.length - 1]'(by omega)) := List.getElem?_eq_getElem (by omega)
    have hwm : m.ways[us.length - 1]'(by omega) ∈ m.ways := List.getElem_mem _
    generalize m.ways[us.length - 1]'(by omega) = wl at *
    have hul := ((hu _ _ wl (List.getElem?_eq_getElem lus) hwl).ext e2).ext e3
    have lwl := len_dd wl
    have w5 := hw5 _ hwm
    refine rd_catT hul (TuA.of h3) (by rw [lwl]; show wl.length + 1 ≤ _; omega) fun z2 H4 e4 hz2 => ?_
    walk_at "rd"
    refine go_tup sz1 fun t2 H5 ht2 e5 h5 => ?_
    refine rd_catT (((hz1.ext e3).ext e4).ext e5) (TuA.of h5) (by rw [hltku]; show us.length - 1 + 1 ≤ _; omega) fun z3 H6 e6 hz3 => ?_
    walk_at "rd"
    refine go_tup sz3 fun t3 H7 ht3 e7 h7 => ?_
    walk_at "rd"
    have e27 := (((((e2.trans e3).trans e4).trans e5).trans e6).trans e7)
    refine k _ ⟨m.inlets, m.begin_, m.ways.take (us.length - 1) ++ [wl ++ [.take 0]]⟩ H7 (b1.trans (ExtB.of e27)) (s1.ext e27) ⟨b, z3, TuA.of h7, hb.ext e27, wsT_snoc hll (htk H7 e27) (by rw [List.map_append]; exact ((hz2.ext e5).ext e6).ext e7) (hz3.ext e7)⟩
      ⟨ok.in1, ok.in3, ok.bl, ok.bo, by show 1 ≤ (m.ways.take (us.length - 1) ++ [wl ++ [Dd.take 0]]).length; simp, by show (m.ways.take (us.length - 1) ++ [wl ++ [Dd.take 0]]).length ≤ 4; rw [List.length_append, hltk]; show us.length - 1 + 1 ≤ 4; omega,
        fun x hx => ?_, fun x hx => ?_, fun x hx => ?_⟩ ?_
    · rcases List.mem_append.mp hx with hx | hx
      · exact ok.wn x (List.mem_of_mem_take hx)
      · rw [List.mem_singleton.mp hx]
        simp
    · rcases List.mem_append.mp hx with hx | hx
      · exact ok.wl x (List.mem_of_mem_take hx)
      · rw [List.mem_singleton.mp hx, List.length_append]
        show wl.length + 1 ≤ 10
        omega
    · rcases List.mem_append.mp hx with hx | hx
      · exact ok.wo x (List.mem_of_mem_take hx)
      · rw [List.mem_singleton.mp hx]
        refine okDs_app (ok.wo wl hwm) fun i e => ?_
        have h1 := ok.in1
        cases e
        show (0 : Int) ≤ 0 ∧ (0 : Int) < m.inlets
        omega
    · unfold mEq
      have : decide (m.ways.take (us.length - 1) ++ [wl ++ [Dd.take 0]] = m.ways) = false := decide_eq_false fun e => by
        rw [← e, List.getElem?_append_right (by omega), hltk, Nat.sub_self] at hwl
        have e2 := congrArg List.length (Option.some.inj hwl)
        rw [List.length_append] at e2
        have h : [Dd.take 0].length = 1 := rfl
        omega
      show (decide (m.inlets = m.inlets) && (decide (m.begin_ = m.begin_) && decide (m.ways.take (us.length - 1) ++ [wl ++ [Dd.take 0]] = m.ways))) = false
      rw [this, Bool.and_false, Bool.and_false]
  · walk_at "rd"
    refine rd_ix hv.sq (at_of (j := 0) rfl rfl) ?_
    walk_at "rd"
    refine rd_ix hv.sq (at_of (j := 1) rfl rfl) ?_
    walk_at "rd"
    refine rd_ix hv.sq (at_of (j := 2) rfl rfl) ?_
    have hwss := hws.sq
    walk_at "rd"
    refine ite_d (fun h4 => ?_) (fun h4 => ?_)
    · walk_at "rd"
      refine rd_ix hv.sq (at_of (j := 2) rfl rfl) ?_
      walk_at "rd"
      refine go_tup sz1 fun t1 H2 ht1 e2 h2 => ?_
      walk_at "rd"
      refine go_tup sz1 fun t2 H3 ht2 e3 h3 => ?_
      have e23 := e2.trans e3
      refine rd_catT (hws.ext e23) (TuA.of h3) (by show us.length + 1 ≤ _; omega) fun z H4 e4 hz => ?_
      walk_at "rd"
      refine go_tup sz3 fun t3 H5 ht3 e5 h5 => ?_
      walk_at "rd"
      have e25 := (e23.trans e4).trans e5
      refine k _ ⟨m.inlets, m.begin_, m.ways ++ [[.give]]⟩ H5 (b1.trans (ExtB.of e25)) (s1.ext e25) ⟨b, z, TuA.of h5, hb.ext e25, wsT_snoc hlen (fun j u w a b => (hu j u w a b).ext e25) (TuA.of (((e3.trans e4).trans e5) _ _ h2)) (hz.ext e5)⟩
        ⟨ok.in1, ok.in3, ok.bl, ok.bo, by show 1 ≤ (m.ways ++ [[Dd.give]]).length; simp, by show (m.ways ++ [[Dd.give]]).length ≤ 4; rw [List.length_append]; show m.ways.length + 1 ≤ 4; omega,
          fun x hx => ?_, fun x hx => ?_, fun x hx => ?_⟩ ?_
      · rcases List.mem_append.mp hx with hx | hx
        · exact ok.wn x hx
        · rw [List.mem_singleton.mp hx]
          simp
      · rcases List.mem_append.mp hx with hx | hx
        · exact ok.wl x hx
        · rw [List.mem_singleton.mp hx]
          decide
      · rcases List.mem_append.mp hx with hx | hx
        · exact ok.wo x hx
        · rw [List.mem_singleton.mp hx]
          intro i hi
          cases List.mem_singleton.mp hi
      · unfold mEq
        have : decide (m.ways ++ [[Dd.give]] = m.ways) = false := decide_eq_false fun e => by
          have := congrArg List.length e
          rw [List.length_append] at this
          have h : [[Dd.give]].length = 1 := rfl
          omega
        show (decide (m.inlets = m.inlets) && (decide (m.begin_ = m.begin_) && decide (m.ways ++ [[Dd.give]] = m.ways))) = false
        rw [this, Bool.and_false, Bool.and_false]
    · walk_at "rd"
      refine rd_ix hv.sq (at_of (j := 2) rfl rfl) ?_
      walk_at "rd"
      refine rd_slT hws fun z H2 e2 hz => ?_
      rw [cut_last] at hz
      walk_at "rd"
      refine go_tup sz3 fun t3 H3 ht3 e3 h3 => ?_
      walk_at "rd"
      have e23 := e2.trans e3
      refine k _ ⟨m.inlets, m.begin_, m.ways.take (us.length - 1)⟩ H3 (b1.trans (ExtB.of e23)) (s1.ext e23) ⟨b, z, TuA.of h3, hb.ext e23, us.take (us.length - 1), hz.ext e3, hll, htk H3 e23⟩
        ⟨ok.in1, ok.in3, ok.bl, ok.bo, by show 1 ≤ (m.ways.take (us.length - 1)).length; omega, by show (m.ways.take (us.length - 1)).length ≤ 4; omega,
          fun x hx => ok.wn x (List.mem_of_mem_take hx), fun x hx => ok.wl x (List.mem_of_mem_take hx), fun x hx => ok.wo x (List.mem_of_mem_take hx)⟩ ?_
      unfold mEq
      have : decide (m.ways.take (us.length - 1) = m.ways) = false := decide_eq_false fun e => by
        have := congrArg List.length e
        omega
      show (decide (m.inlets = m.inlets) && (decide (m.begin_ = m.begin_) && decide (m.ways.take (us.length - 1) = m.ways))) = false
      rw [this, Bool.and_false, Bool.and_false]
theorem k_law_asked (T : Facts K mg) : Cal P w K mg base 9 "_law_asked" ["_law_source_here", "_law_maker_here", "_law_course_here"] (spLAsked K) := by
  have C_law_made := k_law_made (P := P) (w := w) (base := base) T
  have C_law_same := k_law_same (P := P) (w := w) (base := base) T
  have C_law_on := k_law_on (P := P) (w := w) (base := base) T
  have C_law_walked := k_law_walked (P := P) (w := w) (base := base) T
  have C_Makerneed := k_Makerneed (P := P) (w := w) (base := base) T
  have C_Tablecall := k_Tablecall (P := P) (w := w) (base := base) T
  have O_Tablecall := o_Tablecall T
  refine cal_mk T.F_law_asked T.g_law_asked sc_law_asked (fun _ _ _ _ _ _ us hl => match us, hl with | [_, _, _], _ => rfl) (fun vs H Q E h => by obtain ⟨i, b, c, d, e, g, rfl, _⟩ := h; rfl) (fun f cdv A outer s0 H vs Q E hr h => ?_)
  obtain ⟨x, v, u, m, cf, ct, rfl, hm, ok, hu, cok, k⟩ := h
  obtain ⟨b, ww, hv, hb, hw⟩ := id hm
  have i1 := ok.in1
  have i3 := ok.in3
  refine ⟨_, (pss_cons (ps_set (i := 3) sc_law_asked.nd rfl (Or.inl rfl) (pe_k C_law_made hr (by decide) (by rfl) (pa_cons (pv 1) pa_nil)))
      (pss_cons (ps_for PassesOwn.never rfl (pi_range1 (by rfl) T.b_range (pa_cons (pe_ix (ix_K (K := K)) (pv 1) pe_int (fun _ _ => rfl)) pa_nil)) (pg_name (i := 4) sc_law_asked.nd rfl (Or.inl rfl)) (pss_cons (ps_set (i := 5) sc_law_asked.nd rfl (Or.inl rfl) (pe_mth C_Makerneed hr (by decide) (pv 3) (pa_cons (pv 4) (pa_cons (pv 2) pa_nil))))
      (pss_cons (ps_if (pt_not (pt_val (pe_k C_law_same hr (by decide) (by rfl) (pa_cons (pv 5) (pa_cons (pe_k C_law_on hr (by decide) (by rfl) (pa_cons (pv 1) (pa_cons (pv 4) (pa_cons (pv 2) pa_nil)))) pa_nil))))) (pss_one (ps_ret pe_bl)) pss_nil)
      (pss_cons (ps_set (i := 6) sc_law_asked.nd rfl (Or.inl rfl) (pe_k C_law_walked hr (by decide) (by rfl) (pa_cons (pv 1) (pa_cons (pv 4) (pa_cons (pv 2) (pa_cons pe_int pa_nil))))))
      (pss_one (ps_for PassesOwn.never rfl (pi_range2 (by rfl) T.b_range (pa_cons pe_int (pa_cons pe_int pa_nil))) (pg_name (i := 7) sc_law_asked.nd rfl (Or.inl rfl)) (pss_one (ps_if (pt_cmpR op_ne (StX.pe_callO (pv 5) O_Tablecall (C_Tablecall.fnr) (hr.mono (by decide)) pass0 (pa_cons (pv 7) pa_nil)) (pe_ix (ix_K (K := K)) (pv 6) (pe_op op_sub (pv 7) pe_int) (fun _ _ => rfl)) (nomark _)) (pss_one (ps_ret pe_bl)) pss_nil))))))))
      (pss_one (ps_ret (pe_and (pe_cmpR op_eq (pe_fldK (K := K) (pv 3) rfl) (pe_ix (ix_K (K := K)) (pv 1) pe_int (fun _ _ => rfl)) (nomark _)) (pe_and (pe_cmpR (op_eqDK (K := K) hr.units) (pe_fldK (K := K) (pv 3) rfl) (pe_ix (ix_K (K := K)) (pv 1) pe_int (fun _ _ => rfl)) (nomark _)) (pe_one (pe_cmpR (op_eqDK (K := K) hr.units) (pe_fldK (K := K) (pv 3) rfl) (pe_ix (ix_K (K := K)) (pv 1) pe_int (fun _ _ => rfl)) (nomark _))))))))), ?_⟩
  try dsimp only [cxOf]
  walk_at "rd"
  refine ⟨v, m, rfl, hm, ok, fun p H1 e1 hM => ?_⟩
  walk_at "rd"
  refine rd_ix (hv.ext e1).sq (at_of (j := 0) rfl rfl) ?_
  walk_at "rd"
  refine go_forR1 (n := m.inlets) ⟨by omega, by omega⟩ (fun i σ H' => ∃ (v4 v5 v6 v7 : Option V), σ = [some x, some v, some u, some (.ref p), v4, v5, v6, v7] ∧ Ext H1 H')
    ⟨none, none, none, none, rfl, Ext.rfl'⟩ ?_ ?_
  · rintro i σ H' hi ⟨v4, v5, v6, v7, rfl, e⟩
    have e' := e1.trans e
    have hM' := hM.ext e
    obtain ⟨dx, bo, wo, hMo, _⟩ := id hM'
    have nok := needR_ok (i : Int) ok cok
    have cnt := plainF_counts nok
    have hpl : ∀ j, rowAt (plainR (needR m (i : Int) cf ct)) j = rowAt (needR m (i : Int) cf ct) j := fun j => plain_at _ _ _ j
    walk_at "rd"
    refine go_mth hMo (mf_need _ _ _) ?_
    walk_at "rd"
    refine ⟨p, i, u, m, cf, ct, rfl, hM', ok, (hu.ext e').ca, cok, by omega, by omega, fun pt H2 e2 hT => ?_⟩
    have e12 := e'.trans e2
    walk_at "rd"
    refine ⟨v, i, u, m, cf, ct, rfl, hm.ext e12, ok, hu.ext e12, cok, fun z H3 e3 hz => ?_⟩
    walk_at "rd"
    refine ⟨pt, z, _, rfl, hT.ext e3, hz, cnt.1, cnt.2.1, cnt.2.2.2.1, cnt.2.2.2.2, fun H4 e4 => ?_⟩
    have e14 := (e12.trans e3).trans e4
    have hT4 := (hT.ext e3).ext e4
    walk_at "rd"
    refine ⟨v, i, u, m, cf, ct, rfl, hm.ext e14, ok, hu.ext e14, cok, fun q H5 e5 hq => ?_⟩
    have hT5 := hT4.ext e5
    walk_at "rd"
    refine go_forR2 (lo := 1) (hi := 31) (by decide) (fun n σ H' => ∃ (v7 : Option V), σ = [some x, some v, some u, some (.ref p), some (.int (i : Int)), some (.ref pt), some (.ref q), v7] ∧ Ext H5 H')
      ⟨v7, rfl, Ext.rfl'⟩ ?_ ?_
    · rintro n σ H6 hn ⟨v7, rfl, e6⟩
      have hn30 : n < 30 := hn
      have hT6 := hT5.ext e6
      obtain ⟨dxt, ht, lt, hTo, _⟩ := id hT6
      have ez : (1 : Int) + (n : Int) = ((1 + n : Nat) : Int) := by omega
      rw [ez]
      walk_at "rd"
      refine ⟨pt, rfl, ?_⟩
      walk_at "rd"
      refine ⟨.inr ⟨_, _, hTo⟩, pt, 1 + n, _, rfl, hT6, by omega, cnt.2.1, cnt.2.2.1, cnt.2.2.2.2, fun H7 e7 => ?_⟩
      walk_at "rd"
      have hq7 := e7 _ _ (e6 _ _ hq)
      refine rd_ix (SqA.ofL hq7) (at_of (j := n) (by omega) (by rw [List.getElem?_map, List.getElem?_range hn30]; rfl)) ?_
      have en : 1 + n - 1 = n := by omega
      rw [hpl, en]
      refine rd_ne (ov_scal _) ?_
      rw [decide_eq_true rfl]
      walk_at "rd"
      exact ⟨_, rfl, e6.trans e7⟩
    · rintro σ H6 ⟨v7, rfl, e6⟩
      walk_at "rd"
      exact ⟨_, _, _, _, rfl, (((((e.trans e2).trans e3).trans e4).trans e5).trans e6)⟩
  · rintro σ H' ⟨v4, v5, v6, v7, rfl, e⟩
    have e' := e1.trans e
    obtain ⟨dx, bo, wo, hMo, hbo, hwo⟩ := hM.ext e
    have hv' := hv.ext e'
    walk_at "rd"
    refine go_fld hMo T.cl_Maker T.na_Maker_inlets (mf_i _ _ _) ?_
    walk_at "rd"
    refine rd_ix hv'.sq (at_of (j := 0) rfl rfl) ?_
    walk_at "rd"
    rw [dec_vi, decide_eq_true rfl]
    walk_at "rd"
    refine go_fld hMo T.cl_Maker T.na_Maker_begin (mf_b _ _ _) ?_
    walk_at "rd"
    refine rd_ix hv'.sq (at_of (j := 1) rfl rfl) ?_
    refine go_eqDs hbo (hb.ext e') ?_
    rw [decide_eq_true rfl]
    walk_at "rd"
    refine go_fld hMo T.cl_Maker T.na_Maker_ways (mf_w _ _ _) ?_
    walk_at "rd"
    refine rd_ix hv'.sq (at_of (j := 2) rfl rfl) ?_
    refine go_eqWs hwo (hw.ext e') ?_
    rw [decide_eq_true rfl]
    exact k _ e'
end
end K24
set_option Elab.async false
set_option linter.all false
set_option maxRecDepth 100000
set_option maxHeartbeats 8000000
/-! The law. -/
namespace K24
open PySem PySem.Spec PyProof.Rows L2
local macro_rules | `(tactic| walk_at "tr") => `(tactic| first
  | (with_reducible assumption)
  | (with_reducible exact TuA.sq (by assumption)) | (with_reducible exact SqLv.sq (by assumption)) | (with_reducible exact SqA.ofL (by assumption)) | (with_reducible exact SqA.ofT (by assumption))
  | (with_reducible exact TuA.of (by assumption)) | (with_reducible exact SqLv.of (by assumption)) | (with_reducible exact WsT.wa (by assumption))
  | (with_reducible refine' TuA.sq (TuA.ext ?h ?e); (case e => with_reducible assumption); (case h => walk_at "tr"))
  | (with_reducible refine' SqA.ext ?h ?e; (case e => with_reducible assumption); (case h => walk_at "tr"))
  | (with_reducible refine' TuA.ext ?h ?e; (case e => with_reducible assumption); (case h => walk_at "tr"))
  | (with_reducible refine' SqLv.ext ?h ?e; (case e => with_reducible assumption); (case h => walk_at "tr"))
  | (with_reducible refine' WsA.ext ?h ?e; (case e => with_reducible assumption); (case h => walk_at "tr"))
  | (with_reducible refine' WsT.ext ?h ?e; (case e => with_reducible assumption); (case h => walk_at "tr"))
  | (with_reducible refine' MkrT.ext ?h ?e; (case e => with_reducible assumption); (case h => walk_at "tr"))
  | (with_reducible refine' MkrO.ext ?h ?e; (case e => with_reducible assumption); (case h => walk_at "tr"))
  | (with_reducible refine' TblO.ext ?h ?e; (case e => with_reducible assumption); (case h => walk_at "tr"))
  | (with_reducible refine' RawT.ext ?h ?e; (case e => with_reducible assumption); (case h => walk_at "tr"))
  | (with_reducible refine' ext_at ?h ?e; (case e => with_reducible assumption); (case h => walk_at "tr"))
  | (with_reducible exact Ext.rfl')
  | (with_reducible refine' Ext.trans ?h ?e; (case e => with_reducible assumption); (case h => walk_at "tr")))
local macro_rules | `(tactic| walk_at "rd1") => `(tactic| first
  | (with_reducible refine' rd_seq ?_) | (with_reducible refine' rd_asg ?_) | (with_reducible refine' rd_ret ?_) | (with_reducible refine' rd_if ?_) | (with_reducible refine' rd_drop ?_)
  | ((with_reducible refine' rd_var ?h ?q); (case h => exact rfl))
  | (with_reducible refine' rd_c ?_) | (with_reducible refine' rd_op ?_) | (with_reducible refine' rd_un ?_) | (with_reducible refine' rd_test ?_) | (with_reducible refine' rd_B ?_) | (with_reducible refine' rd_bl ?_)
  | (with_reducible refine' rd_and ?_) | (with_reducible refine' rd_or ?_) | (with_reducible refine' rd_not ?_) | (with_reducible refine' rd_andV ?_) | (with_reducible refine' rd_orV ?_) | (with_reducible refine' rd_notV ?_)
  | (with_reducible refine' rd_ifE ?_) | (with_reducible refine' rd_chain ?_) | (with_reducible refine' rd_nil ?_) | (with_reducible refine' rd_cons ?_) | (with_reducible refine' rd_cb ?_) | (with_reducible refine' rd_call0 ?_) | (with_reducible refine' rd_call ?_)
  | (with_reducible refine' rd_part ?_) | (with_reducible refine' rd_int ?_) | (with_reducible refine' rd_nopart ?_) | (with_reducible refine' rd_sl ?_) | (with_reducible refine' rd_tup ?_) | (with_reducible refine' rd_lst ?_)
  | (with_reducible refine' rd_I0 ?_) | (with_reducible refine' rd_U ?_) | (with_reducible refine' rd_intI ?_) | (with_reducible refine' rd_abs ?_) | (with_reducible refine' rd_lc ?_) | (with_reducible refine' rd_lr ?_)
  | (with_reducible refine' rd_next ?_) | (with_reducible refine' rd_cont ?_) | (with_reducible refine' rd_break ?_)
  | ((with_reducible refine' rd_len ?h ?q); (case h => walk_at "tr"))
  | ((with_reducible refine' rd_eq ?h ?q); (case h => exact rfl)) | ((with_reducible refine' rd_ne ?h ?q); (case h => exact rfl))
  | ((with_reducible refine' ite_t ?h ?q); (case h => exact rfl)) | ((with_reducible refine' ite_f ?h ?q); (case h => exact rfl))
  | (with_reducible refine' rd_gn ?_) | (with_reducible refine' rd_forL ?_) | (with_reducible refine' rd_forT ?_) | (with_reducible refine' rd_forR1 ?_) | (with_reducible refine' rd_forR2 ?_) | (with_reducible refine' rd_forR3 ?_)
  | (with_reducible refine' rd_make ?_) | (with_reducible refine' rd_sfld ?_) | (with_reducible refine' rd_mth ?_) | (with_reducible refine' rd_callO ?_)
  | (with_reducible refine' rd_forS ?_) | (with_reducible refine' rd_gsub ?_)
  | (with_reducible refine' rd_fld ?_) | (with_reducible refine' rd_asgG ?_) | (with_reducible refine' rd_bm ?_)
  | ((with_reducible refine' rd_gT2 ?h ?n ?q); (case h => walk_at "tr"); (case n => exact rfl)) | ((with_reducible refine' rd_gT3 ?h ?n ?q); (case h => walk_at "tr"); (case n => exact rfl))
  | dsimp only)
local macro_rules | `(tactic| walk_at "rd") => `(tactic| repeat (walk_at "rd1"))

section
variable {X : Cx} {K : PySem.W.Frag} {k : Nat} {C f : Addr} {fd : FuncData} {ps : List Str} {sp : Sp}
theorem op_ownEqK (O : OwnC K C f) (F : FnOk X.prog X.w X.K X.mg X.base CX0 k f fd ps sp) (hr : Room k X.A) (hb : Binds K fd ps []) (h : X.K = K := by rfl) : OpR X (compareOp .Eq) (rOwnEq K C sp) := by
  subst h
  exact op_ownEq O F hr hb
theorem op_ownNeK (O : OwnC K C f) (F : FnOk X.prog X.w X.K X.mg X.base CX0 k f fd ps sp) (hr : Room (k + 1) X.A) (hb : Binds K fd ps []) (h : X.K = K := by rfl) : OpR X (compareOp .NotEq) (rOwnNe K C sp) := by
  subst h
  exact op_ownNe O F hr hb
end
theorem MkrO.extS {K : PySem.W.Frag} {H H2 : Hp} {a p : Addr} {m : Mkr} {ys : List V} (h : MkrO K H a m) (e : ExtB p H H2) (hp : H p = some (.lst ys)) : MkrO K H2 a m :=
  let ⟨dx, b, w, h1, h2, h3⟩ := h; ⟨dx, b, w, e _ _ (ne_of h1 hp (by intro z; cases z)) h1, h2.extS e hp, h3.extS e hp⟩
theorem mEq_self (m : Mkr) : mEq m m = true := by
  unfold mEq
  simp
theorem rd_par {σ : L2.St} {H : Hp} {D : Ends} {i j : Nat} {ta : TA} (q : ta σ H fun vs H1 => ∃ v w, vs = [v, w] ∧ D.nx ((σ.set i (some v)).set j (some w)) H1) : tPar i j ta D σ H := q
section
variable {K : PySem.W.Frag} {mg : Str → Option Value} {H : Hp} {Q : VK} {a : Addr} {m : Mkr}
theorem go_ownEq (T : Facts K mg) {b : Addr} {m2 : Mkr} (h1 : MkrO K H a m) (h2 : MkrO K H b m2) (q : ∀ H', Ext H H' → Q (.bl (mEq m m2)) H') : rOwnEq K (cM K) (spMkrEq K) (.ref a) (.ref b) H Q := by
  obtain ⟨dx, x, y, h, _⟩ := id h1
  exact ⟨a, dx, _, _, rfl, h, ty_mkr T h2, (exF T).nm, a, .ref b, m, mEq m m2, rfl, h1, .inl ⟨b, m2, rfl, h2, rfl⟩, q⟩
theorem go_ownNe (T : Facts K mg) {b : Addr} {m2 : Mkr} (h1 : MkrO K H a m) (h2 : MkrO K H b m2) (q : ∀ H', Ext H H' → Q (.bl (!mEq m m2)) H') : rOwnNe K (cM K) (spMkrEq K) (.ref a) (.ref b) H Q := by
  obtain ⟨dx, x, y, h, _⟩ := id h1
  exact ⟨a, dx, _, _, rfl, h, ty_mkr T h2, (exF T).nm, a, .ref b, m, mEq m m2, rfl, h1, .inl ⟨b, m2, rfl, h2, rfl⟩, fun H' e => ⟨_, rfl, q H' e⟩⟩
theorem go_ownEqT (T : Facts K mg) {y : V} {xs : List V} (h1 : MkrO K H a m) (h2 : TuA K H y xs) (q : ∀ H', Ext H H' → Q (.bl false) H') : rOwnEq K (cM K) (spMkrEq K) (.ref a) y H Q := by
  obtain ⟨dx, x, z, h, _⟩ := id h1
  exact ⟨a, dx, _, _, rfl, h, ty_tu h2, (exF T).nt, a, y, m, false, rfl, h1, .inr ⟨rfl, .inl ⟨xs, h2⟩⟩, q⟩
theorem go_ownEqI (T : Facts K mg) {i : Int} (h1 : MkrO K H a m) (q : ∀ H', Ext H H' → Q (.bl false) H') : rOwnEq K (cM K) (spMkrEq K) (.ref a) (.int i) H Q := by
  obtain ⟨dx, x, z, h, _⟩ := id h1
  exact ⟨a, dx, _, _, rfl, h, ty_int, (exF T).ni, a, .int i, m, false, rfl, h1, .inr ⟨rfl, .inr ⟨i, rfl⟩⟩, q⟩
end
theorem inV_give (ds : List Dd) : inV (.str "give") (ds.map Dd.v) = decide (Dd.give ∈ ds) := by
  unfold inV
  induction ds with
  | nil => rfl
  | cons d r ih =>
    rw [List.map_cons, List.any_cons, ih]
    cases d with
    | give =>
      have e : eqV (Dd.v .give) (.str "give") = true := by decide +kernel
      rw [e]
      simp
    | take i =>
      have e : eqV (Dd.v (.take i)) (.str "give") = false := rfl
      rw [e]
      simp
/-- far behind, a row ends exactly if its loop gives nothing -/
theorem far_none {m : Mkr} {f t : List Nat} (ok : m.Ok) (c : CrsOk m.ways.length f t) (i : Int) : decide (ov (rowAt (plainR (needR m i f t)) (10 ^ 30 - 1)) = V.non) = !decide (Dd.give ∈ pick m.ways t) := by
  have e : rowAt (plainR (needR m i f t)) (10 ^ 30 - 1) = rowAt (needR m i f t) (10 ^ 30 - 1) := plain_at _ _ _ _
  rw [e]
  have hl := (needR_ok i ok c).zh
  have hn : ¬ 10 ^ 30 - 1 < (needR m i f t).1.length := by
    have : (50000 : Nat) ≤ 10 ^ 30 - 1 := by decide
    omega
  unfold rowAt
  rw [if_neg hn]
  have hlp : (needR m i f t).2.1 = [] ↔ Dd.give ∉ pick m.ways t := by
    rw [← ahead_empty i]
    show (ahead i (pick m.ways t)).1.map _ = [] ↔ _
    simp
  by_cases h : Dd.give ∈ pick m.ways t
  · rw [if_neg (fun z => hlp.mp z h), decide_eq_true h]
    exact decide_eq_false fun z => by cases z
  · rw [if_pos (hlp.mpr h), decide_eq_false h]
    rfl
def spLaw (K : PySem.W.Frag) : Sp := fun vs H Q _ => ∃ (x : V) (ns : List Int), vs = [x] ∧ SqLv K H x (ns.map V.int) ∧ ns.length ≤ 63 ∧ (∀ z ∈ ns, Builtin.Int.intBits z ≤ 1048576) ∧ ∀ H', Q (.bl true) H'
section
variable {P : Program} {w : World} {K : PySem.W.Frag} {mg : Str → Option Value} {base : Heap}
theorem k_law (T : Facts K mg) {fd : FuncData} (F : FunD K "law" "law" (defArgs s_law) (defBody s_law) (defScope s_law) [] [] (He.fAd K ("law", none)) fd) : FnOk P w K mg base CX0 10 (He.fAd K ("law", none)) fd ["_law_script"] (spLaw K) := by
  have C_law_source := k_law_source (P := P) (w := w) (base := base) T
  have C_law_pick := k_law_pick (P := P) (w := w) (base := base) T
  have C_law_maker := k_law_maker (P := P) (w := w) (base := base) T
  have C_law_course := k_law_course (P := P) (w := w) (base := base) T
  have C_law_made := k_law_made (P := P) (w := w) (base := base) T
  have C_law_same := k_law_same (P := P) (w := w) (base := base) T
  have C_law_on := k_law_on (P := P) (w := w) (base := base) T
  have C_law_asked := k_law_asked (P := P) (w := w) (base := base) T
  have C_law_other := k_law_other (P := P) (w := w) (base := base) T
  have M_Maker3 := m_Maker3 (P := P) (w := w) (base := base) T
  have C_Makerneed := k_Makerneed (P := P) (w := w) (base := base) T
  have C_Tablecall := k_Tablecall (P := P) (w := w) (base := base) T
  have O_Tablecall := o_Tablecall T
  have OM : OwnC K (cM K) (He.ma K (cM K) "__eq__") := ⟨T.me_Makereq.at_, T.me_Makereq.fn, (exF T).ne, (exF T).om⟩
  obtain ⟨fde, BE, FE⟩ := k_Makereq (P := P) (w := w) (base := base) T
  refine F.ok sc_law (fun vs H Q E h => by obtain ⟨i, b, rfl, _⟩ := h; rfl) (fun cdv A outer s H vs Q E hr h => ?_)
  obtain ⟨x, ns, rfl, hx, hns, hbits, k⟩ := h
  have zS2 : 200000 ≤ sizeLine := by decide
  have sz1 : 1 ≤ sizeLine := by decide
  refine (fun (h : ∃ t, PSs _ _ t ∧ _) => let ⟨t, h1, h2⟩ := h; ⟨t, PSs.nox h1, h2⟩) ?_
  refine ⟨_, (pss_cons (ps_set (i := 1) sc_law.nd rfl (Or.inl rfl) (pe_k C_law_source hr (by decide) (by rfl) (pa_cons (pv 0) (pa_cons pe_int pa_nil))))
      (pss_cons (ps_set (i := 2) sc_law.nd rfl (Or.inl rfl) (pe_k C_law_maker hr (by decide) (by rfl) (pa_cons (pv 1) (pa_cons (pe_op op_add pe_int (pe_k C_law_pick hr (by decide) (by rfl) (pa_cons (pv 1) (pa_cons pe_int pa_nil)))) (pa_cons pe_int (pa_cons pe_bl pa_nil))))))
      (pss_cons (ps_set (i := 3) sc_law.nd rfl (Or.inl rfl) (pe_k C_law_source hr (by decide) (by rfl) (pa_cons (pv 0) (pa_cons pe_int pa_nil))))
      (pss_cons (ps_if (pt_not (pt_val (pe_k C_law_asked hr (by decide) (by rfl) (pa_cons (pv 1) (pa_cons (pv 2) (pa_cons (pe_k C_law_course hr (by decide) (by rfl) (pa_cons (pv 3) (pa_cons (pv 2) (pa_cons pe_int pa_nil)))) pa_nil)))))) (pss_one (ps_ret pe_bl)) pss_nil)
      (Evl.pss_cut (ps_if (PW.pt (pw_and (pt_cmpR op_eq (pe_k C_law_pick hr (by decide) (by rfl) (pa_cons (pv 3) (pa_cons pe_int pa_nil))) pe_int (nomark _)) (pw_and1 (pt_not (pt_val (pe_k C_law_asked hr (by decide) (by rfl) (pa_cons (pv 1) (pa_cons (pv 2) (pa_cons (pe_k C_law_course hr (by decide) (by rfl) (pa_cons (pv 3) (pa_cons (pv 2) (pa_cons pe_int pa_nil)))) pa_nil))))))))) (pss_one (ps_ret pe_bl)) pss_nil)
      (pss_cons (ps_par (i := 4) (j := 5) rfl sc_law.nd rfl rfl (by decide) rfl rfl (pa_cons (pe_callTy (call_listK (K := K)) (by rfl) T.b_list bt_list (pa_cons (pe_ix (ix_K (K := K)) (pv 2) pe_int (fun _ _ => rfl)) pa_nil)) (pa_cons (pe_lc (own := [("_law_way", 12)]) (g := gName 12) (tt := tYes) rfl sc_law.nd (pi_seqK (K := K) (pe_ix (ix_K (K := K)) (pv 2) pe_int (fun _ _ => rfl))) (blkOk_by (N := n_law) (sc := defScope s_law) (by decide +kernel)) (fun _ _ _ _ _ => pg_name (i := 12) sc_law.nd rfl (Or.inl rfl)) (fun _ _ _ _ _ => pts_nil) (fun _ _ _ _ _ => (pe_callTy (call_listK (K := K)) (by rfl) T.b_list bt_list (pa_cons (pv 12) pa_nil)))) pa_nil)) (by rfl))
      (pss_cons (ps_set (i := 6) sc_law.nd rfl (Or.inl rfl) (pe_mkk M_Maker3 hr (by decide) (by rfl) (pa_cons (pe_ix (ix_K (K := K)) (pv 2) pe_int (fun _ _ => rfl)) (pa_cons (pv 4) (pa_cons (pv 5) pa_nil)))))
      (pss_cons (ps_expr (pe_bm PySem.F.plainAttrs_list PySem.F.slot_list_append PySem.F.type_list_append mt_append (pv 4) (pa_cons pe_str pa_nil)))
      (pss_cons (ps_expr (pe_bm PySem.F.plainAttrs_list PySem.F.slot_list_append PySem.F.type_list_append mt_append (pe_ix (ix_K (K := K)) (pv 5) pe_int (fun _ _ => rfl)) (pa_cons pe_int pa_nil)))
      (pss_cons (ps_if (PW.pt (pw_or (pt_cmpR (op_ownNeK (K := K) OM FE (hr.mono (by decide)) BE) (pv 6) (pe_k C_law_made hr (by decide) (by rfl) (pa_cons (pv 2) pa_nil)) (nomark _)) (pw_or1 (pt_not (pt_cmpR (op_ownEqK (K := K) OM FE (hr.mono (by decide)) BE) (pv 6) (pe_k C_law_made hr (by decide) (by rfl) (pa_cons (pv 2) pa_nil)) (nomark _)))))) (pss_one (ps_ret pe_bl)) pss_nil)
      (pss_cons (ps_if (PW.pt (pw_or (pt_not (pt_val (pe_callB (call_isiK2 (K := K)) (by rfl) T.b_isinstance bt_isinstance (pa_cons (pe_fldK (K := K) (pv 6) rfl) (pa_cons (pe_bltn (v := .ty "tuple") (by rfl) T.b_tuple bt_tuple rfl) pa_nil))))) (pw_or1 (pt_not (pt_val (pe_callB (call_allK (K := K)) (by rfl) T.b_all bt_all (pa_cons (pe_lc (own := [("_law_way", 12)]) (g := gName 12) (tt := tYes) rfl sc_law.nd (pi_seqK (K := K) (pe_fldK (K := K) (pv 6) rfl)) (blkOk_by (N := n_law) (sc := defScope s_law) (by decide +kernel)) (fun _ _ _ _ _ => pg_name (i := 12) sc_law.nd rfl (Or.inl rfl)) (fun _ _ _ _ _ => pts_nil) (fun _ _ _ _ _ => (pe_callB (call_isiK2 (K := K)) (by rfl) T.b_isinstance bt_isinstance (pa_cons (pv 12) (pa_cons (pe_bltn (v := .ty "tuple") (by rfl) T.b_tuple bt_tuple rfl) pa_nil))))) pa_nil))))))) (pss_one (ps_ret pe_bl)) pss_nil)
      (pss_cons (ps_set (i := 7) sc_law.nd rfl (Or.inl rfl) (pe_k C_law_other hr (by decide) (by rfl) (pa_cons (pv 3) (pa_cons (pv 2) pa_nil))))
      (pss_cons (ps_if (PW.pt (pw_or (pt_cmpR (op_ownEqK (K := K) OM FE (hr.mono (by decide)) BE) (pe_k C_law_made hr (by decide) (by rfl) (pa_cons (pv 7) pa_nil)) (pv 6) (nomark _)) (pw_or (pt_cmpR (op_ownEqK (K := K) OM FE (hr.mono (by decide)) BE) (pv 6) (pv 2) (nomark _)) (pw_or1 (pt_cmpR (op_ownEqK (K := K) OM FE (hr.mono (by decide)) BE) (pv 6) pe_int (nomark _)))))) (pss_one (ps_ret pe_bl)) pss_nil)
      (pss_cons (ps_set (i := 8) sc_law.nd rfl (Or.inl rfl) (pe_k C_law_course hr (by decide) (by rfl) (pa_cons (pv 3) (pa_cons (pv 2) (pa_cons pe_int pa_nil)))))
      (pss_cons (ps_set (i := 9) sc_law.nd rfl (Or.inl rfl) (pe_mth C_Makerneed hr (by decide) (pv 6) (pa_cons (pe_op op_sub (pe_ix (ix_K (K := K)) (pv 2) pe_int (fun _ _ => rfl)) pe_int) (pa_cons (pe_lst (pa_cons (pe_callTy (call_listK (K := K)) (by rfl) T.b_list bt_list (pa_cons (pe_ix (ix_K (K := K)) (pv 8) pe_int (fun _ _ => rfl)) pa_nil)) (pa_cons (pe_callTy (call_listK (K := K)) (by rfl) T.b_list bt_list (pa_cons (pe_ix (ix_K (K := K)) (pv 8) pe_int (fun _ _ => rfl)) pa_nil)) pa_nil))) pa_nil))))
      (pss_cons (ps_if (pt_not (pt_val (pe_k C_law_same hr (by decide) (by rfl) (pa_cons (pv 9) (pa_cons (pe_k C_law_on hr (by decide) (by rfl) (pa_cons (pv 2) (pa_cons (pe_op op_sub (pe_ix (ix_K (K := K)) (pv 2) pe_int (fun _ _ => rfl)) pe_int) (pa_cons (pv 8) pa_nil)))) pa_nil))))) (pss_one (ps_ret pe_bl)) pss_nil)
      (pss_cons (ps_set (i := 10) sc_law.nd rfl (Or.inl rfl) (pe_tup (pa_cons (pe_callTy (call_tupK (K := K)) (by rfl) T.b_tuple bt_tuple (pa_cons (pe_lst (pa_cons (pe_k C_law_pick hr (by decide) (by rfl) (pa_cons (pv 3) (pa_cons (pe_callB (call_lenK (K := K)) (by rfl) T.b_len PySem.boot_len (pa_cons (pe_ix (ix_K (K := K)) (pv 2) pe_int (fun _ _ => rfl)) pa_nil)) pa_nil))) pa_nil)) pa_nil)) (pa_cons (pe_callTy (call_tupK (K := K)) (by rfl) T.b_tuple bt_tuple (pa_cons (pe_lst (pa_cons (pe_k C_law_pick hr (by decide) (by rfl) (pa_cons (pv 3) (pa_cons (pe_callB (call_lenK (K := K)) (by rfl) T.b_len PySem.boot_len (pa_cons (pe_ix (ix_K (K := K)) (pv 2) pe_int (fun _ _ => rfl)) pa_nil)) pa_nil))) pa_nil)) pa_nil)) pa_nil))))
      (pss_cons (ps_set (i := 11) sc_law.nd rfl (Or.inl rfl) (pe_cmpR (op_inK (K := K)) pe_str (pe_ix (ix_K (K := K)) (pe_ix (ix_K (K := K)) (pv 2) pe_int (fun _ _ => rfl)) (pe_ix (ix_K (K := K)) (pe_ix (ix_K (K := K)) (pv 10) pe_int (fun _ _ => rfl)) pe_int (fun _ _ => rfl)) (fun _ _ => rfl)) (by rfl)))
      (pss_one (ps_ret (pe_cmpR op_eq (pe_cmpR op_isN (StX.pe_callO (pe_mth C_Makerneed hr (by decide) (pv 6) (pa_cons pe_int (pa_cons (pv 10) pa_nil))) O_Tablecall (C_Tablecall.fnr) (hr.mono (by decide)) pass0 (pa_cons (pe_op op_pow pe_int pe_int) pa_nil)) pe_non (nomark _)) (pe_not (pv 11)) (nomark _)))))))))))))))))))))), ?_⟩
  try dsimp only [cxOf]
  walk_at "rd"
  refine ⟨x, 0, ns, rfl, hx, by decide, hns, hbits, fun s1 H1 e1 hs1 src1 => ?_⟩
  walk_at "rd"
  refine ⟨s1, 3, rfl, by decide, by decide, src1, fun d H2 hd b2 src2 => ?_⟩
  walk_at "rd"
  refine ⟨s1, 1 + d, rfl, by omega, by omega, src2, fun v m H3 b3 src3 hm ok hb5 hw5 => ?_⟩
  have e03 : Ext H H3 := (b2.trans b3).from e1 hs1
  walk_at "rd"
  refine ⟨x, 1, ns, rfl, hx.ext e03, by decide, hns, hbits, fun s2 H4 e4 hs2 src4 => ?_⟩
  replace hm := hm.ext e4
  obtain ⟨q1, q2, q3, hs4⟩ := id src4
  walk_at "rd"
  refine ⟨s2, v, m, 6, rfl, hm, ok, by decide, src4, fun u cf ct H5 b5 src5 hu cok => ?_⟩
  replace hm := hm.extS b5 hs4
  walk_at "rd"
  refine ⟨.ref s1, v, u, m, cf, ct, rfl, hm, ok, hu, cok, fun H6 e6 => ?_⟩
  replace hm := hm.ext e6
  have src6 := src5.ext e6
  walk_at "rd"
  refine ⟨fun σ' H' => σ' = [some x, some (.ref s1), some v, some (.ref s2), none, none, none, none, none, none, none, none, none] ∧ Src s2 H' ∧ MkrT K H' v m, ?_, ?_⟩
  · obtain ⟨q1, q2, q3, hs6⟩ := id src6
    walk_at "rd"
    refine ⟨s2, 8, rfl, by decide, by decide, src6, fun d H7 hd b7 src7 => ?_⟩
    replace hm := hm.extS b7 hs6
    walk_at "rd"
    refine ite_d (fun _ => ?_) (fun _ => ?_)
    · obtain ⟨q1, q2, q3, hs7⟩ := id src7
      walk_at "rd"
      refine ⟨s2, v, m, 200, rfl, hm, ok, by decide, src7, fun u cf ct H8 b8 src8 hu cok => ?_⟩
      replace hm := hm.extS b8 hs7
      walk_at "rd"
      refine ⟨.ref s1, v, u, m, cf, ct, rfl, hm, ok, hu, cok, fun H9 e9 => ?_⟩
      walk_at "rd"
      exact ⟨rfl, src8.ext e9, hm.ext e9⟩
    · walk_at "rd"
      exact ⟨rfl, src7, hm⟩
  clear hm hs4 src6 src5 e6 hu cok b5 e4 hs2 src4 e03 src3 b3 b2 src2 hd e1 hs1 src1 hx
  rintro σ' G0 ⟨rfl, src0, hm⟩
  obtain ⟨b, ww, hv, hb, us, hws, hlen, hus⟩ := id hm
  have hw1 := ok.w1
  have hw4 := ok.w4
  have i1 := ok.in1
  have i3 := ok.in3
  refine rd_seq ?_
  refine rd_par ?_
  walk_at "rd"
  refine rd_ix hv.sq (at_of (j := 1) rfl rfl) ?_
  walk_at "rd"
  refine rd_list hb.sq fun pb G1 hpb e1 h1 => ?_
  walk_at "rd"
  refine rd_ix (hv.ext e1).sq (at_of (j := 2) rfl rfl) ?_
  refine lc_go (fun D i y A => ∃ q wy, m.ways[i]? = some wy ∧ y = .ref q ∧ q ≠ D ∧ (q ≠ pb ∧ s2 ≠ q) ∧ A q = some (.lst (wy.map Dd.v))) (fun D i y A B hAB ⟨q, wy, h1, h2, h3, h4, h5⟩ => ⟨q, wy, h1, h2, h3, h4, hAB _ _ h3 h5⟩) (hws.ext e1).sq (by omega) (fun _ => rfl)
    (fun D i z G2 acc hz e2 hD Q' k' => ?_) (fun pw ys G2 hpw e2 h2 hl2 hv2 => ?_)
  · have hi := (List.getElem?_eq_some_iff.mp hz).1
    have hwi : m.ways[i]? = some (m.ways[i]'(by omega)) := List.getElem?_eq_getElem (by omega)
    have hzt := ((hus i z _ hz hwi).ext e1).ext e2
    walk_at "rd"
    exact rd_list hzt.sq fun q G3 hq e3 h3 => k' _ G3 e3 ⟨q, _, hwi, rfl, Ne.symm (ne_of_none hD hq), ⟨Ne.symm (ne_of_none (e2 _ _ h1) hq), Src.ne (src0.ext (e1.trans e2)) hq⟩, h3⟩
  have e12 := e1.trans e2
  have h12 := e2 _ _ h1
  have hpwb : pw ≠ pb := Ne.symm (ne_of_none h1 hpw)
  have hwa : WsA K G2 (.ref pw) m.ways := ⟨ys, SqA.ofL h2, by omega, fun j u w' hj1 hj2 => by
    obtain ⟨q, wy, k1, k2, k3, k4, k5⟩ := hv2 j u hj1
    rw [hj2] at k1
    have e := Option.some.inj k1
    subst e
    subst k2
    exact SqA.ofL k5⟩
  have hm2 := hm.ext e12
  have src2 := src0.ext e12
  have hv2' := hv.ext e12
  walk_at "rd"
  refine ⟨_, _, rfl, ?_⟩
  walk_at "rd"
  refine rd_ix hv2'.sq (at_of (j := 0) rfl rfl) ?_
  walk_at "rd"
  refine go_make fun o G3 dx ho e3 hO => ?_
  refine ⟨o, dx, .ref pb, .ref pw, m, rfl, hO, (SqA.ofL h12).ext e3, hwa.ext e3, ok, fun G4 hM4 b4 => ⟨rfl, ?_⟩⟩
  have e24 : Ext G2 G4 := b4.from e3 ho
  have hb4 := e24 _ _ h12
  have hpw4 := e24 _ _ h2
  have hm4 := hm2.ext e24
  have src4 := src2.ext e24
  walk_at "rd"
  refine ⟨ty_list hb4, ?_⟩
  walk_at "rd"
  have ldd := len_dd m.begin_
  refine go_append hb4 (by omega) fun G5 b5 h5 => ?_
  have hpw5 := b5 _ _ hpwb hpw4
  have hm5 := hm4.extS b5 hb4
  have hM5 := hM4.extS b5 hb4
  obtain ⟨q0, wy0, k1, k2, k3, k4, k5⟩ := hv2 0 (ys[0]'(by omega)) (List.getElem?_eq_getElem (by omega))
  have hq5 := b5 _ _ k4.1 (e24 _ _ k5)
  have hne5 : s2 ≠ pb := Src.ne src0 hpb
  have src5 := src4.other b5 hne5
  have hwy0 : wy0.length ≤ 10 := ok.wl wy0 (List.mem_of_getElem? k1)
  have ly0 := len_dd wy0
  walk_at "rd"
  refine rd_ix (SqA.ofL hpw5) (at_of (j := 0) rfl (List.getElem?_eq_getElem (by omega))) ?_
  rw [k2]
  refine ⟨ty_list hq5, ?_⟩
  walk_at "rd"
  refine go_append hq5 (by omega) fun G6 b6 h6 => ?_
  have hm6 := hm5.extS b6 hq5
  have hM6 := hM5.extS b6 hq5
  have hne6 : s2 ≠ q0 := k4.2
  have src6 := src5.other b6 hne6
  clear hv2 k5 k4 k3 k2 k1 hq5 hpw5 h6 b6 h5 b5 src5 hM5 hm5 src4 hm4 hpw4 hb4 e24 b4 hO e3 ho hwa hv2' src2 hm2 hM4 hne5 hne6 src0 hm hv hb hws hus h12 e12 hpwb h2 e2 hpw h1 e1 hpb
  walk_at "rd"
  refine ⟨v, m, rfl, hm6, ok, fun p2 G7 e7 hM2 => ?_⟩
  refine go_ownNe T (hM6.ext e7) hM2 fun G8 e8 => ?_
  rw [mEq_self]
  have hm8 := (hm6.ext e7).ext e8
  have hM8 := (hM6.ext e7).ext e8
  have src8 := (src6.ext e7).ext e8
  walk_at "rd"
  refine ⟨v, m, rfl, hm8, ok, fun p3 G9 e9 hM3 => ?_⟩
  refine go_ownEq T (hM8.ext e9) hM3 fun G10 e10 => ?_
  rw [mEq_self]
  have hm10 := (hm8.ext e9).ext e10
  have hM10 := (hM8.ext e9).ext e10
  have src10 := (src8.ext e9).ext e10
  obtain ⟨dxo, bo, wo, hMo, hbo, us2, hwo, hlen2, hus2⟩ := id hM10
  walk_at "rd"
  refine go_fld hMo T.cl_Maker T.na_Maker_begin (mf_b _ _ _) ?_
  walk_at "rd"
  refine rd_isi (ty_tu hbo) kit_tt ?_
  walk_at "rd"
  refine go_fld hMo T.cl_Maker T.na_Maker_ways (mf_w _ _ _) ?_
  refine lc_val (fun _ => .bl true) hwo.sq (by omega) (fun _ => rfl) (fun i z G11 hz e11 Q' k' => ?_) (fun pl ys G11 hpl e11 h11 hl11 hv11 => ?_)
  · have hi := (List.getElem?_eq_some_iff.mp hz).1
    have hwi : m.ways[i]? = some (m.ways[i]'(by omega)) := List.getElem?_eq_getElem (by omega)
    walk_at "rd"
    refine rd_isi (ty_tu ((hus2 i z _ hz hwi).ext e11)) kit_tt ?_
    exact k' _ Ext.rfl'
  walk_at "rd"
  refine rd_all h11 hv11 ?_
  have hm11 := hm10.ext e11
  have hM11 := hM10.ext e11
  have src11 := src10.ext e11
  obtain ⟨q1, q2, q3, hs11⟩ := id src11
  walk_at "rd"
  refine ⟨s2, v, m, rfl, hm11, ok, hb5, hw5, src11, fun v2 m2 G12 b12 src12 hmo oko hneo => ?_⟩
  have hm12 := hm11.extS b12 hs11
  have hM12 := hM11.extS b12 hs11
  walk_at "rd"
  refine ⟨v2, m2, rfl, hmo, oko, fun p4 G13 e13 hM4 => ?_⟩
  walk_at "rd"
  refine go_ownEq T hM4 (hM12.ext e13) fun G14 e14 => ?_
  rw [hneo]
  have e24 := e13.trans e14
  have hm14 := hm12.ext e24
  have hM14 := hM12.ext e24
  have src14 := src12.ext e24
  obtain ⟨b3, ww3, hv14, hb14, hw14⟩ := id hm14
  walk_at "rd"
  refine go_ownEqT T hM14 hv14 fun G15 e15 => ?_
  walk_at "rd"
  refine go_ownEqI T (hM14.ext e15) fun G16 e16 => ?_
  have e46 := e15.trans e16
  have hm16 := hm14.ext e46
  have hM16 := hM14.ext e46
  have src16 := src14.ext e46
  obtain ⟨q1, q2, q3, hs16⟩ := id src16
  walk_at "rd"
  refine ⟨s2, v, m, 3, rfl, hm16, ok, by decide, src16, fun u cf ct G17 b17 src17 hu cok => ?_⟩
  have hm17 := hm16.extS b17 hs16
  have hM17 := hM16.extS b17 hs16
  obtain ⟨dx7, bo7, wo7, hMo7, _⟩ := id hM17
  obtain ⟨b7, ww7, hv17, hb17, hw17⟩ := id hm17
  obtain ⟨cx, cy, hux, hcx, hcy⟩ := id hu
  walk_at "rd"
  refine go_mth hMo7 (mf_need _ _ _) ?_
  walk_at "rd"
  refine rd_ix hv17.sq (at_of (j := 0) rfl rfl) ?_
  walk_at "rd"
  refine rd_ix hux.sq (at_of (j := 0) rfl rfl) ?_
  walk_at "rd"
  refine rd_list hcx.sq fun c1 G18 hc1 e18 h18 => ?_
  walk_at "rd"
  refine rd_ix (hux.ext e18).sq (at_of (j := 1) rfl rfl) ?_
  walk_at "rd"
  refine rd_list (hcy.ext e18).sq fun c2 G19 hc2 e19 h19 => ?_
  walk_at "rd"
  refine go_lst sz2 fun c3 G20 hc3 e20 h20 => ?_
  walk_at "rd"
  have e80 := (e18.trans e19).trans e20
  refine ⟨o, m.inlets - 1, .ref c3, m, cf, ct, rfl, hM17.ext e80, ok, ⟨.ref c1, .ref c2, SqA.ofL h20, SqA.ofL (e20 _ _ (e19 _ _ h18)), SqA.ofL (e20 _ _ h19)⟩, cok, by omega, by omega, fun pt G21 e21 hT => ?_⟩
  have e71 := e80.trans e21
  have nok := needR_ok (m.inlets - 1) ok cok
  have cnt := plainF_counts nok
  walk_at "rd"
  refine rd_ix (hv17.ext e71).sq (at_of (j := 0) rfl rfl) ?_
  walk_at "rd"
  refine ⟨v, m.inlets - 1, u, m, cf, ct, rfl, hm17.ext e71, ok, hu.ext e71, cok, fun z G22 e22 hz => ?_⟩
  walk_at "rd"
  refine ⟨pt, z, _, rfl, hT.ext e22, hz, cnt.1, cnt.2.1, cnt.2.2.2.1, cnt.2.2.2.2, fun G23 e23 => ?_⟩
  have e73 := (e71.trans e22).trans e23
  have hm23 := hm17.ext e73
  have hM23 := hM17.ext e73
  have src23 := src17.ext e73
  obtain ⟨q1, q2, q3, hs23⟩ := id src23
  obtain ⟨b9, ww9, hv23, hb23, us9, hws9, hlen9, hus9⟩ := id hm23
  walk_at "rd"
  refine rd_ix hv23.sq (at_of (j := 2) rfl rfl) ?_
  have hws9s := hws9.sq
  walk_at "rd"
  refine ⟨s2, _, rfl, by omega, by omega, src23, fun d1 G24 hd1 b24 src24 => ?_⟩
  walk_at "rd"
  refine go_lst sz1 fun l1 G25 hl1 e25 h25 => ?_
  walk_at "rd"
  refine rd_tupleL (SqLv.of h25) fun t1 G26 ht1 e26 h26 => ?_
  have b36 : ExtB s2 G23 G26 := (b24.trans (ExtB.of e25)).trans (ExtB.of e26)
  have src26 := (src24.ext e25).ext e26
  have hv26 := hv23.extS b36 hs23
  have hws26 := (hws9.extS b36 hs23).sq
  have h26' : TuA K G26 (.ref t1) [.int d1] := TuA.of h26
  obtain ⟨q1, q2, q3, hs26⟩ := id src26
  walk_at "rd"
  refine rd_ix hv26.sq (at_of (j := 2) rfl rfl) ?_
  walk_at "rd"
  refine ⟨s2, _, rfl, by omega, by omega, src26, fun d2 G27 hd2 b27 src27 => ?_⟩
  walk_at "rd"
  refine go_lst sz1 fun l2 G28 hl2 e28 h28 => ?_
  walk_at "rd"
  refine rd_tupleL (SqLv.of h28) fun t2 G29 ht2 e29 h29 => ?_
  walk_at "rd"
  refine go_tup sz2 fun t3 G30 ht3 e30 h30 => ?_
  have b60 : ExtB s2 G26 G30 := ((b27.trans (ExtB.of e28)).trans (ExtB.of e29)).trans (ExtB.of e30)
  have b30 := b36.trans b60
  have hm30 := hm23.extS b30 hs23
  have hM30 := hM23.extS b30 hs23
  have hn1 : TuA K G30 (.ref t1) [.int d1] := h26'.extS b60 hs26
  have hn2 : TuA K G30 (.ref t2) [.int d2] := TuA.of (e30 _ _ h29)
  have hn3 : TuA K G30 (.ref t3) [.ref t1, .ref t2] := TuA.of h30
  obtain ⟨b0, ww0, hv30, hb30, us0, hws0, hlen0, hus0⟩ := id hm30
  obtain ⟨dx0, bo0, wo0, hMo0, _⟩ := id hM30
  have hd2' : d2 < m.ways.length := by omega
  have hd1' : d1 < m.ways.length := by omega
  obtain ⟨uy, huy, hut⟩ := ws_at hlen0 hus0 hd2'
  have cok2 : CrsOk m.ways.length [d1] [d2] := ⟨fun k hk => by rw [List.mem_singleton.mp hk]; exact hd1', fun k hk => by rw [List.mem_singleton.mp hk]; exact hd2', show 1 ≤ 200 by decide, show 1 ≤ 40 by decide, show 1 ≤ 1 by decide⟩
  walk_at "rd"
  refine rd_ix hv30.sq (at_of (j := 2) rfl rfl) ?_
  walk_at "rd"
  refine rd_ix hn3.sq (at_of (j := 1) rfl rfl) ?_
  walk_at "rd"
  refine rd_ix hn2.sq (at_of (j := 0) rfl rfl) ?_
  refine rd_ix hws0.sq (at_of (j := d2) rfl huy) ?_
  refine go_in hut.sq rfl (flat_dds _) ?_
  rw [inV_give]
  walk_at "rd"
  refine go_mth hMo0 (mf_need _ _ _) ?_
  walk_at "rd"
  refine ⟨o, 0, .ref t3, m, [d1], [d2], rfl, hM30, ok, ⟨.ref t1, .ref t2, hn3.sq, hn1.sq, hn2.sq⟩, cok2, by decide, by omega, fun pt2 G31 e31 hT2 => ?_⟩
  have nok2 := needR_ok 0 ok cok2
  have cnt2 := plainF_counts nok2
  have hfar := far_none ok cok2 0
  rw [pick_one] at hfar
  obtain ⟨dxt, bt, wt, hTo, _⟩ := id hT2
  refine ⟨pt2, rfl, ?_⟩
  walk_at "rd"
  refine rd_I (show CPow _ _ from ⟨by decide, by decide, by decide⟩) ?_
  walk_at "rd"
  refine ⟨.inr ⟨_, _, hTo⟩, pt2, 10 ^ 30, _, rfl, hT2, by decide, cnt2.2.1, cnt2.2.2.1, cnt2.2.2.2.2, fun G32 e32 => ?_⟩
  walk_at "rd"
  refine ⟨rfl, ?_⟩
  rw [hfar]
  walk_at "rd"
  have e : ∀ c : Bool, decide (V.bl c = V.bl c) = true := fun c => decide_eq_true rfl
  rw [e]
  exact k _
end
end K24
set_option Elab.async false
set_option linter.all false
set_option maxRecDepth 100000
set_option maxHeartbeats 0
/-! The end: the head, the facts, the walk. -/
open PySem PySem.W PySem.Calls PyProof.Rows
theorem PySem.Challenge.cw_needforth_k24_whole_needs_on_courses_holds : PySem.Challenge.rw_needforth_k24_whole_needs_on_courses.Holds := by
  w_on; o_law
  refine HandSHeadRun.head_any (r := OpenLaw.row PySem.Challenge.rw_needforth_k24_whole_needs_on_courses) (q := view (OpenLaw.row PySem.Challenge.rw_needforth_k24_whole_needs_on_courses).prog [74]) (H := K24.hk) (ob := K24.ob) (M := 20000) (loose := K24.loose) (d := HandSHeadRun.topDef (OpenLaw.row PySem.Challenge.rw_needforth_k24_whole_needs_on_courses).prog 74) (kwd := []) K24.ob_eq
    (by kernel_rfl) (fun s => by kernel_rfl) K24.run (by kernel_rfl) (by kernel_rfl) (by kernel_rfl) (by rfl) (by first | assumption | decide +kernel) (by decide +kernel) ⟨rfl, rfl, rfl, rfl, rfl, by decide +kernel⟩ ?hw ?hc
  case hw => w_witness2
  case hc =>
    -- from the script's object to the walk, with the bound of its bits
    refine Att.attach_callB (l := PySem.Challenge.rw_needforth_k24_whole_needs_on_courses) (n := 63) rfl (by kernel_rfl) fun w s₀ s₁ mg mb fa o pm cd doc a vs ns G Y _ _ _ hmg0 hobj hints hlen hbits hg => ?_
    obtain ⟨K, KX, c⟩ := Y
    have T := K24.facts_of KX G.T.g c
    have hl : (HandSHeadRun.topDef (OpenLaw.row PySem.Challenge.rw_needforth_k24_whole_needs_on_courses).prog 74).name = ("law" : PySem.Str) := by kernel_rfl
    rw [hl] at hmg0
    have e := hmg0.symm.trans T.g_law
    cases e
    obtain ⟨fd0, F0⟩ := T.F_law
    have b := L2.FunD.bindsA (ps := ["_law_script"]) F0 fun _ _ _ _ _ _ us hl => match us, hl with | [_], _ => rfl
    exact L2.law_call (k := 10) (CX := L2.CX0) KX G.T.g G.T.b G.T.builtins G.T.nolimit hg hobj hints (Nat.le_trans hlen (by decide)) ⟨rfl, by decide, by decide⟩ (fun base _ _ => K24.k_law T F0) (fun s v => b s [v] rfl)
      (fun H _ hS => ⟨.ref a, ns, rfl, ⟨a, rfl, hS⟩, hlen, hbits, fun _ => rfl⟩) fun _ _ _ z => z
