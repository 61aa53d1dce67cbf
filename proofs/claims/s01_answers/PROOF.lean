import PyProof.Rows.All
import Wide.All
import OpenK.AllK
import Wide.FinOn
import PyProof.EqAt
import PyProof.EqKinds
import PyProof.TupleCall
import PyProof.NeKinds
import Open.SpecLaws
import KE.OsGo
import HandS.ForSpec
import HandS.Comp
import HandS.Dict
import HandS.Iter
import HandS.Walk
import HandS.More
import HandS.CallLocal
import HandS.Flow
import PySem.Challenge.RW_icelane_s01_answers
set_option Elab.async false
set_option linter.all false
set_option maxRecDepth 100000
set_option maxHeartbeats 4000000
namespace IceM
open Km560

/-! ## sets -/
theorem mem_members {s i : Nat} : i ∈ members s ↔ i < 7 ∧ s.testBit i = true := by
  unfold members maxShips
  rw [List.mem_filter, List.mem_range]
theorem members_nodup (s : Nat) : (members s).Nodup := List.Pairwise.filter _ List.nodup_range
theorem bit_le {s i : Nat} (h : i ∈ members s) : 2 ^ i ≤ s := Nat.ge_two_pow_of_testBit (mem_members.mp h).2
theorem two_pow_pos' (i : Nat) : 0 < 2 ^ i := Nat.pos_of_ne_zero (by simp)
theorem mem_lt {s i n : Nat} (h : i ∈ members s) (hs : s < 2 ^ n) : i < n := by
  have h1 := bit_le h
  exact (Nat.pow_lt_pow_iff_right (a := 2) (by decide)).mp (Nat.lt_of_le_of_lt h1 hs)
theorem sub_lt' {s i : Nat} (h : i ∈ members s) : s - 2 ^ i < s := by
  have h1 := bit_le h
  have h2 := two_pow_pos' i
  omega
theorem bit_sub_all : ∀ s, s < 128 → ∀ i, i < 7 → s.testBit i = true → ∀ j, j < 7 → (s - 2 ^ i).testBit j = (s.testBit j && j != i) := by decide +kernel
theorem pow_le_128 {n : Nat} (hn : n ≤ 7) : 2 ^ n ≤ 128 := by
  have h : 2 ^ n ≤ 2 ^ 7 := Nat.pow_le_pow_right (by decide) hn
  exact h
theorem members_sub {s i : Nat} (hs : s < 128) (h : i ∈ members s) : members (s - 2 ^ i) = (members s).erase i := by
  rw [(members_nodup s).erase_eq_filter]
  unfold members
  rw [List.filter_filter]
  apply List.filter_congr
  intro j hj
  have hj' : j < 7 := List.mem_range.mp hj
  have hi := mem_members.mp h
  rw [bit_sub_all s hs i hi.1 hi.2 j hj']
  exact Bool.and_comm _ _
theorem members_nil_all : ∀ s, s < 128 → members s = [] → s = 0 := by decide +kernel
theorem members_zero : members 0 = [] := by decide
theorem perm_cons {s i : Nat} {l : List Nat} (hs : s < 128) : (i :: l).Perm (members s) ↔ i ∈ members s ∧ l.Perm (members (s - 2 ^ i)) := by
  rw [List.cons_perm_iff_perm_erase]
  constructor
  · rintro ⟨h1, h2⟩
    exact ⟨h1, by rw [members_sub hs h1]; exact h2⟩
  · rintro ⟨h1, h2⟩
    exact ⟨h1, by rw [← members_sub hs h1]; exact h2⟩
theorem perm_snoc {s i : Nat} {l : List Nat} (hs : s < 128) : (l ++ [i]).Perm (members s) ↔ i ∈ members s ∧ l.Perm (members (s - 2 ^ i)) := by
  rw [← perm_cons hs]
  exact ⟨fun h => (List.perm_append_singleton i l).symm.trans h, fun h => (List.perm_append_singleton i l).trans h⟩
/-- the members below n, as the program has them -/
def mem (n s : Nat) : List Nat := (List.range n).filter fun i => s.testBit i
theorem mem_eq {n s : Nat} (hn : n ≤ 7) (hs : s < 2 ^ n) : mem n s = members s := by
  unfold mem members maxShips
  obtain ⟨k, hk⟩ : ∃ k, 7 = n + k := ⟨7 - n, by omega⟩
  rw [hk, List.range_add, List.filter_append]
  have e : List.filter (fun i => s.testBit i) (List.map (fun x => n + x) (List.range k)) = [] := by
    rw [List.filter_eq_nil_iff]
    intro j hj
    obtain ⟨x, _, rfl⟩ := List.mem_map.mp hj
    have : s < 2 ^ (n + x) := Nat.lt_of_lt_of_le hs (Nat.pow_le_pow_right (by decide) (Nat.le_add_right _ _))
    rw [Nat.testBit_lt_two_pow this]
    decide
  rw [e, List.append_nil]

/-! ## least and greatest of a list -/
def minL : List Nat → Nat
  | [] => 0
  | [a] => a
  | a :: b :: r => min a (minL (b :: r))
theorem minL_le : ∀ {l : List Nat} {x : Nat}, x ∈ l → minL l ≤ x
  | [a], x, h => by
    rw [List.mem_singleton] at h
    subst h
    exact Nat.le_refl _
  | a :: b :: r, x, h => by
    show min a (minL (b :: r)) ≤ x
    rcases List.mem_cons.mp h with h | h
    · subst h
      exact Nat.min_le_left _ _
    · exact Nat.le_trans (Nat.min_le_right _ _) (minL_le h)
theorem minL_mem : ∀ {l : List Nat}, l ≠ [] → minL l ∈ l
  | [], h => absurd rfl h
  | [a], _ => List.mem_singleton.mpr rfl
  | a :: b :: r, _ => by
    show min a (minL (b :: r)) ∈ a :: b :: r
    have ih : minL (b :: r) ∈ b :: r := minL_mem (by simp)
    rcases Nat.le_total a (minL (b :: r)) with h | h
    · rw [Nat.min_eq_left h]
      exact List.mem_cons_self
    · rw [Nat.min_eq_right h]
      exact List.mem_cons_of_mem _ ih
theorem minL_of {l : List Nat} {m : Nat} (h : m ∈ l) (k : ∀ x ∈ l, m ≤ x) : m = minL l :=
  Nat.le_antisymm (k _ (minL_mem (List.ne_nil_of_mem h))) (minL_le h)
theorem minL_le_iff {l : List Nat} {w : Nat} (h : l ≠ []) : minL l ≤ w ↔ ∃ x ∈ l, x ≤ w :=
  ⟨fun q => ⟨_, minL_mem h, q⟩, fun ⟨_, hx, q⟩ => Nat.le_trans (minL_le hx) q⟩

/-! ## needs -/
def sh (ships : List Ship) (i : Nat) : Ship := ships.getD i ⟨1, 0, 0⟩
def leastBefore (s : Ship) (later : Nat) : Nat := if later ≤ s.beam then s.beam - s.selfClearance else max (s.beam - s.selfClearance) later
def needWith (s : Ship) (later closing : Nat) : Nat := if leastBefore s later = 0 then 0 else leastBefore s later + closing
def needOf (ships : List Ship) (closing : Nat) (t : List Nat) (s : Nat) : Nat :=
  minL ((mem ships.length s).map fun i => needWith (sh ships i) (t.getD (s - 2 ^ i) 0) closing)
/-- the needs of the sets 0 .. k -/
def needsT (ships : List Ship) (closing : Nat) : Nat → List Nat
  | 0 => [0]
  | k + 1 => needsT ships closing k ++ [needOf ships closing (needsT ships closing k) (k + 1)]
theorem needsT_length (ships : List Ship) (closing : Nat) : ∀ k, (needsT ships closing k).length = k + 1
  | 0 => rfl
  | k + 1 => by
    show (needsT ships closing k ++ [_]).length = _
    rw [List.length_append, needsT_length ships closing k]
    rfl
def need (ships : List Ship) (closing s : Nat) : Nat := (needsT ships closing s).getD s 0
theorem needsT_getD (ships : List Ship) (closing : Nat) : ∀ k j, j ≤ k → (needsT ships closing k).getD j 0 = need ships closing j
  | 0, j, h => by
    have : j = 0 := by omega
    subst this
    rfl
  | k + 1, j, h => by
    by_cases e : j = k + 1
    · subst e
      rfl
    · have ih := needsT_getD ships closing k j (by omega)
      rw [← ih]
      show (needsT ships closing k ++ [_]).getD j 0 = _
      rw [List.getD_eq_getElem?_getD, List.getD_eq_getElem?_getD, List.getElem?_append_left (by rw [needsT_length]; omega)]
theorem need_zero (ships : List Ship) (closing : Nat) : need ships closing 0 = 0 := rfl
theorem need_succ (ships : List Ship) (closing k : Nat) : need ships closing (k + 1) = needOf ships closing (needsT ships closing k) (k + 1) := by
  show (needsT ships closing k ++ [_]).getD (k + 1) 0 = _
  rw [List.getD_eq_getElem?_getD, List.getElem?_append_right (by rw [needsT_length]; omega), needsT_length]
  simp
/-- the table of all sets -/
def needs (ships : List Ship) (closing : Nat) : List Nat := needsT ships closing (2 ^ ships.length - 1)
theorem needs_length (ships : List Ship) (closing : Nat) : (needs ships closing).length = 2 ^ ships.length := by
  have := two_pow_pos' ships.length
  unfold needs
  rw [needsT_length]
  omega
theorem needs_getD (ships : List Ship) (closing s : Nat) (h : s < 2 ^ ships.length) : (needs ships closing).getD s 0 = need ships closing s :=
  needsT_getD ships closing _ _ (by omega)

/-! ## one ship -/
theorem needWith_le {s : Ship} {later closing w : Nat} : needWith s later closing ≤ w ↔ s.beam ≤ (w - closing) + s.selfClearance ∧ later ≤ max (w - closing) s.beam := by
  unfold needWith leastBefore
  by_cases h : later ≤ s.beam
  · rw [if_pos h]
    by_cases h0 : s.beam - s.selfClearance = 0
    · rw [if_pos h0]
      omega
    · rw [if_neg h0]
      omega
  · rw [if_neg h]
    by_cases h0 : max (s.beam - s.selfClearance) later = 0
    · rw [if_pos h0]
      omega
    · rw [if_neg h0]
      omega
def after (f : Fleet) (w i : Nat) : Option Nat := widthAfterShip f w i
theorem after_some {f : Fleet} {w i x : Nat} : widthAfterShip f w i = some x ↔ (getShip f i).beam ≤ (w - f.closing) + (getShip f i).selfClearance ∧ x = max (w - f.closing) (getShip f i).beam := by
  unfold widthAfterShip
  split
  · rename_i h
    constructor
    · intro e
      exact ⟨h, (Option.some.inj e).symm⟩
    · rintro ⟨_, e⟩
      rw [e]
  · rename_i h
    constructor
    · intro e
      cases e
    · rintro ⟨h', _⟩
      exact absurd h' h
theorem needWith_iff {f : Fleet} {w i later : Nat} : needWith (sh f.ships i) later f.closing ≤ w ↔ ∃ x, widthAfterShip f w i = some x ∧ later ≤ x := by
  rw [needWith_le]
  constructor
  · rintro ⟨h1, h2⟩
    exact ⟨_, after_some.mpr ⟨h1, rfl⟩, h2⟩
  · rintro ⟨x, h1, h2⟩
    obtain ⟨h3, rfl⟩ := after_some.mp h1
    exact ⟨h3, h2⟩

/-! ## need and feasible orders -/
theorem need_le_iff {ships : List Ship} {closing s w : Nat} (hn : ships.length ≤ 7) (hs : s < 2 ^ ships.length) (h0 : s ≠ 0) :
    need ships closing s ≤ w ↔ ∃ i ∈ members s, needWith (sh ships i) (need ships closing (s - 2 ^ i)) closing ≤ w := by
  obtain ⟨k, rfl⟩ : ∃ k, s = k + 1 := ⟨s - 1, by omega⟩
  have hs' : k + 1 < 128 := Nat.lt_of_lt_of_le hs (pow_le_128 hn)
  rw [need_succ]
  unfold needOf
  rw [mem_eq hn hs, minL_le_iff (fun e => h0 (members_nil_all _ hs' (List.map_eq_nil_iff.mp e)))]
  constructor
  · rintro ⟨x, hx, q⟩
    obtain ⟨i, hi, rfl⟩ := List.mem_map.mp hx
    refine ⟨i, hi, ?_⟩
    have := sub_lt' hi
    rw [needsT_getD _ _ _ _ (by omega)] at q
    exact q
  · rintro ⟨i, hi, q⟩
    have := sub_lt' hi
    refine ⟨_, List.mem_map.mpr ⟨i, hi, rfl⟩, ?_⟩
    rw [needsT_getD _ _ _ _ (by omega)]
    exact q
theorem sub_lt_pow {s i n : Nat} (h : i ∈ members s) (hs : s < 2 ^ n) : s - 2 ^ i < 2 ^ n := Nat.lt_trans (sub_lt' h) hs

theorem need_perm {f : Fleet} (hn : f.ships.length ≤ 7) : ∀ (s : Nat), s < 2 ^ f.ships.length → ∀ w, need f.ships f.closing s ≤ w ↔ ∃ l, l.Perm (members s) ∧ (widthAfter f w l).isSome = true := by
  intro s
  induction s using Nat.strongRecOn with
  | _ s ih =>
    intro hs w
    have hs' : s < 128 := Nat.lt_of_lt_of_le hs (pow_le_128 hn)
    by_cases h0 : s = 0
    · subst h0
      rw [need_zero]
      exact ⟨fun _ => ⟨[], by rw [members_zero], rfl⟩, fun _ => Nat.zero_le _⟩
    · rw [need_le_iff hn hs h0]
      constructor
      · rintro ⟨i, hi, q⟩
        obtain ⟨x, e, hx⟩ := needWith_iff.mp q
        obtain ⟨l, hl, hf⟩ := (ih _ (sub_lt' hi) (sub_lt_pow hi hs) x).mp hx
        refine ⟨i :: l, (perm_cons hs').mpr ⟨hi, hl⟩, ?_⟩
        show (match widthAfterShip f w i with | none => none | some next => widthAfter f next l).isSome = true
        rw [e]
        exact hf
      · rintro ⟨l, hl, hf⟩
        cases l with
        | nil => exact absurd (members_nil_all _ hs' hl.symm.eq_nil) h0
        | cons i l =>
          obtain ⟨hi, hl'⟩ := (perm_cons hs').mp hl
          refine ⟨i, hi, needWith_iff.mpr ?_⟩
          have hf' : (match widthAfterShip f w i with | none => none | some next => widthAfter f next l).isSome = true := hf
          cases e : widthAfterShip f w i with
          | none =>
            rw [e] at hf'
            cases hf'
          | some x =>
            rw [e] at hf'
            exact ⟨x, rfl, (ih _ (sub_lt' hi) (sub_lt_pow hi hs) x).mpr ⟨l, hl', hf'⟩⟩

theorem members_len_sub {s i : Nat} (hs : s < 128) (h : i ∈ members s) : (members (s - 2 ^ i)).length + 1 = (members s).length := by
  have := List.length_pos_of_mem h
  rw [members_sub hs h, List.length_erase_of_mem h]
  omega
theorem canFinish_iff {f : Fleet} (hn : f.ships.length ≤ 7) : ∀ (fuel s : Nat), s < 2 ^ f.ships.length → (members s).length ≤ fuel → ∀ w, canFinish f fuel w s = true ↔ need f.ships f.closing s ≤ w
  | 0, s, hs, hl, w => by
    have hs' : s < 128 := Nat.lt_of_lt_of_le hs (pow_le_128 hn)
    have : s = 0 := members_nil_all _ hs' (List.length_eq_zero_iff.mp (by omega))
    subst this
    exact ⟨fun _ => Nat.zero_le _, fun _ => rfl⟩
  | fuel + 1, s, hs, hl, w => by
    have hs' : s < 128 := Nat.lt_of_lt_of_le hs (pow_le_128 hn)
    by_cases h0 : s = 0
    · subst h0
      exact ⟨fun _ => Nat.zero_le _, fun _ => rfl⟩
    · rw [need_le_iff hn hs h0]
      show (s == 0 || (members s).any fun i => match widthAfterShip f w i with | none => false | some next => canFinish f fuel next (s - 2 ^ i)) = true ↔ _
      rw [beq_eq_false_iff_ne.mpr h0, Bool.false_or, List.any_eq_true]
      constructor
      · rintro ⟨i, hi, q⟩
        refine ⟨i, hi, needWith_iff.mpr ?_⟩
        have hl' := members_len_sub hs' hi
        cases e : widthAfterShip f w i with
        | none =>
          rw [e] at q
          cases q
        | some x =>
          rw [e] at q
          exact ⟨x, rfl, (canFinish_iff hn fuel _ (sub_lt_pow hi hs) (by omega) x).mp q⟩
      · rintro ⟨i, hi, q⟩
        obtain ⟨x, e, hx⟩ := needWith_iff.mp q
        have hl' := members_len_sub hs' hi
        refine ⟨i, hi, ?_⟩
        rw [e]
        exact (canFinish_iff hn fuel _ (sub_lt_pow hi hs) (by omega) x).mpr hx

/-! ## the widest -/
theorem widthAfter_append (f : Fleet) : ∀ (l : List Nat) (w i : Nat), widthAfter f w (l ++ [i]) = (widthAfter f w l).bind fun x => widthAfterShip f x i
  | [], w, i => by
    show (match widthAfterShip f w i with | none => none | some next => some next) = widthAfterShip f w i
    cases widthAfterShip f w i <;> rfl
  | j :: l, w, i => by
    show (match widthAfterShip f w j with | none => none | some next => widthAfter f next (l ++ [i])) = (match widthAfterShip f w j with | none => none | some next => widthAfter f next l).bind _
    cases widthAfterShip f w j with
    | none => rfl
    | some x => exact widthAfter_append f l x i
/-- one turn of the table of widths -/
def wStep (f : Fleet) (t : List Nat) (s : Nat) : Nat :=
  (members s).foldl (fun (best i : Nat) => match t.getD (s - 2 ^ i) 0 with
      | 0 => best
      | width + 1 => (match widthAfterShip f width i with
        | none => best
        | some next => max best (next + 1))) 0
def widT (f : Fleet) : Nat → List Nat
  | 0 => [startWidth f + 1]
  | k + 1 => widT f k ++ [wStep f (widT f k) (k + 1)]
theorem widT_length (f : Fleet) : ∀ k, (widT f k).length = k + 1
  | 0 => rfl
  | k + 1 => by
    show (widT f k ++ [_]).length = _
    rw [List.length_append, widT_length f k]
    rfl
def tabBody (f : Fleet) (table : List Nat) (set : Nat) : List Nat :=
    if set = 0 then table ++ [startWidth f + 1]
    else table ++ [(members set).foldl (fun (best i : Nat) => match table.getD (set - 2 ^ i) 0 with
      | 0 => best
      | width + 1 => (match widthAfterShip f width i with
        | none => best
        | some next => max best (next + 1))) 0]
theorem widT_fold (f : Fleet) : ∀ k, (List.range (k + 1)).foldl (tabBody f) [] = widT f k
  | 0 => rfl
  | k + 1 => by
    rw [List.range_succ, List.foldl_append, widT_fold f k]
    show tabBody f (widT f k) (k + 1) = _
    unfold tabBody
    rw [if_neg (by omega)]
    rfl
theorem table_eq (f : Fleet) : maxWidthTable f = widT f (2 ^ f.ships.length - 1) := by
  have h := two_pow_pos' f.ships.length
  have e : 2 ^ shipCount f = (2 ^ f.ships.length - 1) + 1 := by
    show 2 ^ f.ships.length = _
    omega
  unfold maxWidthTable
  rw [e]
  exact widT_fold f _
def wid (f : Fleet) (s : Nat) : Nat := (widT f s).getD s 0
theorem widT_getD (f : Fleet) : ∀ k j, j ≤ k → (widT f k).getD j 0 = wid f j
  | 0, j, h => by
    have : j = 0 := by omega
    subst this
    rfl
  | k + 1, j, h => by
    by_cases e : j = k + 1
    · subst e
      rfl
    · have ih := widT_getD f k j (by omega)
      rw [← ih]
      show (widT f k ++ [_]).getD j 0 = _
      rw [List.getD_eq_getElem?_getD, List.getD_eq_getElem?_getD, List.getElem?_append_left (by rw [widT_length]; omega)]
theorem wid_zero (f : Fleet) : wid f 0 = startWidth f + 1 := rfl
theorem wid_succ (f : Fleet) (k : Nat) : wid f (k + 1) = wStep f (widT f k) (k + 1) := by
  show (widT f k ++ [_]).getD (k + 1) 0 = _
  rw [List.getD_eq_getElem?_getD, List.getElem?_append_right (by rw [widT_length]; omega), widT_length]
  simp
theorem table_getD (f : Fleet) (s : Nat) (h : s < 2 ^ f.ships.length) : (maxWidthTable f).getD s 0 = wid f s := by
  rw [table_eq]
  exact widT_getD f _ _ (by omega)
/-- what one last ship gives, one more than the width; 0 if it can't follow -/
def lastGives (f : Fleet) (t i : Nat) : Nat := match t with
  | 0 => 0
  | width + 1 => (match widthAfterShip f width i with
    | none => 0
    | some next => next + 1)
theorem foldl_max (g : Nat → Nat) : ∀ (l : List Nat) (b : Nat), (l.foldl (fun best i => max best (g i)) b = b ∨ ∃ i ∈ l, l.foldl (fun best i => max best (g i)) b = g i) ∧ b ≤ l.foldl (fun best i => max best (g i)) b ∧ ∀ i ∈ l, g i ≤ l.foldl (fun best i => max best (g i)) b
  | [], b => ⟨.inl rfl, Nat.le_refl _, fun _ h => by cases h⟩
  | a :: l, b => by
    obtain ⟨h1, h2, h3⟩ := foldl_max g l (max b (g a))
    show (l.foldl (fun best i => max best (g i)) (max b (g a)) = b ∨ ∃ i ∈ a :: l, l.foldl (fun best i => max best (g i)) (max b (g a)) = g i) ∧ b ≤ l.foldl (fun best i => max best (g i)) (max b (g a)) ∧ ∀ i ∈ a :: l, g i ≤ l.foldl (fun best i => max best (g i)) (max b (g a))
    refine ⟨?_, by omega, fun i hi => ?_⟩
    · rcases h1 with h1 | ⟨i, hi, h1⟩
      · by_cases c : g a ≤ b
        · left
          rw [h1]
          omega
        · right
          exact ⟨a, List.mem_cons_self, by rw [h1]; omega⟩
      · exact .inr ⟨i, List.mem_cons_of_mem _ hi, h1⟩
    · rcases List.mem_cons.mp hi with rfl | hi
      · omega
      · exact h3 i hi
theorem wStep_eq (f : Fleet) (t : List Nat) (s : Nat) : wStep f t s = (members s).foldl (fun best i => max best (lastGives f (t.getD (s - 2 ^ i) 0) i)) 0 := by
  unfold wStep
  congr 1
  funext best i
  unfold lastGives
  cases t.getD (s - 2 ^ i) 0 with
  | zero => simp
  | succ width =>
    dsimp only
    cases widthAfterShip f width i with
    | none => simp
    | some next => rfl
theorem wStep_wid (f : Fleet) (k : Nat) : wid f (k + 1) = (members (k + 1)).foldl (fun best i => max best (lastGives f (wid f (k + 1 - 2 ^ i)) i)) 0 := by
  rw [wid_succ, wStep_eq]
  have : ∀ (l : List Nat) (b : Nat), (∀ i ∈ l, i ∈ members (k + 1)) → l.foldl (fun best i => max best (lastGives f ((widT f k).getD (k + 1 - 2 ^ i) 0) i)) b = l.foldl (fun best i => max best (lastGives f (wid f (k + 1 - 2 ^ i)) i)) b := by
    intro l
    induction l with
    | nil => intro b _; rfl
    | cons a l ih =>
      intro b h
      have ha := sub_lt' (h a List.mem_cons_self)
      show l.foldl _ (max b (lastGives f ((widT f k).getD (k + 1 - 2 ^ a) 0) a)) = l.foldl _ (max b (lastGives f (wid f (k + 1 - 2 ^ a)) a))
      rw [widT_getD f k _ (by omega)]
      exact ih _ fun i hi => h i (List.mem_cons_of_mem _ hi)
  exact this _ _ fun _ h => h
theorem after_mono {f : Fleet} {w w' i x : Nat} (h : w ≤ w') (e : widthAfterShip f w i = some x) : ∃ x', widthAfterShip f w' i = some x' ∧ x ≤ x' := by
  obtain ⟨h1, rfl⟩ := after_some.mp e
  exact ⟨_, after_some.mpr ⟨by omega, rfl⟩, by omega⟩
theorem wid_spec {f : Fleet} (hn : f.ships.length ≤ 7) : ∀ (s : Nat), s < 2 ^ f.ships.length →
    (∀ x, wid f s = x + 1 → ∃ l, l.Perm (members s) ∧ widthAfter f (startWidth f) l = some x) ∧ ∀ l x, l.Perm (members s) → widthAfter f (startWidth f) l = some x → x + 1 ≤ wid f s := by
  intro s
  induction s using Nat.strongRecOn with
  | _ s ih =>
    intro hs
    have hs' : s < 128 := Nat.lt_of_lt_of_le hs (pow_le_128 hn)
    cases s with
    | zero =>
      rw [wid_zero]
      refine ⟨fun x e => ⟨[], by rw [members_zero], by show some _ = _; rw [Nat.succ.inj e]⟩, fun l x hl e => ?_⟩
      rw [members_zero] at hl
      rw [hl.eq_nil] at e
      have : startWidth f = x := Option.some.inj e
      omega
    | succ k =>
      obtain ⟨h1, _, h3⟩ := foldl_max (fun i => lastGives f (wid f (k + 1 - 2 ^ i)) i) (members (k + 1)) 0
      rw [← wStep_wid] at h1 h3
      refine ⟨fun x e => ?_, fun l x hl e => ?_⟩
      · rcases h1 with h1 | ⟨i, hi, h1⟩
        · rw [h1] at e; cases e
        · rw [e] at h1
          have h1' : x + 1 = lastGives f (wid f (k + 1 - 2 ^ i)) i := h1
          unfold lastGives at h1'
          cases e0 : wid f (k + 1 - 2 ^ i) with
          | zero => rw [e0] at h1'; cases h1'
          | succ y =>
            rw [e0] at h1'
            dsimp only at h1'
            cases e2 : widthAfterShip f y i with
            | none => rw [e2] at h1'; cases h1'
            | some z =>
              rw [e2] at h1'
              have : x = z := Nat.succ.inj h1'
              subst this
              obtain ⟨l, hl, el⟩ := (ih _ (sub_lt' hi) (sub_lt_pow hi hs)).1 y e0
              refine ⟨l ++ [i], (perm_snoc hs').mpr ⟨hi, hl⟩, ?_⟩
              rw [widthAfter_append, el]
              exact e2
      · rcases List.eq_nil_or_concat l with rfl | ⟨r, i, rfl⟩
        · exact absurd (members_nil_all _ hs' hl.symm.eq_nil) (by omega)
        · rw [List.concat_eq_append] at hl e
          obtain ⟨hi, hr⟩ := (perm_snoc hs').mp hl
          rw [widthAfter_append] at e
          cases er : widthAfter f (startWidth f) r with
          | none => rw [er] at e; cases e
          | some y =>
            rw [er] at e
            have e' : widthAfterShip f y i = some x := e
            have hy := (ih _ (sub_lt' hi) (sub_lt_pow hi hs)).2 r y hr er
            obtain ⟨y', ey⟩ : ∃ y', wid f (k + 1 - 2 ^ i) = y' + 1 := ⟨wid f (k + 1 - 2 ^ i) - 1, by omega⟩
            obtain ⟨x', ex, hx⟩ := after_mono (w' := y') (by omega) e'
            have h4 : lastGives f (wid f (k + 1 - 2 ^ i)) i ≤ wid f (k + 1) := h3 i hi
            rw [ey] at h4
            unfold lastGives at h4
            dsimp only at h4
            rw [ex] at h4
            dsimp only at h4
            omega
theorem feasible_iff {f : Fleet} (hn : f.ships.length ≤ 7) {s : Nat} (hs : s < 2 ^ f.ships.length) : isFeasible (maxWidthTable f) s = decide (need f.ships f.closing s ≤ startWidth f) := by
  unfold isFeasible
  rw [table_getD f s hs]
  by_cases h : need f.ships f.closing s ≤ startWidth f
  · rw [decide_eq_true h]
    obtain ⟨l, hl, hf⟩ := (need_perm hn s hs _).mp h
    obtain ⟨x, e⟩ := Option.isSome_iff_exists.mp hf
    have := (wid_spec hn s hs).2 l x hl e
    simp
    omega
  · rw [decide_eq_false h]
    cases e : wid f s with
    | zero => rfl
    | succ x =>
      obtain ⟨l, hl, hf⟩ := (wid_spec hn s hs).1 x e
      exact absurd ((need_perm hn s hs _).mpr ⟨l, hl, by rw [hf]; rfl⟩) h
end IceM
namespace IceM
open Km560

/-! ## the best set -/
/-- the sets that need no more than the start, in order -/
def feas (f : Fleet) : List Nat := (List.range (2 ^ f.ships.length)).filter fun s => decide (need f.ships f.closing s ≤ startWidth f)
theorem mem_feas {f : Fleet} {s : Nat} : s ∈ feas f ↔ s < 2 ^ f.ships.length ∧ need f.ships f.closing s ≤ startWidth f := by
  unfold feas
  rw [List.mem_filter, List.mem_range]
  simp
theorem zero_feas (f : Fleet) : 0 ∈ feas f := mem_feas.mpr ⟨two_pow_pos' _, Nat.zero_le _⟩
def bestTo (f : Fleet) (score : Nat → Nat) (k : Nat) : Nat :=
  (List.range k).foldl (fun (best set : Nat) => if decide (need f.ships f.closing set ≤ startWidth f) && decide (score best < score set) then set else best) 0
theorem bestTo_spec (f : Fleet) (score : Nat → Nat) (h0 : ∀ s, score 0 ≤ score s) : ∀ k,
    (bestTo f score k < k ∨ bestTo f score k = 0) ∧ need f.ships f.closing (bestTo f score k) ≤ startWidth f ∧
    (∀ s, s < k → need f.ships f.closing s ≤ startWidth f → score s ≤ score (bestTo f score k)) ∧
    (∀ s, s < bestTo f score k → need f.ships f.closing s ≤ startWidth f → score s < score (bestTo f score k))
  | 0 => ⟨.inr rfl, Nat.zero_le _, fun s h => by omega, fun s h => by
      have : s < 0 := h
      omega⟩
  | k + 1 => by
    obtain ⟨h1, h2, h3, h4⟩ := bestTo_spec f score h0 k
    have e : bestTo f score (k + 1) = if decide (need f.ships f.closing k ≤ startWidth f) && decide (score (bestTo f score k) < score k) then k else bestTo f score k := by
      unfold bestTo
      rw [List.range_succ, List.foldl_append]
      rfl
    rw [e]
    by_cases c : need f.ships f.closing k ≤ startWidth f ∧ score (bestTo f score k) < score k
    · have c' : (decide (need f.ships f.closing k ≤ startWidth f) && decide (score (bestTo f score k) < score k)) = true := by simp [c.1, c.2]
      rw [if_pos c']
      refine ⟨.inl (by omega), c.1, fun s hs hf => ?_, fun s hs hf => ?_⟩
      · by_cases es : s = k
        · subst es; exact Nat.le_refl _
        · have := h3 s (by omega) hf
          omega
      · have := h3 s hs hf
        omega
    · have c' : ¬ (decide (need f.ships f.closing k ≤ startWidth f) && decide (score (bestTo f score k) < score k)) = true := by
        intro q
        rw [Bool.and_eq_true, decide_eq_true_eq, decide_eq_true_eq] at q
        exact c q
      rw [if_neg c']
      refine ⟨by omega, h2, fun s hs hf => ?_, h4⟩
      by_cases es : s = k
      · subst es
        have : ¬ score (bestTo f score s) < score s := fun q => c ⟨hf, q⟩
        omega
      · exact h3 s (by omega) hf
theorem bestSet_eq {f : Fleet} (hn : f.ships.length ≤ 7) (score : Nat → Nat) : bestSet f score = bestTo f score (2 ^ f.ships.length) := by
  unfold bestSet bestTo
  show (List.range (2 ^ f.ships.length)).foldl _ 0 = _
  have : ∀ (l : List Nat) (b : Nat), (∀ s ∈ l, s < 2 ^ f.ships.length) →
      l.foldl (fun (best set : Nat) => if Km560.isFeasible (maxWidthTable f) set && decide (score best < score set) then set else best) b =
      l.foldl (fun (best set : Nat) => if decide (need f.ships f.closing set ≤ startWidth f) && decide (score best < score set) then set else best) b := by
    intro l
    induction l with
    | nil => intro b _; rfl
    | cons a l ih =>
      intro b h
      rw [List.foldl_cons, List.foldl_cons, feasible_iff hn (h a List.mem_cons_self)]
      exact ih _ fun s hs => h s (List.mem_cons_of_mem _ hs)
  exact this _ _ fun s hs => List.mem_range.mp hs
theorem bestSet_lt {f : Fleet} (hn : f.ships.length ≤ 7) (score : Nat → Nat) (h0 : ∀ s, score 0 ≤ score s) : bestSet f score < 2 ^ f.ships.length := by
  rw [bestSet_eq hn]
  have := two_pow_pos' f.ships.length
  rcases (bestTo_spec f score h0 (2 ^ f.ships.length)).1 with h | h
  · exact h
  · rw [h]; exact this
theorem bestSet_feas {f : Fleet} (hn : f.ships.length ≤ 7) (score : Nat → Nat) (h0 : ∀ s, score 0 ≤ score s) : need f.ships f.closing (bestSet f score) ≤ startWidth f := by
  rw [bestSet_eq hn]
  exact (bestTo_spec f score h0 _).2.1
/-- the list feas is in order -/
theorem feas_sorted (f : Fleet) : (feas f).Pairwise (· < ·) := List.Pairwise.filter _ List.pairwise_lt_range
/-- what the program picks: the first place of the greatest score -/
theorem best_pick {f : Fleet} (hn : f.ships.length ≤ 7) (score : Nat → Nat) (h0 : ∀ s, score 0 ≤ score s) {j x : Nat} (hj : (feas f)[j]? = some x)
    (hmax : ∀ s ∈ feas f, score s ≤ score x) (hfirst : ∀ i y, i < j → (feas f)[i]? = some y → score y ≠ score x) : x = bestSet f score := by
  rw [bestSet_eq hn]
  obtain ⟨h1, h2, h3, h4⟩ := bestTo_spec f score h0 (2 ^ f.ships.length)
  have hx := mem_feas.mp (List.mem_of_getElem? hj)
  have hb : bestTo f score (2 ^ f.ships.length) < 2 ^ f.ships.length := by
    have := two_pow_pos' f.ships.length
    rcases h1 with h | h
    · exact h
    · rw [h]; exact this
  have hbf := mem_feas.mpr ⟨hb, h2⟩
  have e1 : score x = score (bestTo f score (2 ^ f.ships.length)) := Nat.le_antisymm (h3 x hx.1 hx.2) (hmax _ hbf)
  have e2 : ¬ x < bestTo f score (2 ^ f.ships.length) := fun q => by
    have := h4 x q hx.2
    omega
  have e3 : ¬ bestTo f score (2 ^ f.ships.length) < x := fun q => by
    obtain ⟨i, hi⟩ := List.getElem?_of_mem hbf
    have hij : i < j := by
      have hp := List.pairwise_iff_getElem.mp (feas_sorted f)
      have hil : i < (feas f).length := (List.getElem?_eq_some_iff.mp hi).1
      have hjl : j < (feas f).length := (List.getElem?_eq_some_iff.mp hj).1
      have ei := (List.getElem?_eq_some_iff.mp hi).2
      have ej := (List.getElem?_eq_some_iff.mp hj).2
      rcases Nat.lt_trichotomy i j with h | h | h
      · exact h
      · subst h
        rw [ei] at ej
        omega
      · have := hp j i hjl hil h
        rw [ei, ej] at this
        omega
    exact hfirst i _ hij hi e1.symm
  omega
theorem setSize_zero (s : Nat) : setSize 0 ≤ setSize s := Nat.zero_le _
theorem setValue_zero (f : Fleet) (s : Nat) : setValue f 0 ≤ setValue f s := Nat.zero_le _
theorem sum_eq (l : List Nat) : Km560.sum l = l.sum := by
  have : ∀ (l : List Nat) (b : Nat), l.foldl (fun (a b : Nat) => a + b) b = b + l.sum := by
    intro l
    induction l with
    | nil => intro b; rfl
    | cons a l ih =>
      intro b
      rw [List.foldl_cons, ih, List.sum_cons, Nat.add_assoc]
  unfold Km560.sum
  rw [this, Nat.zero_add]

/-! ## the first order -/
/-- the program's test of one member -/
def goesFirst (f : Fleet) (w s i : Nat) : Bool := decide (needWith (sh f.ships i) (need f.ships f.closing (s - 2 ^ i)) f.closing ≤ w)
/-- the program's choice -/
def nextIn (f : Fleet) (w s : Nat) : Nat := ((members s).find? (goesFirst f w s)).getD 0
theorem getShip_eq (f : Fleet) (i : Nat) : getShip f i = sh f.ships i := rfl
def widthOf (f : Fleet) (w i : Nat) : Nat := max (w - f.closing) (sh f.ships i).beam
theorem find_congr {α : Type} {p q : α → Bool} : ∀ {l : List α}, (∀ x ∈ l, p x = q x) → l.find? p = l.find? q
  | [], _ => rfl
  | a :: l, h => by
    rw [List.find?_cons, List.find?_cons, h a List.mem_cons_self, find_congr fun x hx => h x (List.mem_cons_of_mem _ hx)]
theorem firstTest_eq {f : Fleet} (hn : f.ships.length ≤ 7) {fuel w s i : Nat} (hs : s < 2 ^ f.ships.length) (hl : (members s).length ≤ fuel + 1) (hi : i ∈ members s) :
    (match widthAfterShip f w i with | none => false | some next => canFinish f fuel next (s - 2 ^ i)) = goesFirst f w s i := by
  have hs' : s < 128 := Nat.lt_of_lt_of_le hs (pow_le_128 hn)
  have hl' := members_len_sub hs' hi
  unfold goesFirst
  cases e : widthAfterShip f w i with
  | none =>
    refine (decide_eq_false fun q => ?_).symm
    obtain ⟨x, ex, _⟩ := needWith_iff.mp q
    rw [e] at ex
    cases ex
  | some x =>
    dsimp only
    rw [Bool.eq_iff_iff, canFinish_iff hn fuel _ (sub_lt_pow hi hs) (by omega), decide_eq_true_eq, needWith_iff]
    constructor
    · intro q
      exact ⟨x, e, q⟩
    · rintro ⟨y, ey, q⟩
      rw [e] at ey
      cases ey
      exact q
theorem first_zero (f : Fleet) : ∀ (fuel w : Nat), firstOrderFrom f fuel w 0 = []
  | 0, _ => rfl
  | fuel + 1, w => rfl
/-- one turn of the program's loop -/
theorem first_turn {f : Fleet} (hn : f.ships.length ≤ 7) {fuel w s : Nat} (hs : s < 2 ^ f.ships.length) (hl : (members s).length ≤ fuel + 1) (h0 : s ≠ 0) (hw : need f.ships f.closing s ≤ w) :
    nextIn f w s ∈ members s ∧ firstOrderFrom f (fuel + 1) w s = nextIn f w s :: firstOrderFrom f fuel (widthOf f w (nextIn f w s)) (s - 2 ^ nextIn f w s) ∧
    need f.ships f.closing (s - 2 ^ nextIn f w s) ≤ widthOf f w (nextIn f w s) ∧ widthAfterShip f w (nextIn f w s) = some (widthOf f w (nextIn f w s)) ∧
    (members s).find? (goesFirst f w s) = some (nextIn f w s) := by
  obtain ⟨i0, hi0, q0⟩ := (need_le_iff hn hs h0).mp hw
  have hfind : ∃ i, (members s).find? (goesFirst f w s) = some i := by
    cases e : (members s).find? (goesFirst f w s) with
    | some i => exact ⟨i, rfl⟩
    | none =>
      have := List.find?_eq_none.mp e i0 hi0
      exact absurd (decide_eq_true q0) this
  obtain ⟨i, ei⟩ := hfind
  have en : nextIn f w s = i := by
    unfold nextIn
    rw [ei]
    rfl
  rw [en]
  have him : i ∈ members s := List.mem_of_find?_eq_some ei
  have hgo : goesFirst f w s i = true := List.find?_some ei
  obtain ⟨x, ex, hx⟩ := needWith_iff.mp (of_decide_eq_true hgo)
  obtain ⟨_, exw⟩ := after_some.mp ex
  refine ⟨him, ?_, by rw [exw] at hx; exact hx, by rw [ex, exw]; rfl, ei⟩
  have ef : (members s).find? (fun i => match widthAfterShip f w i with | none => false | some next => canFinish f fuel next (s - 2 ^ i)) = some i := by
    rw [← ei]
    exact find_congr fun j hj => firstTest_eq hn hs hl hj
  show (match (members s).find? (fun i => match widthAfterShip f w i with | none => false | some next => canFinish f fuel next (s - 2 ^ i)) with
    | none => []
    | some i => i :: firstOrderFrom f fuel ((widthAfterShip f w i).getD 0) (s - 2 ^ i)) = _
  rw [ef]
  dsimp only
  rw [ex, exw]
  rfl
theorem first_perm {f : Fleet} (hn : f.ships.length ≤ 7) : ∀ (fuel s w : Nat), s < 2 ^ f.ships.length → (members s).length ≤ fuel → need f.ships f.closing s ≤ w →
    (firstOrderFrom f fuel w s).Perm (members s) ∧ (widthAfter f w (firstOrderFrom f fuel w s)).isSome = true
  | 0, s, w, hs, hl, hw => by
    have hs' : s < 128 := Nat.lt_of_lt_of_le hs (pow_le_128 hn)
    have : s = 0 := members_nil_all _ hs' (List.length_eq_zero_iff.mp (by omega))
    subst this
    exact ⟨by rw [members_zero]; exact .nil, rfl⟩
  | fuel + 1, s, w, hs, hl, hw => by
    have hs' : s < 128 := Nat.lt_of_lt_of_le hs (pow_le_128 hn)
    by_cases h0 : s = 0
    · subst h0
      rw [first_zero]
      exact ⟨by rw [members_zero], rfl⟩
    · obtain ⟨h1, h2, h3, h4, _⟩ := first_turn hn hs hl h0 hw
      have hl' := members_len_sub hs' h1
      obtain ⟨p1, p2⟩ := first_perm hn fuel _ _ (sub_lt_pow h1 hs) (by omega) h3
      rw [h2]
      refine ⟨(perm_cons hs').mpr ⟨h1, p1⟩, ?_⟩
      show (match widthAfterShip f w (nextIn f w s) with | none => none | some next => widthAfter f next _).isSome = true
      rw [h4]
      exact p2
theorem members_len (s : Nat) : (members s).length ≤ 7 := by
  unfold members maxShips
  exact Nat.le_trans (List.length_filter_le _ _) (by rw [List.length_range]; exact Nat.le_refl _)

/-! ## the least channel -/
theorem minChannel_eq {f : Fleet} (hn : f.ships.length ≤ 7) : minChannelWidth f = if need f.ships f.closing (2 ^ f.ships.length - 1) - f.closing ≤ 99 then some (need f.ships f.closing (2 ^ f.ships.length - 1) - f.closing) else none := by
  have hp := two_pow_pos' f.ships.length
  unfold minChannelWidth
  have e : (List.range 100).find? (fun width => Km560.isFeasible (maxWidthTable { f with channelWidth := width }) (2 ^ shipCount f - 1)) =
      (List.range 100).find? (fun width => decide (need f.ships f.closing (2 ^ f.ships.length - 1) ≤ width + f.closing)) :=
    find_congr fun x _ => feasible_iff (f := { f with channelWidth := x }) hn (s := 2 ^ f.ships.length - 1) (by show _ < 2 ^ f.ships.length; omega)
  rw [e]
  split
  · rename_i h
    rw [List.find?_range_eq_some]
    refine ⟨decide_eq_true (by omega), List.mem_range.mpr (by omega), fun j hj => ?_⟩
    rw [decide_eq_false (by omega)]
    rfl
  · rename_i h
    rw [List.find?_eq_none]
    intro x hx
    have hx' := List.mem_range.mp hx
    rw [decide_eq_true_eq]
    omega

/-! ## the convoy -/
def wAlong (f : Fleet) : Nat → List Nat → List Nat
  | _, [] => []
  | w, i :: r => widthOf f w i :: wAlong f (widthOf f w i) r
theorem along_eq (f : Fleet) : ∀ (l : List Nat) (w x : Nat), widthAfter f w l = some x → widthsAlong f w l = wAlong f w l ∧ (w :: wAlong f w l).getLast? = some x
  | [], w, x, e => by
    refine ⟨rfl, ?_⟩
    show some w = some x
    exact e
  | i :: l, w, x, e => by
    have e' : (match widthAfterShip f w i with | none => none | some next => widthAfter f next l) = some x := e
    cases ew : widthAfterShip f w i with
    | none => rw [ew] at e'; cases e'
    | some y =>
      rw [ew] at e'
      obtain ⟨_, rfl⟩ := after_some.mp ew
      obtain ⟨h1, h2⟩ := along_eq f l _ x e'
      refine ⟨?_, ?_⟩
      · show (match widthAfterShip f w i with | none => [] | some next => next :: widthsAlong f next l) = _
        rw [ew]
        dsimp only
        rw [h1]
        rfl
      · show (w :: widthOf f w i :: wAlong f (widthOf f w i) l).getLast? = some x
        rw [List.getLast?_cons_cons]
        exact h2
theorem wAlong_length (f : Fleet) : ∀ (l : List Nat) (w : Nat), (wAlong f w l).length = l.length
  | [], _ => rfl
  | _ :: l, w => congrArg (· + 1) (wAlong_length f l _)
/-- the last of the start and the widths -/
def lastW (f : Fleet) (w : Nat) (l : List Nat) : Nat := ((w :: wAlong f w l).getLast?).getD 0
theorem lastW_nil (f : Fleet) (w : Nat) : lastW f w [] = w := rfl
theorem lastW_cons (f : Fleet) (w i : Nat) (l : List Nat) : lastW f w (i :: l) = lastW f (widthOf f w i) l := by
  unfold lastW
  show ((w :: widthOf f w i :: wAlong f (widthOf f w i) l).getLast?).getD 0 = _
  rw [List.getLast?_cons_cons]
/-- what holds of an instance between the calls -/
structure Inv (f : Fleet) : Prop where
  few : f.ships.length ≤ 7
  nodup : f.convoy.Nodup
  there : ∀ i ∈ f.convoy, i < f.ships.length
  follow : (widthAfter f (startWidth f) f.convoy).isSome = true
theorem Inv.conv {f : Fleet} (h : Inv f) : f.convoy.length ≤ 7 := by
  have := h.nodup.length_le_of_subset (l₂ := List.range f.ships.length) fun i hi => List.mem_range.mpr (h.there i hi)
  rw [List.length_range] at this
  exact Nat.le_trans this h.few
theorem Inv.width {f : Fleet} (h : Inv f) : convoyWidth f = lastW f (startWidth f) f.convoy := by
  obtain ⟨x, e⟩ := Option.isSome_iff_exists.mp h.follow
  unfold convoyWidth lastW
  rw [(along_eq f _ _ _ e).2, e]
theorem Inv.along {f : Fleet} (h : Inv f) : widthsAlong f (startWidth f) f.convoy = wAlong f (startWidth f) f.convoy := by
  obtain ⟨x, e⟩ := Option.isSome_iff_exists.mp h.follow
  exact (along_eq f _ _ _ e).1
theorem Inv.bare {f : Fleet} (h : f.ships.length ≤ 7) (hc : f.convoy = []) : Inv f :=
  ⟨h, (by rw [hc]; exact .nil), (fun i hi => by rw [hc] at hi; cases hi), (by rw [hc]; rfl)⟩
theorem Inv.first {f : Fleet} (h : f.ships.length ≤ 7) {s : Nat} (hs : s < 2 ^ f.ships.length) (hw : need f.ships f.closing s ≤ startWidth f) : Inv { f with convoy := firstOrder f s } := by
  obtain ⟨p1, p2⟩ := first_perm h maxShips s (startWidth f) hs (members_len s) hw
  have hwa : ∀ (g : Fleet) (l : List Nat) (w : Nat), g.ships = f.ships → g.closing = f.closing → widthAfter g w l = widthAfter f w l := by
    intro g l
    induction l with
    | nil => intro w _ _; rfl
    | cons i l ih =>
      intro w e1 e2
      have e3 : widthAfterShip g w i = widthAfterShip f w i := by
        unfold widthAfterShip getShip
        rw [e1, e2]
      show (match widthAfterShip g w i with | none => none | some next => widthAfter g next l) = (match widthAfterShip f w i with | none => none | some next => widthAfter f next l)
      rw [e3]
      cases widthAfterShip f w i with
      | none => rfl
      | some x => exact ih x e1 e2
  refine ⟨h, p1.symm.nodup (members_nodup s), fun i hi => ?_, ?_⟩
  · exact mem_lt (p1.mem_iff.mp hi) hs
  · rw [hwa { f with convoy := firstOrder f s } _ _ rfl rfl]
    exact p2
theorem widthAfter_congr {f g : Fleet} (hc : g.closing = f.closing) : ∀ (l : List Nat) (w : Nat), (∀ i ∈ l, getShip g i = getShip f i) → widthAfter g w l = widthAfter f w l
  | [], _, _ => rfl
  | i :: l, w, h => by
    have e3 : widthAfterShip g w i = widthAfterShip f w i := by
      unfold widthAfterShip
      rw [h i List.mem_cons_self, hc]
    show (match widthAfterShip g w i with | none => none | some next => widthAfter g next l) = (match widthAfterShip f w i with | none => none | some next => widthAfter f next l)
    rw [e3]
    cases widthAfterShip f w i with
    | none => rfl
    | some x => exact widthAfter_congr hc l x fun j hj => h j (List.mem_cons_of_mem _ hj)
theorem Inv.add {f : Fleet} (h : Inv f) (hl : f.ships.length < 7) (s : Ship) : Inv { f with ships := f.ships ++ [s] } := by
  refine ⟨?_, h.nodup, fun i hi => ?_, ?_⟩
  · show (f.ships ++ [s]).length ≤ 7
    rw [List.length_append]
    exact hl
  · show i < (f.ships ++ [s]).length
    have := h.there i hi
    rw [List.length_append]
    exact Nat.lt_succ_of_lt this
  · rw [widthAfter_congr (f := f) (g := { f with ships := f.ships ++ [s] }) rfl _ _ fun i hi => ?_]
    · exact h.follow
    · have := h.there i hi
      unfold getShip
      show (f.ships ++ [s]).getD i _ = _
      rw [List.getD_eq_getElem?_getD, List.getD_eq_getElem?_getD, List.getElem?_append_left this]
theorem Inv.push {f : Fleet} (h : Inv f) {i x : Nat} (hi : i < f.ships.length) (hn : ¬ i ∈ f.convoy) (hx : widthAfterShip f (convoyWidth f) i = some x) : Inv { f with convoy := f.convoy ++ [i] } := by
  refine ⟨h.few, ?_, fun j hj => ?_, ?_⟩
  · show (f.convoy ++ [i]).Nodup
    rw [List.nodup_append]
    refine ⟨h.nodup, by simp, fun a ha b hb => ?_⟩
    rw [List.mem_singleton] at hb
    subst hb
    rintro rfl
    exact hn ha
  · rcases List.mem_append.mp hj with hj | hj
    · exact h.there j hj
    · rw [List.mem_singleton] at hj
      subst hj
      exact hi
  · rw [widthAfter_congr (f := f) (g := { f with convoy := f.convoy ++ [i] }) rfl _ _ fun _ _ => rfl]
    show (widthAfter f (startWidth f) (f.convoy ++ [i])).isSome = true
    rw [widthAfter_append]
    obtain ⟨y, e⟩ := Option.isSome_iff_exists.mp h.follow
    have : convoyWidth f = y := by
      unfold convoyWidth
      rw [e]
      rfl
    rw [e]
    show (widthAfterShip f y i).isSome = true
    rw [← this, hx]
    rfl
theorem Inv.pop {f : Fleet} (h : Inv f) {c : List Nat} {i : Nat} (hc : f.convoy = c ++ [i]) : Inv { f with convoy := c } := by
  have hn := h.nodup
  have ht := h.there
  have hf := h.follow
  rw [hc] at hn ht hf
  refine ⟨h.few, (List.nodup_append.mp hn).1, fun j hj => ht j (List.mem_append_left _ hj), ?_⟩
  rw [widthAfter_congr (f := f) (g := { f with convoy := c }) rfl _ _ fun _ _ => rfl]
  show (widthAfter f (startWidth f) c).isSome = true
  rw [widthAfter_append] at hf
  cases e : widthAfter f (startWidth f) c with
  | none => rw [e] at hf; cases hf
  | some x => rfl
end IceM
/-! # Part A: the own error Refused with its field code, and rules of our own over the hand layer -/
namespace PySem
namespace RefX
open PySem.W PySem.Calls PyProof.Rows PySem.HandSPX
def iA (p1 p2 : Pos) : Arguments := { posonlyargs := [], args := [{ arg := "self", annotation := none, pos := p1 }, { arg := "code", annotation := none, pos := p2 }], vararg := none, kwonlyargs := [], kw_defaults := [], kwarg := none, defaults := [] }
def iB (q1 q2 q3 q4 : Pos) : List Stmt := [.Assign [.Attribute (.Name "self" q1) "code" q2] (.Name "code" q3) q4]
def iS : Scope := { kind := .function, names := [(PySem.Str.ofString "self", .local), (PySem.Str.ofString "code", .local)], isGenerator := false, isCoroutine := false, more := [] }
/-- what the written part says of Refused, at C, and of its __init__, at fI -/
structure RefTxt (K : Frag) (mg : Str → Option Value) (C fI : Addr) : Prop where
  gC : mg "Refused" = some (.ref C)
  cls : ∃ nm q N bs bm sn sub ab col dd k0 k1 k2 k3 k5, K.lookup C = some (excClassObj nm q C N bs bm true sn sub ab col dd k0 k1 k2 k3 k5 "ValueError.__new__") ∧ refsVE bm = true
  sa : findIn K (.ref C) "__setattr__" = some (some (.builtin "object.__setattr__"))
  ga : findIn K (.ref C) "__getattribute__" = some (some (.builtin "BaseException.__getattribute__"))
  gg : findIn K (.ref C) "__getattr__" = some none
  noN : findIn K (.ref C) "code" = some none
  iC : findIn K (.ref C) "__init__" = some (some (.ref fI))
  tC : typeIn K (.ref fI) = some (.type "function")
  kC : keepIn K (.ref C) = true
  exC : subIn K (.ref C) (.type "BaseException") = some true
  tyC : typeIn K (.ref C) = some (.type "type")
  hdC : hasDictIn K C = true
  te : exmOne K (.ref C) (.ref C) = some true
  fn : ∃ (oc : Value) (od : Option Addr) (doc pm : Value) (an : Option Addr) (cdv ct : Value) (osl : Array (Option Value)) (p1 p2 q1 q2 q3 q4 : Pos),
    K.lookup fI = some ⟨oc, od, .func (fnOf "__init__" "Refused.__init__" (iA p1 p2) (iB q1 q2 q3 q4) iS .none .none doc pm an cdv ct), osl⟩ ∧ codeIn K cdv "Refused.__init__" = true
theorem one_size (v : Value) : [v].length ≤ sizeLine := by
  rw [sizeLine_eq]
  exact (by decide : 1 ≤ 16777216)
theorem kept_but {K : Frag} {h h' : Heap} {x : Addr} (X : K.In h) (hx : K.lookup x = none) (k : ∀ b o, b ≠ x → h.get? b = some o → h'.get? b = some o) : K.In h' := fun a o e =>
  k a o (fun z => by rw [z, hx] at e; cases e) (X a o e)
theorem ldC {M : Model} {s : Shared} {name : Str} {scope : Scope} {L a : Addr} {cd : Value} {m : Str → Option Value} {x : Str} {pos : Pos} {v : Value} {Q : Value → Shared → Prop} {A : Around} {E : Value → Shared → Prop} (hn : s.heap.Ns L m) (hv : m x = some v) (h : Q v s)
    (hk : scope.kind = .function := by rfl) (hl : (envOfC name scope L a cd).kindOf x = some .local := by rfl) (hd : (x == ("__debug__" : Str)) = false := by decide) :
    wpAny M A (eval (.Name x pos) (envOfC name scope L a cd)) Q E s := wpAny_Name (wpAny_loadName_local hk hl hn hv h) hd
/-- what __init__ leaves of a fresh exception at x -/
structure InitEnd (h h' : Heap) (x C dx t1 : Addr) (v : Value) : Prop where
  keep : ∀ b o, b ≠ x → h.get? b = some o → h'.get? b = some o
  obj : h'.get? x = some { cls := .ref C, dict := some dx, data := .fields #[.ref t1, .none, .none, .none, .bool false, .none] }
  dbig : h.objs.size ≤ dx
  dne : dx ≠ x
  ns : h'.Ns1 dx (fun y => if y = "code" then some v else none)
/-- a made Refused -/
structure OwnMade (h h' : Heap) (e C d : Addr) (v : Value) : Prop where
  keep : ∀ b o, h.get? b = some o → h'.get? b = some o
  new : h.objs.size ≤ e
  obj : ∃ oe vs, h'.get? e = some oe ∧ oe.cls = .ref C ∧ oe.dict = some d ∧ oe.data = .fields vs ∧ vs[1]? = some .none
  dbig : h.objs.size ≤ d
  dne : d ≠ e
  ns : h'.Ns1 d (fun y => if y = "code" then some v else none)
section
variable {prog : Program} {w : World} {A : Around} {E : Value → Shared → Prop} {R : Result → Shared → Prop} {s : Shared} {K : Frag} {mg : Str → Option Value} {C fI : Addr}
theorem ref_init (T : RefTxt K mg C fI) {x t0 : Addr} {v : Value} (X : K.In s.heap) (hlim : s.heap.NoLimit) (hx : s.heap.get? x = some (excO C t0)) (hnx : K.lookup x = none) (hroom : A.depth < recursionLimit)
    (hq : ∀ h' tk dx, InitEnd s.heap h' x C dx t0 v → R (.ok (.ret .none)) { s with heap := h', toks := tk }) :
    codeAny (model prog w) A (.call (.ref fI) ⟨[.ref x, v], []⟩) R s := by
  obtain ⟨oc, od, doc, pm, an, cdv, ct, osl, p1, p2, q1, q2, q3, q4, ho, hcd⟩ := T.fn
  obtain ⟨nm, q, N, bs, bm, sn, sub, ab, col, dd, k0, k1, k2, k3, k5, hC, hbm⟩ := T.cls
  have hcl : clsIn K C = some { name := nm, bases := bs, mro := .ref C :: bm, ns := N, qualname := q, hasDict := true, slotNames := sn, subclasses := sub, abstract := ab, collection := col, hasDel := false } := by unfold clsIn; rw [hC] <;> rfl
  refine Att.call_fn (binds := [("self", .ref x), ("code", v)]) X hlim ho hcd hroom (BindsTo.of_eq (by first | rfl | with_unfolding_all rfl)) (by first | rfl | decide | with_unfolding_all rfl) (fun s₁ IC => ?_) rfl rfl rfl
  obtain ⟨h₁, tk₁, rfl⟩ := IC.toInCall.same
  have k : ∀ b o, s.heap.get? b = some o → h₁.get? b = some o := IC.toInCall.keep
  have hn := IC.toInCall.ns
  have hxL : s.heap.objs.size ≠ x := Nat.ne_of_gt (Heap.lt_size hx)
  have X₁ : K.In h₁ := X.keeps k
  have hx₁ := k _ _ hx
  show wpAny _ _ (execs _ _) _ _ _
  refine wpAny_execs_cons (plainObj_wpAny_Assign_Attribute ?_)
  refine ldC (v := v) hn (by first | rfl | with_unfolding_all rfl | kernel_rfl) (ldC (v := .ref x) hn (by first | rfl | with_unfolding_all rfl | kernel_rfl) ?_)
  refine set_plain X₁ (ox := excO C t0) (od := none) ⟨hx₁, rfl, rfl, trivial⟩ T.sa ?_
  refine exc_osa X₁ hx₁ hcl (show refsVE (.ref C :: bm) = true from hbm) rfl T.noN (fun h₃ tk₃ dx k₃ dn dne hx₃ hn₃ => ?_)
  show wpAny _ _ (execs _ _) _ _ _
  have z : s.heap.objs.size < h₁.objs.size := hn.lt
  exact wpAny_execs_nil (hq h₃ tk₃ dx ⟨fun b o hb e => k₃ b o hb (k b o e), hx₃, Nat.le_of_lt (Nat.lt_of_lt_of_le z dn), dne, hn₃⟩)
theorem ref_made (T : RefTxt K mg C fI) {v : Value} (X : K.In s.heap) (hlim : s.heap.NoLimit) (hroom : A.depth + 1 < recursionLimit)
    (hq : ∀ h' tk e d, OwnMade s.heap h' e C d v → R (.ok (.ret (.ref e))) { s with heap := h', toks := tk }) :
    codeAny (model prog w) A (.call (.ref C) ⟨[v], []⟩) R s := by
  obtain ⟨nm, q, N, bs, bm, sn, sub, ab, col, dd, k0, k1, k2, k3, k5, hC, hbm⟩ := T.cls
  obtain ⟨hp, g, dr, tk, os⟩ := s
  have k : ∀ b o, hp.get? b = some o → ((hp.push (kdv_tup [v])).push (excO C hp.objs.size)).get? b = some o := fun b o e => Heap.get?_push_of_some _ (Heap.get?_push_of_some _ e)
  have hget : ((hp.push (kdv_tup [v])).push (excO C hp.objs.size)).get? (hp.objs.size + 1) = some (excO C hp.objs.size) := by heap_get
  have hnx : K.lookup (hp.objs.size + 1) = none := by
    cases e : K.lookup (hp.objs.size + 1) with
    | none => rfl
    | some o =>
      have z : hp.get? (hp.objs.size + 1) = some o := X _ _ e
      exact absurd (Nat.lt_of_succ_lt (Heap.lt_size z)) (Nat.lt_irrefl _)
  refine call_own F.excBase_ValueError (fun X => refsVE_contains X bm hbm) (X _ _ hC) (looks_findIn X T.iC) (fun self => bind_fn X self T.tC) (one_size v) ?_
  refine ref_init (s := ⟨(hp.push (kdv_tup [v])).push (excO C hp.objs.size), g, dr, tk, os⟩) T (X.keeps k) (hlim.keeps k) hget hnx ?_ fun h' tk' dx ⟨k', hx, dn, dne, hns⟩ => ?_
  · show A.depth + 1 < recursionLimit
    exact hroom
  · have old : ∀ b o, hp.get? b = some o → h'.get? b = some o := fun b o e => k' b o (Nat.ne_of_lt (Nat.lt_succ_of_lt (Heap.lt_size e))) (k b o e)
    have z : hp.objs.size + 1 + 1 ≤ dx := by
      first
        | (simpa only [Heap.size_push] using dn)
        | exact dn
        | (have q := dn; rw [Heap.size_push, Heap.size_push] at q; exact q)
    exact ⟨rfl, hq h' tk' (hp.objs.size + 1) dx ⟨old, Nat.le_succ _, ⟨_, _, hx, rfl, rfl, rfl, rfl⟩, Nat.le_trans (Nat.le_trans (Nat.le_succ _) (Nat.le_succ _)) z, dne, hns⟩⟩
end
end RefX
end PySem
namespace L2
open PySem PySem.Spec PyProof.Rows
theorem relO_ref {v : V} {v' : Value} (r : RelV v v') (f : Str) : RelO (List.lookup f [(("code" : Str), v)]) (if f = "code" then some v' else none) := by
  by_cases hw : f = "code"
  · subst hw
    rw [if_pos rfl]
    have q : List.lookup ("code" : Str) [(("code" : Str), v)] = some v := by simp [List.lookup]
    rw [q]
    exact r
  · rw [if_neg hw]
    have qw : (f == ("code" : Str)) = false := by simpa using hw
    have q2 : List.lookup f [(("code" : Str), v)] = none := by simp [List.lookup, qw]
    rw [q2]
    trivial
section
variable {X : Cx} {C fI : Addr}
/-- Refused(e) -/
def tMkRef (C : Addr) (ta : TA) : St → Hp → XK → Prop := fun σ H Q => ta σ H fun vs H1 => ∃ v, vs = [v] ∧ ∀ d, H1 d = none → Q (.ref C) (some d) (upd H1 d (.xd [(("code" : Str), v)]))
theorem pmk_ref {a : Expr} {ta : TA} {p pos : Pos} {k : Nat} (T : PySem.RefX.RefTxt X.K X.mg C fI) (hr : Room k X.A) (ha : PA X [a] ta) (hg : Gl X "Refused" := by rfl)
    (he : starEach (a :: []) X.env = (false, eval a X.env) :: starEach [] X.env := by rfl) (hpl : (backTo pos (starEach [] X.env)).any (·.1) = false := by rfl) :
    PMk X (.Call (.Name "Refused" p) [a] [] pos) (tMkRef C ta) := by
  intro pins s σ H Q I h
  refine wpAny_Call_Name_kw (ld_glob I hg T.gC ?_)
  refine PySem.W.callWith_K (h₀ := X.base) I.ok.mod.kin T.kC (thn (ha.run pos pins s σ H _ I h) fun us s1 hh => ?_) he hpl
  obtain ⟨vs, H1, I1, r1, v, ev, q1⟩ := hh
  subst ev
  refine ⟨I1.kIn, ?_⟩
  cases r1 with
  | cons rv rn =>
    rename_i v' us'
    cases rn
    show wpAny _ _ (call (.ref C) [v']) _ _ _
    have hlim := I1.nolimit
    obtain ⟨hp, g, dr, tk, os⟩ := s1
    refine wpAny_call (PySem.RefX.ref_made T I1.kIn hlim (by have := hr.dp; omega) fun h' tk' e d M => ?_)
    show MkP X pins σ Q (.ref e) ⟨h', g, dr, tk', os⟩
    obtain ⟨oe, fv, hoe, hc, hd, hdat, h1⟩ := M.obj
    have hns := M.ns
    obtain ⟨G', g1, g2⟩ := restrict h' fun b => decide (b ≠ e)
    have gk : ∀ b, b ≠ e → G'.get? b = h'.get? b := fun b hb => g1 b (decide_eq_true hb)
    have ge : G'.get? e = none := g2 e (by simp)
    have old : ∀ b o, hp.get? b = some o → G'.get? b = some o := fun b o q => (gk b (Nat.ne_of_lt (Nat.lt_of_lt_of_le (Heap.lt_size q) M.new))).trans (M.keep b o q)
    have ob : ObjOk X.prog X.w (upd H1 d (.xd [(("code" : Str), v)])) G' d (.xd [(("code" : Str), v)]) :=
      ⟨_, hns.at (fun o q => (gk d M.dne).trans q), fun f => relO_ref rv f⟩
    have J : Inv X pins σ (upd H1 d (.xd [(("code" : Str), v)])) ⟨G', g, dr, tk', os⟩ := I1.laid (t' := tk') old M.dbig ob
    refine ⟨e, oe, fv, ⟨G', g, dr, tk', os⟩, _, .ref C, some d, rfl, J, fun b o q => ?_, ge, hoe, ⟨hc, hd⟩, hdat, h1, ?_, rfl, I1.bare, raises_own T.exC T.tyC, q1 d (I1.hok.fresh M.dbig)⟩
    · by_cases hb : b = e
      · have q' : G'.get? b = some o := q
        rw [hb, ge] at q'; cases q'
      · exact (gk b hb).symm.trans q
    · rw [upd_ne (Ne.symm M.dne)]
      exact I1.hok.fresh M.new
/-- raise Refused(e) -/
def tRaiseRef (C : Addr) (W : WX) (ta : TA) : TS := fun _ σ H => tMkRef C ta σ H fun cls d H' => W cls d σ H'
theorem ps_raiseRef {a : Expr} {ta : TA} {W : WX} {p pos pos2 : Pos} {k : Nat} (hc : X.calm = true) (T : PySem.RefX.RefTxt X.K X.mg C fI) (hr : Room k X.A) (tk : Takes X W) (ha : PA X [a] ta) (hg : Gl X "Refused" := by rfl)
    (he : starEach (a :: []) X.env = (false, eval a X.env) :: starEach [] X.env := by rfl) (hpl : (backTo pos (starEach [] X.env)).any (·.1) = false := by rfl) :
    PS X (.Raise (some (.Call (.Name "Refused" p) [a] [] pos)) none pos2) (tRaiseRef C W ta) := ps_raise hc tk (pmk_ref T hr ha hg he hpl)
/-- e.code, e the exception that the suite holds (at a; its class cls, its dict d) -/
def tCodeRef (C : Addr) (a : Addr) (cls : Value) (d : Option Addr) (te : TE) : TE := fun σ H Q => te σ H fun x H1 => x = .ref a ∧ cls = .ref C ∧ ∃ (dd : Addr) (v : V), d = some dd ∧ H1 dd = some (.xd [(("code" : Str), v)]) ∧ Q v H1
theorem pe_codeRef {a : Addr} {oe : Obj} {cls : Value} {d : Option Addr} {pn : List (Addr × Obj)} {e : Expr} {te : TE} {pos : Pos} (T : PySem.RefX.RefTxt X.K X.mg C fI) (hz : Zc cls d oe) (hf : ∃ vs, oe.data = .fields vs) (he : PE (X.suite a ((a, oe) :: pn)) e te)
    (hb : attributeBase e "code" X.env (eval e X.env) = eval e X.env := by rfl) :
    PE (X.suite a ((a, oe) :: pn)) (.Attribute e "code" pos) (tCodeRef C a cls d te) := by
  refine ⟨fun pins s σ H Q I h => ?_⟩
  refine attr_of hb (thn (he.run pins s σ H _ I h) fun u s1 hh => ?_)
  obtain ⟨x, H1, I1, rx, ex, ec, dd, v, ed, ea, q⟩ := hh
  subst ex
  obtain rfl : u = Value.ref a := rx
  subst ec
  subst ed
  obtain ⟨ha, _⟩ := I1.pin (a, oe) (List.mem_append_left _ List.mem_cons_self)
  obtain ⟨vs, hd⟩ := hf
  have hx : ObjOk X.prog X.w H1 s1.heap dd (.xd [(("code" : Str), v)]) := I1.hok dd _ ea
  obtain ⟨mA, hns, hr⟩ := hx
  obtain ⟨od, ho, hl⟩ := lookIn_ns hns
  have l : List.lookup ("code" : Str) [(("code" : Str), v)] = some v := by simp [List.lookup]
  obtain ⟨u, hu, ru⟩ := RelO.some_of (v := v) (o := mA "code") (by rw [← l]; exact hr "code")
  have J : PySem.W.InstAt s1.heap a oe C (some od) := ⟨ha, hz.1, by unfold PySem.W.notCls; rw [hd] <;> rfl, by rw [hz.2]; exact ho⟩
  exact HandSPX.exc_get I1.kIn J T.ga T.gg T.exC (PySem.W.findObj_own T.hdC T.noN rfl (by rw [hl, hu])) (handed_of ru) ⟨v, H1, I1.tok _, ru, q⟩
end
end L2
/-! ### rules of our own -/
namespace Ice
open PySem PySem.Spec PyProof.Rows L2
theorem if_true_of {c : Bool} {A B : Prop} (hc : c = true) (h : A) : if c = true then A else B := by
  rw [if_pos hc]
  exact h
theorem if_false_of {c : Bool} {A B : Prop} (hc : c = false) (h : B) : if c = true then A else B := by
  rw [hc, if_neg Bool.false_ne_true]
  exact h
theorem if_by {c : Bool} {A B : Prop} (h1 : c = true → A) (h2 : c = false → B) : if c = true then A else B := by
  cases c with
  | true => exact if_true_of rfl (h1 rfl)
  | false => exact if_false_of rfl (h2 rfl)
/-- a def of the module keeps its promise -/
def Has (P : Program) (w : World) (K : PySem.W.Frag) (mg : Str → Option Value) (base : Heap) (x : Str) (CX : CXT) (k : Nat) (ps : List Str) (sp : Sp) : Prop :=
  ∃ f fd, mg x = some (.ref f) ∧ PySem.W.keepIn K (.ref f) = true ∧ Binds K fd ps [] ∧ FnOk P w K mg base CX k f fd ps sp
/-- a method of the class at C does -/
def HasM (P : Program) (w : World) (K : PySem.W.Frag) (mg : Str → Option Value) (base : Heap) (C : Addr) (x : Str) (CX : CXT) (k : Nat) (ps : List Str) (sp : Sp) : Prop :=
  ∃ f fd, Meth K C x f ∧ Binds K fd ps [] ∧ FnOk P w K mg base CX k f fd ps sp
/-- the class at C is made by its __init__ -/
def HasI (P : Program) (w : World) (K : PySem.W.Frag) (mg : Str → Option Value) (base : Heap) (x : Str) (C : Addr) (CX : CXT) (k : Nat) (ps : List Str) (sp : Sp) : Prop :=
  mg x = some (.ref C) ∧ ∃ f fd, Mk K C f ∧ Binds K fd ps [] ∧ FnOk P w K mg base CX k f fd ps sp
section
variable {X : Cx} {CX : CXT} {k j : Nat} {C : Addr} {ps : List Str} {sp : Sp} {E : XK} {x m : Str} {p pos apos : Pos} {e o : Expr} {es : List Expr} {ta : TE} {t : TA}
theorem pe_callH (F : Has X.prog X.w X.K X.mg X.base x CX k ps sp) (hr : Room j X.A) (hx : Passes CX X E) (ha : PA X (e :: es) t) (hk : k ≤ j := by decide) (hg : Gl X x := by rfl)
    (hdb : (x == ("__debug__" : Str)) = false := by decide) (he : starEach (e :: es) X.env = (false, eval e X.env) :: starEach es X.env := by rfl) (hpl : (backTo pos (starEach es X.env)).any (·.1) = false := by rfl) :
    PE X (.Call (.Name x p) (e :: es) [] pos) (tCall sp [] E t) := by
  obtain ⟨f, fd, h1, h2, h3, h4⟩ := F
  exact pe_call h4 (hr.mono hk) hg h1 h2 h3 .nil hx ha hdb he hpl
theorem pe_methH {pl : Sem Bool} (he : PE X o ta) (c : Cls X.K C) (F : HasM X.prog X.w X.K X.mg X.base C m CX k ps sp) (hr : Room j X.A) (hx : Passes CX X E) (ha : PA X (e :: es) t) (hk : k ≤ j := by decide)
    (hst : starEach (e :: es) X.env = (false, eval e X.env) :: starEach es X.env := by rfl) (hpl : (backTo pos (starEach es X.env)).any (·.1) = false := by rfl)
    (ht : eval (.Call (.Attribute o m apos) (e :: es) [] pos) X.env = (do
      let ov ← eval o X.env
      standAt apos.atName
      let (f, first) ← holding [ov] (getMethod ov m pl)
      callWith pos f first (backTo pos (starEach (e :: es) X.env)) (backToKw pos (keywordEach [] X.env))) := by rfl) :
    PE X (.Call (.Attribute o m apos) (e :: es) [] pos) (tMeth C m sp [] E ta t) := by
  obtain ⟨f, fd, h1, h3, h4⟩ := F
  exact pe_meth he c h1 h4 (hr.mono hk) h3 .nil hx ha hst hpl ht
theorem pe_methH0 {pl : Sem Bool} (he : PE X o ta) (c : Cls X.K C) (F : HasM X.prog X.w X.K X.mg X.base C m CX k ps sp) (hr : Room j X.A) (hx : Passes CX X E) (hk : k ≤ j := by decide)
    (ht : eval (.Call (.Attribute o m apos) [] [] pos) X.env = (do
      let ov ← eval o X.env
      standAt apos.atName
      let (f, first) ← holding [ov] (getMethod ov m pl)
      callWith pos f first (backTo pos (starEach [] X.env)) (backToKw pos (keywordEach [] X.env))) := by rfl) :
    PE X (.Call (.Attribute o m apos) [] [] pos) (tMeth C m sp [] E ta tNil) := by
  obtain ⟨f, fd, h1, h3, h4⟩ := F
  exact pe_meth0 he c h1 h4 (hr.mono hk) h3 .nil hx ht
theorem pe_makeH (F : HasI X.prog X.w X.K X.mg X.base x C CX k ps sp) (hr : Room j X.A) (hx : Passes CX X E) (ha : PA X (e :: es) t) (hk : k + 1 ≤ j := by decide) (hg : Gl X x := by rfl)
    (hdb : (x == ("__debug__" : Str)) = false := by decide) (he : starEach (e :: es) X.env = (false, eval e X.env) :: starEach es X.env := by rfl) (hpl : (backTo pos (starEach es X.env)).any (·.1) = false := by rfl) :
    PE X (.Call (.Name x p) (e :: es) [] pos) (tMake C sp [] E t) := by
  obtain ⟨hm, f, fd, h1, h3, h4⟩ := F
  exact pe_make h1 h4 (hr.mono hk) hg hm h3 .nil hx ha hdb he hpl
theorem pe_makeH0 (F : HasI X.prog X.w X.K X.mg X.base x C CX k ps sp) (hr : Room j X.A) (hx : Passes CX X E) (hk : k + 1 ≤ j := by decide) (hg : Gl X x := by rfl)
    (hdb : (x == ("__debug__" : Str)) = false := by decide) :
    PE X (.Call (.Name x p) [] [] pos) (tMake C sp [] E tNil) := by
  obtain ⟨hm, f, fd, h1, h3, h4⟩ := F
  exact pe_make0 h1 h4 (hr.mono hk) hg hm h3 .nil hx hdb
/-- a whole number of the module -/
theorem pe_gi {i : Int} {x : Str} {pos : Pos} (hm : ∃ t, X.mg x = some (.int i t)) (hg : Gl X x := by rfl) (hd : (x == ("__debug__" : Str)) = false := by decide) : PE X (.Name x pos) (tC (.int i)) := by
  obtain ⟨t, h⟩ := hm
  exact pe_glob hg h ⟨t, rfl⟩ hd
/-- a thing of the module at an address -/
theorem pe_gr {a : Addr} {x : Str} {pos : Pos} (hm : X.mg x = some (.ref a)) (hg : Gl X x := by rfl) (hd : (x == ("__debug__" : Str)) = false := by decide) : PE X (.Name x pos) (tC (.ref a)) := pe_glob hg hm rfl hd
/-- some list != [] -/
def rNeNil (K : PySem.W.Frag) : R2 := fun x y H Q => ∃ a b xs, x = .ref a ∧ y = .ref b ∧ SqL K H a xs ∧ SqL K H b [] ∧ Q (.bl (!xs.isEmpty)) H
theorem op_neNil (hu : X.A.units < cLine) : OpR X (compareOp .NotEq) (rNeNil X.K) := by
  intro pins s σ H x y v u Q I rx ry h
  obtain ⟨a, b, xs, rfl, rfl, ha, hb, q⟩ := h
  cases rx
  cases ry
  obtain ⟨its, rv, pl, _⟩ := I.list ha
  obtain ⟨its2, rv2, pl2, _⟩ := I.list hb
  have e2 : its2 = [] := rv2.zero
  subst e2
  cases xs with
  | nil =>
    have e1 : its = [] := rv.zero
    subst e1
    have h1 := PySem.SeqAt.RcNeAt.lists (A := X.A) (s := s) pl.isList pl2.isList rfl hu (e := fun _ => true) (fun j j1 _ => absurd j1 (Nat.not_lt_zero j))
    exact h1 X.prog X.w X.xe _ ⟨.bl false, H, I, rfl, q⟩
  | cons z zs =>
    cases rv with
    | cons r1 r2 =>
      have h1 := PySem.SeqAt.RcNeAt.lists_lengths (A := X.A) (s := s) pl.isList pl2.isList (by simp) hu
      exact h1 X.prog X.w X.xe _ ⟨.bl true, H, I, rfl, q⟩
/-- a written dict with keys that are ints -/
structure IDict (P : Program) (w : World) (K : PySem.W.Frag) (d : Addr) (kvs : List (Int × Value)) : Prop where
  at_ : ∃ es n, K.lookup d = some ⟨.type "dict", none, .dict es n, #[]⟩ ∧ KeysOf (intKind P w) es ∧ Pairs (intKind P w) es.toList kvs
  nd : (kvs.map (·.1)).Nodup
  low : (d == sysModules) = false
theorem IDict.of {P : Program} {w : World} {K : PySem.W.Frag} {d : Addr} {kvs : List (Int × Value)} (D : IDict P w K d kvs) {h : Heap} (k : K.In h) : h.DictOf (intKind P w) d kvs := by
  obtain ⟨es, n, h1, h2, h3⟩ := D.at_
  exact ⟨_, es, n, k _ _ h1, ⟨rfl, rfl, rfl⟩, rfl, h2, h3, D.nd⟩
theorem op_inID {d : Addr} {kvs : List (Int × Value)} (D : IDict X.prog X.w X.K d kvs) : OpR X (compareOp .In) (fun x y H Q => ∃ (z : Int), x = .int z ∧ y = .ref d ∧ Q (.bl (valueAt kvs z).isSome) H) := by
  intro pins s σ H x y v u Q I rx ry h
  obtain ⟨z, rfl, rfl, q⟩ := h
  obtain ⟨t, rfl⟩ := rx
  cases ry
  refine wpAny_in_of (knd := intKind X.prog X.w) (k := z) (by show Value.isInt z (.int z t) = true; simp [Value.isInt]) D.low (D.of I.kIn).mapOf ?_
  exact ⟨.bl (valueAt kvs z).isSome, H, I.tok _, rfl, q⟩
theorem ix_ID {d : Addr} {kvs : List (Int × Value)} (D : IDict X.prog X.w X.K d kvs) : IxR X (fun x y H Q => ∃ (z : Int) (f : Addr), x = .ref d ∧ y = .int z ∧ valueAt kvs z = some (.ref f) ∧ Q (.ref f) H) := by
  intro value slice pins s σ H x y v u Q I rx ry h hs
  obtain ⟨z, f, rfl, rfl, hv, q⟩ := h
  cases rx
  obtain ⟨t, rfl⟩ := ry
  have M := (D.of I.kIn).mapOf
  exact tail_any M.typeIs PySem.F.slot_dict_getitem.lookup (wpAny_getItem_of (knd := intKind X.prog X.w) (k := z) (by show Value.isInt z (.int z t) = true; simp [Value.isInt]) M hv ⟨.ref f, H, I.tok _, rfl, q⟩) hs
end
end Ice
/-! # Part B: the text by places, what the top has written, how the state lies in the heap; errors, sets -/
namespace Ice
open PySem PySem.Spec PyProof.Rows L2
open IceM
open Km560 (Fleet)
def top (i : Nat) : Stmt := PySem.Challenge.pw_icelane_s01_answers.main.body.getD i (.Pass ⟨0, 0, 0, 0⟩)
/-- the addresses that the top has given -/
structure Ad where
  S : Addr
  P : Addr
  D : Addr
  R : Addr
  rI : Addr
  cnt : Addr
  dN : Addr
  dO : Addr
  op : Nat → Addr
def counts : List Nat := [2, 3, 1, 4, 0, 1, 1, 1, 0, 0, 0, 0, 0, 1, 1, 1, 0, 0, 0, 0, 0, 1, 1, 1, 2, 0]
abbrev iv (n : Nat) : V := V.int (n : Int)
abbrev ivs (l : List Nat) : List V := l.map iv
structure Txt (P : Program) (w : World) (K : PySem.W.Frag) (mg : Str → Option Value) (ad : Ad) : Prop where
  clS : Cls K ad.S
  clP : Cls K ad.P
  clD : Cls K ad.D
  nS_beam : NoAttr K ad.S "beam"
  nS_clear : NoAttr K ad.S "clearance"
  nS_worth : NoAttr K ad.S "worth"
  nP_chan : NoAttr K ad.P "channel"
  nP_clos : NoAttr K ad.P "closing"
  nP_ships : NoAttr K ad.P "ships"
  nP_conv : NoAttr K ad.P "convoy"
  nD_plan : NoAttr K ad.D "planners"
  ref : PySem.RefX.RefTxt K mg ad.R ad.rI
  c_NO_INSTANCE : ∃ t, mg "NO_INSTANCE" = some (.int (-11) t)
  c_NOT_THERE : ∃ t, mg "NOT_THERE" = some (.int (-2) t)
  c_OUT_OF_RANGE : ∃ t, mg "OUT_OF_RANGE" = some (.int (-22) t)
  c_TOO_MANY : ∃ t, mg "TOO_MANY" = some (.int (-28) t)
  c_IN_CONVOY : ∃ t, mg "IN_CONVOY" = some (.int (-17) t)
  c_CANNOT_FOLLOW : ∃ t, mg "CANNOT_FOLLOW" = some (.int (-35) t)
  c_EMPTY : ∃ t, mg "EMPTY" = some (.int (-6) t)
  c_NOT_FEASIBLE : ∃ t, mg "NOT_FEASIBLE" = some (.int (-33) t)
  c_MOST_BEAM : ∃ t, mg "MOST_BEAM" = some (.int 50 t)
  c_MOST_CLEARANCE : ∃ t, mg "MOST_CLEARANCE" = some (.int 50 t)
  c_MOST_VALUE : ∃ t, mg "MOST_VALUE" = some (.int 99 t)
  c_NO_WIDTH : ∃ t, mg "NO_WIDTH" = some (.int (-1) t)
  c_LEAST_CHANNEL : ∃ t, mg "LEAST_CHANNEL" = some (.int 1 t)
  c_MOST_CHANNEL : ∃ t, mg "MOST_CHANNEL" = some (.int 99 t)
  c_MOST_CLOSING : ∃ t, mg "MOST_CLOSING" = some (.int 20 t)
  c_MOST_SHIPS : ∃ t, mg "MOST_SHIPS" = some (.int 7 t)
  c_CREATE : ∃ t, mg "CREATE" = some (.int 0 t)
  c_ADD_SHIP : ∃ t, mg "ADD_SHIP" = some (.int 1 t)
  c_COMPARE_PAIR : ∃ t, mg "COMPARE_PAIR" = some (.int 24 t)
  b_range : mg "range" = none
  b_enumerate : mg "enumerate" = none
  b_len : mg "len" = none
  b_sum : mg "sum" = none
  b_max : mg "max" = none
  b_min : mg "min" = none
  b_int : mg "int" = none
  g_COUNTS : mg "COUNTS" = some (.ref ad.cnt)
  t_COUNTS : ∀ H, SqT K H ad.cnt (ivs counts)
  g_NO_INTEGER : mg "NO_INTEGER" = some (.ref ad.dN)
  d_NO_INTEGER : IDict P w K ad.dN [(4, .ref (ad.op 4)), (8, .ref (ad.op 8)), (9, .ref (ad.op 9)), (10, .ref (ad.op 10)), (11, .ref (ad.op 11)), (12, .ref (ad.op 12)), (16, .ref (ad.op 16)), (17, .ref (ad.op 17)), (18, .ref (ad.op 18)), (19, .ref (ad.op 19)), (20, .ref (ad.op 20)), (25, .ref (ad.op 25))]
  g_ONE_INTEGER : mg "ONE_INTEGER" = some (.ref ad.dO)
  d_ONE_INTEGER : IDict P w K ad.dO [(2, .ref (ad.op 2)), (5, .ref (ad.op 5)), (6, .ref (ad.op 6)), (7, .ref (ad.op 7)), (13, .ref (ad.op 13)), (14, .ref (ad.op 14)), (15, .ref (ad.op 15)), (21, .ref (ad.op 21)), (22, .ref (ad.op 22)), (23, .ref (ad.op 23))]

/-! ### the heap -/
theorem Same.new {H : Hp} {D : Addr} {o : HO} (h : H D = none) : Same H (upd H D o) := fun b u e => by
  rw [upd_ne (ne_of_none e h)]
  exact e
theorem Same.put {H H' : Hp} {D : Addr} {o : HO} (s : Same H H') (h : H D = none) : Same H (upd H' D o) := fun b u e => by
  rw [upd_ne (ne_of_none e h)]
  exact s b u e
theorem Same.tup {K : PySem.W.Frag} {H H' : Hp} {a : Addr} {xs : List V} (e : Same H H') (h : SqT K H a xs) : SqT K H' a xs := by
  rcases h with (h | ⟨o, h⟩) | h
  · exact .inl (.inl (e _ _ h))
  · exact .inl (.inr ⟨o, e _ _ h⟩)
  · exact .inr h
theorem tyes {σ : L2.St} {H : Hp} {A B : Hp → Prop} (h : A H) : tYes σ H fun b H3 => if b = true then A H3 else B H3 := by
  show if true = true then A H else B H
  exact iteT h
theorem lk_here {k : Str} {v : V} {r : List (Str × V)} : List.lookup k ((k, v) :: r) = some v := by
  have e : (k == k) = true := beq_self_eq_true k
  simp only [List.lookup, e]
theorem lk_past {k g : Str} {v : V} {r : List (Str × V)} (h : (k == g) = false) : List.lookup k ((g, v) :: r) = List.lookup k r := by
  simp only [List.lookup, h]
theorem put_here {f : Str} {v x : V} {r : List (Str × V)} : putF f v ((f, x) :: r) = (f, v) :: r := if_pos rfl
theorem put_past {f g : Str} {v x : V} {r : List (Str × V)} (h : ¬ g = f) : putF f v ((g, x) :: r) = (g, x) :: putF f v r := if_neg h
/-! a ship -/
def shF (s : Km560.Ship) : List (Str × V) := [("beam", iv s.beam), ("clearance", iv s.selfClearance), ("worth", iv s.value)]
theorem shF_beam (s : Km560.Ship) : (shF s).lookup ("beam" : Str) = some (iv s.beam) := lk_here
theorem shF_clear (s : Km560.Ship) : (shF s).lookup ("clearance" : Str) = some (iv s.selfClearance) := (lk_past (by decide +kernel)).trans lk_here
theorem shF_worth (s : Km560.Ship) : (shF s).lookup ("worth" : Str) = some (iv s.value) := (lk_past (by decide +kernel)).trans ((lk_past (by decide +kernel)).trans lk_here)
theorem shF_desc (s : Km560.Ship) : (shF s).lookup ("described" : Str) = none := (lk_past (by decide +kernel)).trans ((lk_past (by decide +kernel)).trans ((lk_past (by decide +kernel)).trans rfl))
theorem shF_new (s : Km560.Ship) : putF "worth" (iv s.value) (putF "clearance" (iv s.selfClearance) (putF "beam" (iv s.beam) [])) = shF s := by
  show putF "worth" (iv s.value) (putF "clearance" (iv s.selfClearance) [("beam", iv s.beam)]) = shF s
  rw [put_past (by decide +kernel)]
  show putF "worth" (iv s.value) [("beam", iv s.beam), ("clearance", iv s.selfClearance)] = shF s
  rw [put_past (by decide +kernel), put_past (by decide +kernel)]
  rfl
def ShipAt (C : Addr) (H : Hp) (a : Addr) (s : Km560.Ship) : Prop := ∃ dx, H a = some (.ins C dx (shF s))
theorem ShipAt.same {C : Addr} {H H' : Hp} {a : Addr} {s : Km560.Ship} (e : Same H H') (h : ShipAt C H a s) : ShipAt C H' a s := let ⟨dx, q⟩ := h; ⟨dx, e _ _ q⟩
/-- the objects at the addresses as are these ships -/
structure ShipsL (C : Addr) (H : Hp) (as : List Addr) (ships : List Km560.Ship) : Prop where
  len : as.length = ships.length
  at_ : ∀ (i : Nat) (a : Addr) (s : Km560.Ship), as[i]? = some a → ships[i]? = some s → ShipAt C H a s
theorem ShipsL.same {C : Addr} {H H' : Hp} {as : List Addr} {ships : List Km560.Ship} (e : Same H H') (h : ShipsL C H as ships) : ShipsL C H' as ships := ⟨h.len, fun i a s h1 h2 => (h.at_ i a s h1 h2).same e⟩
/-- at a: a list of these ships -/
def ShipsAt (K : PySem.W.Frag) (C : Addr) (H : Hp) (a : Addr) (ships : List Km560.Ship) : Prop := ∃ as : List Addr, SqL K H a (as.map V.ref) ∧ ShipsL C H as ships
theorem ShipsAt.same {K : PySem.W.Frag} {C : Addr} {H H' : Hp} {a : Addr} {ships : List Km560.Ship} (e : Same H H') (h : ShipsAt K C H a ships) : ShipsAt K C H' a ships := let ⟨as, h1, h2⟩ := h; ⟨as, e.seq h1, h2.same e⟩
theorem sh_of {ships : List Km560.Ship} {i : Nat} {s : Km560.Ship} (h : ships[i]? = some s) : sh ships i = s := by
  unfold sh
  rw [List.getD_eq_getElem?_getD, h]
  rfl
/-- the i-th ship of the list -/
theorem ShipsL.get {C : Addr} {H : Hp} {as : List Addr} {ships : List Km560.Ship} (h : ShipsL C H as ships) {i : Nat} (hi : i < ships.length) : ∃ p, (as.map V.ref)[i]? = some (.ref p) ∧ ShipAt C H p (sh ships i) := by
  have h1 : i < as.length := by rw [h.len]; exact hi
  refine ⟨as[i], ?_, ?_⟩
  · rw [List.getElem?_map, List.getElem?_eq_getElem h1]
    rfl
  · have e : ships[i]? = some ships[i] := List.getElem?_eq_getElem hi
    rw [sh_of e]
    exact h.at_ i _ _ (List.getElem?_eq_getElem h1) e
theorem ivs_get {l : List Nat} {i : Nat} {x : V} (h : (ivs l)[i]? = some x) : ∃ n, l[i]? = some n ∧ x = iv n := by
  rw [List.getElem?_map] at h
  cases e : l[i]? with
  | none =>
    rw [e] at h
    cases h
  | some n =>
    rw [e] at h
    exact ⟨n, rfl, (Option.some.inj h).symm⟩
theorem ivs_at {l : List Nat} {i : Nat} (h : i < l.length) : (ivs l)[i]? = some (iv (l.getD i 0)) := by
  rw [List.getElem?_map, List.getElem?_eq_getElem h, List.getD_eq_getElem?_getD, List.getElem?_eq_getElem h]
  rfl
theorem take_more {α : Type} : ∀ {l : List α} {i : Nat} {x : α}, l[i]? = some x → l.take (i + 1) = l.take i ++ [x]
  | [], i, x, h => by simp at h
  | a :: l, 0, x, h => by
    have e : a = x := Option.some.inj h
    subst e
    rfl
  | a :: l, i + 1, x, h => by
    have ih := take_more (l := l) (i := i) (x := x) h
    show a :: l.take (i + 1) = a :: l.take i ++ [x]
    rw [ih]
    rfl
theorem ivs_snoc (l : List Nat) (n : Nat) : ivs (l ++ [n]) = ivs l ++ [iv n] := by
  show List.map iv (l ++ [n]) = _
  rw [List.map_append]
  rfl
theorem ivs_more {l : List Nat} {g : Nat → Nat} {i j : Nat} (h : l[i]? = some j) : ivs ((l.take (i + 1)).map g) = ivs ((l.take i).map g) ++ [iv (g j)] := by
  rw [take_more h, List.map_append]
  exact ivs_snoc _ _
theorem ivs_len (l : List Nat) : (ivs l).length = l.length := List.length_map ..
theorem ivs_ints (l : List Nat) : ivs l = (l.map fun (n : Nat) => (n : Int)).map V.int := by
  show List.map iv l = _
  rw [List.map_map]
  rfl
theorem mem_succ (i s : Nat) : mem (i + 1) s = if s.testBit i = true then mem i s ++ [i] else mem i s := by
  unfold mem
  rw [List.range_succ, List.filter_append]
  by_cases h : s.testBit i = true
  · rw [if_pos h, List.filter_cons_of_pos h]
    rfl
  · rw [if_neg h, List.filter_cons_of_neg h, List.filter_nil, List.append_nil]
theorem mem_len (n s : Nat) : (mem n s).length ≤ n := by
  have := List.length_filter_le (fun i => s.testBit i) (List.range n)
  rw [List.length_range] at this
  exact this
theorem mem_in {n s i : Nat} (h : i ∈ mem n s) : i < n ∧ s.testBit i = true := by
  obtain ⟨h1, h2⟩ := List.mem_filter.mp h
  exact ⟨List.mem_range.mp h1, h2⟩
theorem pow_pos_int (i : Nat) : (2 : Int) ^ i = ((2 ^ i : Nat) : Int) := by
  rw [Int.natCast_pow]
  rfl

/-! ### errors -/
abbrev s_want : Stmt := top 10
abbrev N_want : List Str := ["truth", "code"]
theorem sc_want : FnScope N_want ["truth", "code"] (defScope s_want) := ⟨rfl, rfl, rfl, by decide +kernel, rfl, by decide +kernel, by decide +kernel⟩
abbrev s_set_count : Stmt := top 12
abbrev N_set_count : List Str := ["many", "found", "number"]
theorem sc_set_count : FnScope N_set_count ["many"] (defScope s_set_count) := ⟨rfl, rfl, rfl, by decide +kernel, rfl, by decide +kernel, by decide +kernel⟩
abbrev s_is_member : Stmt := top 13
abbrev N_is_member : List Str := ["ship_set", "number"]
theorem sc_is_member : FnScope N_is_member ["ship_set", "number"] (defScope s_is_member) := ⟨rfl, rfl, rfl, by decide +kernel, rfl, by decide +kernel, by decide +kernel⟩
abbrev s_members : Stmt := top 14
abbrev N_members : List Str := ["ship_set", "many", "number"]
theorem sc_members : FnScope N_members ["ship_set", "many"] (defScope s_members) := ⟨rfl, rfl, rfl, by decide +kernel, rfl, by decide +kernel, by decide +kernel⟩
abbrev s_without : Stmt := top 15
abbrev N_without : List Str := ["ship_set", "number"]
theorem sc_without : FnScope N_without ["ship_set", "number"] (defScope s_without) := ⟨rfl, rfl, rfl, by decide +kernel, rfl, by decide +kernel, by decide +kernel⟩
abbrev s_size_of : Stmt := top 16
abbrev N_size_of : List Str := ["ship_set", "many"]
theorem sc_size_of : FnScope N_size_of ["ship_set", "many"] (defScope s_size_of) := ⟨rfl, rfl, rfl, by decide +kernel, rfl, by decide +kernel, by decide +kernel⟩
abbrev s_worth_of : Stmt := top 17
abbrev N_worth_of : List Str := ["ships", "ship_set", "number"]
theorem sc_worth_of : FnScope N_worth_of ["ships", "ship_set"] (defScope s_worth_of) := ⟨rfl, rfl, rfl, by decide +kernel, rfl, by decide +kernel, by decide +kernel⟩
/-- Refused by the code c: for every d that is new -/
def Refuses (ad : Ad) (H : Hp) (E : XK) (c : Int) : Prop := ∀ d H', H d = none → Same H H' → H' d = some (.xd [("code", .int c)]) → E (.ref ad.R) (some d) H'
def sp_want (K : PySem.W.Frag) (ad : Ad) : Sp := fun vs H Q E => ∃ (b : Bool) (c : Int), vs = [.bl b, .int c] ∧ (b = true → Q .non H) ∧ (b = false → Refuses ad H E c)
/-! ### sets -/
def sp_set_count (K : PySem.W.Frag) (ad : Ad) : Sp := fun vs H Q _ => ∃ n : Nat, vs = [iv n] ∧ n ≤ 60 ∧ Q (iv (2 ^ n)) H
def sp_is_member (K : PySem.W.Frag) (ad : Ad) : Sp := fun vs H Q _ => ∃ s i : Nat, vs = [iv s, iv i] ∧ Q (.bl (s.testBit i)) H
def sp_members (K : PySem.W.Frag) (ad : Ad) : Sp := fun vs H Q _ => ∃ s n : Nat, vs = [iv s, iv n] ∧ n ≤ 1000 ∧ ∀ p H', H p = none → Same H H' → H' p = some (.lst (ivs (mem n s))) → Q (.ref p) H'
def sp_without (K : PySem.W.Frag) (ad : Ad) : Sp := fun vs H Q _ => ∃ s i : Nat, vs = [iv s, iv i] ∧ i ≤ 1000 ∧ 2 ^ i ≤ s ∧ Q (iv (s - 2 ^ i)) H
def sp_size_of (K : PySem.W.Frag) (ad : Ad) : Sp := fun vs H Q _ => ∃ s n : Nat, vs = [iv s, iv n] ∧ n ≤ 1000 ∧ ∀ H', Same H H' → Q (iv (mem n s).length) H'
def sp_worth_of (K : PySem.W.Frag) (ad : Ad) : Sp := fun vs H Q _ => ∃ (a : Addr) (ships : List Km560.Ship) (s : Nat), vs = [.ref a, iv s] ∧ ShipsAt K ad.S H a ships ∧ ships.length ≤ 1000 ∧
  ∀ H', Same H H' → Q (iv ((mem ships.length s).map fun i => (sh ships i).value).sum) H'
section
variable {P : Program} {w : World} {K : PySem.W.Frag} {mg : Str → Option Value} {base : Heap} {ad : Ad}
theorem has_want {f : Addr} {fd : FuncData} (F : Fun K "want" "want" s_want f fd) (hm : mg "want" = some (.ref f)) (T : Txt P w K mg ad)
    : Has P w K mg base "want" (L2.CX P w) 2 ["truth", "code"] (sp_want K ad) := by
  refine ⟨f, fd, hm, F.kp, F.binds (ps := ["truth", "code"]) (fun _ _ _ _ _ _ us hl => match us, hl with | [_, _], _ => rfl), F.okX sc_want (fun vs H Q E => ?_) (fun cdv A outer s H vs Q E hr h => ⟨_, (pss_one (ps_if (pt_not (pt_val (pv 0))) (pss_one (ps_raiseRef rfl T.ref hr (takes_of rfl rfl rfl rfl) (by exact (pa_cons (pv 1) pa_nil)))) pss_nil)), ?_⟩)⟩
  · first | (rintro ⟨_, rfl, _⟩; rfl) | (rintro ⟨_, _, rfl, _⟩; rfl) | (rintro ⟨_, _, _, rfl, _⟩; rfl) | (rintro ⟨_, _, _, _, rfl, _⟩; rfl) | (rintro ⟨_, _, _, _, _, rfl, _⟩; rfl) | (rintro ⟨_, _, _, _, _, _, rfl, _⟩; rfl) | (rintro ⟨_, _, _, _, _, _, _, rfl, _⟩; rfl) | (rintro ⟨_, _, _, _, _, _, _, _, rfl, _⟩; rfl) | (rintro ⟨_, _, _, _, _, _, _, _, _, rfl, _⟩; rfl)
  · obtain ⟨b, c, rfl, kt, kf⟩ := h
    refine ⟨_, rfl, b, rfl, ?_⟩
    refine if_by (fun e => ?_) (fun e => ?_)
    · refine ⟨_, rfl, _, rfl, fun d hd => kf (by cases b <;> first | rfl | cases e) d _ hd (Same.new hd) upd_same⟩
    · exact kt (by cases b <;> first | rfl | cases e)
theorem has_set_count {f : Addr} {fd : FuncData} (F : Fun K "set_count" "set_count" s_set_count f fd) (hm : mg "set_count" = some (.ref f)) (T : Txt P w K mg ad)
    : Has P w K mg base "set_count" CX0 1 ["many"] (sp_set_count K ad) := by
  refine ⟨f, fd, hm, F.kp, F.binds (ps := ["many"]) (fun _ _ _ _ _ _ us hl => match us, hl with | [_], _ => rfl), F.ok sc_set_count (fun vs H Q E => ?_) (fun cdv A outer s H vs Q E hr h => ⟨_, (pss_cons (ps_set (i := 1) sc_set_count.nd rfl (Or.inl rfl) pe_int) (pss_cons (ps_for PassesOwn.never rfl (pi_range1 (by rfl) T.b_range (pa_cons (pv 0) pa_nil)) (pg_name (i := 2) sc_set_count.nd rfl (Or.inl rfl)) (pss_one (ps_set (i := 1) sc_set_count.nd rfl (Or.inl rfl) (pe_op op_mul (pv 1) pe_int)))) (pss_one (ps_ret (pv 1))))), ?_⟩)⟩
  · first | (rintro ⟨_, rfl, _⟩; rfl) | (rintro ⟨_, _, rfl, _⟩; rfl) | (rintro ⟨_, _, _, rfl, _⟩; rfl) | (rintro ⟨_, _, _, _, rfl, _⟩; rfl) | (rintro ⟨_, _, _, _, _, rfl, _⟩; rfl) | (rintro ⟨_, _, _, _, _, _, rfl, _⟩; rfl) | (rintro ⟨_, _, _, _, _, _, _, rfl, _⟩; rfl) | (rintro ⟨_, _, _, _, _, _, _, _, rfl, _⟩; rfl) | (rintro ⟨_, _, _, _, _, _, _, _, _, rfl, _⟩; rfl)
  · obtain ⟨n, rfl, hn, k⟩ := h
    have hn2 : (n : Int) < 2 ^ 62 := Int.lt_of_lt_of_le (b := 61) (by omega) (by decide)
    have hn1 : -(2 ^ 62) ≤ (n : Int) := Int.le_trans (b := 0) (by decide) (Int.natCast_nonneg n)
    refine ⟨_, rfl, (n : Int), rfl, hn1, hn2, for_range (lo := 0) (n := n) (fun i σ H' => H' = H ∧ ∃ v, σ = [some (iv n), some (iv (2 ^ i)), v]) ⟨rfl, none, rfl⟩ ?_ ?_⟩
    · rintro i σ H' hi ⟨rfl, v, rfl⟩
      have h1 : ((2 ^ i : Nat) : Int) < 2 ^ 64 := by
        have : 2 ^ i ≤ 2 ^ 60 := Nat.pow_le_pow_right (by decide) (by omega)
        have h3 : ((2 ^ i : Nat) : Int) ≤ ((2 ^ 60 : Nat) : Int) := Int.ofNat_le.mpr this
        exact Int.lt_of_le_of_lt h3 (by decide)
      have h2 : -(2 ^ 64) < ((2 ^ i : Nat) : Int) := Int.lt_of_lt_of_le (b := 0) (by decide) (Int.natCast_nonneg _)
      refine ⟨_, rfl, _, _, rfl, rfl, .inl ⟨h2, h1⟩, ?_⟩
      refine ⟨rfl, some (.int (0 + (i : Nat))), ?_⟩
      have e : ((2 ^ i : Nat) : Int) * 2 = ((2 ^ (i + 1) : Nat) : Int) := by
        rw [Nat.pow_succ]
        omega
      show [_, some (V.int (((2 ^ i : Nat) : Int) * 2)), _] = _
      rw [e]
    · rintro σ H' ⟨rfl, v, rfl⟩
      exact ⟨_, rfl, k⟩
theorem has_is_member {f : Addr} {fd : FuncData} (F : Fun K "is_member" "is_member" s_is_member f fd) (hm : mg "is_member" = some (.ref f)) (T : Txt P w K mg ad)
    : Has P w K mg base "is_member" CX0 1 ["ship_set", "number"] (sp_is_member K ad) := by
  refine ⟨f, fd, hm, F.kp, F.binds (ps := ["ship_set", "number"]) (fun _ _ _ _ _ _ us hl => match us, hl with | [_, _], _ => rfl), F.ok sc_is_member (fun vs H Q E => ?_) (fun cdv A outer s H vs Q E hr h => ⟨_, (pss_one (ps_ret (pe_cmpR op_eq (pe_op op_and (pe_op op_shr (pv 0) (pv 1)) pe_int) pe_int (nomark _)))), ?_⟩)⟩
  · first | (rintro ⟨_, rfl, _⟩; rfl) | (rintro ⟨_, _, rfl, _⟩; rfl) | (rintro ⟨_, _, _, rfl, _⟩; rfl) | (rintro ⟨_, _, _, _, rfl, _⟩; rfl) | (rintro ⟨_, _, _, _, _, rfl, _⟩; rfl) | (rintro ⟨_, _, _, _, _, _, rfl, _⟩; rfl) | (rintro ⟨_, _, _, _, _, _, _, rfl, _⟩; rfl) | (rintro ⟨_, _, _, _, _, _, _, _, rfl, _⟩; rfl) | (rintro ⟨_, _, _, _, _, _, _, _, _, rfl, _⟩; rfl)
  · obtain ⟨s, i, rfl, k⟩ := h
    refine ⟨_, rfl, _, rfl, _, _, rfl, rfl, Int.natCast_nonneg i, _, _, rfl, rfl, ?_⟩
    refine ⟨rfl, ?_⟩
    have e : (decide (V.int (Builtin.bitAnd ((s : Int) / 2 ^ (i : Int).toNat) 1) = V.int 1)) = s.testBit i := by
      have e1 : (s : Int) / 2 ^ (i : Int).toNat = ((s / 2 ^ i : Nat) : Int) := by
        rw [Int.toNat_natCast, pow_pos_int]
        rfl
      have e2 : Builtin.bitAnd ((s / 2 ^ i : Nat) : Int) 1 = (((s / 2 ^ i) &&& 1 : Nat) : Int) := by
        unfold Builtin.bitAnd
        rw [decide_eq_true (Int.natCast_nonneg _)]
        rfl
      rw [e1, e2, Nat.testBit_eq_decide_div_mod_eq, Nat.and_one_is_mod]
      by_cases q : s / 2 ^ i % 2 = 1
      · rw [q]
        rfl
      · rw [decide_eq_false q]
        refine decide_eq_false fun z => q ?_
        injection z with z
        omega
    rw [e]
    exact k
theorem has_members {f : Addr} {fd : FuncData} (F : Fun K "members" "members" s_members f fd) (hm : mg "members" = some (.ref f)) (T : Txt P w K mg ad)
    (h_is_member : Has P w K mg base "is_member" CX0 1 ["ship_set", "number"] (sp_is_member K ad))
    : Has P w K mg base "members" CX0 2 ["ship_set", "many"] (sp_members K ad) := by
  refine ⟨f, fd, hm, F.kp, F.binds (ps := ["ship_set", "many"]) (fun _ _ _ _ _ _ us hl => match us, hl with | [_, _], _ => rfl), F.ok sc_members (fun vs H Q E => ?_) (fun cdv A outer s H vs Q E hr h => ⟨_, (pss_one (ps_ret (pe_lc (own := [("number", 2)]) (g := gName 2) (tt := (tB (tCall (sp_is_member K ad) [] E0 (tCons (tVar 0) (tCons (tVar 2) tNil))))) (te := (tVar 2)) (by rfl) sc_members.nd (pi_range1 (by rfl) T.b_range (pa_cons (pv 1) pa_nil)) (blkOk_by (own := [("number", 2)]) (N := N_members) (sc := defScope s_members) (by decide +kernel)) (fun _ _ _ _ _ => by exact pg_name (i := 2) sc_members.nd rfl (Or.inl rfl)) (fun _ _ _ _ _ => by exact pts_one (pt_val (pe_callH h_is_member hr pass0 (pa_cons (pv 0) (pa_cons (pv 2) pa_nil))))) (fun _ _ _ _ _ => by exact (pv 2))))), ?_⟩)⟩
  · first | (rintro ⟨_, rfl, _⟩; rfl) | (rintro ⟨_, _, rfl, _⟩; rfl) | (rintro ⟨_, _, _, rfl, _⟩; rfl) | (rintro ⟨_, _, _, _, rfl, _⟩; rfl) | (rintro ⟨_, _, _, _, _, rfl, _⟩; rfl) | (rintro ⟨_, _, _, _, _, _, rfl, _⟩; rfl) | (rintro ⟨_, _, _, _, _, _, _, rfl, _⟩; rfl) | (rintro ⟨_, _, _, _, _, _, _, _, rfl, _⟩; rfl) | (rintro ⟨_, _, _, _, _, _, _, _, _, rfl, _⟩; rfl)
  · obtain ⟨s, n, rfl, hn, k⟩ := h
    have hn2 : (n : Int) < 2 ^ 62 := Int.lt_of_lt_of_le (b := 1001) (by omega) (by decide)
    have hn1 : -(2 ^ 62) ≤ (n : Int) := Int.le_trans (b := 0) (by decide) (Int.natCast_nonneg n)
    refine ⟨_, rfl, (n : Int), rfl, hn1, hn2, fun D hD => lc_range (lo := 0) (n := n) (fun i H' => Same H H' ∧ H' D = some (.lst (ivs (mem i s)))) ⟨Same.new hD, upd_same⟩ ?_ ?_⟩
    · rintro i H' hi ⟨s1, h1⟩
      rw [Int.zero_add]
      refine ⟨rfl, _, rfl, _, rfl, s, i, rfl, _, rfl, ?_⟩
      refine if_by (fun e => ?_) (fun e => ?_)
      · refine ⟨_, rfl, _, h1, ?_, Same.put s1 hD, ?_⟩
        · rw [ivs_len]
          exact small1000 (Nat.le_trans (mem_len i s) (by omega))
        · rw [upd_same, mem_succ, if_pos e, ivs_snoc]
      · refine ⟨s1, ?_⟩
        rw [mem_succ, if_neg (by rw [e]; exact Bool.false_ne_true)]
        exact h1
    · rintro H' ⟨s1, h1⟩
      exact k D H' hD s1 h1
theorem has_without {f : Addr} {fd : FuncData} (F : Fun K "without" "without" s_without f fd) (hm : mg "without" = some (.ref f)) (T : Txt P w K mg ad)
    : Has P w K mg base "without" CX0 1 ["ship_set", "number"] (sp_without K ad) := by
  refine ⟨f, fd, hm, F.kp, F.binds (ps := ["ship_set", "number"]) (fun _ _ _ _ _ _ us hl => match us, hl with | [_, _], _ => rfl), F.ok sc_without (fun vs H Q E => ?_) (fun cdv A outer s H vs Q E hr h => ⟨_, (pss_one (ps_ret (pe_op op_sub (pv 0) (pe_op op_shl pe_int (pv 1))))), ?_⟩)⟩
  · first | (rintro ⟨_, rfl, _⟩; rfl) | (rintro ⟨_, _, rfl, _⟩; rfl) | (rintro ⟨_, _, _, rfl, _⟩; rfl) | (rintro ⟨_, _, _, _, rfl, _⟩; rfl) | (rintro ⟨_, _, _, _, _, rfl, _⟩; rfl) | (rintro ⟨_, _, _, _, _, _, rfl, _⟩; rfl) | (rintro ⟨_, _, _, _, _, _, _, rfl, _⟩; rfl) | (rintro ⟨_, _, _, _, _, _, _, _, rfl, _⟩; rfl) | (rintro ⟨_, _, _, _, _, _, _, _, _, rfl, _⟩; rfl)
  · obtain ⟨s, i, rfl, hi, hs, k⟩ := h
    refine ⟨_, rfl, _, rfl, _, _, rfl, rfl, ⟨Int.natCast_nonneg i, by omega, by decide⟩, _, _, rfl, rfl, ?_⟩
    have e : (s : Int) - 1 * 2 ^ (i : Int).toNat = ((s - 2 ^ i : Nat) : Int) := by
      rw [Int.one_mul, Int.toNat_natCast, pow_pos_int]
      omega
    show Q (V.int ((s : Int) - 1 * 2 ^ (i : Int).toNat)) H
    rw [e]
    exact k
theorem has_size_of {f : Addr} {fd : FuncData} (F : Fun K "size_of" "size_of" s_size_of f fd) (hm : mg "size_of" = some (.ref f)) (T : Txt P w K mg ad)
    (h_members : Has P w K mg base "members" CX0 2 ["ship_set", "many"] (sp_members K ad))
    : Has P w K mg base "size_of" CX0 3 ["ship_set", "many"] (sp_size_of K ad) := by
  refine ⟨f, fd, hm, F.kp, F.binds (ps := ["ship_set", "many"]) (fun _ _ _ _ _ _ us hl => match us, hl with | [_, _], _ => rfl), F.ok sc_size_of (fun vs H Q E => ?_) (fun cdv A outer s H vs Q E hr h => ⟨_, (pss_one (ps_ret (pe_callB call_len_seq (by rfl) T.b_len (by decide +kernel) (pa_cons (pe_callH h_members hr pass0 (pa_cons (pv 0) (pa_cons (pv 1) pa_nil))) pa_nil)))), ?_⟩)⟩
  · first | (rintro ⟨_, rfl, _⟩; rfl) | (rintro ⟨_, _, rfl, _⟩; rfl) | (rintro ⟨_, _, _, rfl, _⟩; rfl) | (rintro ⟨_, _, _, _, rfl, _⟩; rfl) | (rintro ⟨_, _, _, _, _, rfl, _⟩; rfl) | (rintro ⟨_, _, _, _, _, _, rfl, _⟩; rfl) | (rintro ⟨_, _, _, _, _, _, _, rfl, _⟩; rfl) | (rintro ⟨_, _, _, _, _, _, _, _, rfl, _⟩; rfl) | (rintro ⟨_, _, _, _, _, _, _, _, _, rfl, _⟩; rfl)
  · obtain ⟨s, n, rfl, hn, k⟩ := h
    refine ⟨_, rfl, _, rfl, s, n, rfl, hn, fun p H' hp s1 h1 => ?_⟩
    refine ⟨p, _, rfl, .inl (SqL.of h1), ?_⟩
    rw [ivs_len]
    exact k H' s1
theorem has_worth_of {f : Addr} {fd : FuncData} (F : Fun K "worth_of" "worth_of" s_worth_of f fd) (hm : mg "worth_of" = some (.ref f)) (T : Txt P w K mg ad)
    (h_members : Has P w K mg base "members" CX0 2 ["ship_set", "many"] (sp_members K ad))
    : Has P w K mg base "worth_of" CX0 3 ["ships", "ship_set"] (sp_worth_of K ad) := by
  refine ⟨f, fd, hm, F.kp, F.binds (ps := ["ships", "ship_set"]) (fun _ _ _ _ _ _ us hl => match us, hl with | [_, _], _ => rfl), F.ok sc_worth_of (fun vs H Q E => ?_) (fun cdv A outer s H vs Q E hr h => ⟨_, (pss_one (ps_ret (pe_callB (cr_sum rfl) (by rfl) T.b_sum (by decide +kernel) (pa_cons (pe_lc (own := [("number", 2)]) (g := gName 2) (tt := tYes) (te := (tFld K (tOp (rIxL K) (tVar 0) (tVar 2)) "worth")) (by rfl) sc_worth_of.nd (pi_list (pe_callH h_members hr pass0 (pa_cons (pv 1) (pa_cons (pe_callB call_len_seq (by rfl) T.b_len (by decide +kernel) (pa_cons (pv 0) pa_nil)) pa_nil)))) (blkOk_by (own := [("number", 2)]) (N := N_worth_of) (sc := defScope s_worth_of) (by decide +kernel)) (fun _ _ _ _ _ => by exact pg_name (i := 2) sc_worth_of.nd rfl (Or.inl rfl)) (fun _ _ _ _ _ => by exact pts_nil) (fun _ _ _ _ _ => by exact (pe_fld (pe_ix ix_list (pv 0) (pv 2) (fun _ _ => rfl)) rfl))) pa_nil)))), ?_⟩)⟩
  · first | (rintro ⟨_, rfl, _⟩; rfl) | (rintro ⟨_, _, rfl, _⟩; rfl) | (rintro ⟨_, _, _, rfl, _⟩; rfl) | (rintro ⟨_, _, _, _, rfl, _⟩; rfl) | (rintro ⟨_, _, _, _, _, rfl, _⟩; rfl) | (rintro ⟨_, _, _, _, _, _, rfl, _⟩; rfl) | (rintro ⟨_, _, _, _, _, _, _, rfl, _⟩; rfl) | (rintro ⟨_, _, _, _, _, _, _, _, rfl, _⟩; rfl) | (rintro ⟨_, _, _, _, _, _, _, _, _, rfl, _⟩; rfl)
  · obtain ⟨a, ships, s, rfl, ⟨as, hS, hL⟩, hn, k⟩ := h
    refine ⟨_, rfl, _, rfl, a, _, rfl, .inl hS, s, ships.length, ?_, hn, fun p H1 hp s1 h1 => ?_⟩
    · rw [List.length_map, hL.len]
      rfl
    refine ⟨p, rfl, ⟨_, SqL.of h1⟩, fun D hD => lc_list (K := K) (a := p) (xs := ivs (mem ships.length s))
      (fun i H' => Same H1 H' ∧ H' D = some (.lst (ivs (((mem ships.length s).take i).map fun i => (sh ships i).value)))) ⟨Same.new hD, upd_same⟩ (fun i H' _ q => SqL.of (q.1 _ _ h1)) ?_ ?_⟩
    · rintro i x H' hx ⟨s2, h2⟩
      obtain ⟨j, hj, rfl⟩ := ivs_get hx
      have hjm := mem_in (List.mem_of_getElem? hj)
      obtain ⟨q, hq, dx, hsh⟩ := (hL.same (s1.trans s2)).get hjm.1
      refine ⟨rfl, tyes ?_⟩
      refine ⟨_, rfl, _, rfl, a, _, _, _, rfl, rfl, (s1.trans s2).seq hS, atI_nat hq, q, ad.S, dx, _, _, rfl, hsh, T.clS, T.nS_worth, shF_worth _, _, h2, ?_, Same.put s2 hD, ?_⟩
      · rw [ivs_len, List.length_map, List.length_take]
        have := mem_len ships.length s
        exact small1000 (by omega)
      · rw [upd_same, ivs_more hj]
    · rintro H' ⟨s2, h2⟩
      rw [ivs_len, List.take_length, ivs_ints] at h2
      refine ⟨D, _, rfl, SqL.of h2, ?_⟩
      have e : ((((mem ships.length s).map fun i => (sh ships i).value).map fun (n : Nat) => (n : Int))).sum = ((((mem ships.length s).map fun i => (sh ships i).value).sum : Nat) : Int) := by
        generalize ((mem ships.length s).map fun i => (sh ships i).value) = l
        induction l with
        | nil => rfl
        | cons a r ih =>
          rw [List.map_cons, List.sum_cons, List.sum_cons, ih]
          omega
      rw [e]
      exact k H' (s1.trans s2)
end
end Ice
/-! # Part C: ships, needs -/
namespace Ice
open PySem PySem.Spec PyProof.Rows L2
open IceM
open Km560 (Fleet)
abbrev s_Ship_init : Stmt := inClass (top 31) 0
abbrev N_Ship_init : List Str := ["self", "beam", "clearance", "worth"]
theorem sc_Ship_init : FnScope N_Ship_init ["self", "beam", "clearance", "worth"] (defScope s_Ship_init) := ⟨rfl, rfl, rfl, by decide +kernel, rfl, by decide +kernel, by decide +kernel⟩
abbrev s_Ship_described : Stmt := inClass (top 31) 1
abbrev N_Ship_described : List Str := ["self"]
theorem sc_Ship_described : FnScope N_Ship_described ["self"] (defScope s_Ship_described) := ⟨rfl, rfl, rfl, by decide +kernel, rfl, by decide +kernel, by decide +kernel⟩
abbrev s_is_ship : Stmt := top 32
abbrev N_is_ship : List Str := ["beam", "clearance", "worth"]
theorem sc_is_ship : FnScope N_is_ship ["beam", "clearance", "worth"] (defScope s_is_ship) := ⟨rfl, rfl, rfl, by decide +kernel, rfl, by decide +kernel, by decide +kernel⟩
abbrev s_width_before : Stmt := top 33
abbrev N_width_before : List Str := ["previous", "closing"]
theorem sc_width_before : FnScope N_width_before ["previous", "closing"] (defScope s_width_before) := ⟨rfl, rfl, rfl, by decide +kernel, rfl, by decide +kernel, by decide +kernel⟩
abbrev s_can_follow : Stmt := top 34
abbrev N_can_follow : List Str := ["ship", "previous", "closing"]
theorem sc_can_follow : FnScope N_can_follow ["ship", "previous", "closing"] (defScope s_can_follow) := ⟨rfl, rfl, rfl, by decide +kernel, rfl, by decide +kernel, by decide +kernel⟩
abbrev s_width_after : Stmt := top 35
abbrev N_width_after : List Str := ["ship", "previous", "closing"]
theorem sc_width_after : FnScope N_width_after ["ship", "previous", "closing"] (defScope s_width_after) := ⟨rfl, rfl, rfl, by decide +kernel, rfl, by decide +kernel, by decide +kernel⟩
abbrev s_least_before : Stmt := top 19
abbrev N_least_before : List Str := ["ship", "later", "least"]
theorem sc_least_before : FnScope N_least_before ["ship", "later"] (defScope s_least_before) := ⟨rfl, rfl, rfl, by decide +kernel, rfl, by decide +kernel, by decide +kernel⟩
abbrev s_need_with_first : Stmt := top 20
abbrev N_need_with_first : List Str := ["ship", "later", "closing", "least"]
theorem sc_need_with_first : FnScope N_need_with_first ["ship", "later", "closing"] (defScope s_need_with_first) := ⟨rfl, rfl, rfl, by decide +kernel, rfl, by decide +kernel, by decide +kernel⟩
abbrev s_need_of : Stmt := top 21
abbrev N_need_of : List Str := ["ships", "closing", "table", "ship_set", "found", "number"]
theorem sc_need_of : FnScope N_need_of ["ships", "closing", "table", "ship_set"] (defScope s_need_of) := ⟨rfl, rfl, rfl, by decide +kernel, rfl, by decide +kernel, by decide +kernel⟩
abbrev s_needs : Stmt := top 22
abbrev N_needs : List Str := ["ships", "closing", "table", "ship_set"]
theorem sc_needs : FnScope N_needs ["ships", "closing"] (defScope s_needs) := ⟨rfl, rfl, rfl, by decide +kernel, rfl, by decide +kernel, by decide +kernel⟩
abbrev s_feasible_sets : Stmt := top 23
abbrev N_feasible_sets : List Str := ["table", "previous", "ship_set", "need"]
theorem sc_feasible_sets : FnScope N_feasible_sets ["table", "previous"] (defScope s_feasible_sets) := ⟨rfl, rfl, rfl, by decide +kernel, rfl, by decide +kernel, by decide +kernel⟩
abbrev s_first_greatest : Stmt := top 24
abbrev N_first_greatest : List Str := ["numbers", "sizes"]
theorem sc_first_greatest : FnScope N_first_greatest ["numbers", "sizes"] (defScope s_first_greatest) := ⟨rfl, rfl, rfl, by decide +kernel, rfl, by decide +kernel, by decide +kernel⟩
abbrev s_largest_set : Stmt := top 25
abbrev N_largest_set : List Str := ["ships", "closing", "previous", "found", "ship_set"]
theorem sc_largest_set : FnScope N_largest_set ["ships", "closing", "previous"] (defScope s_largest_set) := ⟨rfl, rfl, rfl, by decide +kernel, rfl, by decide +kernel, by decide +kernel⟩
abbrev s_most_valuable_set : Stmt := top 26
abbrev N_most_valuable_set : List Str := ["ships", "closing", "previous", "found", "ship_set"]
theorem sc_most_valuable_set : FnScope N_most_valuable_set ["ships", "closing", "previous"] (defScope s_most_valuable_set) := ⟨rfl, rfl, rfl, by decide +kernel, rfl, by decide +kernel, by decide +kernel⟩
def sp_Ship_init (K : PySem.W.Frag) (ad : Ad) : Sp := fun vs H Q _ => ∃ (p dx : Addr) (s : Km560.Ship), vs = [.ref p, iv s.beam, iv s.selfClearance, iv s.value] ∧ H p = some (.ins ad.S dx []) ∧
  ∀ H', ShipAt ad.S H' p s → (∀ b o, H b = some o → b ≠ p → H' b = some o) → Q .non H'
def sp_Ship_described (K : PySem.W.Frag) (ad : Ad) : Sp := fun vs H Q _ => ∃ (a : Addr) (s : Km560.Ship), vs = [.ref a] ∧ ShipAt ad.S H a s ∧
  ∀ p H', H p = none → Same H H' → H' p = some (.lst (ivs [s.beam, s.selfClearance, s.value])) → Q (.ref p) H'
def sp_is_ship (K : PySem.W.Frag) (ad : Ad) : Sp := fun vs H Q _ => ∃ b c v : Nat, vs = [iv b, iv c, iv v] ∧ Q (.bl (Km560.isValidShip b c v)) H
def sp_width_before (K : PySem.W.Frag) (ad : Ad) : Sp := fun vs H Q _ => ∃ p c : Nat, vs = [iv p, iv c] ∧ Q (iv (p - c)) H
def sp_can_follow (K : PySem.W.Frag) (ad : Ad) : Sp := fun vs H Q _ => ∃ (a : Addr) (s : Km560.Ship) (p c : Nat), vs = [.ref a, iv p, iv c] ∧ ShipAt ad.S H a s ∧ Q (.bl (decide (s.beam ≤ (p - c) + s.selfClearance))) H
def sp_width_after (K : PySem.W.Frag) (ad : Ad) : Sp := fun vs H Q _ => ∃ (a : Addr) (s : Km560.Ship) (p c : Nat), vs = [.ref a, iv p, iv c] ∧ ShipAt ad.S H a s ∧ Q (iv (max (p - c) s.beam)) H
def sp_least_before (K : PySem.W.Frag) (ad : Ad) : Sp := fun vs H Q _ => ∃ (a : Addr) (s : Km560.Ship) (later : Nat), vs = [.ref a, iv later] ∧ ShipAt ad.S H a s ∧ Q (iv (leastBefore s later)) H
def sp_need_with_first (K : PySem.W.Frag) (ad : Ad) : Sp := fun vs H Q _ => ∃ (a : Addr) (s : Km560.Ship) (later closing : Nat), vs = [.ref a, iv later, iv closing] ∧ ShipAt ad.S H a s ∧ Q (iv (needWith s later closing)) H
def sp_need_of (K : PySem.W.Frag) (ad : Ad) : Sp := fun vs H Q _ => ∃ (a t : Addr) (ships : List Km560.Ship) (closing : Nat) (tbl : List Nat) (s : Nat), vs = [.ref a, iv closing, .ref t, iv s] ∧ ShipsAt K ad.S H a ships ∧ SqL K H t (ivs tbl) ∧
  ships.length ≤ 7 ∧ s < 2 ^ ships.length ∧ 0 < s ∧ s ≤ tbl.length ∧ ∀ H', Same H H' → Q (iv (needOf ships closing tbl s)) H'
def sp_needs (K : PySem.W.Frag) (ad : Ad) : Sp := fun vs H Q _ => ∃ (a : Addr) (ships : List Km560.Ship) (closing : Nat), vs = [.ref a, iv closing] ∧ ShipsAt K ad.S H a ships ∧ ships.length ≤ 7 ∧
  ∀ p H', H p = none → Same H H' → H' p = some (.lst (ivs (needs ships closing))) → Q (.ref p) H'
def sp_feasible_sets (K : PySem.W.Frag) (ad : Ad) : Sp := fun vs H Q _ => ∃ (t : Addr) (tbl : List Nat) (w : Nat), vs = [.ref t, iv w] ∧ SqL K H t (ivs tbl) ∧ tbl.length ≤ 1000 ∧
  ∀ p H', H p = none → Same H H' → H' p = some (.lst (ivs ((List.range tbl.length).filter fun s => decide (tbl.getD s 0 ≤ w)))) → Q (.ref p) H'
def sp_first_greatest (K : PySem.W.Frag) (ad : Ad) : Sp := fun vs H Q _ => ∃ (a b : Addr) (ns : List Nat) (score : Nat → Nat), vs = [.ref a, .ref b] ∧ SqL K H a (ivs ns) ∧ SqL K H b (ivs (ns.map score)) ∧ ns ≠ [] ∧
  ∀ (j x : Nat), ns[j]? = some x → (∀ s ∈ ns, score s ≤ score x) → (∀ (i y : Nat), i < j → ns[i]? = some y → score y ≠ score x) → Q (iv x) H
def sp_largest_set (K : PySem.W.Frag) (ad : Ad) : Sp := fun vs H Q _ => ∃ (a : Addr) (f : Fleet), vs = [.ref a, iv f.closing, iv (Km560.startWidth f)] ∧ ShipsAt K ad.S H a f.ships ∧ f.ships.length ≤ 7 ∧
  ∀ H', Same H H' → Q (iv (Km560.largestSet f)) H'
def sp_most_valuable_set (K : PySem.W.Frag) (ad : Ad) : Sp := fun vs H Q _ => ∃ (a : Addr) (f : Fleet), vs = [.ref a, iv f.closing, iv (Km560.startWidth f)] ∧ ShipsAt K ad.S H a f.ships ∧ f.ships.length ≤ 7 ∧
  ∀ H', Same H H' → Q (iv (Km560.mostValuableSet f)) H'
theorem max_ints (p c : Nat) : (if ((p : Int) - (c : Int)) > 0 then (p : Int) - (c : Int) else 0) = ((p - c : Nat) : Int) := by
  split <;> omega
theorem max_nats (a b : Nat) : (if (b : Int) > (a : Int) then (b : Int) else (a : Int)) = ((max a b : Nat) : Int) := by
  split <;> omega
theorem dec_iv (a b : Nat) : decide (iv a = iv b) = decide (a = b) := by
  by_cases h : a = b
  · subst h
    rw [decide_eq_true rfl, decide_eq_true rfl]
  · rw [decide_eq_false h]
    refine decide_eq_false fun e => h ?_
    injection e with e
    omega
theorem dec_le (a b : Nat) : decide ((a : Int) ≤ (b : Int)) = decide (a ≤ b) := decide_eq_decide.mpr Int.ofNat_le
theorem first_at {m : Nat} : ∀ {l : List Nat}, m ∈ l → ∃ j : Nat, l[j]? = some m ∧ ∀ i : Nat, i < j → l[i]? ≠ some m
  | [], h => by cases h
  | a :: l, h => by
    by_cases e : a = m
    · subst e
      exact ⟨0, rfl, fun i hi => by omega⟩
    · have h' : m ∈ l := by
        rcases List.mem_cons.mp h with q | q
        · exact absurd q.symm e
        · exact q
      obtain ⟨j, h1, h2⟩ := first_at h'
      refine ⟨j + 1, h1, fun i hi => ?_⟩
      cases i with
      | zero => exact fun q => e (Option.some.inj q)
      | succ i => exact h2 i (by omega)
theorem feas_eq (f : Fleet) : ((List.range (needs f.ships f.closing).length).filter fun s => decide ((needs f.ships f.closing).getD s 0 ≤ Km560.startWidth f)) = feas f := by
  unfold feas
  rw [needs_length]
  refine List.filter_congr fun s hs => ?_
  rw [needs_getD _ _ _ (List.mem_range.mp hs)]
theorem feas_len {f : Fleet} (hn : f.ships.length ≤ 7) : (feas f).length ≤ 128 := by
  have h := List.length_filter_le (fun s => decide (need f.ships f.closing s ≤ Km560.startWidth f)) (List.range (2 ^ f.ships.length))
  rw [List.length_range] at h
  exact Nat.le_trans h (pow_le_128 hn)
section
variable {P : Program} {w : World} {K : PySem.W.Frag} {mg : Str → Option Value} {base : Heap} {ad : Ad}
theorem has_Ship_init {f : Addr} {fd : FuncData} (F : Fun K "__init__" "Ship.__init__" s_Ship_init f fd) (hg : mg "Ship" = some (.ref ad.S)) (hm : Mk K ad.S f) (T : Txt P w K mg ad)
    : HasI P w K mg base "Ship" ad.S CX0 1 ["self", "beam", "clearance", "worth"] (sp_Ship_init K ad) := by
  refine ⟨hg, f, fd, hm, F.binds (ps := ["self", "beam", "clearance", "worth"]) (fun _ _ _ _ _ _ us hl => match us, hl with | [_, _, _, _], _ => rfl), F.ok sc_Ship_init (fun vs H Q E => ?_) (fun cdv A outer s H vs Q E hr h => ⟨_, (pss_cons (ps_fld (pv 0) (pv 1) rfl) (pss_cons (ps_fld (pv 0) (pv 2) rfl) (pss_one (ps_fld (pv 0) (pv 3) rfl)))), ?_⟩)⟩
  · first | (rintro ⟨_, rfl, _⟩; rfl) | (rintro ⟨_, _, rfl, _⟩; rfl) | (rintro ⟨_, _, _, rfl, _⟩; rfl) | (rintro ⟨_, _, _, _, rfl, _⟩; rfl) | (rintro ⟨_, _, _, _, _, rfl, _⟩; rfl) | (rintro ⟨_, _, _, _, _, _, rfl, _⟩; rfl) | (rintro ⟨_, _, _, _, _, _, _, rfl, _⟩; rfl) | (rintro ⟨_, _, _, _, _, _, _, _, rfl, _⟩; rfl) | (rintro ⟨_, _, _, _, _, _, _, _, _, rfl, _⟩; rfl)
  · obtain ⟨p, dx, s, rfl, hp, k⟩ := h
    refine ⟨_, rfl, _, rfl, p, ad.S, dx, [], rfl, hp, T.clS, T.nS_beam, (by show 0 < 1000; decide), ?_⟩
    refine ⟨_, rfl, _, rfl, p, ad.S, dx, _, rfl, upd_same, T.clS, T.nS_clear, (by show 1 < 1000; decide), ?_⟩
    refine ⟨_, rfl, _, rfl, p, ad.S, dx, _, rfl, upd_same, T.clS, T.nS_worth, ?_, ?_⟩
    · show (putF "clearance" _ (putF "beam" _ [])).length < 1000
      rw [show putF "beam" (iv s.beam) ([] : List (Str × V)) = [(("beam" : Str), iv s.beam)] from rfl, put_past (by decide +kernel)]
      show 2 < 1000
      decide
    · exact k _ ⟨dx, Eq.trans upd_same (congrArg (fun q => some (HO.ins ad.S dx q)) (shF_new s))⟩ fun b o e hb => by
        rw [upd_ne hb, upd_ne hb, upd_ne hb]
        exact e
theorem has_Ship_described {f : Addr} {fd : FuncData} (F : Fun K "described" "Ship.described" s_Ship_described f fd) (hm : Meth K ad.S "described" f) (T : Txt P w K mg ad)
    : HasM P w K mg base ad.S "described" CX0 1 ["self"] (sp_Ship_described K ad) := by
  refine ⟨f, fd, hm, F.binds (ps := ["self"]) (fun _ _ _ _ _ _ us hl => match us, hl with | [_], _ => rfl), F.ok sc_Ship_described (fun vs H Q E => ?_) (fun cdv A outer s H vs Q E hr h => ⟨_, (pss_one (ps_ret (pe_lst (pa_cons (pe_fld (pv 0) rfl) (pa_cons (pe_fld (pv 0) rfl) (pa_cons (pe_fld (pv 0) rfl) pa_nil)))))), ?_⟩)⟩
  · first | (rintro ⟨_, rfl, _⟩; rfl) | (rintro ⟨_, _, rfl, _⟩; rfl) | (rintro ⟨_, _, _, rfl, _⟩; rfl) | (rintro ⟨_, _, _, _, rfl, _⟩; rfl) | (rintro ⟨_, _, _, _, _, rfl, _⟩; rfl) | (rintro ⟨_, _, _, _, _, _, rfl, _⟩; rfl) | (rintro ⟨_, _, _, _, _, _, _, rfl, _⟩; rfl) | (rintro ⟨_, _, _, _, _, _, _, _, rfl, _⟩; rfl) | (rintro ⟨_, _, _, _, _, _, _, _, _, rfl, _⟩; rfl)
  · obtain ⟨a, s, rfl, ⟨dx, hs⟩, k⟩ := h
    refine ⟨_, rfl, a, ad.S, dx, _, _, rfl, hs, T.clS, T.nS_beam, shF_beam s, _, rfl, a, ad.S, dx, _, _, rfl, hs, T.clS, T.nS_clear, shF_clear s, _, rfl, a, ad.S, dx, _, _, rfl, hs, T.clS, T.nS_worth, shF_worth s, (by show 3 ≤ sizeLine; decide), fun p hp => ?_⟩
    exact k p _ hp (Same.new hp) upd_same
theorem has_is_ship {f : Addr} {fd : FuncData} (F : Fun K "is_ship" "is_ship" s_is_ship f fd) (hm : mg "is_ship" = some (.ref f)) (T : Txt P w K mg ad)
    : Has P w K mg base "is_ship" CX0 1 ["beam", "clearance", "worth"] (sp_is_ship K ad) := by
  refine ⟨f, fd, hm, F.kp, F.binds (ps := ["beam", "clearance", "worth"]) (fun _ _ _ _ _ _ us hl => match us, hl with | [_, _, _], _ => rfl), F.ok sc_is_ship (fun vs H Q E => ?_) (fun cdv A outer s H vs Q E hr h => ⟨_, (pss_one (ps_ret (pe_and (pe_chain op_le op_le pe_int (pv 0) (pe_gi T.c_MOST_BEAM)) (pe_and (pe_cmpR op_le (pv 1) (pe_gi T.c_MOST_CLEARANCE) (nomark _)) (pe_one (pe_cmpR op_le (pv 2) (pe_gi T.c_MOST_VALUE) (nomark _))))))), ?_⟩)⟩
  · first | (rintro ⟨_, rfl, _⟩; rfl) | (rintro ⟨_, _, rfl, _⟩; rfl) | (rintro ⟨_, _, _, rfl, _⟩; rfl) | (rintro ⟨_, _, _, _, rfl, _⟩; rfl) | (rintro ⟨_, _, _, _, _, rfl, _⟩; rfl) | (rintro ⟨_, _, _, _, _, _, rfl, _⟩; rfl) | (rintro ⟨_, _, _, _, _, _, _, rfl, _⟩; rfl) | (rintro ⟨_, _, _, _, _, _, _, _, rfl, _⟩; rfl) | (rintro ⟨_, _, _, _, _, _, _, _, _, rfl, _⟩; rfl)
  · obtain ⟨b, c, v, rfl, k⟩ := h
    have key : ∀ t : Bool, (t = true ↔ (1 ≤ b ∧ b ≤ 50 ∧ c ≤ 50 ∧ v ≤ 99)) → Q (.bl t) H := fun t e => by
      have e2 : t = Km560.isValidShip b c v := by
        rw [Bool.eq_iff_iff, e]
        exact decide_eq_true_iff.symm
      rw [e2]
      exact k
    refine ⟨_, rfl, _, _, rfl, rfl, _, rfl, ?_⟩
    refine if_by (fun e1 => ?_) (fun e1 => ?_)
    · have h1 := of_decide_eq_true e1
      refine ⟨_, _, rfl, rfl, _, rfl, ?_⟩
      refine if_by (fun e2 => ?_) (fun e2 => ?_)
      · have h2 := of_decide_eq_true e2
        refine ⟨_, rfl, _, _, rfl, rfl, _, rfl, ?_⟩
        refine if_by (fun e3 => ?_) (fun e3 => ?_)
        · have h3 := of_decide_eq_true e3
          refine ⟨_, rfl, _, _, rfl, rfl, key _ ?_⟩
          rw [decide_eq_true_iff]
          omega
        · have h3 := of_decide_eq_false e3
          refine key false ⟨fun z => (Bool.false_ne_true z).elim, fun z => ?_⟩
          omega
      · have h2 := of_decide_eq_false e2
        refine key false ⟨fun z => (Bool.false_ne_true z).elim, fun z => ?_⟩
        omega
    · have h1 := of_decide_eq_false e1
      refine ⟨_, rfl, if_false_of rfl (key false ⟨fun z => (Bool.false_ne_true z).elim, fun z => ?_⟩)⟩
      omega
theorem has_width_before {f : Addr} {fd : FuncData} (F : Fun K "width_before" "width_before" s_width_before f fd) (hm : mg "width_before" = some (.ref f)) (T : Txt P w K mg ad)
    : Has P w K mg base "width_before" CX0 1 ["previous", "closing"] (sp_width_before K ad) := by
  refine ⟨f, fd, hm, F.kp, F.binds (ps := ["previous", "closing"]) (fun _ _ _ _ _ _ us hl => match us, hl with | [_, _], _ => rfl), F.ok sc_width_before (fun vs H Q E => ?_) (fun cdv A outer s H vs Q E hr h => ⟨_, (pss_one (ps_ret (pe_callB (call_max2 rfl) (by rfl) T.b_max (by decide +kernel) (pa_cons pe_int (pa_cons (pe_op op_sub (pv 0) (pv 1)) pa_nil))))), ?_⟩)⟩
  · first | (rintro ⟨_, rfl, _⟩; rfl) | (rintro ⟨_, _, rfl, _⟩; rfl) | (rintro ⟨_, _, _, rfl, _⟩; rfl) | (rintro ⟨_, _, _, _, rfl, _⟩; rfl) | (rintro ⟨_, _, _, _, _, rfl, _⟩; rfl) | (rintro ⟨_, _, _, _, _, _, rfl, _⟩; rfl) | (rintro ⟨_, _, _, _, _, _, _, rfl, _⟩; rfl) | (rintro ⟨_, _, _, _, _, _, _, _, rfl, _⟩; rfl) | (rintro ⟨_, _, _, _, _, _, _, _, _, rfl, _⟩; rfl)
  · obtain ⟨p, c, rfl, k⟩ := h
    refine ⟨_, rfl, _, rfl, _, _, rfl, rfl, _, _, rfl, ?_⟩
    show Q (V.int (if ((p : Int) - (c : Int)) > 0 then (p : Int) - (c : Int) else 0)) H
    rw [max_ints]
    exact k
theorem has_can_follow {f : Addr} {fd : FuncData} (F : Fun K "can_follow" "can_follow" s_can_follow f fd) (hm : mg "can_follow" = some (.ref f)) (T : Txt P w K mg ad)
    (h_width_before : Has P w K mg base "width_before" CX0 1 ["previous", "closing"] (sp_width_before K ad))
    : Has P w K mg base "can_follow" CX0 2 ["ship", "previous", "closing"] (sp_can_follow K ad) := by
  refine ⟨f, fd, hm, F.kp, F.binds (ps := ["ship", "previous", "closing"]) (fun _ _ _ _ _ _ us hl => match us, hl with | [_, _, _], _ => rfl), F.ok sc_can_follow (fun vs H Q E => ?_) (fun cdv A outer s H vs Q E hr h => ⟨_, (pss_one (ps_ret (pe_cmpR op_le (pe_fld (pv 0) rfl) (pe_op op_add (pe_callH h_width_before hr pass0 (pa_cons (pv 1) (pa_cons (pv 2) pa_nil))) (pe_fld (pv 0) rfl)) (nomark _)))), ?_⟩)⟩
  · first | (rintro ⟨_, rfl, _⟩; rfl) | (rintro ⟨_, _, rfl, _⟩; rfl) | (rintro ⟨_, _, _, rfl, _⟩; rfl) | (rintro ⟨_, _, _, _, rfl, _⟩; rfl) | (rintro ⟨_, _, _, _, _, rfl, _⟩; rfl) | (rintro ⟨_, _, _, _, _, _, rfl, _⟩; rfl) | (rintro ⟨_, _, _, _, _, _, _, rfl, _⟩; rfl) | (rintro ⟨_, _, _, _, _, _, _, _, rfl, _⟩; rfl) | (rintro ⟨_, _, _, _, _, _, _, _, _, rfl, _⟩; rfl)
  · obtain ⟨a, s, p, c, rfl, ⟨dx, hs⟩, k⟩ := h
    refine ⟨_, rfl, a, ad.S, dx, _, _, rfl, hs, T.clS, T.nS_beam, shF_beam s, _, rfl, _, rfl, p, c, rfl, _, rfl, a, ad.S, dx, _, _, rfl, hs, T.clS, T.nS_clear, shF_clear s, _, _, rfl, rfl, _, _, rfl, rfl, ?_⟩
    have e : decide ((s.beam : Int) ≤ ((p - c : Nat) : Int) + (s.selfClearance : Int)) = decide (s.beam ≤ (p - c) + s.selfClearance) := by
      refine decide_eq_decide.mpr ?_
      omega
    show Q (V.bl (decide ((s.beam : Int) ≤ ((p - c : Nat) : Int) + (s.selfClearance : Int)))) H
    rw [e]
    exact k
theorem has_width_after {f : Addr} {fd : FuncData} (F : Fun K "width_after" "width_after" s_width_after f fd) (hm : mg "width_after" = some (.ref f)) (T : Txt P w K mg ad)
    (h_width_before : Has P w K mg base "width_before" CX0 1 ["previous", "closing"] (sp_width_before K ad))
    : Has P w K mg base "width_after" CX0 2 ["ship", "previous", "closing"] (sp_width_after K ad) := by
  refine ⟨f, fd, hm, F.kp, F.binds (ps := ["ship", "previous", "closing"]) (fun _ _ _ _ _ _ us hl => match us, hl with | [_, _, _], _ => rfl), F.ok sc_width_after (fun vs H Q E => ?_) (fun cdv A outer s H vs Q E hr h => ⟨_, (pss_one (ps_ret (pe_callB (call_max2 rfl) (by rfl) T.b_max (by decide +kernel) (pa_cons (pe_callH h_width_before hr pass0 (pa_cons (pv 1) (pa_cons (pv 2) pa_nil))) (pa_cons (pe_fld (pv 0) rfl) pa_nil))))), ?_⟩)⟩
  · first | (rintro ⟨_, rfl, _⟩; rfl) | (rintro ⟨_, _, rfl, _⟩; rfl) | (rintro ⟨_, _, _, rfl, _⟩; rfl) | (rintro ⟨_, _, _, _, rfl, _⟩; rfl) | (rintro ⟨_, _, _, _, _, rfl, _⟩; rfl) | (rintro ⟨_, _, _, _, _, _, rfl, _⟩; rfl) | (rintro ⟨_, _, _, _, _, _, _, rfl, _⟩; rfl) | (rintro ⟨_, _, _, _, _, _, _, _, rfl, _⟩; rfl) | (rintro ⟨_, _, _, _, _, _, _, _, _, rfl, _⟩; rfl)
  · obtain ⟨a, s, p, c, rfl, ⟨dx, hs⟩, k⟩ := h
    refine ⟨_, rfl, _, rfl, p, c, rfl, _, rfl, a, ad.S, dx, _, _, rfl, hs, T.clS, T.nS_beam, shF_beam s, _, _, rfl, ?_⟩
    show Q (V.int (if (s.beam : Int) > ((p - c : Nat) : Int) then (s.beam : Int) else ((p - c : Nat) : Int))) H
    rw [max_nats]
    exact k
theorem has_least_before {f : Addr} {fd : FuncData} (F : Fun K "least_before" "least_before" s_least_before f fd) (hm : mg "least_before" = some (.ref f)) (T : Txt P w K mg ad)
    : Has P w K mg base "least_before" CX0 1 ["ship", "later"] (sp_least_before K ad) := by
  refine ⟨f, fd, hm, F.kp, F.binds (ps := ["ship", "later"]) (fun _ _ _ _ _ _ us hl => match us, hl with | [_, _], _ => rfl), F.ok sc_least_before (fun vs H Q E => ?_) (fun cdv A outer s H vs Q E hr h => ⟨_, (pss_cons (ps_set (i := 2) sc_least_before.nd rfl (Or.inl rfl) (pe_callB (call_max2 rfl) (by rfl) T.b_max (by decide +kernel) (pa_cons pe_int (pa_cons (pe_op op_sub (pe_fld (pv 0) rfl) (pe_fld (pv 0) rfl)) pa_nil)))) (pss_one (ps_ret (pe_ifExp (pt_cmpR op_ge (pe_fld (pv 0) rfl) (pv 1) (nomark _)) (pv 2) (pe_callB (call_max2 rfl) (by rfl) T.b_max (by decide +kernel) (pa_cons (pv 2) (pa_cons (pv 1) pa_nil))))))), ?_⟩)⟩
  · first | (rintro ⟨_, rfl, _⟩; rfl) | (rintro ⟨_, _, rfl, _⟩; rfl) | (rintro ⟨_, _, _, rfl, _⟩; rfl) | (rintro ⟨_, _, _, _, rfl, _⟩; rfl) | (rintro ⟨_, _, _, _, _, rfl, _⟩; rfl) | (rintro ⟨_, _, _, _, _, _, rfl, _⟩; rfl) | (rintro ⟨_, _, _, _, _, _, _, rfl, _⟩; rfl) | (rintro ⟨_, _, _, _, _, _, _, _, rfl, _⟩; rfl) | (rintro ⟨_, _, _, _, _, _, _, _, _, rfl, _⟩; rfl)
  · obtain ⟨a, s, later, rfl, ⟨dx, hs⟩, k⟩ := h
    refine ⟨_, rfl, a, ad.S, dx, _, _, rfl, hs, T.clS, T.nS_beam, shF_beam s, _, rfl, a, ad.S, dx, _, _, rfl, hs, T.clS, T.nS_clear, shF_clear s, _, _, rfl, rfl, _, _, rfl, ?_⟩
    refine ⟨_, rfl, a, ad.S, dx, _, _, rfl, hs, T.clS, T.nS_beam, shF_beam s, _, rfl, _, _, rfl, rfl, _, rfl, ?_⟩
    refine if_by (fun e1 => ?_) (fun e1 => ?_)
    · have h1 : (later : Int) ≤ (s.beam : Int) := of_decide_eq_true e1
      refine ⟨_, rfl, ?_⟩
      show Q (V.int (if ((s.beam : Int) - (s.selfClearance : Int)) > 0 then (s.beam : Int) - (s.selfClearance : Int) else 0)) H
      rw [max_ints]
      have e : leastBefore s later = s.beam - s.selfClearance := if_pos (by omega)
      rw [e] at k
      exact k
    · have h1 : ¬ (later : Int) ≤ (s.beam : Int) := of_decide_eq_false e1
      refine ⟨_, rfl, _, rfl, _, _, rfl, ?_⟩
      show Q (V.int (if (later : Int) > (if ((s.beam : Int) - (s.selfClearance : Int)) > 0 then (s.beam : Int) - (s.selfClearance : Int) else 0) then (later : Int) else (if ((s.beam : Int) - (s.selfClearance : Int)) > 0 then (s.beam : Int) - (s.selfClearance : Int) else 0))) H
      rw [max_ints, max_nats]
      have e : leastBefore s later = max (s.beam - s.selfClearance) later := if_neg (by omega)
      rw [e] at k
      exact k
theorem has_need_with_first {f : Addr} {fd : FuncData} (F : Fun K "need_with_first" "need_with_first" s_need_with_first f fd) (hm : mg "need_with_first" = some (.ref f)) (T : Txt P w K mg ad)
    (h_least_before : Has P w K mg base "least_before" CX0 1 ["ship", "later"] (sp_least_before K ad))
    : Has P w K mg base "need_with_first" CX0 2 ["ship", "later", "closing"] (sp_need_with_first K ad) := by
  refine ⟨f, fd, hm, F.kp, F.binds (ps := ["ship", "later", "closing"]) (fun _ _ _ _ _ _ us hl => match us, hl with | [_, _, _], _ => rfl), F.ok sc_need_with_first (fun vs H Q E => ?_) (fun cdv A outer s H vs Q E hr h => ⟨_, (pss_cons (ps_set (i := 3) sc_need_with_first.nd rfl (Or.inl rfl) (pe_callH h_least_before hr pass0 (pa_cons (pv 0) (pa_cons (pv 1) pa_nil)))) (pss_one (ps_ret (pe_ifExp (pt_cmpR op_eq (pv 3) pe_int (nomark _)) pe_int (pe_op op_add (pv 3) (pv 2)))))), ?_⟩)⟩
  · first | (rintro ⟨_, rfl, _⟩; rfl) | (rintro ⟨_, _, rfl, _⟩; rfl) | (rintro ⟨_, _, _, rfl, _⟩; rfl) | (rintro ⟨_, _, _, _, rfl, _⟩; rfl) | (rintro ⟨_, _, _, _, _, rfl, _⟩; rfl) | (rintro ⟨_, _, _, _, _, _, rfl, _⟩; rfl) | (rintro ⟨_, _, _, _, _, _, _, rfl, _⟩; rfl) | (rintro ⟨_, _, _, _, _, _, _, _, rfl, _⟩; rfl) | (rintro ⟨_, _, _, _, _, _, _, _, _, rfl, _⟩; rfl)
  · obtain ⟨a, s, later, closing, rfl, hs, k⟩ := h
    refine ⟨_, rfl, _, rfl, a, s, later, rfl, hs, ?_⟩
    refine ⟨_, rfl, rfl, _, rfl, ?_⟩
    refine if_by (fun e1 => ?_) (fun e1 => ?_)
    · have h1 : leastBefore s later = 0 := of_decide_eq_true (by rw [← dec_iv]; exact e1)
      have e : needWith s later closing = 0 := if_pos h1
      rw [e] at k
      exact k
    · have h1 : ¬ leastBefore s later = 0 := of_decide_eq_false (by rw [← dec_iv]; exact e1)
      have e : needWith s later closing = leastBefore s later + closing := if_neg h1
      rw [e] at k
      exact ⟨_, rfl, _, rfl, _, _, rfl, rfl, k⟩
theorem has_need_of {f : Addr} {fd : FuncData} (F : Fun K "need_of" "need_of" s_need_of f fd) (hm : mg "need_of" = some (.ref f)) (T : Txt P w K mg ad)
    (h_members : Has P w K mg base "members" CX0 2 ["ship_set", "many"] (sp_members K ad))
    (h_without : Has P w K mg base "without" CX0 1 ["ship_set", "number"] (sp_without K ad))
    (h_need_with_first : Has P w K mg base "need_with_first" CX0 2 ["ship", "later", "closing"] (sp_need_with_first K ad))
    : Has P w K mg base "need_of" CX0 3 ["ships", "closing", "table", "ship_set"] (sp_need_of K ad) := by
  refine ⟨f, fd, hm, F.kp, F.binds (ps := ["ships", "closing", "table", "ship_set"]) (fun _ _ _ _ _ _ us hl => match us, hl with | [_, _, _, _], _ => rfl), F.ok sc_need_of (fun vs H Q E => ?_) (fun cdv A outer s H vs Q E hr h => ⟨_, (pss_cons (ps_set (i := 4) sc_need_of.nd rfl (Or.inl rfl) (pe_lst pa_nil)) (pss_cons (ps_for PassesOwn.never rfl (pi_list (pe_callH h_members hr pass0 (pa_cons (pv 3) (pa_cons (pe_callB call_len_seq (by rfl) T.b_len (by decide +kernel) (pa_cons (pv 0) pa_nil)) pa_nil)))) (pg_name (i := 5) sc_need_of.nd rfl (Or.inl rfl)) (pss_one (ps_expr (pe_bm PySem.F.plainAttrs_list PySem.F.slot_list_append PySem.F.type_list_append mt_append (pv 4) (pa_cons (pe_callH h_need_with_first hr pass0 (pa_cons (pe_ix ix_list (pv 0) (pv 5) (fun _ _ => rfl)) (pa_cons (pe_ix ix_list (pv 2) (pe_callH h_without hr pass0 (pa_cons (pv 3) (pa_cons (pv 5) pa_nil))) (fun _ _ => rfl)) (pa_cons (pv 1) pa_nil)))) pa_nil))))) (pss_one (ps_ret (pe_callB (cr_min rfl) (by rfl) T.b_min (by decide +kernel) (pa_cons (pv 4) pa_nil)))))), ?_⟩)⟩
  · first | (rintro ⟨_, rfl, _⟩; rfl) | (rintro ⟨_, _, rfl, _⟩; rfl) | (rintro ⟨_, _, _, rfl, _⟩; rfl) | (rintro ⟨_, _, _, _, rfl, _⟩; rfl) | (rintro ⟨_, _, _, _, _, rfl, _⟩; rfl) | (rintro ⟨_, _, _, _, _, _, rfl, _⟩; rfl) | (rintro ⟨_, _, _, _, _, _, _, rfl, _⟩; rfl) | (rintro ⟨_, _, _, _, _, _, _, _, rfl, _⟩; rfl) | (rintro ⟨_, _, _, _, _, _, _, _, _, rfl, _⟩; rfl)
  · obtain ⟨a, t, ships, closing, tbl, s, rfl, ⟨as, hS, hL⟩, hT, hn, hs, h0, hlen, k⟩ := h
    refine ⟨Nat.zero_le _, fun D hD => ?_⟩
    have s0 : Same H (upd H D (.lst [])) := Same.new hD
    refine ⟨_, rfl, _, rfl, a, _, rfl, .inl (s0.seq hS), s, ships.length, ?_, by omega, fun p H1 hp s1 h1 => ?_⟩
    · rw [List.length_map, hL.len]
      rfl
    have pD : D ≠ p := ne_of_none upd_same hp
    refine ⟨p, rfl, ⟨_, SqL.of h1⟩, for_list (K := K) (a := p) (xs := ivs (mem ships.length s))
      (fun i σ H' => Same H H' ∧ H' p = some (.lst (ivs (mem ships.length s))) ∧ H' D = some (.lst (ivs (((mem ships.length s).take i).map fun i => needWith (sh ships i) (tbl.getD (s - 2 ^ i) 0) closing))) ∧
        ∃ v, σ = [some (.ref a), some (iv closing), some (.ref t), some (iv s), some (.ref D), v])
      ⟨s0.trans s1, h1, s1 _ _ upd_same, none, rfl⟩ (fun i σ H' _ q => SqL.of q.2.1) ?_ ?_⟩
    · rintro i x σ H' hx ⟨s2, h2, h3, v, rfl⟩
      obtain ⟨j, hj, rfl⟩ := ivs_get hx
      have hjm := mem_in (List.mem_of_getElem? hj)
      obtain ⟨q, hq, hsh⟩ := (hL.same s2).get hjm.1
      have hb : 2 ^ j ≤ s := Nat.ge_two_pow_of_testBit hjm.2
      have hb2 := two_pow_pos' j
      have hlt : s - 2 ^ j < tbl.length := by omega
      refine ⟨_, rfl, .inl ⟨rfl, _, SqL.of h3⟩, _, rfl, _, rfl, a, _, _, _, rfl, rfl, s2.seq hS, atI_nat hq, _, rfl, _, rfl, _, rfl, s, j, rfl, by omega, hb, t, _, _, _, rfl, rfl, s2.seq hT, atI_nat (ivs_at hlt), _, rfl,
        q, _, _, closing, rfl, hsh, D, _, _, rfl, rfl, h3, ?_, ?_⟩
      · rw [ivs_len, List.length_map, List.length_take]
        have := mem_len ships.length s
        exact small1000 (by omega)
      · refine ⟨fun b o e => ?_, ?_, ?_, _, rfl⟩
        · rw [upd_ne (ne_of_none e hD)]
          exact s2 b o e
        · rw [upd_ne (Ne.symm pD)]
          exact h2
        · rw [upd_same, ivs_more hj]
    · rintro σ H' ⟨s2, h2, h3, v, rfl⟩
      rw [ivs_len, List.take_length, ivs_ints] at h3
      refine ⟨_, rfl, D, _, rfl, SqL.of h3, ?_, fun m hm hle => ?_⟩
      · rw [List.length_map, List.length_map, List.length_pos_iff]
        rw [mem_eq hn hs]
        exact fun e => by
          have := members_nil_all s (Nat.lt_of_lt_of_le hs (pow_le_128 hn)) e
          omega
      · obtain ⟨m', hm', rfl⟩ := List.mem_map.mp hm
        have e : m' = needOf ships closing tbl s := minL_of hm' fun x hx => Int.ofNat_le.mp (hle _ (List.mem_map.mpr ⟨x, hx, rfl⟩))
        rw [e]
        exact k H' s2
theorem has_needs {f : Addr} {fd : FuncData} (F : Fun K "needs" "needs" s_needs f fd) (hm : mg "needs" = some (.ref f)) (T : Txt P w K mg ad)
    (h_set_count : Has P w K mg base "set_count" CX0 1 ["many"] (sp_set_count K ad))
    (h_need_of : Has P w K mg base "need_of" CX0 3 ["ships", "closing", "table", "ship_set"] (sp_need_of K ad))
    : Has P w K mg base "needs" CX0 4 ["ships", "closing"] (sp_needs K ad) := by
  refine ⟨f, fd, hm, F.kp, F.binds (ps := ["ships", "closing"]) (fun _ _ _ _ _ _ us hl => match us, hl with | [_, _], _ => rfl), F.ok sc_needs (fun vs H Q E => ?_) (fun cdv A outer s H vs Q E hr h => ⟨_, (pss_cons (ps_set (i := 2) sc_needs.nd rfl (Or.inl rfl) (pe_lst (pa_cons pe_int pa_nil))) (pss_cons (ps_for PassesOwn.never rfl (pi_range2 (by rfl) T.b_range (pa_cons pe_int (pa_cons (pe_callH h_set_count hr pass0 (pa_cons (pe_callB call_len_seq (by rfl) T.b_len (by decide +kernel) (pa_cons (pv 0) pa_nil)) pa_nil)) pa_nil))) (pg_name (i := 3) sc_needs.nd rfl (Or.inl rfl)) (pss_one (ps_expr (pe_bm PySem.F.plainAttrs_list PySem.F.slot_list_append PySem.F.type_list_append mt_append (pv 2) (pa_cons (pe_callH h_need_of hr pass0 (pa_cons (pv 0) (pa_cons (pv 1) (pa_cons (pv 2) (pa_cons (pv 3) pa_nil))))) pa_nil))))) (pss_one (ps_ret (pv 2))))), ?_⟩)⟩
  · first | (rintro ⟨_, rfl, _⟩; rfl) | (rintro ⟨_, _, rfl, _⟩; rfl) | (rintro ⟨_, _, _, rfl, _⟩; rfl) | (rintro ⟨_, _, _, _, rfl, _⟩; rfl) | (rintro ⟨_, _, _, _, _, rfl, _⟩; rfl) | (rintro ⟨_, _, _, _, _, _, rfl, _⟩; rfl) | (rintro ⟨_, _, _, _, _, _, _, rfl, _⟩; rfl) | (rintro ⟨_, _, _, _, _, _, _, _, rfl, _⟩; rfl) | (rintro ⟨_, _, _, _, _, _, _, _, _, rfl, _⟩; rfl)
  · obtain ⟨a, ships, closing, rfl, ⟨as, hS, hL⟩, hn, k⟩ := h
    refine ⟨(by show 1 ≤ sizeLine; decide), fun D hD => ?_⟩
    have s0 : Same H (upd H D (.lst [V.int 0])) := Same.new hD
    have hp := two_pow_pos' ships.length
    have h128 := pow_le_128 hn
    have b1 : ((2 ^ ships.length : Nat) : Int) < 2 ^ 62 := Int.lt_of_lt_of_le (b := 129) (by omega) (by decide)
    have b2 : -(2 ^ 62) ≤ ((2 ^ ships.length : Nat) : Int) := Int.le_trans (b := 0) (by decide) (Int.natCast_nonneg _)
    have e0 : (((2 ^ ships.length : Nat) : Int) - 1).toNat = 2 ^ ships.length - 1 := by omega
    refine ⟨_, rfl, a, _, rfl, .inl (s0.seq hS), ships.length, ?_, by omega, 1, ((2 ^ ships.length : Nat) : Int), rfl, ⟨by decide, by decide, b2, b1⟩,
      for_range (lo := 1) (n := (((2 ^ ships.length : Nat) : Int) - 1).toNat) (fun i σ H' => Same H H' ∧ H' D = some (.lst (ivs (needsT ships closing i))) ∧ ∃ v, σ = [some (.ref a), some (iv closing), some (.ref D), v]) ⟨s0, upd_same, none, rfl⟩ ?_ ?_⟩
    · rw [List.length_map, hL.len]
      rfl
    · rintro i σ H' hi ⟨s2, h2, v, rfl⟩
      rw [e0] at hi
      have e1 : (1 : Int) + (i : Nat) = ((i + 1 : Nat) : Int) := by omega
      rw [e1]
      refine ⟨_, rfl, .inl ⟨rfl, _, SqL.of h2⟩, _, rfl, _, rfl, _, rfl, _, rfl, a, D, ships, closing, needsT ships closing i, i + 1, rfl, ⟨as, s2.seq hS, hL.same s2⟩, SqL.of h2, hn, by omega, by omega, by rw [needsT_length]; exact Nat.le_refl _, fun H2 s3 => ?_⟩
      refine ⟨D, _, _, rfl, rfl, s3 _ _ h2, ?_, fun b o e => ?_, ?_, _, rfl⟩
      · rw [ivs_len, needsT_length]
        exact small1000 (by omega)
      · rw [upd_ne (ne_of_none e hD)]
        exact s3 _ _ (s2 b o e)
      · rw [upd_same]
        exact congrArg (fun q => some (HO.lst q)) (ivs_snoc _ _).symm
    · rintro σ H' ⟨s2, h2, v, rfl⟩
      rw [e0] at h2
      exact ⟨_, rfl, k D H' hD s2 h2⟩
theorem has_feasible_sets {f : Addr} {fd : FuncData} (F : Fun K "feasible_sets" "feasible_sets" s_feasible_sets f fd) (hm : mg "feasible_sets" = some (.ref f)) (T : Txt P w K mg ad)
    : Has P w K mg base "feasible_sets" CX0 1 ["table", "previous"] (sp_feasible_sets K ad) := by
  refine ⟨f, fd, hm, F.kp, F.binds (ps := ["table", "previous"]) (fun _ _ _ _ _ _ us hl => match us, hl with | [_, _], _ => rfl), F.ok sc_feasible_sets (fun vs H Q E => ?_) (fun cdv A outer s H vs Q E hr h => ⟨_, (pss_one (ps_ret (pe_lc (own := [("ship_set", 2), ("need", 3)]) (g := gTup K 2 (gCons (gName 2) (gCons (gName 3) gNil))) (tt := (tTest (tOp (rI0 fun i j => V.bl (decide (i ≤ j))) (tVar 3) (tVar 1)))) (te := (tVar 2)) (by rfl) sc_feasible_sets.nd (pi_enum (by rfl) T.b_enumerate (pa_cons (pv 0) pa_nil)) (blkOk_by (own := [("ship_set", 2), ("need", 3)]) (N := N_feasible_sets) (sc := defScope s_feasible_sets) (by decide +kernel)) (fun _ _ _ _ _ => by exact pg_tup rfl (pgs_cons (pg_name (i := 2) sc_feasible_sets.nd rfl (Or.inl rfl)) (pgs_cons (pg_name (i := 3) sc_feasible_sets.nd rfl (Or.inl rfl)) pgs_nil))) (fun _ _ _ _ _ => by exact pts_one (pt_cmpR op_le (pv 3) (pv 1) (nomark _))) (fun _ _ _ _ _ => by exact (pv 2))))), ?_⟩)⟩
  · first | (rintro ⟨_, rfl, _⟩; rfl) | (rintro ⟨_, _, rfl, _⟩; rfl) | (rintro ⟨_, _, _, rfl, _⟩; rfl) | (rintro ⟨_, _, _, _, rfl, _⟩; rfl) | (rintro ⟨_, _, _, _, _, rfl, _⟩; rfl) | (rintro ⟨_, _, _, _, _, _, rfl, _⟩; rfl) | (rintro ⟨_, _, _, _, _, _, _, rfl, _⟩; rfl) | (rintro ⟨_, _, _, _, _, _, _, _, rfl, _⟩; rfl) | (rintro ⟨_, _, _, _, _, _, _, _, _, rfl, _⟩; rfl)
  · obtain ⟨t, tbl, w, rfl, hT, hlen, k⟩ := h
    refine ⟨_, rfl, t, _, rfl, hT, fun D hD => lc_it (walk_enum (K := K) (a := t) (xs := ivs tbl)) (fun i H' => Same H H' ∧ H' D = some (.lst (ivs ((List.range i).filter fun s => decide (tbl.getD s 0 ≤ w))))) ⟨Same.new hD, upd_same⟩ (fun i H' _ q => Same.seq q.1 hT) ?_ ?_⟩
    · rintro i x H' H2 hi ⟨s2, h2⟩ ⟨T, x1, y1, rfl, hTn, rfl, e1, e2⟩
      cases e1
      rw [ivs_len] at hi
      have e2 : (ivs tbl)[i]? = some y1 := e2
      rw [ivs_at hi] at e2
      cases e2
      have hTD : D ≠ T := ne_of_none h2 hTn
      refine ⟨T, _, rfl, SqT.of upd_same, rfl, _, _, rfl, _, _, rfl, rfl, rfl, _, rfl, _, rfl, _, _, rfl, rfl, _, rfl, ?_⟩
      have s3 : Same H (upd H' T (.tup [.int (i : Nat), iv (tbl.getD i 0)])) := fun b o e => by
        have := s2 b o e
        rw [upd_ne (ne_of_none this hTn)]
        exact this
      rw [dec_le]
      refine if_by (fun e => ?_) (fun e => ?_)
      · refine ⟨_, rfl, _, (upd_ne hTD).trans h2, ?_, Same.put s3 hD, ?_⟩
        · rw [ivs_len]
          have := List.length_filter_le (fun s => decide (tbl.getD s 0 ≤ w)) (List.range i)
          rw [List.length_range] at this
          exact small1000 (by omega)
        · rw [upd_same, List.range_succ, List.filter_append, List.filter_cons_of_pos (p := fun s => decide (tbl.getD s 0 ≤ w)) e, List.filter_nil]
          exact congrArg (fun q => some (HO.lst q)) (ivs_snoc _ _).symm
      · refine ⟨s3, (upd_ne hTD).trans ?_⟩
        rw [h2, List.range_succ, List.filter_append, List.filter_cons_of_neg (p := fun s => decide (tbl.getD s 0 ≤ w)) (by rw [e]; exact Bool.false_ne_true), List.filter_nil, List.append_nil]
    · rintro H' ⟨s2, h2⟩
      rw [ivs_len] at h2
      exact k D H' hD s2 h2
theorem has_first_greatest {f : Addr} {fd : FuncData} (F : Fun K "first_greatest" "first_greatest" s_first_greatest f fd) (hm : mg "first_greatest" = some (.ref f)) (T : Txt P w K mg ad)
    : Has P w K mg base "first_greatest" CX0 1 ["numbers", "sizes"] (sp_first_greatest K ad) := by
  refine ⟨f, fd, hm, F.kp, F.binds (ps := ["numbers", "sizes"]) (fun _ _ _ _ _ _ us hl => match us, hl with | [_, _], _ => rfl), F.ok sc_first_greatest (fun vs H Q E => ?_) (fun cdv A outer s H vs Q E hr h => ⟨_, (pss_one (ps_ret (pe_ix ix_list (pv 0) (pe_bm PySem.F.plainAttrs_list PySem.F.slot_list_index PySem.F.type_list_index mt_index (pv 1) (pa_cons (pe_callB (cr_max rfl) (by rfl) T.b_max (by decide +kernel) (pa_cons (pv 1) pa_nil)) pa_nil)) (fun _ _ => rfl)))), ?_⟩)⟩
  · first | (rintro ⟨_, rfl, _⟩; rfl) | (rintro ⟨_, _, rfl, _⟩; rfl) | (rintro ⟨_, _, _, rfl, _⟩; rfl) | (rintro ⟨_, _, _, _, rfl, _⟩; rfl) | (rintro ⟨_, _, _, _, _, rfl, _⟩; rfl) | (rintro ⟨_, _, _, _, _, _, rfl, _⟩; rfl) | (rintro ⟨_, _, _, _, _, _, _, rfl, _⟩; rfl) | (rintro ⟨_, _, _, _, _, _, _, _, rfl, _⟩; rfl) | (rintro ⟨_, _, _, _, _, _, _, _, _, rfl, _⟩; rfl)
  · obtain ⟨a, b, ns, score, rfl, hA, hB, hne, k⟩ := h
    have hB' := hB
    rw [ivs_ints] at hB'
    refine ⟨_, rfl, _, rfl, .inl ⟨rfl, _, hB⟩, _, rfl, b, _, rfl, hB', ?_, fun m hm hle => ?_⟩
    · rw [List.length_map, List.length_map]
      exact List.length_pos_iff.mpr hne
    · obtain ⟨m', hm', rfl⟩ := List.mem_map.mp hm
      obtain ⟨j, hj, hno⟩ := first_at hm'
      rw [List.getElem?_map] at hj
      cases e : ns[j]? with
      | none =>
        rw [e] at hj
        cases hj
      | some x =>
        rw [e] at hj
        have ex : score x = m' := Option.some.inj hj
        subst ex
        refine ⟨b, _, _, j, iv (score x), rfl, rfl, hB, rfl, ?_, ?_, ?_, fun i z' hi hz => ?_, a, _, _, iv x, rfl, rfl, hA, atI_nat ?_, k j x e (fun s hs => ?_) (fun i y hi hy => ?_)⟩
        · rw [List.all_eq_true]
          intro z hz
          obtain ⟨q, _, rfl⟩ := List.mem_map.mp hz
          rfl
        · rw [List.getElem?_map, List.getElem?_map, e]
          rfl
        · show ((score x : Int) == (score x : Int)) = true
          exact beq_self_eq_true _
        · obtain ⟨q, hq, rfl⟩ := ivs_get hz
          show ((q : Int) == (score x : Int)) = false
          refine beq_eq_false_iff_ne.mpr fun z => ?_
          have hqx : q = score x := by omega
          rw [hqx] at hq
          exact hno i hi hq
        · rw [List.getElem?_map, e]
          rfl
        · exact Int.ofNat_le.mp (hle _ (List.mem_map.mpr ⟨_, List.mem_map.mpr ⟨s, hs, rfl⟩, rfl⟩))
        · intro z
          refine hno i hi ?_
          rw [List.getElem?_map, hy]
          exact congrArg some z
theorem has_largest_set {f : Addr} {fd : FuncData} (F : Fun K "largest_set" "largest_set" s_largest_set f fd) (hm : mg "largest_set" = some (.ref f)) (T : Txt P w K mg ad)
    (h_size_of : Has P w K mg base "size_of" CX0 3 ["ship_set", "many"] (sp_size_of K ad))
    (h_needs : Has P w K mg base "needs" CX0 4 ["ships", "closing"] (sp_needs K ad))
    (h_feasible_sets : Has P w K mg base "feasible_sets" CX0 1 ["table", "previous"] (sp_feasible_sets K ad))
    (h_first_greatest : Has P w K mg base "first_greatest" CX0 1 ["numbers", "sizes"] (sp_first_greatest K ad))
    : Has P w K mg base "largest_set" CX0 5 ["ships", "closing", "previous"] (sp_largest_set K ad) := by
  refine ⟨f, fd, hm, F.kp, F.binds (ps := ["ships", "closing", "previous"]) (fun _ _ _ _ _ _ us hl => match us, hl with | [_, _, _], _ => rfl), F.ok sc_largest_set (fun vs H Q E => ?_) (fun cdv A outer s H vs Q E hr h => ⟨_, (pss_cons (ps_set (i := 3) sc_largest_set.nd rfl (Or.inl rfl) (pe_callH h_feasible_sets hr pass0 (pa_cons (pe_callH h_needs hr pass0 (pa_cons (pv 0) (pa_cons (pv 1) pa_nil))) (pa_cons (pv 2) pa_nil)))) (pss_one (ps_ret (pe_callH h_first_greatest hr pass0 (pa_cons (pv 3) (pa_cons (pe_lc (own := [("ship_set", 4)]) (g := gName 4) (tt := tYes) (te := (tCall (sp_size_of K ad) [] E0 (tCons (tVar 4) (tCons (tCB (fun xs H Q => ∃ p ys, xs = [V.ref p] ∧ (SqL K H p ys ∨ SqT K H p ys) ∧ Q (V.int ys.length) H) (tCons (tVar 0) tNil)) tNil)))) (by rfl) sc_largest_set.nd (pi_list (pv 3)) (blkOk_by (own := [("ship_set", 4)]) (N := N_largest_set) (sc := defScope s_largest_set) (by decide +kernel)) (fun _ _ _ _ _ => by exact pg_name (i := 4) sc_largest_set.nd rfl (Or.inl rfl)) (fun _ _ _ _ _ => by exact pts_nil) (fun _ _ _ _ _ => by exact (pe_callH h_size_of hr pass0 (pa_cons (pv 4) (pa_cons (pe_callB call_len_seq (by rfl) T.b_len (by decide +kernel) (pa_cons (pv 0) pa_nil)) pa_nil))))) pa_nil)))))), ?_⟩)⟩
  · first | (rintro ⟨_, rfl, _⟩; rfl) | (rintro ⟨_, _, rfl, _⟩; rfl) | (rintro ⟨_, _, _, rfl, _⟩; rfl) | (rintro ⟨_, _, _, _, rfl, _⟩; rfl) | (rintro ⟨_, _, _, _, _, rfl, _⟩; rfl) | (rintro ⟨_, _, _, _, _, _, rfl, _⟩; rfl) | (rintro ⟨_, _, _, _, _, _, _, rfl, _⟩; rfl) | (rintro ⟨_, _, _, _, _, _, _, _, rfl, _⟩; rfl) | (rintro ⟨_, _, _, _, _, _, _, _, _, rfl, _⟩; rfl)
  · obtain ⟨a, f, rfl, hS, hn, k⟩ := h
    refine ⟨_, rfl, _, rfl, a, f.ships, f.closing, rfl, hS, hn, fun p H1 hp s1 h1 => ⟨_, rfl, p, _, Km560.startWidth f, rfl, SqL.of h1, ?_, fun q H2 hq s2 h2 => ?_⟩⟩
    · rw [needs_length]
      exact Nat.le_trans (pow_le_128 hn) (by decide)
    rw [feas_eq] at h2
    obtain ⟨as, hS2, hL⟩ := hS.same (s1.trans s2)
    refine ⟨_, rfl, _, rfl, q, rfl, ⟨_, SqL.of h2⟩, fun D hD => lc_list (K := K) (a := q) (xs := ivs (feas f))
      (fun i H' => Same H2 H' ∧ H' D = some (.lst (ivs (((feas f).take i).map Km560.setSize)))) ⟨Same.new hD, upd_same⟩ (fun i H' _ z => SqL.of (z.1 _ _ h2)) ?_ ?_⟩
    · rintro i x H' hx ⟨s3, h3⟩
      obtain ⟨s, hs, rfl⟩ := ivs_get hx
      have hsf := mem_feas.mp (List.mem_of_getElem? hs)
      refine ⟨rfl, tyes ?_⟩
      refine ⟨_, rfl, _, rfl, a, _, rfl, .inl (s3.seq hS2), s, f.ships.length, ?_, by omega, fun H4 s4 => ⟨_, s4 _ _ h3, ?_, Same.put (s3.trans s4) hD, ?_⟩⟩
      · rw [List.length_map, hL.len]
        rfl
      · rw [ivs_len, List.length_map, List.length_take]
        have := feas_len hn
        exact small1000 (by omega)
      · rw [upd_same, ivs_more hs, mem_eq hn hsf.1]
        rfl
    · rintro H' ⟨s3, h3⟩
      rw [ivs_len, List.take_length] at h3
      refine ⟨q, D, feas f, Km560.setSize, rfl, SqL.of (s3 _ _ h2), SqL.of h3, List.ne_nil_of_mem (zero_feas f), fun j x hj hmax hfirst => ?_⟩
      rw [best_pick hn Km560.setSize setSize_zero hj hmax hfirst]
      exact k H' ((s1.trans s2).trans s3)
theorem has_most_valuable_set {f : Addr} {fd : FuncData} (F : Fun K "most_valuable_set" "most_valuable_set" s_most_valuable_set f fd) (hm : mg "most_valuable_set" = some (.ref f)) (T : Txt P w K mg ad)
    (h_worth_of : Has P w K mg base "worth_of" CX0 3 ["ships", "ship_set"] (sp_worth_of K ad))
    (h_needs : Has P w K mg base "needs" CX0 4 ["ships", "closing"] (sp_needs K ad))
    (h_feasible_sets : Has P w K mg base "feasible_sets" CX0 1 ["table", "previous"] (sp_feasible_sets K ad))
    (h_first_greatest : Has P w K mg base "first_greatest" CX0 1 ["numbers", "sizes"] (sp_first_greatest K ad))
    : Has P w K mg base "most_valuable_set" CX0 5 ["ships", "closing", "previous"] (sp_most_valuable_set K ad) := by
  refine ⟨f, fd, hm, F.kp, F.binds (ps := ["ships", "closing", "previous"]) (fun _ _ _ _ _ _ us hl => match us, hl with | [_, _, _], _ => rfl), F.ok sc_most_valuable_set (fun vs H Q E => ?_) (fun cdv A outer s H vs Q E hr h => ⟨_, (pss_cons (ps_set (i := 3) sc_most_valuable_set.nd rfl (Or.inl rfl) (pe_callH h_feasible_sets hr pass0 (pa_cons (pe_callH h_needs hr pass0 (pa_cons (pv 0) (pa_cons (pv 1) pa_nil))) (pa_cons (pv 2) pa_nil)))) (pss_one (ps_ret (pe_callH h_first_greatest hr pass0 (pa_cons (pv 3) (pa_cons (pe_lc (own := [("ship_set", 4)]) (g := gName 4) (tt := tYes) (te := (tCall (sp_worth_of K ad) [] E0 (tCons (tVar 0) (tCons (tVar 4) tNil)))) (by rfl) sc_most_valuable_set.nd (pi_list (pv 3)) (blkOk_by (own := [("ship_set", 4)]) (N := N_most_valuable_set) (sc := defScope s_most_valuable_set) (by decide +kernel)) (fun _ _ _ _ _ => by exact pg_name (i := 4) sc_most_valuable_set.nd rfl (Or.inl rfl)) (fun _ _ _ _ _ => by exact pts_nil) (fun _ _ _ _ _ => by exact (pe_callH h_worth_of hr pass0 (pa_cons (pv 0) (pa_cons (pv 4) pa_nil))))) pa_nil)))))), ?_⟩)⟩
  · first | (rintro ⟨_, rfl, _⟩; rfl) | (rintro ⟨_, _, rfl, _⟩; rfl) | (rintro ⟨_, _, _, rfl, _⟩; rfl) | (rintro ⟨_, _, _, _, rfl, _⟩; rfl) | (rintro ⟨_, _, _, _, _, rfl, _⟩; rfl) | (rintro ⟨_, _, _, _, _, _, rfl, _⟩; rfl) | (rintro ⟨_, _, _, _, _, _, _, rfl, _⟩; rfl) | (rintro ⟨_, _, _, _, _, _, _, _, rfl, _⟩; rfl) | (rintro ⟨_, _, _, _, _, _, _, _, _, rfl, _⟩; rfl)
  · obtain ⟨a, f, rfl, hS, hn, k⟩ := h
    refine ⟨_, rfl, _, rfl, a, f.ships, f.closing, rfl, hS, hn, fun p H1 hp s1 h1 => ⟨_, rfl, p, _, Km560.startWidth f, rfl, SqL.of h1, ?_, fun q H2 hq s2 h2 => ?_⟩⟩
    · rw [needs_length]
      exact Nat.le_trans (pow_le_128 hn) (by decide)
    rw [feas_eq] at h2
    have hS2 := hS.same (s1.trans s2)
    refine ⟨_, rfl, _, rfl, q, rfl, ⟨_, SqL.of h2⟩, fun D hD => lc_list (K := K) (a := q) (xs := ivs (feas f))
      (fun i H' => Same H2 H' ∧ H' D = some (.lst (ivs (((feas f).take i).map (Km560.setValue f))))) ⟨Same.new hD, upd_same⟩ (fun i H' _ z => SqL.of (z.1 _ _ h2)) ?_ ?_⟩
    · rintro i x H' hx ⟨s3, h3⟩
      obtain ⟨s, hs, rfl⟩ := ivs_get hx
      have hsf := mem_feas.mp (List.mem_of_getElem? hs)
      refine ⟨rfl, tyes ?_⟩
      refine ⟨_, rfl, _, rfl, a, f.ships, s, rfl, hS2.same s3, by omega, fun H4 s4 => ⟨_, s4 _ _ h3, ?_, Same.put (Same.trans s3 s4) hD, ?_⟩⟩
      · rw [ivs_len, List.length_map, List.length_take]
        have := feas_len hn
        exact small1000 (by omega)
      · rw [upd_same, ivs_more hs, mem_eq hn hsf.1]
        show _ = some (HO.lst (_ ++ [iv (Km560.sum _)]))
        rw [sum_eq]
        rfl
    · rintro H' ⟨s3, h3⟩
      rw [ivs_len, List.take_length] at h3
      refine ⟨q, D, feas f, Km560.setValue f, rfl, SqL.of (s3 _ _ h2), SqL.of h3, List.ne_nil_of_mem (zero_feas f), fun j x hj hmax hfirst => ?_⟩
      rw [best_pick hn (Km560.setValue f) (setValue_zero f) hj hmax hfirst]
      exact k H' ((s1.trans s2).trans s3)
end
end Ice
/-! # Part D: orders -/
namespace Ice
open PySem PySem.Spec PyProof.Rows L2
open IceM
open Km560 (Fleet)
abbrev s_is_feasible_order : Stmt := top 36
abbrev N_is_feasible_order : List Str := ["ships", "order", "previous", "closing", "number"]
theorem sc_is_feasible_order : FnScope N_is_feasible_order ["ships", "order", "previous", "closing"] (defScope s_is_feasible_order) := ⟨rfl, rfl, rfl, by decide +kernel, rfl, by decide +kernel, by decide +kernel⟩
abbrev s_widths_along : Stmt := top 37
abbrev N_widths_along : List Str := ["ships", "order", "previous", "closing", "found", "number"]
theorem sc_widths_along : FnScope N_widths_along ["ships", "order", "previous", "closing"] (defScope s_widths_along) := ⟨rfl, rfl, rfl, by decide +kernel, rfl, by decide +kernel, by decide +kernel⟩
abbrev s_next_in_order : Stmt := top 40
abbrev N_next_in_order : List Str := ["ships", "closing", "table", "ship_set", "previous", "number"]
theorem sc_next_in_order : FnScope N_next_in_order ["ships", "closing", "table", "ship_set", "previous"] (defScope s_next_in_order) := ⟨rfl, rfl, rfl, by decide +kernel, rfl, by decide +kernel, by decide +kernel⟩
abbrev s_first_order : Stmt := top 41
abbrev N_first_order : List Str := ["ships", "closing", "ship_set", "previous", "table", "found", "turn", "number"]
theorem sc_first_order : FnScope N_first_order ["ships", "closing", "ship_set", "previous"] (defScope s_first_order) := ⟨rfl, rfl, rfl, by decide +kernel, rfl, by decide +kernel, by decide +kernel⟩
abbrev s_widest_of : Stmt := top 42
abbrev N_widest_of : List Str := ["ships", "closing", "table", "ship_set", "found", "number", "previous"]
theorem sc_widest_of : FnScope N_widest_of ["ships", "closing", "table", "ship_set"] (defScope s_widest_of) := ⟨rfl, rfl, rfl, by decide +kernel, rfl, by decide +kernel, by decide +kernel⟩
abbrev s_widest : Stmt := top 43
abbrev N_widest : List Str := ["ships", "closing", "previous", "table", "ship_set"]
theorem sc_widest : FnScope N_widest ["ships", "closing", "previous"] (defScope s_widest) := ⟨rfl, rfl, rfl, by decide +kernel, rfl, by decide +kernel, by decide +kernel⟩
/-- widths, one less than the table of the specification has them -/
def wvs (l : List Nat) : List V := l.map fun (t : Nat) => V.int ((t : Int) - 1)
theorem wvs_len (l : List Nat) : (wvs l).length = l.length := List.length_map ..
theorem wvs_snoc (l : List Nat) (n : Nat) : wvs (l ++ [n]) = wvs l ++ [V.int ((n : Int) - 1)] := by
  unfold wvs
  rw [List.map_append]
  rfl
theorem wvs_at {l : List Nat} {i : Nat} (h : i < l.length) : (wvs l)[i]? = some (V.int (((l.getD i 0 : Nat) : Int) - 1)) := by
  unfold wvs
  rw [List.getElem?_map, List.getElem?_eq_getElem h, List.getD_eq_getElem?_getD, List.getElem?_eq_getElem h]
  rfl
def sp_is_feasible_order (K : PySem.W.Frag) (ad : Ad) : Sp := fun vs H Q _ => ∃ (a b : Addr) (f : Fleet) (order : List Nat) (w : Nat), vs = [.ref a, .ref b, iv w, iv f.closing] ∧ ShipsAt K ad.S H a f.ships ∧ SqL K H b (ivs order) ∧
  (∀ i ∈ order, i < f.ships.length) ∧ Q (.bl (Km560.widthAfter f w order).isSome) H
def sp_widths_along (K : PySem.W.Frag) (ad : Ad) : Sp := fun vs H Q _ => ∃ (a b : Addr) (f : Fleet) (order : List Nat) (w : Nat), vs = [.ref a, .ref b, iv w, iv f.closing] ∧ ShipsAt K ad.S H a f.ships ∧ SqL K H b (ivs order) ∧
  (∀ i ∈ order, i < f.ships.length) ∧ order.length ≤ 1000 ∧ ∀ p H', H p = none → Same H H' → H' p = some (.lst (ivs (wAlong f w order))) → Q (.ref p) H'
def sp_next_in_order (K : PySem.W.Frag) (ad : Ad) : Sp := fun vs H Q _ => ∃ (a t : Addr) (f : Fleet) (s w : Nat), vs = [.ref a, iv f.closing, .ref t, iv s, iv w] ∧ ShipsAt K ad.S H a f.ships ∧ SqL K H t (ivs (needs f.ships f.closing)) ∧
  f.ships.length ≤ 7 ∧ s < 2 ^ f.ships.length ∧ ∀ H', Same H H' → Q (iv (nextIn f w s)) H'
def sp_first_order (K : PySem.W.Frag) (ad : Ad) : Sp := fun vs H Q _ => ∃ (a : Addr) (f : Fleet) (s w : Nat), vs = [.ref a, iv f.closing, iv s, iv w] ∧ ShipsAt K ad.S H a f.ships ∧ f.ships.length ≤ 7 ∧ s < 2 ^ f.ships.length ∧ need f.ships f.closing s ≤ w ∧
  ∀ p H', H p = none → Same H H' → H' p = some (.lst (ivs (Km560.firstOrderFrom f 7 w s))) → Q (.ref p) H'
def sp_widest_of (K : PySem.W.Frag) (ad : Ad) : Sp := fun vs H Q _ => ∃ (a t : Addr) (f : Fleet) (tbl : List Nat) (s : Nat), vs = [.ref a, iv f.closing, .ref t, iv s] ∧ ShipsAt K ad.S H a f.ships ∧ SqL K H t (wvs tbl) ∧
  f.ships.length ≤ 7 ∧ s < 2 ^ f.ships.length ∧ s ≤ tbl.length ∧ ∀ H', Same H H' → Q (.int (((wStep f tbl s : Nat) : Int) - 1)) H'
def sp_widest (K : PySem.W.Frag) (ad : Ad) : Sp := fun vs H Q _ => ∃ (a : Addr) (f : Fleet), vs = [.ref a, iv f.closing, iv (Km560.startWidth f)] ∧ ShipsAt K ad.S H a f.ships ∧ f.ships.length ≤ 7 ∧
  ∀ p H', H p = none → Same H H' → H' p = some (.lst (wvs (Km560.maxWidthTable f))) → Q (.ref p) H'
theorem wa_append (f : Fleet) : ∀ (l r : List Nat) (w : Nat), Km560.widthAfter f w (l ++ r) = (Km560.widthAfter f w l).bind fun x => Km560.widthAfter f x r
  | [], r, w => rfl
  | j :: l, r, w => by
    show (match Km560.widthAfterShip f w j with | none => none | some next => Km560.widthAfter f next (l ++ r)) = (match Km560.widthAfterShip f w j with | none => none | some next => Km560.widthAfter f next l).bind _
    cases Km560.widthAfterShip f w j with
    | none => rfl
    | some x => exact wa_append f l r x
theorem wAlong_snoc (f : Fleet) (i : Nat) : ∀ (l : List Nat) (w : Nat), wAlong f w (l ++ [i]) = wAlong f w l ++ [widthOf f (lastW f w l) i] ∧ lastW f w (l ++ [i]) = widthOf f (lastW f w l) i
  | [], w => ⟨rfl, rfl⟩
  | j :: l, w => by
    obtain ⟨h1, h2⟩ := wAlong_snoc f i l (widthOf f w j)
    refine ⟨?_, ?_⟩
    · show widthOf f w j :: wAlong f (widthOf f w j) (l ++ [i]) = widthOf f w j :: wAlong f (widthOf f w j) l ++ [_]
      rw [h1, lastW_cons]
      rfl
    · show lastW f w (j :: (l ++ [i])) = _
      rw [lastW_cons, h2, lastW_cons]
theorem find_hit {p : Nat → Bool} : ∀ {l : List Nat} {i j : Nat}, l[i]? = some j → p j = true → (∀ x ∈ l.take i, p x = false) → l.find? p = some j
  | [], _, _, h, _, _ => by simp at h
  | a :: l, 0, j, h, hp, _ => by
    have e : a = j := Option.some.inj h
    subst e
    rw [List.find?_cons, hp]
  | a :: l, i + 1, j, h, hp, hno => by
    have ha : p a = false := hno a List.mem_cons_self
    rw [List.find?_cons, ha]
    exact find_hit (l := l) (i := i) h hp fun x hx => hno x (List.mem_cons_of_mem _ hx)
/-- what the members l give as last ships -/
def cand (f : Fleet) (tbl : List Nat) (s : Nat) (l : List Nat) : List Nat := l.filterMap fun i => match lastGives f (tbl.getD (s - 2 ^ i) 0) i with
  | 0 => none
  | x + 1 => some x
theorem cand_more (f : Fleet) (tbl : List Nat) (s : Nat) {l : List Nat} {i j : Nat} (h : l[i]? = some j) : cand f tbl s (l.take (i + 1)) = match lastGives f (tbl.getD (s - 2 ^ j) 0) j with
  | 0 => cand f tbl s (l.take i)
  | x + 1 => cand f tbl s (l.take i) ++ [x] := by
  unfold cand
  rw [take_more h, List.filterMap_append]
  cases e : lastGives f (tbl.getD (s - 2 ^ j) 0) j with
  | zero =>
    rw [List.filterMap_cons, e]
    exact List.append_nil _
  | succ x =>
    rw [List.filterMap_cons, e]
    rfl
theorem cand_len (f : Fleet) (tbl : List Nat) (s : Nat) (l : List Nat) : (cand f tbl s l).length ≤ l.length := List.length_filterMap_le _ _
theorem mem_cand {f : Fleet} {tbl : List Nat} {s : Nat} {l : List Nat} {x : Nat} : x ∈ cand f tbl s l ↔ ∃ i ∈ l, lastGives f (tbl.getD (s - 2 ^ i) 0) i = x + 1 := by
  unfold cand
  rw [List.mem_filterMap]
  constructor
  · rintro ⟨i, hi, e⟩
    refine ⟨i, hi, ?_⟩
    cases q : lastGives f (tbl.getD (s - 2 ^ i) 0) i with
    | zero => rw [q] at e; cases e
    | succ y => rw [q] at e; rw [Option.some.inj e]
  · rintro ⟨i, hi, e⟩
    exact ⟨i, hi, by rw [e]⟩
theorem cand_max {f : Fleet} {tbl : List Nat} {s : Nat} {m : Int} (hm : m ∈ (-1 : Int) :: (cand f tbl s (Km560.members s)).map fun (n : Nat) => (n : Int)) (hle : ∀ y ∈ (-1 : Int) :: (cand f tbl s (Km560.members s)).map fun (n : Nat) => (n : Int), y ≤ m) :
    m = ((wStep f tbl s : Nat) : Int) - 1 := by
  rw [wStep_eq]
  obtain ⟨h1, _, h3⟩ := foldl_max (fun i => lastGives f (tbl.getD (s - 2 ^ i) 0) i) (Km560.members s) 0
  generalize (Km560.members s).foldl (fun best i => max best (lastGives f (tbl.getD (s - 2 ^ i) 0) i)) 0 = F at h1 h3
  have hc : ∀ x, x ∈ cand f tbl s (Km560.members s) → x + 1 ≤ F ∧ (x : Int) ≤ m := fun x hx => by
    obtain ⟨i, hi, e⟩ := mem_cand.mp hx
    have : lastGives f (tbl.getD (s - 2 ^ i) 0) i ≤ F := h3 i hi
    exact ⟨by omega, hle _ (List.mem_cons_of_mem _ (List.mem_map.mpr ⟨x, hx, rfl⟩))⟩
  have hm1 : -1 ≤ m := hle _ List.mem_cons_self
  have hF : F = 0 ∨ ((F : Int) - 1 ≤ m) := by
    rcases h1 with h1 | ⟨i, hi, h1⟩
    · exact .inl h1
    · cases F with
      | zero => exact .inl rfl
      | succ x =>
        have h1' : x + 1 = lastGives f (tbl.getD (s - 2 ^ i) 0) i := h1
        have := (hc x (mem_cand.mpr ⟨i, hi, h1'.symm⟩)).2
        exact .inr (by omega)
  rcases List.mem_cons.mp hm with rfl | hm
  · rcases hF with h | h <;> omega
  · obtain ⟨x, hx, rfl⟩ := List.mem_map.mp hm
    have := (hc x hx).1
    rcases hF with h | h <;> omega
section
variable {P : Program} {w : World} {K : PySem.W.Frag} {mg : Str → Option Value} {base : Heap} {ad : Ad}
theorem has_is_feasible_order {f : Addr} {fd : FuncData} (F : Fun K "is_feasible_order" "is_feasible_order" s_is_feasible_order f fd) (hm : mg "is_feasible_order" = some (.ref f)) (T : Txt P w K mg ad)
    (h_can_follow : Has P w K mg base "can_follow" CX0 2 ["ship", "previous", "closing"] (sp_can_follow K ad))
    (h_width_after : Has P w K mg base "width_after" CX0 2 ["ship", "previous", "closing"] (sp_width_after K ad))
    : Has P w K mg base "is_feasible_order" CX0 3 ["ships", "order", "previous", "closing"] (sp_is_feasible_order K ad) := by
  refine ⟨f, fd, hm, F.kp, F.binds (ps := ["ships", "order", "previous", "closing"]) (fun _ _ _ _ _ _ us hl => match us, hl with | [_, _, _, _], _ => rfl), F.ok sc_is_feasible_order (fun vs H Q E => ?_) (fun cdv A outer s H vs Q E hr h => ⟨_, (pss_cons (ps_for PassesOwn.never rfl (pi_list (pv 1)) (pg_name (i := 4) sc_is_feasible_order.nd rfl (Or.inl rfl)) (pss_cons (ps_if (pt_not (pt_val (pe_callH h_can_follow hr pass0 (pa_cons (pe_ix ix_list (pv 0) (pv 4) (fun _ _ => rfl)) (pa_cons (pv 2) (pa_cons (pv 3) pa_nil)))))) (pss_one (ps_ret pe_bl)) pss_nil) (pss_one (ps_set (i := 2) sc_is_feasible_order.nd rfl (Or.inl rfl) (pe_callH h_width_after hr pass0 (pa_cons (pe_ix ix_list (pv 0) (pv 4) (fun _ _ => rfl)) (pa_cons (pv 2) (pa_cons (pv 3) pa_nil)))))))) (pss_one (ps_ret pe_bl))), ?_⟩)⟩
  · first | (rintro ⟨_, rfl, _⟩; rfl) | (rintro ⟨_, _, rfl, _⟩; rfl) | (rintro ⟨_, _, _, rfl, _⟩; rfl) | (rintro ⟨_, _, _, _, rfl, _⟩; rfl) | (rintro ⟨_, _, _, _, _, rfl, _⟩; rfl) | (rintro ⟨_, _, _, _, _, _, rfl, _⟩; rfl) | (rintro ⟨_, _, _, _, _, _, _, rfl, _⟩; rfl) | (rintro ⟨_, _, _, _, _, _, _, _, rfl, _⟩; rfl) | (rintro ⟨_, _, _, _, _, _, _, _, _, rfl, _⟩; rfl)
  · obtain ⟨a, b, f, order, w0, rfl, ⟨as, hS, hL⟩, hB, hin, k⟩ := h
    refine ⟨_, rfl, b, rfl, ⟨_, hB⟩, for_list (K := K) (a := b) (xs := ivs order)
      (fun i σ H' => H' = H ∧ ∃ x v, Km560.widthAfter f w0 (order.take i) = some x ∧ σ = [some (.ref a), some (.ref b), some (iv x), some (iv f.closing), v])
      ⟨rfl, w0, none, rfl, rfl⟩ (fun i σ H' _ q => by rw [q.1]; exact hB) ?_ ?_⟩
    · rintro i x σ H' hx ⟨rfl, y, v, hy, rfl⟩
      obtain ⟨j, hj, rfl⟩ := ivs_get hx
      obtain ⟨q, hq, hsh⟩ := hL.get (hin j (List.mem_of_getElem? hj))
      have e2 : order = order.take i ++ j :: order.drop (i + 1) := by
        have h1 : i < order.length := (List.getElem?_eq_some_iff.mp hj).1
        have h2 : order[i] = j := (List.getElem?_eq_some_iff.mp hj).2
        rw [← h2, List.getElem_cons_drop, List.take_append_drop]
      refine ⟨_, rfl, _, rfl, a, _, _, _, rfl, rfl, hS, atI_nat hq, _, rfl, _, rfl, q, _, y, f.closing, rfl, hsh, _, rfl, ?_⟩
      refine if_by (fun e => ?_) (fun e => ?_)
      · have e : decide ((sh f.ships j).beam ≤ (y - f.closing) + (sh f.ships j).selfClearance) = false := by
          cases h : decide ((sh f.ships j).beam ≤ (y - f.closing) + (sh f.ships j).selfClearance) with
          | false => rfl
          | true => rw [h] at e; cases e
        have hn := of_decide_eq_false e
        have : (Km560.widthAfter f w0 order).isSome = false := by
          rw [e2, wa_append, hy]
          show (match Km560.widthAfterShip f y j with | none => none | some next => Km560.widthAfter f next (order.drop (i + 1))).isSome = false
          have : Km560.widthAfterShip f y j = none := if_neg hn
          rw [this]
          rfl
        rw [this] at k
        exact k
      · have e : decide ((sh f.ships j).beam ≤ (y - f.closing) + (sh f.ships j).selfClearance) = true := by
          cases h : decide ((sh f.ships j).beam ≤ (y - f.closing) + (sh f.ships j).selfClearance) with
          | true => rfl
          | false => rw [h] at e; cases e
        have hn := of_decide_eq_true e
        refine ⟨_, rfl, _, rfl, a, _, _, _, rfl, rfl, hS, atI_nat hq, _, rfl, _, rfl, q, _, y, f.closing, rfl, hsh, ?_⟩
        refine ⟨rfl, _, _, ?_, rfl⟩
        rw [take_more hj, wa_append, hy]
        show (match Km560.widthAfterShip f y j with | none => none | some next => some next) = _
        rw [after_some.mpr ⟨hn, rfl⟩]
        rfl
    · rintro σ H' ⟨rfl, y, v, hy, rfl⟩
      rw [ivs_len, List.take_length] at hy
      rw [hy] at k
      exact k
theorem has_widths_along {f : Addr} {fd : FuncData} (F : Fun K "widths_along" "widths_along" s_widths_along f fd) (hm : mg "widths_along" = some (.ref f)) (T : Txt P w K mg ad)
    (h_width_after : Has P w K mg base "width_after" CX0 2 ["ship", "previous", "closing"] (sp_width_after K ad))
    : Has P w K mg base "widths_along" CX0 3 ["ships", "order", "previous", "closing"] (sp_widths_along K ad) := by
  refine ⟨f, fd, hm, F.kp, F.binds (ps := ["ships", "order", "previous", "closing"]) (fun _ _ _ _ _ _ us hl => match us, hl with | [_, _, _, _], _ => rfl), F.ok sc_widths_along (fun vs H Q E => ?_) (fun cdv A outer s H vs Q E hr h => ⟨_, (pss_cons (ps_set (i := 4) sc_widths_along.nd rfl (Or.inl rfl) (pe_lst pa_nil)) (pss_cons (ps_for PassesOwn.never rfl (pi_list (pv 1)) (pg_name (i := 5) sc_widths_along.nd rfl (Or.inl rfl)) (pss_cons (ps_set (i := 2) sc_widths_along.nd rfl (Or.inl rfl) (pe_callH h_width_after hr pass0 (pa_cons (pe_ix ix_list (pv 0) (pv 5) (fun _ _ => rfl)) (pa_cons (pv 2) (pa_cons (pv 3) pa_nil))))) (pss_one (ps_expr (pe_bm PySem.F.plainAttrs_list PySem.F.slot_list_append PySem.F.type_list_append mt_append (pv 4) (pa_cons (pv 2) pa_nil)))))) (pss_one (ps_ret (pv 4))))), ?_⟩)⟩
  · first | (rintro ⟨_, rfl, _⟩; rfl) | (rintro ⟨_, _, rfl, _⟩; rfl) | (rintro ⟨_, _, _, rfl, _⟩; rfl) | (rintro ⟨_, _, _, _, rfl, _⟩; rfl) | (rintro ⟨_, _, _, _, _, rfl, _⟩; rfl) | (rintro ⟨_, _, _, _, _, _, rfl, _⟩; rfl) | (rintro ⟨_, _, _, _, _, _, _, rfl, _⟩; rfl) | (rintro ⟨_, _, _, _, _, _, _, _, rfl, _⟩; rfl) | (rintro ⟨_, _, _, _, _, _, _, _, _, rfl, _⟩; rfl)
  · obtain ⟨a, b, f, order, w0, rfl, ⟨as, hS, hL⟩, hB, hin, hlen, k⟩ := h
    refine ⟨Nat.zero_le _, fun D hD => ?_⟩
    have s0 : Same H (upd H D (.lst [])) := Same.new hD
    refine ⟨_, rfl, b, rfl, ⟨_, s0.seq hB⟩, for_list (K := K) (a := b) (xs := ivs order)
      (fun i σ H' => Same H H' ∧ H' D = some (.lst (ivs (wAlong f w0 (order.take i)))) ∧ ∃ v, σ = [some (.ref a), some (.ref b), some (iv (lastW f w0 (order.take i))), some (iv f.closing), some (.ref D), v])
      ⟨s0, upd_same, none, rfl⟩ (fun i σ H' _ q => Same.seq q.1 hB) ?_ ?_⟩
    · rintro i x σ H' hx ⟨s2, h2, v, rfl⟩
      obtain ⟨j, hj, rfl⟩ := ivs_get hx
      obtain ⟨q, hq, hsh⟩ := (hL.same s2).get (hin j (List.mem_of_getElem? hj))
      refine ⟨_, rfl, _, rfl, a, _, _, _, rfl, rfl, Same.seq s2 hS, atI_nat hq, _, rfl, _, rfl, q, _, _, f.closing, rfl, hsh, ?_⟩
      refine ⟨_, rfl, .inl ⟨rfl, _, SqL.of h2⟩, _, rfl, D, _, _, rfl, rfl, h2, ?_, Same.put s2 hD, ?_, some (iv j), ?_⟩
      · rw [ivs_len, wAlong_length, List.length_take]
        exact small1000 (by omega)
      · rw [upd_same, take_more hj, (wAlong_snoc f j _ _).1, ivs_snoc]
        rfl
      · rw [take_more hj, (wAlong_snoc f j _ _).2]
        rfl
    · rintro σ H' ⟨s2, h2, v, rfl⟩
      rw [ivs_len, List.take_length] at h2
      exact ⟨_, rfl, k D H' hD s2 h2⟩
theorem has_next_in_order {f : Addr} {fd : FuncData} (F : Fun K "next_in_order" "next_in_order" s_next_in_order f fd) (hm : mg "next_in_order" = some (.ref f)) (T : Txt P w K mg ad)
    (h_members : Has P w K mg base "members" CX0 2 ["ship_set", "many"] (sp_members K ad))
    (h_without : Has P w K mg base "without" CX0 1 ["ship_set", "number"] (sp_without K ad))
    (h_need_with_first : Has P w K mg base "need_with_first" CX0 2 ["ship", "later", "closing"] (sp_need_with_first K ad))
    : Has P w K mg base "next_in_order" CX0 3 ["ships", "closing", "table", "ship_set", "previous"] (sp_next_in_order K ad) := by
  refine ⟨f, fd, hm, F.kp, F.binds (ps := ["ships", "closing", "table", "ship_set", "previous"]) (fun _ _ _ _ _ _ us hl => match us, hl with | [_, _, _, _, _], _ => rfl), F.ok sc_next_in_order (fun vs H Q E => ?_) (fun cdv A outer s H vs Q E hr h => ⟨_, (pss_cons (ps_for PassesOwn.never rfl (pi_list (pe_callH h_members hr pass0 (pa_cons (pv 3) (pa_cons (pe_callB call_len_seq (by rfl) T.b_len (by decide +kernel) (pa_cons (pv 0) pa_nil)) pa_nil)))) (pg_name (i := 5) sc_next_in_order.nd rfl (Or.inl rfl)) (pss_one (ps_if (pt_cmpR op_le (pe_callH h_need_with_first hr pass0 (pa_cons (pe_ix ix_list (pv 0) (pv 5) (fun _ _ => rfl)) (pa_cons (pe_ix ix_list (pv 2) (pe_callH h_without hr pass0 (pa_cons (pv 3) (pa_cons (pv 5) pa_nil))) (fun _ _ => rfl)) (pa_cons (pv 1) pa_nil)))) (pv 4) (nomark _)) (pss_one (ps_ret (pv 5))) pss_nil))) (pss_one (ps_ret pe_int))), ?_⟩)⟩
  · first | (rintro ⟨_, rfl, _⟩; rfl) | (rintro ⟨_, _, rfl, _⟩; rfl) | (rintro ⟨_, _, _, rfl, _⟩; rfl) | (rintro ⟨_, _, _, _, rfl, _⟩; rfl) | (rintro ⟨_, _, _, _, _, rfl, _⟩; rfl) | (rintro ⟨_, _, _, _, _, _, rfl, _⟩; rfl) | (rintro ⟨_, _, _, _, _, _, _, rfl, _⟩; rfl) | (rintro ⟨_, _, _, _, _, _, _, _, rfl, _⟩; rfl) | (rintro ⟨_, _, _, _, _, _, _, _, _, rfl, _⟩; rfl)
  · obtain ⟨a, t, f, s, w0, rfl, ⟨as, hS, hL⟩, hT, hn, hs, k⟩ := h
    refine ⟨_, rfl, _, rfl, a, _, rfl, .inl hS, s, f.ships.length, ?_, by omega, fun p H1 hp s1 h1 => ?_⟩
    · rw [List.length_map, hL.len]
      rfl
    rw [mem_eq hn hs] at h1
    refine ⟨p, rfl, ⟨_, SqL.of h1⟩, for_list (K := K) (a := p) (xs := ivs (Km560.members s))
      (fun i σ H' => H' = H1 ∧ (∀ x ∈ (Km560.members s).take i, goesFirst f w0 s x = false) ∧ ∃ v, σ = [some (.ref a), some (iv f.closing), some (.ref t), some (iv s), some (iv w0), v])
      ⟨rfl, (fun x hx => by cases hx), none, rfl⟩ (fun i σ H' _ q => by rw [q.1]; exact SqL.of h1) ?_ ?_⟩
    · rintro i x σ H' hx ⟨rfl, hno, v, rfl⟩
      obtain ⟨j, hj, rfl⟩ := ivs_get hx
      have hjm := List.mem_of_getElem? hj
      have hjn := mem_lt hjm hs
      have hb := bit_le hjm
      have hb2 := two_pow_pos' j
      obtain ⟨q, hq, hsh⟩ := (hL.same s1).get hjn
      have hlt : s - 2 ^ j < (needs f.ships f.closing).length := by
        rw [needs_length]
        omega
      refine ⟨_, rfl, _, rfl, a, _, _, _, rfl, rfl, Same.seq s1 hS, atI_nat hq, _, rfl, _, rfl, _, rfl, s, j, rfl, by omega, hb, t, _, _, _, rfl, rfl, Same.seq s1 hT, atI_nat (ivs_at hlt), _, rfl,
        q, _, _, f.closing, rfl, hsh, _, rfl, _, _, rfl, rfl, _, rfl, ?_⟩
      rw [needs_getD _ _ _ (by omega), dec_le]
      refine if_by (fun e => ?_) (fun e => ?_)
      · refine ⟨_, rfl, ?_⟩
        have : nextIn f w0 s = j := by
          unfold nextIn
          rw [find_hit hj e hno]
          rfl
        rw [this] at k
        exact k _ s1
      · refine ⟨rfl, fun x hx => ?_, _, rfl⟩
        rw [take_more hj] at hx
        rcases List.mem_append.mp hx with hx | hx
        · exact hno x hx
        · rw [List.mem_singleton] at hx
          rw [hx]
          exact e
    · rintro σ H' ⟨rfl, hno, v, rfl⟩
      rw [ivs_len, List.take_length] at hno
      have : nextIn f w0 s = 0 := by
        unfold nextIn
        rw [List.find?_eq_none.mpr fun x hx => by rw [hno x hx]; exact Bool.false_ne_true]
        rfl
      rw [this] at k
      exact k _ s1
theorem has_first_order {f : Addr} {fd : FuncData} (F : Fun K "first_order" "first_order" s_first_order f fd) (hm : mg "first_order" = some (.ref f)) (T : Txt P w K mg ad)
    (h_members : Has P w K mg base "members" CX0 2 ["ship_set", "many"] (sp_members K ad))
    (h_without : Has P w K mg base "without" CX0 1 ["ship_set", "number"] (sp_without K ad))
    (h_needs : Has P w K mg base "needs" CX0 4 ["ships", "closing"] (sp_needs K ad))
    (h_width_after : Has P w K mg base "width_after" CX0 2 ["ship", "previous", "closing"] (sp_width_after K ad))
    (h_next_in_order : Has P w K mg base "next_in_order" CX0 3 ["ships", "closing", "table", "ship_set", "previous"] (sp_next_in_order K ad))
    : Has P w K mg base "first_order" CX0 5 ["ships", "closing", "ship_set", "previous"] (sp_first_order K ad) := by
  refine ⟨f, fd, hm, F.kp, F.binds (ps := ["ships", "closing", "ship_set", "previous"]) (fun _ _ _ _ _ _ us hl => match us, hl with | [_, _, _, _], _ => rfl), F.ok sc_first_order (fun vs H Q E => ?_) (fun cdv A outer s H vs Q E hr h => ⟨_, (pss_cons (ps_set (i := 4) sc_first_order.nd rfl (Or.inl rfl) (pe_callH h_needs hr pass0 (pa_cons (pv 0) (pa_cons (pv 1) pa_nil)))) (pss_cons (ps_set (i := 5) sc_first_order.nd rfl (Or.inl rfl) (pe_lst pa_nil)) (pss_cons (ps_for PassesOwn.never rfl (pi_list (pe_callH h_members hr pass0 (pa_cons (pv 2) (pa_cons (pe_callB call_len_seq (by rfl) T.b_len (by decide +kernel) (pa_cons (pv 0) pa_nil)) pa_nil)))) (pg_name (i := 6) sc_first_order.nd rfl (Or.inl rfl)) (pss_cons (ps_set (i := 7) sc_first_order.nd rfl (Or.inl rfl) (pe_callH h_next_in_order hr pass0 (pa_cons (pv 0) (pa_cons (pv 1) (pa_cons (pv 4) (pa_cons (pv 2) (pa_cons (pv 3) pa_nil))))))) (pss_cons (ps_set (i := 3) sc_first_order.nd rfl (Or.inl rfl) (pe_callH h_width_after hr pass0 (pa_cons (pe_ix ix_list (pv 0) (pv 7) (fun _ _ => rfl)) (pa_cons (pv 3) (pa_cons (pv 1) pa_nil))))) (pss_cons (ps_set (i := 2) sc_first_order.nd rfl (Or.inl rfl) (pe_callH h_without hr pass0 (pa_cons (pv 2) (pa_cons (pv 7) pa_nil)))) (pss_one (ps_expr (pe_bm PySem.F.plainAttrs_list PySem.F.slot_list_append PySem.F.type_list_append mt_append (pv 5) (pa_cons (pv 7) pa_nil)))))))) (pss_one (ps_ret (pv 5)))))), ?_⟩)⟩
  · first | (rintro ⟨_, rfl, _⟩; rfl) | (rintro ⟨_, _, rfl, _⟩; rfl) | (rintro ⟨_, _, _, rfl, _⟩; rfl) | (rintro ⟨_, _, _, _, rfl, _⟩; rfl) | (rintro ⟨_, _, _, _, _, rfl, _⟩; rfl) | (rintro ⟨_, _, _, _, _, _, rfl, _⟩; rfl) | (rintro ⟨_, _, _, _, _, _, _, rfl, _⟩; rfl) | (rintro ⟨_, _, _, _, _, _, _, _, rfl, _⟩; rfl) | (rintro ⟨_, _, _, _, _, _, _, _, _, rfl, _⟩; rfl)
  · obtain ⟨a, f, s, w0, rfl, hS0, hn, hs, hw, k⟩ := h
    refine ⟨_, rfl, _, rfl, a, f.ships, f.closing, rfl, hS0, hn, fun T0 H1 hT0 s1 h1 => ?_⟩
    refine ⟨Nat.zero_le _, fun D hD => ?_⟩
    have s2 : Same H1 (upd H1 D (.lst [])) := Same.new hD
    have hDH : H D = none := s1.free hD
    obtain ⟨as, hS, hL⟩ := hS0.same (Same.trans s1 s2)
    refine ⟨_, rfl, _, rfl, a, _, rfl, .inl hS, s, f.ships.length, ?_, by omega, fun p H2 hp s3 h3 => ?_⟩
    · rw [List.length_map, hL.len]
      rfl
    rw [mem_eq hn hs] at h3
    have pD : p ≠ D := Ne.symm (ne_of_none upd_same hp)
    have TD : T0 ≠ D := ne_of_none h1 hD
    refine ⟨p, rfl, ⟨_, SqL.of h3⟩, for_list (K := K) (a := p) (xs := ivs (Km560.members s))
      (fun i σ H' => Same H H' ∧ H' T0 = some (.lst (ivs (needs f.ships f.closing))) ∧ H' p = some (.lst (ivs (Km560.members s))) ∧ ∃ (s' w' : Nat) (acc : List Nat) (v v' : Option V), H' D = some (.lst (ivs acc)) ∧ acc.length ≤ i ∧
        s' < 2 ^ f.ships.length ∧ need f.ships f.closing s' ≤ w' ∧ (Km560.members s').length + i = (Km560.members s).length ∧ acc ++ Km560.firstOrderFrom f (7 - i) w' s' = Km560.firstOrderFrom f 7 w0 s ∧
        σ = [some (.ref a), some (iv f.closing), some (iv s'), some (iv w'), some (.ref T0), some (.ref D), v, v'])
      ⟨Same.trans s1 (Same.trans s2 s3), s3 _ _ (s2 _ _ h1), h3, s, w0, [], none, none, s3 _ _ upd_same, Nat.le_refl _, hs, hw, rfl, rfl, rfl⟩ (fun i σ H' _ q => SqL.of q.2.2.1) ?_ ?_⟩
    · rintro i x σ H' hx ⟨s4, h4, h5, s', w', acc, v, v', h6, hacc, hs', hw', hcnt, hfo, rfl⟩
      have hi : i < (Km560.members s).length := by
        have := (List.getElem?_eq_some_iff.mp hx).1
        rw [ivs_len] at this
        exact this
      have h7 := members_len s
      obtain ⟨fu, hfu⟩ : ∃ fu, 7 - i = fu + 1 := ⟨6 - i, by omega⟩
      have h0 : s' ≠ 0 := by
        rintro rfl
        rw [members_zero] at hcnt
        have : 0 + i = (Km560.members s).length := hcnt
        omega
      obtain ⟨g1, g2, g3, g4, _⟩ := first_turn hn (fuel := fu) hs' (by omega) h0 hw'
      have gl := mem_lt g1 hs'
      have gb := bit_le g1
      have hS4 := hS0.same s4
      refine ⟨_, rfl, _, rfl, _, rfl, _, rfl, _, rfl, a, T0, f, s', w', rfl, hS4, SqL.of h4, hn, hs', fun H5 s5 => ?_⟩
      obtain ⟨as5, hS5, hL5⟩ := hS4.same s5
      obtain ⟨q, hq, hsh⟩ := hL5.get gl
      refine ⟨_, rfl, _, rfl, a, _, _, _, rfl, rfl, hS5, atI_nat hq, _, rfl, _, rfl, q, _, w', f.closing, rfl, hsh, ?_⟩
      refine ⟨_, rfl, _, rfl, s', _, rfl, by omega, gb, ?_⟩
      refine ⟨_, rfl, .inl ⟨rfl, _, SqL.of (s5 _ _ h6)⟩, _, rfl, D, _, _, rfl, rfl, s5 _ _ h6, ?_, ?_⟩
      · rw [ivs_len]
        exact small1000 (by omega)
      · refine ⟨fun b o e => ?_, (upd_ne TD).trans (s5 _ _ h4), (upd_ne pD).trans (s5 _ _ h5), s' - 2 ^ nextIn f w' s', widthOf f w' (nextIn f w' s'), acc ++ [nextIn f w' s'], _, _, ?_, ?_, sub_lt_pow g1 hs', g3, ?_, ?_, rfl⟩
        · rw [upd_ne (ne_of_none e hDH)]
          exact s5 _ _ (s4 b o e)
        · rw [upd_same, ivs_snoc]
        · rw [List.length_append]
          exact Nat.succ_le_succ hacc
        · have := members_len_sub (Nat.lt_of_lt_of_le hs' (pow_le_128 hn)) g1
          omega
        · rw [hfu, g2] at hfo
          rw [show 7 - (i + 1) = fu by omega, List.append_assoc]
          exact hfo
    · rintro σ H' ⟨s4, h4, h5, s', w', acc, v, v', h6, hacc, hs', hw', hcnt, hfo, rfl⟩
      rw [ivs_len] at hcnt
      have e0 : s' = 0 := members_nil_all s' (Nat.lt_of_lt_of_le hs' (pow_le_128 hn)) (List.length_eq_zero_iff.mp (by omega))
      subst e0
      rw [first_zero, List.append_nil] at hfo
      rw [hfo] at h6
      exact ⟨_, rfl, k D H' hDH s4 h6⟩
theorem has_widest_of {f : Addr} {fd : FuncData} (F : Fun K "widest_of" "widest_of" s_widest_of f fd) (hm : mg "widest_of" = some (.ref f)) (T : Txt P w K mg ad)
    (h_members : Has P w K mg base "members" CX0 2 ["ship_set", "many"] (sp_members K ad))
    (h_without : Has P w K mg base "without" CX0 1 ["ship_set", "number"] (sp_without K ad))
    (h_can_follow : Has P w K mg base "can_follow" CX0 2 ["ship", "previous", "closing"] (sp_can_follow K ad))
    (h_width_after : Has P w K mg base "width_after" CX0 2 ["ship", "previous", "closing"] (sp_width_after K ad))
    : Has P w K mg base "widest_of" CX0 3 ["ships", "closing", "table", "ship_set"] (sp_widest_of K ad) := by
  refine ⟨f, fd, hm, F.kp, F.binds (ps := ["ships", "closing", "table", "ship_set"]) (fun _ _ _ _ _ _ us hl => match us, hl with | [_, _, _, _], _ => rfl), F.ok sc_widest_of (fun vs H Q E => ?_) (fun cdv A outer s H vs Q E hr h => ⟨_, (pss_cons (ps_set (i := 4) sc_widest_of.nd rfl (Or.inl rfl) (pe_lst (pa_cons (pe_gi T.c_NO_WIDTH) pa_nil))) (pss_cons (ps_for PassesOwn.never rfl (pi_list (pe_callH h_members hr pass0 (pa_cons (pv 3) (pa_cons (pe_callB call_len_seq (by rfl) T.b_len (by decide +kernel) (pa_cons (pv 0) pa_nil)) pa_nil)))) (pg_name (i := 5) sc_widest_of.nd rfl (Or.inl rfl)) (pss_cons (ps_set (i := 6) sc_widest_of.nd rfl (Or.inl rfl) (pe_ix ix_list (pv 2) (pe_callH h_without hr pass0 (pa_cons (pv 3) (pa_cons (pv 5) pa_nil))) (fun _ _ => rfl))) (pss_one (ps_if (PW.pt (pw_and (pt_cmpR op_ne (pv 6) (pe_gi T.c_NO_WIDTH) (nomark _)) (pw_and1 (pt_val (pe_callH h_can_follow hr pass0 (pa_cons (pe_ix ix_list (pv 0) (pv 5) (fun _ _ => rfl)) (pa_cons (pv 6) (pa_cons (pv 1) pa_nil)))))))) (pss_one (ps_expr (pe_bm PySem.F.plainAttrs_list PySem.F.slot_list_append PySem.F.type_list_append mt_append (pv 4) (pa_cons (pe_callH h_width_after hr pass0 (pa_cons (pe_ix ix_list (pv 0) (pv 5) (fun _ _ => rfl)) (pa_cons (pv 6) (pa_cons (pv 1) pa_nil)))) pa_nil)))) pss_nil)))) (pss_one (ps_ret (pe_callB (cr_max rfl) (by rfl) T.b_max (by decide +kernel) (pa_cons (pv 4) pa_nil)))))), ?_⟩)⟩
  · first | (rintro ⟨_, rfl, _⟩; rfl) | (rintro ⟨_, _, rfl, _⟩; rfl) | (rintro ⟨_, _, _, rfl, _⟩; rfl) | (rintro ⟨_, _, _, _, rfl, _⟩; rfl) | (rintro ⟨_, _, _, _, _, rfl, _⟩; rfl) | (rintro ⟨_, _, _, _, _, _, rfl, _⟩; rfl) | (rintro ⟨_, _, _, _, _, _, _, rfl, _⟩; rfl) | (rintro ⟨_, _, _, _, _, _, _, _, rfl, _⟩; rfl) | (rintro ⟨_, _, _, _, _, _, _, _, _, rfl, _⟩; rfl)
  · obtain ⟨a, t, f, tbl, s, rfl, ⟨as, hS, hL⟩, hT, hn, hs, hlen, k⟩ := h
    refine ⟨(by show 1 ≤ sizeLine; decide), fun D hD => ?_⟩
    have s0 : Same H (upd H D (.lst [V.int (-1)])) := Same.new hD
    refine ⟨_, rfl, _, rfl, a, _, rfl, .inl (s0.seq hS), s, f.ships.length, ?_, by omega, fun p H1 hp s1 h1 => ?_⟩
    · rw [List.length_map, hL.len]
      rfl
    rw [mem_eq hn hs] at h1
    have pD : p ≠ D := Ne.symm (ne_of_none upd_same hp)
    refine ⟨p, rfl, ⟨_, SqL.of h1⟩, for_list (K := K) (a := p) (xs := ivs (Km560.members s))
      (fun i σ H' => Same H H' ∧ H' p = some (.lst (ivs (Km560.members s))) ∧ H' D = some (.lst (V.int (-1) :: ivs (cand f tbl s ((Km560.members s).take i)))) ∧
        ∃ v v', σ = [some (.ref a), some (iv f.closing), some (.ref t), some (iv s), some (.ref D), v, v'])
      ⟨s0.trans s1, h1, s1 _ _ upd_same, none, none, rfl⟩ (fun i σ H' _ q => SqL.of q.2.1) ?_ ?_⟩
    · rintro i x σ H' hx ⟨s2, h2, h3, v, v', rfl⟩
      obtain ⟨j, hj, rfl⟩ := ivs_get hx
      have hjm := List.mem_of_getElem? hj
      have hjn := mem_lt hjm hs
      have hb := bit_le hjm
      have hb2 := two_pow_pos' j
      have hlt : s - 2 ^ j < tbl.length := by omega
      have hmore := cand_more f tbl s hj
      refine ⟨_, rfl, _, rfl, _, rfl, s, j, rfl, by omega, hb, t, _, _, _, rfl, rfl, Same.seq s2 hT, atI_nat (wvs_at hlt), ?_⟩
      refine ⟨_, rfl, rfl, _, rfl, ?_⟩
      cases ht : tbl.getD (s - 2 ^ j) 0 with
      | zero =>
        rw [ht] at hmore
        have hmore : cand f tbl s ((Km560.members s).take (i + 1)) = cand f tbl s ((Km560.members s).take i) := hmore
        refine if_false_of rfl (if_false_of rfl ?_)
        refine ⟨s2, h2, ?_, _, _, rfl⟩
        rw [hmore]
        exact h3
      | succ y =>
        rw [ht] at hmore
        have ne : (!decide (V.int (((y + 1 : Nat) : Int) - 1) = V.int (-1))) = true := by
          rw [decide_eq_false (fun z => by injection z with z; omega)]
          rfl
        refine if_true_of ne ?_
        obtain ⟨q, hq, hsh⟩ := (hL.same s2).get hjn
        have ey : ((y + 1 : Nat) : Int) - 1 = (y : Int) := by omega
        rw [ey]
        refine ⟨_, rfl, _, rfl, a, _, _, _, rfl, rfl, Same.seq s2 hS, atI_nat hq, _, rfl, _, rfl, q, _, y, f.closing, rfl, hsh, _, rfl, ?_⟩
        refine if_by (fun e => ?_) (fun e => ?_)
        · have hx2 : Km560.widthAfterShip f y j = some (max (y - f.closing) (sh f.ships j).beam) := if_pos (of_decide_eq_true e)
          have hmore : cand f tbl s ((Km560.members s).take (i + 1)) = cand f tbl s ((Km560.members s).take i) ++ [max (y - f.closing) (sh f.ships j).beam] := by
            rw [hmore]
            unfold lastGives
            dsimp only
            rw [hx2]
          refine ⟨_, rfl, .inl ⟨rfl, _, SqL.of h3⟩, _, rfl, _, rfl, a, _, _, _, rfl, rfl, Same.seq s2 hS, atI_nat hq, _, rfl, _, rfl, q, _, y, f.closing, rfl, hsh, D, _, _, rfl, rfl, h3, ?_, ?_⟩
          · have := cand_len f tbl s ((Km560.members s).take i)
            have h8 := List.length_take_le i (Km560.members s)
            have h9 := members_len s
            have h10 : ((Km560.members s).take i).length ≤ 7 := by rw [List.length_take]; omega
            show (ivs _).length + 1 < sizeLine
            rw [ivs_len]
            exact small1000 (by omega)
          · refine ⟨Same.put s2 hD, (upd_ne pD).trans h2, ?_, _, _, rfl⟩
            rw [upd_same, hmore, ivs_snoc]
            rfl
        · have hx2 : Km560.widthAfterShip f y j = none := if_neg (of_decide_eq_false e)
          have hmore : cand f tbl s ((Km560.members s).take (i + 1)) = cand f tbl s ((Km560.members s).take i) := by
            rw [hmore]
            unfold lastGives
            dsimp only
            rw [hx2]
          refine ⟨s2, h2, ?_, _, _, rfl⟩
          rw [hmore]
          exact h3
    · rintro σ H' ⟨s2, h2, h3, v, v', rfl⟩
      rw [ivs_len, List.take_length] at h3
      have e : V.int (-1) :: ivs (cand f tbl s (Km560.members s)) = ((-1 : Int) :: (cand f tbl s (Km560.members s)).map fun (n : Nat) => (n : Int)).map V.int := by
        rw [List.map_cons, ← ivs_ints]
      rw [e] at h3
      refine ⟨_, rfl, D, _, rfl, SqL.of h3, Nat.succ_pos _, fun m hm hle => ?_⟩
      rw [cand_max hm hle]
      exact k H' s2
theorem has_widest {f : Addr} {fd : FuncData} (F : Fun K "widest" "widest" s_widest f fd) (hm : mg "widest" = some (.ref f)) (T : Txt P w K mg ad)
    (h_set_count : Has P w K mg base "set_count" CX0 1 ["many"] (sp_set_count K ad))
    (h_widest_of : Has P w K mg base "widest_of" CX0 3 ["ships", "closing", "table", "ship_set"] (sp_widest_of K ad))
    : Has P w K mg base "widest" CX0 4 ["ships", "closing", "previous"] (sp_widest K ad) := by
  refine ⟨f, fd, hm, F.kp, F.binds (ps := ["ships", "closing", "previous"]) (fun _ _ _ _ _ _ us hl => match us, hl with | [_, _, _], _ => rfl), F.ok sc_widest (fun vs H Q E => ?_) (fun cdv A outer s H vs Q E hr h => ⟨_, (pss_cons (ps_set (i := 3) sc_widest.nd rfl (Or.inl rfl) (pe_lst (pa_cons (pv 2) pa_nil))) (pss_cons (ps_for PassesOwn.never rfl (pi_range2 (by rfl) T.b_range (pa_cons pe_int (pa_cons (pe_callH h_set_count hr pass0 (pa_cons (pe_callB call_len_seq (by rfl) T.b_len (by decide +kernel) (pa_cons (pv 0) pa_nil)) pa_nil)) pa_nil))) (pg_name (i := 4) sc_widest.nd rfl (Or.inl rfl)) (pss_one (ps_expr (pe_bm PySem.F.plainAttrs_list PySem.F.slot_list_append PySem.F.type_list_append mt_append (pv 3) (pa_cons (pe_callH h_widest_of hr pass0 (pa_cons (pv 0) (pa_cons (pv 1) (pa_cons (pv 3) (pa_cons (pv 4) pa_nil))))) pa_nil))))) (pss_one (ps_ret (pv 3))))), ?_⟩)⟩
  · first | (rintro ⟨_, rfl, _⟩; rfl) | (rintro ⟨_, _, rfl, _⟩; rfl) | (rintro ⟨_, _, _, rfl, _⟩; rfl) | (rintro ⟨_, _, _, _, rfl, _⟩; rfl) | (rintro ⟨_, _, _, _, _, rfl, _⟩; rfl) | (rintro ⟨_, _, _, _, _, _, rfl, _⟩; rfl) | (rintro ⟨_, _, _, _, _, _, _, rfl, _⟩; rfl) | (rintro ⟨_, _, _, _, _, _, _, _, rfl, _⟩; rfl) | (rintro ⟨_, _, _, _, _, _, _, _, _, rfl, _⟩; rfl)
  · obtain ⟨a, f, rfl, ⟨as, hS, hL⟩, hn, k⟩ := h
    refine ⟨_, rfl, (by show 1 ≤ sizeLine; decide), fun D hD => ?_⟩
    have s0 : Same H (upd H D (.lst [iv (Km560.startWidth f)])) := Same.new hD
    have hp := two_pow_pos' f.ships.length
    have h128 := pow_le_128 hn
    have b1 : ((2 ^ f.ships.length : Nat) : Int) < 2 ^ 62 := Int.lt_of_lt_of_le (b := 129) (by omega) (by decide)
    have b2 : -(2 ^ 62) ≤ ((2 ^ f.ships.length : Nat) : Int) := Int.le_trans (b := 0) (by decide) (Int.natCast_nonneg _)
    have e0 : (((2 ^ f.ships.length : Nat) : Int) - 1).toNat = 2 ^ f.ships.length - 1 := by omega
    have es : iv (Km560.startWidth f) = V.int (((Km560.startWidth f + 1 : Nat) : Int) - 1) := congrArg V.int (by omega)
    refine ⟨_, rfl, a, _, rfl, .inl (s0.seq hS), f.ships.length, ?_, by omega, 1, ((2 ^ f.ships.length : Nat) : Int), rfl, ⟨by decide, by decide, b2, b1⟩,
      for_range (lo := 1) (n := (((2 ^ f.ships.length : Nat) : Int) - 1).toNat) (fun i σ H' => Same H H' ∧ H' D = some (.lst (wvs (widT f i))) ∧ ∃ v, σ = [some (.ref a), some (iv f.closing), some (iv (Km560.startWidth f)), some (.ref D), v]) ⟨s0, ?_, none, rfl⟩ ?_ ?_⟩
    · rw [List.length_map, hL.len]
      rfl
    · rw [upd_same, es]
      rfl
    · rintro i σ H' hi ⟨s2, h2, v, rfl⟩
      rw [e0] at hi
      have e1 : (1 : Int) + (i : Nat) = ((i + 1 : Nat) : Int) := by omega
      rw [e1]
      refine ⟨_, rfl, .inl ⟨rfl, _, SqL.of h2⟩, _, rfl, _, rfl, _, rfl, _, rfl, a, D, f, widT f i, i + 1, rfl, ⟨as, Same.seq s2 hS, hL.same s2⟩, SqL.of h2, hn, by omega, by rw [widT_length]; exact Nat.le_refl _, fun H2 s3 => ?_⟩
      refine ⟨D, _, _, rfl, rfl, s3 _ _ h2, ?_, fun b o e => ?_, ?_, _, rfl⟩
      · rw [wvs_len, widT_length]
        exact small1000 (by omega)
      · rw [upd_ne (ne_of_none e hD)]
        exact s3 _ _ (s2 b o e)
      · rw [upd_same]
        exact congrArg (fun q => some (HO.lst q)) (wvs_snoc _ _).symm
    · rintro σ H' ⟨s2, h2, v, rfl⟩
      rw [e0, ← table_eq] at h2
      exact ⟨_, rfl, k D H' hD s2 h2⟩
end
end Ice
/-! # Part E: the planner -/
namespace Ice
open PySem PySem.Spec PyProof.Rows L2
open IceM
open Km560 (Fleet)
abbrev s_Planner_init : Stmt := inClass (top 49) 0
abbrev N_Planner_init : List Str := ["self", "channel", "closing"]
theorem sc_Planner_init : FnScope N_Planner_init ["self", "channel", "closing"] (defScope s_Planner_init) := ⟨rfl, rfl, rfl, by decide +kernel, rfl, by decide +kernel, by decide +kernel⟩
abbrev s_Planner_start : Stmt := inClass (top 49) 1
abbrev N_Planner_start : List Str := ["self"]
theorem sc_Planner_start : FnScope N_Planner_start ["self"] (defScope s_Planner_start) := ⟨rfl, rfl, rfl, by decide +kernel, rfl, by decide +kernel, by decide +kernel⟩
abbrev s_Planner_widths : Stmt := inClass (top 49) 2
abbrev N_Planner_widths : List Str := ["self"]
theorem sc_Planner_widths : FnScope N_Planner_widths ["self"] (defScope s_Planner_widths) := ⟨rfl, rfl, rfl, by decide +kernel, rfl, by decide +kernel, by decide +kernel⟩
abbrev s_Planner_last_width : Stmt := inClass (top 49) 3
abbrev N_Planner_last_width : List Str := ["self"]
theorem sc_Planner_last_width : FnScope N_Planner_last_width ["self"] (defScope s_Planner_last_width) := ⟨rfl, rfl, rfl, by decide +kernel, rfl, by decide +kernel, by decide +kernel⟩
abbrev s_Planner_is_next : Stmt := inClass (top 49) 4
abbrev N_Planner_is_next : List Str := ["self", "number"]
theorem sc_Planner_is_next : FnScope N_Planner_is_next ["self", "number"] (defScope s_Planner_is_next) := ⟨rfl, rfl, rfl, by decide +kernel, rfl, by decide +kernel, by decide +kernel⟩
abbrev s_is_channel : Stmt := top 50
abbrev N_is_channel : List Str := ["channel"]
theorem sc_is_channel : FnScope N_is_channel ["channel"] (defScope s_is_channel) := ⟨rfl, rfl, rfl, by decide +kernel, rfl, by decide +kernel, by decide +kernel⟩
abbrev s_want_channel : Stmt := top 51
abbrev N_want_channel : List Str := ["channel"]
theorem sc_want_channel : FnScope N_want_channel ["channel"] (defScope s_want_channel) := ⟨rfl, rfl, rfl, by decide +kernel, rfl, by decide +kernel, by decide +kernel⟩
abbrev s_want_closing : Stmt := top 52
abbrev N_want_closing : List Str := ["closing"]
theorem sc_want_closing : FnScope N_want_closing ["closing"] (defScope s_want_closing) := ⟨rfl, rfl, rfl, by decide +kernel, rfl, by decide +kernel, by decide +kernel⟩
abbrev s_want_ship : Stmt := top 53
abbrev N_want_ship : List Str := ["planner", "number"]
theorem sc_want_ship : FnScope N_want_ship ["planner", "number"] (defScope s_want_ship) := ⟨rfl, rfl, rfl, by decide +kernel, rfl, by decide +kernel, by decide +kernel⟩
abbrev s_want_set : Stmt := top 54
abbrev N_want_set : List Str := ["planner", "ship_set"]
theorem sc_want_set : FnScope N_want_set ["planner", "ship_set"] (defScope s_want_set) := ⟨rfl, rfl, rfl, by decide +kernel, rfl, by decide +kernel, by decide +kernel⟩
def plF (ch cl : Nat) (ls lc : Addr) : List (Str × V) := [("channel", iv ch), ("closing", iv cl), ("ships", .ref ls), ("convoy", .ref lc)]
section
variable (ch cl : Nat) (ls lc : Addr)
theorem plF_chan : (plF ch cl ls lc).lookup ("channel" : Str) = some (iv ch) := lk_here
theorem plF_clos : (plF ch cl ls lc).lookup ("closing" : Str) = some (iv cl) := (lk_past (by decide +kernel)).trans lk_here
theorem plF_ships : (plF ch cl ls lc).lookup ("ships" : Str) = some (.ref ls) := (lk_past (by decide +kernel)).trans ((lk_past (by decide +kernel)).trans lk_here)
theorem plF_conv : (plF ch cl ls lc).lookup ("convoy" : Str) = some (.ref lc) := (lk_past (by decide +kernel)).trans ((lk_past (by decide +kernel)).trans ((lk_past (by decide +kernel)).trans lk_here))
theorem plF_none {m : Str} (h1 : (m == ("channel" : Str)) = false) (h2 : (m == ("closing" : Str)) = false) (h3 : (m == ("ships" : Str)) = false) (h4 : (m == ("convoy" : Str)) = false) : (plF ch cl ls lc).lookup m = none :=
  (lk_past h1).trans ((lk_past h2).trans ((lk_past h3).trans ((lk_past h4).trans rfl)))
theorem plF_start : (plF ch cl ls lc).lookup ("start" : Str) = none := plF_none _ _ _ _ (by decide +kernel) (by decide +kernel) (by decide +kernel) (by decide +kernel)
theorem plF_widths : (plF ch cl ls lc).lookup ("widths" : Str) = none := plF_none _ _ _ _ (by decide +kernel) (by decide +kernel) (by decide +kernel) (by decide +kernel)
theorem plF_last : (plF ch cl ls lc).lookup ("last_width" : Str) = none := plF_none _ _ _ _ (by decide +kernel) (by decide +kernel) (by decide +kernel) (by decide +kernel)
theorem plF_next : (plF ch cl ls lc).lookup ("is_next" : Str) = none := plF_none _ _ _ _ (by decide +kernel) (by decide +kernel) (by decide +kernel) (by decide +kernel)
theorem plF_putChan (y : Nat) : putF "channel" (iv y) (plF ch cl ls lc) = plF y cl ls lc := put_here
theorem plF_putClos (y : Nat) : putF "closing" (iv y) (plF ch cl ls lc) = plF ch y ls lc := (put_past (by decide +kernel)).trans (congrArg _ put_here)
theorem plF_putConv (y : Addr) : putF "convoy" (.ref y) (plF ch cl ls lc) = plF ch cl ls y :=
  (put_past (by decide +kernel)).trans (congrArg _ ((put_past (by decide +kernel)).trans (congrArg _ ((put_past (by decide +kernel)).trans (congrArg _ put_here)))))
theorem plF_len : (plF ch cl ls lc).length < 1000 := by
  show 4 < 1000
  decide
theorem plF_1 : putF "channel" (iv ch) [] = [(("channel" : Str), iv ch)] := rfl
theorem plF_2 : putF "closing" (iv cl) [(("channel" : Str), iv ch)] = [(("channel" : Str), iv ch), (("closing" : Str), iv cl)] := (put_past (by decide +kernel)).trans rfl
theorem plF_3 : putF "ships" (.ref ls) [(("channel" : Str), iv ch), (("closing" : Str), iv cl)] = [(("channel" : Str), iv ch), (("closing" : Str), iv cl), (("ships" : Str), .ref ls)] :=
  (put_past (by decide +kernel)).trans (congrArg _ ((put_past (by decide +kernel)).trans rfl))
theorem plF_4 : putF "convoy" (.ref lc) [(("channel" : Str), iv ch), (("closing" : Str), iv cl), (("ships" : Str), .ref ls)] = plF ch cl ls lc :=
  (put_past (by decide +kernel)).trans (congrArg _ ((put_past (by decide +kernel)).trans (congrArg _ ((put_past (by decide +kernel)).trans rfl))))
end
/-- a planner at pl, its list of ships at ls, its convoy at lc -/
structure PlAt (ad : Ad) (H : Hp) (pl ls lc : Addr) (f : Fleet) : Prop where
  ins : ∃ dx, H pl = some (.ins ad.P dx (plF f.channelWidth f.closing ls lc))
  ships : ∃ as : List Addr, H ls = some (.lst (as.map V.ref)) ∧ ShipsL ad.S H as f.ships
  conv : H lc = some (.lst (ivs f.convoy))
  ne : ls ≠ lc
theorem PlAt.same {ad : Ad} {H H' : Hp} {pl ls lc : Addr} {f : Fleet} (e : Same H H') (h : PlAt ad H pl ls lc f) : PlAt ad H' pl ls lc f := by
  obtain ⟨⟨dx, h1⟩, ⟨as, h2, h3⟩, h4, h5⟩ := h
  exact ⟨⟨dx, e _ _ h1⟩, ⟨as, e _ _ h2, h3.same e⟩, e _ _ h4, h5⟩
theorem PlAt.shipsAt {K : PySem.W.Frag} {ad : Ad} {H : Hp} {pl ls lc : Addr} {f : Fleet} (h : PlAt ad H pl ls lc f) : ShipsAt K ad.S H ls f.ships := let ⟨as, h1, h2⟩ := h.ships; ⟨as, SqL.of h1, h2⟩
theorem Refuses.same {ad : Ad} {H H1 : Hp} {E : XK} {c : Int} (h : Refuses ad H E c) (e : Same H H1) : Refuses ad H1 E c := fun d H' hd s q => h d H' (e.free hd) (Same.trans e s) q
theorem atI_neg1 {l : List Nat} {v : Nat} (h : l.getLast? = some v) : atI (ivs l) (-1) = some (iv v) := by
  obtain ⟨r, hr⟩ := List.getLast?_eq_some_iff.mp h
  rw [hr, ivs_snoc]
  exact atI_last _ _
def sp_Planner_init (K : PySem.W.Frag) (ad : Ad) : Sp := fun vs H Q _ => ∃ (p dx : Addr) (ch cl : Nat), vs = [.ref p, iv ch, iv cl] ∧ H p = some (.ins ad.P dx []) ∧
  ∀ H' ls lc, H ls = none → H lc = none → PlAt ad H' p ls lc ⟨ch, cl, [], []⟩ → (∀ b o, H b = some o → b ≠ p → H' b = some o) → Q .non H'
def sp_Planner_start (K : PySem.W.Frag) (ad : Ad) : Sp := fun vs H Q _ => ∃ (pl ls lc : Addr) (f : Fleet), vs = [.ref pl] ∧ PlAt ad H pl ls lc f ∧ Q (iv (Km560.startWidth f)) H
def sp_Planner_widths (K : PySem.W.Frag) (ad : Ad) : Sp := fun vs H Q _ => ∃ (pl ls lc : Addr) (f : Fleet), vs = [.ref pl] ∧ PlAt ad H pl ls lc f ∧ Inv f ∧
  ∀ p H', H p = none → Same H H' → H' p = some (.lst (ivs (wAlong f (Km560.startWidth f) f.convoy))) → Q (.ref p) H'
def sp_Planner_last_width (K : PySem.W.Frag) (ad : Ad) : Sp := fun vs H Q _ => ∃ (pl ls lc : Addr) (f : Fleet), vs = [.ref pl] ∧ PlAt ad H pl ls lc f ∧ Inv f ∧ ∀ H', Same H H' → Q (iv (Km560.convoyWidth f)) H'
def sp_Planner_is_next (K : PySem.W.Frag) (ad : Ad) : Sp := fun vs H Q _ => ∃ (pl ls lc : Addr) (f : Fleet) (i : Nat), vs = [.ref pl, iv i] ∧ PlAt ad H pl ls lc f ∧ Inv f ∧ i < f.ships.length ∧
  ∀ H', Same H H' → Q (.bl (Km560.widthAfterShip f (Km560.convoyWidth f) i).isSome) H'
def sp_is_channel (K : PySem.W.Frag) (ad : Ad) : Sp := fun vs H Q _ => ∃ c : Nat, vs = [iv c] ∧ Q (.bl (decide (1 ≤ c ∧ c ≤ 99))) H
def sp_want_channel (K : PySem.W.Frag) (ad : Ad) : Sp := fun vs H Q E => ∃ c : Nat, vs = [iv c] ∧ (1 ≤ c ∧ c ≤ 99 → Q .non H) ∧ (¬ (1 ≤ c ∧ c ≤ 99) → Refuses ad H E (-22))
def sp_want_closing (K : PySem.W.Frag) (ad : Ad) : Sp := fun vs H Q E => ∃ c : Nat, vs = [iv c] ∧ (c ≤ 20 → Q .non H) ∧ (¬ c ≤ 20 → Refuses ad H E (-22))
def sp_want_ship (K : PySem.W.Frag) (ad : Ad) : Sp := fun vs H Q E => ∃ (pl ls lc : Addr) (f : Fleet) (i : Nat), vs = [.ref pl, iv i] ∧ PlAt ad H pl ls lc f ∧ (i < f.ships.length → Q .non H) ∧ (¬ i < f.ships.length → Refuses ad H E (-2))
def sp_want_set (K : PySem.W.Frag) (ad : Ad) : Sp := fun vs H Q E => ∃ (pl ls lc : Addr) (f : Fleet) (s : Nat), vs = [.ref pl, iv s] ∧ PlAt ad H pl ls lc f ∧ f.ships.length ≤ 7 ∧ (s < 2 ^ f.ships.length → Q .non H) ∧ (¬ s < 2 ^ f.ships.length → Refuses ad H E (-2))
section
variable {P : Program} {w : World} {K : PySem.W.Frag} {mg : Str → Option Value} {base : Heap} {ad : Ad}
theorem has_Planner_init {f : Addr} {fd : FuncData} (F : Fun K "__init__" "Planner.__init__" s_Planner_init f fd) (hg : mg "Planner" = some (.ref ad.P)) (hm : Mk K ad.P f) (T : Txt P w K mg ad)
    : HasI P w K mg base "Planner" ad.P CX0 1 ["self", "channel", "closing"] (sp_Planner_init K ad) := by
  refine ⟨hg, f, fd, hm, F.binds (ps := ["self", "channel", "closing"]) (fun _ _ _ _ _ _ us hl => match us, hl with | [_, _, _], _ => rfl), F.ok sc_Planner_init (fun vs H Q E => ?_) (fun cdv A outer s H vs Q E hr h => ⟨_, (pss_cons (ps_fld (pv 0) (pv 1) rfl) (pss_cons (ps_fld (pv 0) (pv 2) rfl) (pss_cons (ps_fld (pv 0) (pe_lst pa_nil) rfl) (pss_one (ps_fld (pv 0) (pe_lst pa_nil) rfl))))), ?_⟩)⟩
  · first | (rintro ⟨_, rfl, _⟩; rfl) | (rintro ⟨_, _, rfl, _⟩; rfl) | (rintro ⟨_, _, _, rfl, _⟩; rfl) | (rintro ⟨_, _, _, _, rfl, _⟩; rfl) | (rintro ⟨_, _, _, _, _, rfl, _⟩; rfl) | (rintro ⟨_, _, _, _, _, _, rfl, _⟩; rfl) | (rintro ⟨_, _, _, _, _, _, _, rfl, _⟩; rfl) | (rintro ⟨_, _, _, _, _, _, _, _, rfl, _⟩; rfl) | (rintro ⟨_, _, _, _, _, _, _, _, _, rfl, _⟩; rfl)
  · obtain ⟨p, dx, ch, cl, rfl, hp, k⟩ := h
    refine ⟨_, rfl, _, rfl, p, ad.P, dx, [], rfl, hp, T.clP, T.nP_chan, (by show 0 < 1000; decide), ?_⟩
    refine ⟨_, rfl, _, rfl, p, ad.P, dx, _, rfl, upd_same, T.clP, T.nP_clos, (by show 1 < 1000; decide), ?_⟩
    rw [plF_1, plF_2]
    refine ⟨Nat.zero_le _, fun ls hls => ?_⟩
    have n1 : p ≠ ls := fun e => by
      subst e
      rw [upd_same] at hls
      cases hls
    have hls0 : H ls = none := by
      rw [upd_ne n1.symm, upd_ne n1.symm] at hls
      exact hls
    refine ⟨_, rfl, p, ad.P, dx, _, rfl, (upd_ne n1).trans upd_same, T.clP, T.nP_ships, (by show 2 < 1000; decide), ?_⟩
    rw [plF_3]
    refine ⟨Nat.zero_le _, fun lc hlc => ?_⟩
    have n2 : p ≠ lc := fun e => by
      subst e
      rw [upd_same] at hlc
      cases hlc
    have n3 : ls ≠ lc := fun e => by
      subst e
      rw [upd_ne n1.symm, upd_same] at hlc
      cases hlc
    have hlc0 : H lc = none := by
      rw [upd_ne n2.symm, upd_ne n3.symm, upd_ne n2.symm, upd_ne n2.symm] at hlc
      exact hlc
    refine ⟨_, rfl, p, ad.P, dx, _, rfl, (upd_ne n2).trans upd_same, T.clP, T.nP_conv, (by show 3 < 1000; decide), ?_⟩
    rw [plF_4]
    refine k _ ls lc hls0 hlc0 ⟨⟨dx, upd_same⟩, ⟨[], ?_, ⟨rfl, fun i a s h => by cases h⟩⟩, ?_, n3⟩ fun b o e hb => ?_
    · rw [upd_ne n1.symm, upd_ne n3, upd_ne n1.symm, upd_same]
      rfl
    · rw [upd_ne n2.symm, upd_same]
      rfl
    · rw [upd_ne hb, upd_ne (ne_of_none e hlc0), upd_ne hb, upd_ne (ne_of_none e hls0), upd_ne hb, upd_ne hb]
      exact e
theorem has_Planner_start {f : Addr} {fd : FuncData} (F : Fun K "start" "Planner.start" s_Planner_start f fd) (hm : Meth K ad.P "start" f) (T : Txt P w K mg ad)
    : HasM P w K mg base ad.P "start" CX0 1 ["self"] (sp_Planner_start K ad) := by
  refine ⟨f, fd, hm, F.binds (ps := ["self"]) (fun _ _ _ _ _ _ us hl => match us, hl with | [_], _ => rfl), F.ok sc_Planner_start (fun vs H Q E => ?_) (fun cdv A outer s H vs Q E hr h => ⟨_, (pss_one (ps_ret (pe_op op_add (pe_fld (pv 0) rfl) (pe_fld (pv 0) rfl)))), ?_⟩)⟩
  · first | (rintro ⟨_, rfl, _⟩; rfl) | (rintro ⟨_, _, rfl, _⟩; rfl) | (rintro ⟨_, _, _, rfl, _⟩; rfl) | (rintro ⟨_, _, _, _, rfl, _⟩; rfl) | (rintro ⟨_, _, _, _, _, rfl, _⟩; rfl) | (rintro ⟨_, _, _, _, _, _, rfl, _⟩; rfl) | (rintro ⟨_, _, _, _, _, _, _, rfl, _⟩; rfl) | (rintro ⟨_, _, _, _, _, _, _, _, rfl, _⟩; rfl) | (rintro ⟨_, _, _, _, _, _, _, _, _, rfl, _⟩; rfl)
  · obtain ⟨pl, ls, lc, f, rfl, ⟨⟨dx, hp⟩, _, _, _⟩, k⟩ := h
    exact ⟨_, rfl, pl, ad.P, dx, _, _, rfl, hp, T.clP, T.nP_chan, plF_chan _ _ _ _, _, rfl, pl, ad.P, dx, _, _, rfl, hp, T.clP, T.nP_clos, plF_clos _ _ _ _, _, _, rfl, rfl, k⟩
theorem has_Planner_widths {f : Addr} {fd : FuncData} (F : Fun K "widths" "Planner.widths" s_Planner_widths f fd) (hm : Meth K ad.P "widths" f) (T : Txt P w K mg ad)
    (h_widths_along : Has P w K mg base "widths_along" CX0 3 ["ships", "order", "previous", "closing"] (sp_widths_along K ad))
    (h_Planner_start : HasM P w K mg base ad.P "start" CX0 1 ["self"] (sp_Planner_start K ad))
    : HasM P w K mg base ad.P "widths" CX0 4 ["self"] (sp_Planner_widths K ad) := by
  refine ⟨f, fd, hm, F.binds (ps := ["self"]) (fun _ _ _ _ _ _ us hl => match us, hl with | [_], _ => rfl), F.ok sc_Planner_widths (fun vs H Q E => ?_) (fun cdv A outer s H vs Q E hr h => ⟨_, (pss_one (ps_ret (pe_callH h_widths_along hr pass0 (pa_cons (pe_fld (pv 0) rfl) (pa_cons (pe_fld (pv 0) rfl) (pa_cons (pe_methH0 (pv 0) T.clP h_Planner_start hr pass0) (pa_cons (pe_fld (pv 0) rfl) pa_nil))))))), ?_⟩)⟩
  · first | (rintro ⟨_, rfl, _⟩; rfl) | (rintro ⟨_, _, rfl, _⟩; rfl) | (rintro ⟨_, _, _, rfl, _⟩; rfl) | (rintro ⟨_, _, _, _, rfl, _⟩; rfl) | (rintro ⟨_, _, _, _, _, rfl, _⟩; rfl) | (rintro ⟨_, _, _, _, _, _, rfl, _⟩; rfl) | (rintro ⟨_, _, _, _, _, _, _, rfl, _⟩; rfl) | (rintro ⟨_, _, _, _, _, _, _, _, rfl, _⟩; rfl) | (rintro ⟨_, _, _, _, _, _, _, _, _, rfl, _⟩; rfl)
  · obtain ⟨pl, ls, lc, f, rfl, hP, hI, k⟩ := h
    obtain ⟨⟨dx, hp⟩, _, hc, _⟩ := id hP
    refine ⟨_, rfl, pl, ad.P, dx, _, _, rfl, hp, T.clP, T.nP_ships, plF_ships _ _ _ _, _, rfl, pl, ad.P, dx, _, _, rfl, hp, T.clP, T.nP_conv, plF_conv _ _ _ _,
      _, rfl, pl, dx, _, rfl, hp, plF_start _ _ _ _, pl, ls, lc, f, rfl, hP, _, rfl, pl, ad.P, dx, _, _, rfl, hp, T.clP, T.nP_clos, plF_clos _ _ _ _, ?_⟩
    exact ⟨ls, lc, f, f.convoy, Km560.startWidth f, rfl, hP.shipsAt, SqL.of hc, hI.there, Nat.le_trans hI.conv (by decide), k⟩
theorem has_Planner_last_width {f : Addr} {fd : FuncData} (F : Fun K "last_width" "Planner.last_width" s_Planner_last_width f fd) (hm : Meth K ad.P "last_width" f) (T : Txt P w K mg ad)
    (h_Planner_start : HasM P w K mg base ad.P "start" CX0 1 ["self"] (sp_Planner_start K ad))
    (h_Planner_widths : HasM P w K mg base ad.P "widths" CX0 4 ["self"] (sp_Planner_widths K ad))
    : HasM P w K mg base ad.P "last_width" CX0 5 ["self"] (sp_Planner_last_width K ad) := by
  refine ⟨f, fd, hm, F.binds (ps := ["self"]) (fun _ _ _ _ _ _ us hl => match us, hl with | [_], _ => rfl), F.ok sc_Planner_last_width (fun vs H Q E => ?_) (fun cdv A outer s H vs Q E hr h => ⟨_, (pss_one (ps_ret (pe_ix ix_list (pe_op op_cat (pe_lst (pa_cons (pe_methH0 (pv 0) T.clP h_Planner_start hr pass0) pa_nil)) (pe_methH0 (pv 0) T.clP h_Planner_widths hr pass0)) (pe_un un_neg pe_int) (fun _ _ => rfl)))), ?_⟩)⟩
  · first | (rintro ⟨_, rfl, _⟩; rfl) | (rintro ⟨_, _, rfl, _⟩; rfl) | (rintro ⟨_, _, _, rfl, _⟩; rfl) | (rintro ⟨_, _, _, _, rfl, _⟩; rfl) | (rintro ⟨_, _, _, _, _, rfl, _⟩; rfl) | (rintro ⟨_, _, _, _, _, _, rfl, _⟩; rfl) | (rintro ⟨_, _, _, _, _, _, _, rfl, _⟩; rfl) | (rintro ⟨_, _, _, _, _, _, _, _, rfl, _⟩; rfl) | (rintro ⟨_, _, _, _, _, _, _, _, _, rfl, _⟩; rfl)
  · obtain ⟨pl, ls, lc, f, rfl, hP, hI, k⟩ := h
    obtain ⟨⟨dx, hp⟩, _, hc, _⟩ := id hP
    refine ⟨_, rfl, pl, dx, _, rfl, hp, plF_start _ _ _ _, pl, ls, lc, f, rfl, hP, (by show 1 ≤ sizeLine; decide), fun p1 hp1 => ?_⟩
    have s1 : Same H (upd H p1 (.lst [iv (Km560.startWidth f)])) := Same.new hp1
    refine ⟨_, rfl, pl, dx, _, rfl, s1 _ _ hp, plF_widths _ _ _ _, pl, ls, lc, f, rfl, hP.same s1, hI, fun p2 H2 hp2 s2 h2 => ?_⟩
    refine ⟨p1, p2, _, _, rfl, rfl, s2 _ _ upd_same, h2, ?_, fun p3 hp3 => ?_⟩
    · have h7 := hI.conv
      have h8 : (ivs (wAlong f (Km560.startWidth f) f.convoy)).length ≤ 7 := by
        rw [ivs_len, wAlong_length]
        exact h7
      show 1 + _ ≤ sizeLine
      exact Nat.le_of_lt (small1000 (by omega))
    · refine ⟨_, rfl, p3, _, _, iv (Km560.convoyWidth f), rfl, rfl, SqL.of upd_same, ?_, ?_⟩
      · rw [hI.width]
        refine atI_neg1 (l := Km560.startWidth f :: wAlong f (Km560.startWidth f) f.convoy) ?_
        unfold lastW
        rw [List.getLast?_cons]
        rfl
      · exact k _ (Same.put (Same.trans s1 s2) (s1.free (Same.free s2 hp3)))
theorem has_Planner_is_next {f : Addr} {fd : FuncData} (F : Fun K "is_next" "Planner.is_next" s_Planner_is_next f fd) (hm : Meth K ad.P "is_next" f) (T : Txt P w K mg ad)
    (h_can_follow : Has P w K mg base "can_follow" CX0 2 ["ship", "previous", "closing"] (sp_can_follow K ad))
    (h_Planner_last_width : HasM P w K mg base ad.P "last_width" CX0 5 ["self"] (sp_Planner_last_width K ad))
    : HasM P w K mg base ad.P "is_next" CX0 6 ["self", "number"] (sp_Planner_is_next K ad) := by
  refine ⟨f, fd, hm, F.binds (ps := ["self", "number"]) (fun _ _ _ _ _ _ us hl => match us, hl with | [_, _], _ => rfl), F.ok sc_Planner_is_next (fun vs H Q E => ?_) (fun cdv A outer s H vs Q E hr h => ⟨_, (pss_one (ps_ret (pe_callH h_can_follow hr pass0 (pa_cons (pe_ix ix_list (pe_fld (pv 0) rfl) (pv 1) (fun _ _ => rfl)) (pa_cons (pe_methH0 (pv 0) T.clP h_Planner_last_width hr pass0) (pa_cons (pe_fld (pv 0) rfl) pa_nil)))))), ?_⟩)⟩
  · first | (rintro ⟨_, rfl, _⟩; rfl) | (rintro ⟨_, _, rfl, _⟩; rfl) | (rintro ⟨_, _, _, rfl, _⟩; rfl) | (rintro ⟨_, _, _, _, rfl, _⟩; rfl) | (rintro ⟨_, _, _, _, _, rfl, _⟩; rfl) | (rintro ⟨_, _, _, _, _, _, rfl, _⟩; rfl) | (rintro ⟨_, _, _, _, _, _, _, rfl, _⟩; rfl) | (rintro ⟨_, _, _, _, _, _, _, _, rfl, _⟩; rfl) | (rintro ⟨_, _, _, _, _, _, _, _, _, rfl, _⟩; rfl)
  · obtain ⟨pl, ls, lc, f, i, rfl, hP, hI, hi, k⟩ := h
    obtain ⟨⟨dx, hp⟩, ⟨as, hS, hL⟩, hc, _⟩ := id hP
    obtain ⟨q, hq, hsh⟩ := hL.get hi
    refine ⟨_, rfl, pl, ad.P, dx, _, _, rfl, hp, T.clP, T.nP_ships, plF_ships _ _ _ _, _, rfl, ls, _, _, _, rfl, rfl, SqL.of hS, atI_nat hq,
      _, rfl, pl, dx, _, rfl, hp, plF_last _ _ _ _, pl, ls, lc, f, rfl, hP, hI, fun H1 s1 => ?_⟩
    refine ⟨_, rfl, pl, ad.P, dx, _, _, rfl, s1 _ _ hp, T.clP, T.nP_clos, plF_clos _ _ _ _, q, _, Km560.convoyWidth f, f.closing, rfl, hsh.same s1, ?_⟩
    have e : decide ((sh f.ships i).beam ≤ (Km560.convoyWidth f - f.closing) + (sh f.ships i).selfClearance) = (Km560.widthAfterShip f (Km560.convoyWidth f) i).isSome := by
      by_cases c : (sh f.ships i).beam ≤ (Km560.convoyWidth f - f.closing) + (sh f.ships i).selfClearance
      · rw [decide_eq_true c, after_some.mpr ⟨c, rfl⟩]
        rfl
      · have : Km560.widthAfterShip f (Km560.convoyWidth f) i = none := if_neg c
        rw [decide_eq_false c, this]
        rfl
    rw [e]
    exact k H1 s1
theorem has_is_channel {f : Addr} {fd : FuncData} (F : Fun K "is_channel" "is_channel" s_is_channel f fd) (hm : mg "is_channel" = some (.ref f)) (T : Txt P w K mg ad)
    : Has P w K mg base "is_channel" CX0 1 ["channel"] (sp_is_channel K ad) := by
  refine ⟨f, fd, hm, F.kp, F.binds (ps := ["channel"]) (fun _ _ _ _ _ _ us hl => match us, hl with | [_], _ => rfl), F.ok sc_is_channel (fun vs H Q E => ?_) (fun cdv A outer s H vs Q E hr h => ⟨_, (pss_one (ps_ret (pe_chain op_le op_le (pe_gi T.c_LEAST_CHANNEL) (pv 0) (pe_gi T.c_MOST_CHANNEL)))), ?_⟩)⟩
  · first | (rintro ⟨_, rfl, _⟩; rfl) | (rintro ⟨_, _, rfl, _⟩; rfl) | (rintro ⟨_, _, _, rfl, _⟩; rfl) | (rintro ⟨_, _, _, _, rfl, _⟩; rfl) | (rintro ⟨_, _, _, _, _, rfl, _⟩; rfl) | (rintro ⟨_, _, _, _, _, _, rfl, _⟩; rfl) | (rintro ⟨_, _, _, _, _, _, _, rfl, _⟩; rfl) | (rintro ⟨_, _, _, _, _, _, _, _, rfl, _⟩; rfl) | (rintro ⟨_, _, _, _, _, _, _, _, _, rfl, _⟩; rfl)
  · obtain ⟨c, rfl, k⟩ := h
    refine ⟨_, rfl, _, _, rfl, rfl, _, rfl, ?_⟩
    refine if_by (fun e => ?_) (fun e => ?_)
    · have h1 := of_decide_eq_true e
      refine ⟨_, _, rfl, rfl, ?_⟩
      have e2 : decide ((c : Int) ≤ 99) = decide (1 ≤ c ∧ c ≤ 99) := decide_eq_decide.mpr (by omega)
      show Q (V.bl (decide ((c : Int) ≤ 99))) H
      rw [e2]
      exact k
    · have h1 := of_decide_eq_false e
      have e2 : decide (1 ≤ c ∧ c ≤ 99) = false := decide_eq_false (by omega)
      rw [e2] at k
      exact k
theorem has_want_channel {f : Addr} {fd : FuncData} (F : Fun K "want_channel" "want_channel" s_want_channel f fd) (hm : mg "want_channel" = some (.ref f)) (T : Txt P w K mg ad)
    (h_want : Has P w K mg base "want" (L2.CX P w) 2 ["truth", "code"] (sp_want K ad))
    (h_is_channel : Has P w K mg base "is_channel" CX0 1 ["channel"] (sp_is_channel K ad))
    : Has P w K mg base "want_channel" (L2.CX P w) 3 ["channel"] (sp_want_channel K ad) := by
  refine ⟨f, fd, hm, F.kp, F.binds (ps := ["channel"]) (fun _ _ _ _ _ _ us hl => match us, hl with | [_], _ => rfl), F.okX sc_want_channel (fun vs H Q E => ?_) (fun cdv A outer s H vs Q E hr h => ⟨_, (pss_one (ps_expr (pe_callH h_want hr (passes_call (takes_of rfl rfl rfl rfl) (fun _ _ _ _ h => h)) (pa_cons (pe_callH h_is_channel hr pass0 (pa_cons (pv 0) pa_nil)) (pa_cons (pe_gi T.c_OUT_OF_RANGE) pa_nil))))), ?_⟩)⟩
  · first | (rintro ⟨_, rfl, _⟩; rfl) | (rintro ⟨_, _, rfl, _⟩; rfl) | (rintro ⟨_, _, _, rfl, _⟩; rfl) | (rintro ⟨_, _, _, _, rfl, _⟩; rfl) | (rintro ⟨_, _, _, _, _, rfl, _⟩; rfl) | (rintro ⟨_, _, _, _, _, _, rfl, _⟩; rfl) | (rintro ⟨_, _, _, _, _, _, _, rfl, _⟩; rfl) | (rintro ⟨_, _, _, _, _, _, _, _, rfl, _⟩; rfl) | (rintro ⟨_, _, _, _, _, _, _, _, _, rfl, _⟩; rfl)
  · obtain ⟨c, rfl, k1, k2⟩ := h
    exact ⟨_, rfl, c, rfl, _, _, rfl, fun e => k1 (of_decide_eq_true e), fun e => k2 (of_decide_eq_false e)⟩
theorem has_want_closing {f : Addr} {fd : FuncData} (F : Fun K "want_closing" "want_closing" s_want_closing f fd) (hm : mg "want_closing" = some (.ref f)) (T : Txt P w K mg ad)
    (h_want : Has P w K mg base "want" (L2.CX P w) 2 ["truth", "code"] (sp_want K ad))
    : Has P w K mg base "want_closing" (L2.CX P w) 3 ["closing"] (sp_want_closing K ad) := by
  refine ⟨f, fd, hm, F.kp, F.binds (ps := ["closing"]) (fun _ _ _ _ _ _ us hl => match us, hl with | [_], _ => rfl), F.okX sc_want_closing (fun vs H Q E => ?_) (fun cdv A outer s H vs Q E hr h => ⟨_, (pss_one (ps_expr (pe_callH h_want hr (passes_call (takes_of rfl rfl rfl rfl) (fun _ _ _ _ h => h)) (pa_cons (pe_cmpR op_le (pv 0) (pe_gi T.c_MOST_CLOSING) (nomark _)) (pa_cons (pe_gi T.c_OUT_OF_RANGE) pa_nil))))), ?_⟩)⟩
  · first | (rintro ⟨_, rfl, _⟩; rfl) | (rintro ⟨_, _, rfl, _⟩; rfl) | (rintro ⟨_, _, _, rfl, _⟩; rfl) | (rintro ⟨_, _, _, _, rfl, _⟩; rfl) | (rintro ⟨_, _, _, _, _, rfl, _⟩; rfl) | (rintro ⟨_, _, _, _, _, _, rfl, _⟩; rfl) | (rintro ⟨_, _, _, _, _, _, _, rfl, _⟩; rfl) | (rintro ⟨_, _, _, _, _, _, _, _, rfl, _⟩; rfl) | (rintro ⟨_, _, _, _, _, _, _, _, _, rfl, _⟩; rfl)
  · obtain ⟨c, rfl, k1, k2⟩ := h
    refine ⟨_, rfl, _, _, rfl, rfl, _, _, rfl, fun e => k1 ?_, fun e => k2 ?_⟩
    · have := of_decide_eq_true e
      omega
    · have := of_decide_eq_false e
      omega
theorem has_want_ship {f : Addr} {fd : FuncData} (F : Fun K "want_ship" "want_ship" s_want_ship f fd) (hm : mg "want_ship" = some (.ref f)) (T : Txt P w K mg ad)
    (h_want : Has P w K mg base "want" (L2.CX P w) 2 ["truth", "code"] (sp_want K ad))
    : Has P w K mg base "want_ship" (L2.CX P w) 3 ["planner", "number"] (sp_want_ship K ad) := by
  refine ⟨f, fd, hm, F.kp, F.binds (ps := ["planner", "number"]) (fun _ _ _ _ _ _ us hl => match us, hl with | [_, _], _ => rfl), F.okX sc_want_ship (fun vs H Q E => ?_) (fun cdv A outer s H vs Q E hr h => ⟨_, (pss_one (ps_expr (pe_callH h_want hr (passes_call (takes_of rfl rfl rfl rfl) (fun _ _ _ _ h => h)) (pa_cons (pe_cmpR op_lt (pv 1) (pe_callB call_len_seq (by rfl) T.b_len (by decide +kernel) (pa_cons (pe_fld (pv 0) rfl) pa_nil)) (nomark _)) (pa_cons (pe_gi T.c_NOT_THERE) pa_nil))))), ?_⟩)⟩
  · first | (rintro ⟨_, rfl, _⟩; rfl) | (rintro ⟨_, _, rfl, _⟩; rfl) | (rintro ⟨_, _, _, rfl, _⟩; rfl) | (rintro ⟨_, _, _, _, rfl, _⟩; rfl) | (rintro ⟨_, _, _, _, _, rfl, _⟩; rfl) | (rintro ⟨_, _, _, _, _, _, rfl, _⟩; rfl) | (rintro ⟨_, _, _, _, _, _, _, rfl, _⟩; rfl) | (rintro ⟨_, _, _, _, _, _, _, _, rfl, _⟩; rfl) | (rintro ⟨_, _, _, _, _, _, _, _, _, rfl, _⟩; rfl)
  · obtain ⟨pl, ls, lc, f, i, rfl, hP, k1, k2⟩ := h
    obtain ⟨⟨dx, hp⟩, ⟨as, hS, hL⟩, hc, _⟩ := id hP
    refine ⟨_, rfl, _, rfl, pl, ad.P, dx, _, _, rfl, hp, T.clP, T.nP_ships, plF_ships _ _ _ _, ls, _, rfl, .inl (SqL.of hS), _, _, rfl, rfl, _, _, rfl, fun e => k1 ?_, fun e => k2 ?_⟩
    · have := of_decide_eq_true e
      rw [List.length_map, hL.len] at this
      omega
    · have := of_decide_eq_false e
      rw [List.length_map, hL.len] at this
      omega
theorem has_want_set {f : Addr} {fd : FuncData} (F : Fun K "want_set" "want_set" s_want_set f fd) (hm : mg "want_set" = some (.ref f)) (T : Txt P w K mg ad)
    (h_want : Has P w K mg base "want" (L2.CX P w) 2 ["truth", "code"] (sp_want K ad))
    (h_set_count : Has P w K mg base "set_count" CX0 1 ["many"] (sp_set_count K ad))
    : Has P w K mg base "want_set" (L2.CX P w) 3 ["planner", "ship_set"] (sp_want_set K ad) := by
  refine ⟨f, fd, hm, F.kp, F.binds (ps := ["planner", "ship_set"]) (fun _ _ _ _ _ _ us hl => match us, hl with | [_, _], _ => rfl), F.okX sc_want_set (fun vs H Q E => ?_) (fun cdv A outer s H vs Q E hr h => ⟨_, (pss_one (ps_expr (pe_callH h_want hr (passes_call (takes_of rfl rfl rfl rfl) (fun _ _ _ _ h => h)) (pa_cons (pe_cmpR op_lt (pv 1) (pe_callH h_set_count hr pass0 (pa_cons (pe_callB call_len_seq (by rfl) T.b_len (by decide +kernel) (pa_cons (pe_fld (pv 0) rfl) pa_nil)) pa_nil)) (nomark _)) (pa_cons (pe_gi T.c_NOT_THERE) pa_nil))))), ?_⟩)⟩
  · first | (rintro ⟨_, rfl, _⟩; rfl) | (rintro ⟨_, _, rfl, _⟩; rfl) | (rintro ⟨_, _, _, rfl, _⟩; rfl) | (rintro ⟨_, _, _, _, rfl, _⟩; rfl) | (rintro ⟨_, _, _, _, _, rfl, _⟩; rfl) | (rintro ⟨_, _, _, _, _, _, rfl, _⟩; rfl) | (rintro ⟨_, _, _, _, _, _, _, rfl, _⟩; rfl) | (rintro ⟨_, _, _, _, _, _, _, _, rfl, _⟩; rfl) | (rintro ⟨_, _, _, _, _, _, _, _, _, rfl, _⟩; rfl)
  · obtain ⟨pl, ls, lc, f, s, rfl, hP, hn, k1, k2⟩ := h
    obtain ⟨⟨dx, hp⟩, ⟨as, hS, hL⟩, hc, _⟩ := id hP
    refine ⟨_, rfl, _, rfl, pl, ad.P, dx, _, _, rfl, hp, T.clP, T.nP_ships, plF_ships _ _ _ _, ls, _, rfl, .inl (SqL.of hS), f.ships.length, ?_, by omega, _, _, rfl, rfl, _, _, rfl, fun e => k1 ?_, fun e => k2 ?_⟩
    · rw [List.length_map, hL.len]
      rfl
    · have := of_decide_eq_true e
      omega
    · have := of_decide_eq_false e
      omega
end
end Ice
/-! # Part F: what changes a planner -/
namespace Ice
open PySem PySem.Spec PyProof.Rows L2
open IceM
open Km560 (Fleet)
abbrev s_add_ship : Stmt := top 56
abbrev N_add_ship : List Str := ["planner", "beam", "clearance", "worth"]
theorem sc_add_ship : FnScope N_add_ship ["planner", "beam", "clearance", "worth"] (defScope s_add_ship) := ⟨rfl, rfl, rfl, by decide +kernel, rfl, by decide +kernel, by decide +kernel⟩
abbrev s_remove_ship : Stmt := top 57
abbrev N_remove_ship : List Str := ["planner", "number"]
theorem sc_remove_ship : FnScope N_remove_ship ["planner", "number"] (defScope s_remove_ship) := ⟨rfl, rfl, rfl, by decide +kernel, rfl, by decide +kernel, by decide +kernel⟩
abbrev s_update_ship : Stmt := top 58
abbrev N_update_ship : List Str := ["planner", "number", "beam", "clearance", "worth", "before"]
theorem sc_update_ship : FnScope N_update_ship ["planner", "number", "beam", "clearance", "worth"] (defScope s_update_ship) := ⟨rfl, rfl, rfl, by decide +kernel, rfl, by decide +kernel, by decide +kernel⟩
abbrev s_set_channel_width : Stmt := top 59
abbrev N_set_channel_width : List Str := ["planner", "channel", "before"]
theorem sc_set_channel_width : FnScope N_set_channel_width ["planner", "channel"] (defScope s_set_channel_width) := ⟨rfl, rfl, rfl, by decide +kernel, rfl, by decide +kernel, by decide +kernel⟩
abbrev s_set_closing : Stmt := top 60
abbrev N_set_closing : List Str := ["planner", "closing", "before"]
theorem sc_set_closing : FnScope N_set_closing ["planner", "closing"] (defScope s_set_closing) := ⟨rfl, rfl, rfl, by decide +kernel, rfl, by decide +kernel, by decide +kernel⟩
abbrev s_append_to_convoy : Stmt := top 61
abbrev N_append_to_convoy : List Str := ["planner", "number"]
theorem sc_append_to_convoy : FnScope N_append_to_convoy ["planner", "number"] (defScope s_append_to_convoy) := ⟨rfl, rfl, rfl, by decide +kernel, rfl, by decide +kernel, by decide +kernel⟩
abbrev s_remove_last_from_convoy : Stmt := top 62
abbrev N_remove_last_from_convoy : List Str := ["planner"]
theorem sc_remove_last_from_convoy : FnScope N_remove_last_from_convoy ["planner"] (defScope s_remove_last_from_convoy) := ⟨rfl, rfl, rfl, by decide +kernel, rfl, by decide +kernel, by decide +kernel⟩
abbrev s_clear_convoy : Stmt := top 63
abbrev N_clear_convoy : List Str := ["planner", "before"]
theorem sc_clear_convoy : FnScope N_clear_convoy ["planner"] (defScope s_clear_convoy) := ⟨rfl, rfl, rfl, by decide +kernel, rfl, by decide +kernel, by decide +kernel⟩
abbrev s_form_largest_convoy : Stmt := top 64
abbrev N_form_largest_convoy : List Str := ["planner", "ship_set"]
theorem sc_form_largest_convoy : FnScope N_form_largest_convoy ["planner"] (defScope s_form_largest_convoy) := ⟨rfl, rfl, rfl, by decide +kernel, rfl, by decide +kernel, by decide +kernel⟩
abbrev s_form_most_valuable_convoy : Stmt := top 65
abbrev N_form_most_valuable_convoy : List Str := ["planner", "ship_set"]
theorem sc_form_most_valuable_convoy : FnScope N_form_most_valuable_convoy ["planner"] (defScope s_form_most_valuable_convoy) := ⟨rfl, rfl, rfl, by decide +kernel, rfl, by decide +kernel, by decide +kernel⟩
/-- all but the planner's own three objects stands as it was -/
structure Kp (pl ls lc : Addr) (H H' : Hp) : Prop where
  keep : ∀ b o, H b = some o → b ≠ pl → b ≠ ls → b ≠ lc → H' b = some o
  free : ∀ b, H' b = none → H b = none
section
variable {pl ls lc a : Addr} {H H1 H2 : Hp} {o : HO}
theorem Kp.refl : Kp pl ls lc H H := ⟨fun _ _ e _ _ _ => e, fun _ e => e⟩
theorem Kp.same (k : Kp pl ls lc H H1) (s : Same H1 H2) : Kp pl ls lc H H2 := ⟨fun b o e h1 h2 h3 => s _ _ (k.keep b o e h1 h2 h3), fun b e => k.free b (s.free e)⟩
theorem upd_free {b : Addr} (e : upd H1 a o b = none) : H1 b = none := by
  by_cases h : b = a
  · subst h
    rw [upd_same] at e
    cases e
  · rw [upd_ne h] at e
    exact e
theorem Kp.new (k : Kp pl ls lc H H1) (h : H1 a = none) : Kp pl ls lc H (upd H1 a o) := k.same (Same.new h)
theorem Kp.atPl (k : Kp pl ls lc H H1) : Kp pl ls lc H (upd H1 pl o) := ⟨fun b o e h1 h2 h3 => (upd_ne h1).trans (k.keep b o e h1 h2 h3), fun b e => k.free b (upd_free e)⟩
theorem Kp.atLs (k : Kp pl ls lc H H1) : Kp pl ls lc H (upd H1 ls o) := ⟨fun b o e h1 h2 h3 => (upd_ne h2).trans (k.keep b o e h1 h2 h3), fun b e => k.free b (upd_free e)⟩
theorem Kp.atLc (k : Kp pl ls lc H H1) : Kp pl ls lc H (upd H1 lc o) := ⟨fun b o e h1 h2 h3 => (upd_ne h3).trans (k.keep b o e h1 h2 h3), fun b e => k.free b (upd_free e)⟩
end
theorem ne_ins_lst {H : Hp} {a b C dx : Addr} {fs : List (Str × V)} {xs : List V} (h1 : H a = some (.ins C dx fs)) (h2 : H b = some (.lst xs)) : a ≠ b := ne_of h1 h2 (fun z => by cases z)
theorem ShipsL.upd {C : Addr} {H : Hp} {as : List Addr} {ships : List Km560.Ship} {l : Addr} {xs : List V} {o : HO} (h : ShipsL C H as ships) (hl : H l = some (.lst xs)) : ShipsL C (upd H l o) as ships := by
  refine ⟨h.len, fun i a s h1 h2 => ?_⟩
  obtain ⟨dx, q⟩ := h.at_ i a s h1 h2
  exact ⟨dx, (upd_ne (ne_ins_lst q hl)).trans q⟩
theorem ship_pl {ad : Ad} {H : Hp} {a p : Addr} {s : Km560.Ship} {C dx : Addr} {ch cl : Nat} {ls lc : Addr} (h : ShipAt C H a s) (hp : H p = some (.ins ad.P dx (plF ch cl ls lc))) : a ≠ p := by
  obtain ⟨d2, q⟩ := h
  refine ne_of q hp fun z => ?_
  injection z with z1 z2 z3
  have z4 : (shF s).lookup ("beam" : Str) = (plF ch cl ls lc).lookup ("beam" : Str) := by rw [z3]
  rw [shF_beam, plF_none _ _ _ _ (by decide +kernel) (by decide +kernel) (by decide +kernel) (by decide +kernel)] at z4
  cases z4
section
variable {ad : Ad} {H : Hp} {pl ls lc : Addr} {f : Fleet}
theorem PlAt.ne1 (h : PlAt ad H pl ls lc f) : pl ≠ ls := let ⟨_, h1⟩ := h.ins; let ⟨_, h2, _⟩ := h.ships; ne_ins_lst h1 h2
theorem PlAt.ne2 (h : PlAt ad H pl ls lc f) : pl ≠ lc := let ⟨_, h1⟩ := h.ins; ne_ins_lst h1 h.conv
/-- the fields are set, the convoy is another list -/
theorem PlAt.setF (h : PlAt ad H pl ls lc f) (f' : Fleet) (hs : f'.ships = f.ships) {lc' dx : Addr} (hc : H lc' = some (.lst (ivs f'.convoy))) (hne : ls ≠ lc') : PlAt ad (upd H pl (.ins ad.P dx (plF f'.channelWidth f'.closing ls lc'))) pl ls lc' f' := by
  obtain ⟨⟨d1, h1⟩, ⟨as, h2, h3⟩, h4, h5⟩ := h
  refine ⟨⟨dx, upd_same⟩, ⟨as, (upd_ne (ne_ins_lst h1 h2).symm).trans h2, ?_⟩, (upd_ne (ne_ins_lst h1 hc).symm).trans hc, hne⟩
  rw [hs]
  refine ⟨h3.len, fun i a s q1 q2 => ?_⟩
  obtain ⟨d2, q⟩ := h3.at_ i a s q1 q2
  exact ⟨d2, (upd_ne (ship_pl ⟨d2, q⟩ h1)).trans q⟩
theorem PlAt.setShips (h : PlAt ad H pl ls lc f) {as : List Addr} {ships : List Km560.Ship} (hL : ShipsL ad.S H as ships) : PlAt ad (upd H ls (.lst (as.map V.ref))) pl ls lc { f with ships := ships } := by
  have n1 := h.ne1
  obtain ⟨⟨d1, h1⟩, ⟨as0, h2, h3⟩, h4, h5⟩ := h
  exact ⟨⟨d1, (upd_ne n1).trans h1⟩, ⟨as, upd_same, hL.upd h2⟩, (upd_ne h5.symm).trans h4, h5⟩
theorem PlAt.setConv (h : PlAt ad H pl ls lc f) (c : List Nat) : PlAt ad (upd H lc (.lst (ivs c))) pl ls lc { f with convoy := c } := by
  have n2 := h.ne2
  obtain ⟨⟨d1, h1⟩, ⟨as0, h2, h3⟩, h4, h5⟩ := h
  exact ⟨⟨d1, (upd_ne n2).trans h1⟩, ⟨as0, (upd_ne h5).trans h2, h3.upd h4⟩, upd_same, h5⟩
end
/-- an operation's end: refused, or a list is answered and the planner has moved on -/
structure Moved (ad : Ad) (H H' : Hp) (pl ls lc ls' lc' : Addr) (f' : Fleet) : Prop where
  at_ : PlAt ad H' pl ls' lc' f'
  inv : Inv f'
  kp : Kp pl ls lc H H'
  ls_ : ls' = ls ∨ H ls' = none
  lc_ : lc' = lc ∨ H lc' = none
structure OpEnd (ad : Ad) (H : Hp) (pl ls lc : Addr) (f : Fleet) (c : Km560.Call) (Q : VK) (E : XK) : Prop where
  bad : ∀ code : Int, Km560.step (some f) c = (some f, ⟨code, []⟩) → Refuses ad H E code
  good : ∀ (f' : Fleet) (r : Km560.Result) (p : Addr) (H' : Hp) (ls' lc' : Addr), Km560.step (some f) c = (some f', r) → H p = none → H' p = some (.lst ((r.num :: r.nums).map V.int)) → Moved ad H H' pl ls lc ls' lc' f' → Q (.ref p) H'
theorem OpEnd.report {ad : Ad} {H H' : Hp} {pl ls lc : Addr} {f : Fleet} {c : Km560.Call} {Q : VK} {E : XK} (h : OpEnd ad H pl ls lc f c Q E) (hP : PlAt ad H pl ls lc f) (hI : Inv f) {r : Km560.Result} {p : Addr} (e : Km560.step (some f) c = (some f, r))
    (hp : H p = none) (s : Same H H') (h1 : H' p = some (.lst ((r.num :: r.nums).map V.int))) : Q (.ref p) H' := h.good f r p H' ls lc e hp h1 ⟨hP.same s, hI, Kp.refl.same s, .inl rfl, .inl rfl⟩
def sp0 (ad : Ad) (c : Km560.Call) : Sp := fun vs H Q E => ∃ (pl ls lc : Addr) (f : Fleet), vs = [.ref pl] ∧ PlAt ad H pl ls lc f ∧ Inv f ∧ OpEnd ad H pl ls lc f c Q E
def sp1 (ad : Ad) (c : Nat → Km560.Call) : Sp := fun vs H Q E => ∃ (pl ls lc : Addr) (f : Fleet) (i : Nat), vs = [.ref pl, iv i] ∧ PlAt ad H pl ls lc f ∧ Inv f ∧ OpEnd ad H pl ls lc f (c i) Q E
def sp2 (ad : Ad) (c : Nat → Nat → Km560.Call) : Sp := fun vs H Q E => ∃ (pl ls lc : Addr) (f : Fleet) (i j : Nat), vs = [.ref pl, iv i, iv j] ∧ PlAt ad H pl ls lc f ∧ Inv f ∧ OpEnd ad H pl ls lc f (c i j) Q E
def sp_add_ship (K : PySem.W.Frag) (ad : Ad) : Sp := fun vs H Q E => ∃ (pl ls lc : Addr) (f : Fleet) (b c v : Nat), vs = [.ref pl, iv b, iv c, iv v] ∧ PlAt ad H pl ls lc f ∧ Inv f ∧ OpEnd ad H pl ls lc f (.addShip b c v) Q E
def sp_update_ship (K : PySem.W.Frag) (ad : Ad) : Sp := fun vs H Q E => ∃ (pl ls lc : Addr) (f : Fleet) (i b c v : Nat), vs = [.ref pl, iv i, iv b, iv c, iv v] ∧ PlAt ad H pl ls lc f ∧ Inv f ∧ OpEnd ad H pl ls lc f (.updateShip i b c v) Q E
def sp_remove_ship (K : PySem.W.Frag) (ad : Ad) : Sp := sp1 ad .removeShip
def sp_set_channel_width (K : PySem.W.Frag) (ad : Ad) : Sp := sp1 ad .setChannelWidth
def sp_set_closing (K : PySem.W.Frag) (ad : Ad) : Sp := sp1 ad .setClosing
def sp_append_to_convoy (K : PySem.W.Frag) (ad : Ad) : Sp := sp1 ad .appendToConvoy
def sp_remove_last_from_convoy (K : PySem.W.Frag) (ad : Ad) : Sp := sp0 ad .removeLastFromConvoy
def sp_clear_convoy (K : PySem.W.Frag) (ad : Ad) : Sp := sp0 ad .clearConvoy
def sp_form_largest_convoy (K : PySem.W.Frag) (ad : Ad) : Sp := sp0 ad .formLargestConvoy
def sp_form_most_valuable_convoy (K : PySem.W.Frag) (ad : Ad) : Sp := sp0 ad .formMostValuableConvoy
theorem map_erase : ∀ (l : List Addr) (i : Nat), (l.eraseIdx i).map V.ref = (l.map V.ref).eraseIdx i
  | [], _ => rfl
  | _ :: _, 0 => rfl
  | a :: l, i + 1 => congrArg (V.ref a :: ·) (map_erase l i)
theorem seq_nat {i n : Nat} (h : i < n) : seqIndex? (i : Int) n = some i := by
  unfold seqIndex?
  simp
  omega
theorem ixN_nat {i n : Nat} (h : i < n) : ixN n (i : Int) = some i := by
  unfold ixN
  rw [if_pos (by omega), if_pos (by omega)]
  rfl
theorem ShipsL.erase {C : Addr} {H : Hp} {as : List Addr} {ships : List Km560.Ship} (h : ShipsL C H as ships) (i : Nat) : ShipsL C H (as.eraseIdx i) (ships.eraseIdx i) := by
  refine ⟨?_, fun j a s h1 h2 => ?_⟩
  · rw [List.length_eraseIdx, List.length_eraseIdx, h.len]
  · rw [List.getElem?_eraseIdx] at h1 h2
    by_cases c : j < i
    · rw [if_pos c] at h1 h2
      exact h.at_ j a s h1 h2
    · rw [if_neg c] at h1 h2
      exact h.at_ (j + 1) a s h1 h2
theorem ShipsL.set {C : Addr} {H : Hp} {as : List Addr} {ships : List Km560.Ship} (h : ShipsL C H as ships) (i : Nat) {x : Addr} {s0 : Km560.Ship} (hx : ShipAt C H x s0) : ShipsL C H (as.set i x) (ships.set i s0) := by
  refine ⟨?_, fun j a s h1 h2 => ?_⟩
  · rw [List.length_set, List.length_set, h.len]
  · rw [List.getElem?_set] at h1 h2
    by_cases c : i = j
    · rw [if_pos c] at h1 h2
      by_cases c2 : i < as.length
      · rw [if_pos c2] at h1
        rw [if_pos (by rw [← h.len]; exact c2)] at h2
        cases h1
        cases h2
        exact hx
      · rw [if_neg c2] at h1
        cases h1
    · rw [if_neg c] at h1 h2
      exact h.at_ j a s h1 h2
theorem ShipsL.push {C : Addr} {H : Hp} {as : List Addr} {ships : List Km560.Ship} (h : ShipsL C H as ships) {x : Addr} {s0 : Km560.Ship} (hx : ShipAt C H x s0) : ShipsL C H (as ++ [x]) (ships ++ [s0]) := by
  refine ⟨?_, fun j a s h1 h2 => ?_⟩
  · rw [List.length_append, List.length_append, h.len]
    rfl
  · by_cases c : j < as.length
    · rw [List.getElem?_append_left c] at h1
      rw [List.getElem?_append_left (by rw [← h.len]; exact c)] at h2
      exact h.at_ j a s h1 h2
    · rw [List.getElem?_append_right (by omega)] at h1
      rw [List.getElem?_append_right (by rw [← h.len]; omega)] at h2
      have e1 : j - as.length = 0 := by
        have := (List.getElem?_eq_some_iff.mp h1).1
        rw [List.length_singleton] at this
        omega
      rw [e1] at h1
      rw [← h.len, e1] at h2
      cases h1
      cases h2
      exact hx
theorem inV_nat (i : Nat) : ∀ l : List Nat, inV (iv i) (ivs l) = l.contains i
  | [] => rfl
  | a :: l => by
    have ih := inV_nat i l
    have e : inV (iv i) (ivs (a :: l)) = (eqV (iv a) (iv i) || inV (iv i) (ivs l)) := rfl
    rw [e, ih, List.contains_cons]
    congr 1
    show ((a : Int) == (i : Int)) = (i == a)
    by_cases c : a = i
    · subst c
      rw [beq_self_eq_true, beq_self_eq_true]
    · rw [beq_eq_false_iff_ne.mpr (fun z => c (by omega)), beq_eq_false_iff_ne.mpr (fun z => c z.symm)]
theorem ivs_flat (l : List Nat) : (ivs l).all flatV = true := by
  rw [List.all_eq_true]
  intro z hz
  obtain ⟨q, _, rfl⟩ := List.mem_map.mp hz
  rfl
theorem push_width {f : Fleet} (hI : Inv f) {i x : Nat} (hx : Km560.widthAfterShip f (Km560.convoyWidth f) i = some x) : Km560.convoyWidth { f with convoy := f.convoy ++ [i] } = x := by
  obtain ⟨y, e⟩ := Option.isSome_iff_exists.mp hI.follow
  have ey : Km560.convoyWidth f = y := by
    unfold Km560.convoyWidth
    rw [e]
    rfl
  unfold Km560.convoyWidth
  rw [widthAfter_congr (f := f) (g := { f with convoy := f.convoy ++ [i] }) rfl _ _ fun _ _ => rfl]
  show (Km560.widthAfter f (Km560.startWidth f) (f.convoy ++ [i])).getD 0 = x
  rw [widthAfter_append, e]
  show (Km560.widthAfterShip f y i).getD 0 = x
  rw [← ey, hx]
  rfl
theorem value_eq (f : Fleet) {s : Nat} (hn : f.ships.length ≤ 7) (hs : s < 2 ^ f.ships.length) : ((mem f.ships.length s).map fun i => (sh f.ships i).value).sum = Km560.setValue f s := by
  rw [mem_eq hn hs]
  unfold Km560.setValue
  rw [sum_eq]
  rfl
theorem first_len {f : Fleet} (hn : f.ships.length ≤ 7) {s : Nat} (hs : s < 2 ^ f.ships.length) (hw : need f.ships f.closing s ≤ Km560.startWidth f) : (Km560.firstOrder f s).length = Km560.setSize s :=
  (first_perm hn Km560.maxShips s (Km560.startWidth f) hs (members_len s) hw).1.length_eq
section
variable {P : Program} {w : World} {K : PySem.W.Frag} {mg : Str → Option Value} {base : Heap} {ad : Ad}
theorem has_add_ship {f : Addr} {fd : FuncData} (F : Fun K "add_ship" "add_ship" s_add_ship f fd) (hm : mg "add_ship" = some (.ref f)) (T : Txt P w K mg ad)
    (h_want : Has P w K mg base "want" (L2.CX P w) 2 ["truth", "code"] (sp_want K ad))
    (h_Ship_init : HasI P w K mg base "Ship" ad.S CX0 1 ["self", "beam", "clearance", "worth"] (sp_Ship_init K ad))
    (h_is_ship : Has P w K mg base "is_ship" CX0 1 ["beam", "clearance", "worth"] (sp_is_ship K ad))
    : Has P w K mg base "add_ship" (L2.CX P w) 3 ["planner", "beam", "clearance", "worth"] (sp_add_ship K ad) := by
  refine ⟨f, fd, hm, F.kp, F.binds (ps := ["planner", "beam", "clearance", "worth"]) (fun _ _ _ _ _ _ us hl => match us, hl with | [_, _, _, _], _ => rfl), F.okX sc_add_ship (fun vs H Q E => ?_) (fun cdv A outer s H vs Q E hr h => ⟨_, (pss_cons (ps_expr (pe_callH h_want hr (passes_call (takes_of rfl rfl rfl rfl) (fun _ _ _ _ h => h)) (pa_cons (pe_callH h_is_ship hr pass0 (pa_cons (pv 1) (pa_cons (pv 2) (pa_cons (pv 3) pa_nil)))) (pa_cons (pe_gi T.c_OUT_OF_RANGE) pa_nil)))) (pss_cons (ps_expr (pe_callH h_want hr (passes_call (takes_of rfl rfl rfl rfl) (fun _ _ _ _ h => h)) (pa_cons (pe_cmpR op_lt (pe_callB call_len_seq (by rfl) T.b_len (by decide +kernel) (pa_cons (pe_fld (pv 0) rfl) pa_nil)) (pe_gi T.c_MOST_SHIPS) (nomark _)) (pa_cons (pe_gi T.c_TOO_MANY) pa_nil)))) (pss_cons (ps_expr (pe_bm PySem.F.plainAttrs_list PySem.F.slot_list_append PySem.F.type_list_append mt_append (pe_fld (pv 0) rfl) (pa_cons (pe_makeH h_Ship_init hr pass0 (pa_cons (pv 1) (pa_cons (pv 2) (pa_cons (pv 3) pa_nil)))) pa_nil))) (pss_one (ps_ret (pe_lst (pa_cons (pe_op op_sub (pe_callB call_len_seq (by rfl) T.b_len (by decide +kernel) (pa_cons (pe_fld (pv 0) rfl) pa_nil)) pe_int) pa_nil))))))), ?_⟩)⟩
  · first | (rintro ⟨_, rfl, _⟩; rfl) | (rintro ⟨_, _, rfl, _⟩; rfl) | (rintro ⟨_, _, _, rfl, _⟩; rfl) | (rintro ⟨_, _, _, _, rfl, _⟩; rfl) | (rintro ⟨_, _, _, _, _, rfl, _⟩; rfl) | (rintro ⟨_, _, _, _, _, _, rfl, _⟩; rfl) | (rintro ⟨_, _, _, _, _, _, _, rfl, _⟩; rfl) | (rintro ⟨_, _, _, _, _, _, _, _, rfl, _⟩; rfl) | (rintro ⟨_, _, _, _, _, _, _, _, _, rfl, _⟩; rfl)
  · obtain ⟨pl, ls, lc, f, b, c, v, rfl, hP, hI, k⟩ := h
    obtain ⟨⟨dx, hp⟩, ⟨as, hS, hL⟩, hc, hne⟩ := id hP
    refine ⟨_, rfl, _, rfl, _, rfl, b, c, v, rfl, Km560.isValidShip b c v, -22, rfl, fun e1 => ?_, fun e1 => k.bad (-22) (if_pos e1)⟩
    have e1' : ¬ Km560.isValidShip b c v = false := by rw [e1]; exact fun z => Bool.noConfusion z
    refine ⟨_, rfl, pl, ad.P, dx, _, _, rfl, hp, T.clP, T.nP_ships, plF_ships _ _ _ _, ls, _, rfl, .inl (SqL.of hS), _, _, rfl, rfl, _, -28, rfl, fun e2 => ?_, fun e2 => ?_⟩
    · have h2 : f.ships.length < 7 := by
        have := of_decide_eq_true e2
        rw [List.length_map, hL.len] at this
        omega
      refine ⟨_, rfl, pl, ad.P, dx, _, _, rfl, hp, T.clP, T.nP_ships, plF_ships _ _ _ _, .inl ⟨rfl, _, SqL.of hS⟩, _, rfl, _, rfl, _, rfl, fun x d2 hx hd2 hne2 => ⟨x, d2, ⟨b, c, v⟩, rfl, upd_same, fun H1 hsh kk => ⟨rfl, ls, as.map V.ref, .ref x, rfl, rfl, ?_, ?_, ?_⟩⟩⟩
      · exact Same.made hx hd2 kk _ _ hS
      · rw [List.length_map, hL.len]
        exact small1000 (by omega)
      · have s1 : Same H H1 := Same.made hx hd2 kk
        have hP1 := hP.same s1
        have hP2 := hP1.setShips ((hL.same s1).push hsh)
        rw [List.map_append] at hP2
        obtain ⟨⟨dx2, hp2⟩, _, _, _⟩ := id hP2
        refine ⟨_, rfl, pl, ad.P, dx2, _, _, rfl, hp2, T.clP, T.nP_ships, plF_ships _ _ _ _, ls, _, rfl, .inl (SqL.of upd_same), _, _, rfl, rfl, (by show 1 ≤ sizeLine; decide), fun p hp3 => ?_⟩
        have kp1 : Kp pl ls lc H (upd H1 ls (.lst (as.map V.ref ++ [V.ref x]))) := (Kp.refl.same s1).atLs
        refine k.good { f with ships := f.ships ++ [⟨b, c, v⟩] } ⟨(f.ships.length : Nat), []⟩ p _ ls lc ?_ (kp1.free _ hp3) ?_ ⟨hP2.same (Same.new hp3), hI.add h2 _, kp1.new hp3, .inl rfl, .inl rfl⟩
        · refine (if_neg e1').trans (if_neg ?_)
          show ¬ 7 ≤ f.ships.length
          omega
        · rw [upd_same]
          show some (HO.lst [V.int (((as.map V.ref ++ [V.ref x]).length : Nat) - 1)]) = _
          rw [List.length_append, List.length_map, hL.len]
          show some (HO.lst [V.int (((f.ships.length + 1 : Nat) : Int) - 1)]) = some (HO.lst [V.int (f.ships.length : Int)])
          rw [show (((f.ships.length + 1 : Nat) : Int) - 1) = (f.ships.length : Int) by omega]
    · refine k.bad (-28) ((if_neg e1').trans (if_pos ?_))
      have := of_decide_eq_false e2
      rw [List.length_map, hL.len] at this
      show 7 ≤ f.ships.length
      omega
theorem has_remove_ship {f : Addr} {fd : FuncData} (F : Fun K "remove_ship" "remove_ship" s_remove_ship f fd) (hm : mg "remove_ship" = some (.ref f)) (T : Txt P w K mg ad)
    (h_want_ship : Has P w K mg base "want_ship" (L2.CX P w) 3 ["planner", "number"] (sp_want_ship K ad))
    : Has P w K mg base "remove_ship" (L2.CX P w) 4 ["planner", "number"] (sp_remove_ship K ad) := by
  refine ⟨f, fd, hm, F.kp, F.binds (ps := ["planner", "number"]) (fun _ _ _ _ _ _ us hl => match us, hl with | [_, _], _ => rfl), F.okX sc_remove_ship (fun vs H Q E => ?_) (fun cdv A outer s H vs Q E hr h => ⟨_, (pss_cons (ps_expr (pe_callH h_want_ship hr (passes_call (takes_of rfl rfl rfl rfl) (fun _ _ _ _ h => h)) (pa_cons (pv 0) (pa_cons (pv 1) pa_nil)))) (pss_cons (ps_expr (pe_bm PySem.F.plainAttrs_list PySem.F.slot_list_pop PySem.F.type_list_pop mt_popAt (pe_fld (pv 0) rfl) (pa_cons (pv 1) pa_nil))) (pss_cons (ps_fld (pv 0) (pe_lst pa_nil) rfl) (pss_one (ps_ret (pe_lst (pa_cons (pe_callB call_len_seq (by rfl) T.b_len (by decide +kernel) (pa_cons (pe_fld (pv 0) rfl) pa_nil)) pa_nil))))))), ?_⟩)⟩
  · first | (rintro ⟨_, rfl, _⟩; rfl) | (rintro ⟨_, _, rfl, _⟩; rfl) | (rintro ⟨_, _, _, rfl, _⟩; rfl) | (rintro ⟨_, _, _, _, rfl, _⟩; rfl) | (rintro ⟨_, _, _, _, _, rfl, _⟩; rfl) | (rintro ⟨_, _, _, _, _, _, rfl, _⟩; rfl) | (rintro ⟨_, _, _, _, _, _, _, rfl, _⟩; rfl) | (rintro ⟨_, _, _, _, _, _, _, _, rfl, _⟩; rfl) | (rintro ⟨_, _, _, _, _, _, _, _, _, rfl, _⟩; rfl)
  · obtain ⟨pl, ls, lc, f, i, rfl, hP, hI, k⟩ := h
    obtain ⟨⟨dx, hp⟩, ⟨as, hS, hL⟩, hc, hne⟩ := id hP
    refine ⟨_, rfl, _, rfl, pl, ls, lc, f, i, rfl, hP, fun hi => ?_, fun hi => k.bad (-2) (if_pos (Nat.le_of_not_lt hi))⟩
    have hia : i < as.length := by rw [hL.len]; exact hi
    have bi1 : -(2 ^ 63) ≤ (i : Int) := Int.le_trans (b := 0) (by decide) (Int.natCast_nonneg _)
    have bi2 : (i : Int) < 2 ^ 63 := Int.lt_of_lt_of_le (b := 8) (by have := hI.few; omega) (by decide)
    refine ⟨_, rfl, pl, ad.P, dx, _, _, rfl, hp, T.clP, T.nP_ships, plF_ships _ _ _ _, .inl ⟨rfl, _, SqL.of hS⟩, _, rfl, ls, _, _, i, .ref as[i], rfl, rfl, hS, bi1, bi2, ?_, ?_, ?_⟩
    · rw [List.length_map]
      exact seq_nat hia
    · rw [List.getElem?_map, List.getElem?_eq_getElem hia]
      rfl
    have hP2 := hP.setShips (hL.erase i)
    rw [map_erase] at hP2
    have kp2 : Kp pl ls lc H (upd H ls (.lst ((as.map V.ref).eraseIdx i))) := Kp.refl.atLs
    obtain ⟨⟨dx2, hp2⟩, ⟨as2, hS2, _⟩, hc2, _⟩ := id hP2
    refine ⟨Nat.zero_le _, fun q hq => ?_⟩
    have s3 : Same (upd H ls (.lst ((as.map V.ref).eraseIdx i))) (upd (upd H ls (.lst ((as.map V.ref).eraseIdx i))) q (.lst [])) := Same.new hq
    refine ⟨_, rfl, pl, ad.P, dx2, _, rfl, s3 _ _ hp2, T.clP, T.nP_conv, plF_len _ _ _ _, ?_⟩
    rw [plF_putConv]
    have hP3 := (hP2.same s3).setF (Km560.withoutConvoy { f with ships := f.ships.eraseIdx i }) rfl (lc' := q) (dx := dx2) upd_same (fun z => by subst z; rw [hS2] at hq; cases hq)
    obtain ⟨⟨dx3, hp3⟩, ⟨as3, hS3, hL3⟩, hc3, _⟩ := id hP3
    have kp3 := (kp2.same s3).atPl (o := .ins ad.P dx2 (plF f.channelWidth f.closing ls q))
    refine ⟨_, rfl, pl, ad.P, dx2, _, _, rfl, upd_same, T.clP, T.nP_ships, plF_ships _ _ _ _, ls, _, rfl, .inl (SqL.of hS3), (by show 1 ≤ sizeLine; decide), fun p hp4 => ?_⟩
    refine k.good (Km560.withoutConvoy { f with ships := f.ships.eraseIdx i }) ⟨((f.ships.length - 1 : Nat) : Int), []⟩ p _ ls q (if_neg (Nat.not_le_of_lt hi)) (kp3.free _ hp4) ?_ ⟨hP3.same (Same.new hp4), Inv.bare ?_ rfl, kp3.new hp4, .inl rfl, .inr (kp2.free _ hq)⟩
    · rw [upd_same, List.length_map, hL3.len]
      show some (HO.lst [V.int (((f.ships.eraseIdx i).length : Nat) : Int)]) = _
      rw [List.length_eraseIdx, if_pos hi]
      rfl
    · show (f.ships.eraseIdx i).length ≤ 7
      rw [List.length_eraseIdx, if_pos hi]
      have := hI.few
      omega
theorem has_update_ship {f : Addr} {fd : FuncData} (F : Fun K "update_ship" "update_ship" s_update_ship f fd) (hm : mg "update_ship" = some (.ref f)) (T : Txt P w K mg ad)
    (h_want : Has P w K mg base "want" (L2.CX P w) 2 ["truth", "code"] (sp_want K ad))
    (h_Ship_init : HasI P w K mg base "Ship" ad.S CX0 1 ["self", "beam", "clearance", "worth"] (sp_Ship_init K ad))
    (h_Ship_described : HasM P w K mg base ad.S "described" CX0 1 ["self"] (sp_Ship_described K ad))
    (h_is_ship : Has P w K mg base "is_ship" CX0 1 ["beam", "clearance", "worth"] (sp_is_ship K ad))
    (h_want_ship : Has P w K mg base "want_ship" (L2.CX P w) 3 ["planner", "number"] (sp_want_ship K ad))
    : Has P w K mg base "update_ship" (L2.CX P w) 4 ["planner", "number", "beam", "clearance", "worth"] (sp_update_ship K ad) := by
  refine ⟨f, fd, hm, F.kp, F.binds (ps := ["planner", "number", "beam", "clearance", "worth"]) (fun _ _ _ _ _ _ us hl => match us, hl with | [_, _, _, _, _], _ => rfl), F.okX sc_update_ship (fun vs H Q E => ?_) (fun cdv A outer s H vs Q E hr h => ⟨_, (pss_cons (ps_expr (pe_callH h_want_ship hr (passes_call (takes_of rfl rfl rfl rfl) (fun _ _ _ _ h => h)) (pa_cons (pv 0) (pa_cons (pv 1) pa_nil)))) (pss_cons (ps_expr (pe_callH h_want hr (passes_call (takes_of rfl rfl rfl rfl) (fun _ _ _ _ h => h)) (pa_cons (pe_callH h_is_ship hr pass0 (pa_cons (pv 2) (pa_cons (pv 3) (pa_cons (pv 4) pa_nil)))) (pa_cons (pe_gi T.c_OUT_OF_RANGE) pa_nil)))) (pss_cons (ps_set (i := 5) sc_update_ship.nd rfl (Or.inl rfl) (pe_methH0 (pe_ix ix_list (pe_fld (pv 0) rfl) (pv 1) (fun _ _ => rfl)) T.clS h_Ship_described hr pass0)) (pss_cons (ps_asg (pe_makeH h_Ship_init hr pass0 (pa_cons (pv 2) (pa_cons (pv 3) (pa_cons (pv 4) pa_nil)))) (pg_sub (pe_fld (pv 0) rfl) (pv 1) set_list)) (pss_cons (ps_fld (pv 0) (pe_lst pa_nil) rfl) (pss_one (ps_ret (pv 5)))))))), ?_⟩)⟩
  · first | (rintro ⟨_, rfl, _⟩; rfl) | (rintro ⟨_, _, rfl, _⟩; rfl) | (rintro ⟨_, _, _, rfl, _⟩; rfl) | (rintro ⟨_, _, _, _, rfl, _⟩; rfl) | (rintro ⟨_, _, _, _, _, rfl, _⟩; rfl) | (rintro ⟨_, _, _, _, _, _, rfl, _⟩; rfl) | (rintro ⟨_, _, _, _, _, _, _, rfl, _⟩; rfl) | (rintro ⟨_, _, _, _, _, _, _, _, rfl, _⟩; rfl) | (rintro ⟨_, _, _, _, _, _, _, _, _, rfl, _⟩; rfl)
  · obtain ⟨pl, ls, lc, f, i, b, c, v, rfl, hP, hI, k⟩ := h
    obtain ⟨⟨dx, hp⟩, ⟨as, hS, hL⟩, hc, hne⟩ := id hP
    refine ⟨_, rfl, _, rfl, pl, ls, lc, f, i, rfl, hP, fun hi => ?_, fun hi => k.bad (-2) (if_pos (Nat.le_of_not_lt hi))⟩
    have hi' : ¬ f.ships.length ≤ i := Nat.not_le_of_lt hi
    have hia : i < as.length := by rw [hL.len]; exact hi
    refine ⟨_, rfl, _, rfl, _, rfl, b, c, v, rfl, Km560.isValidShip b c v, -22, rfl, fun e1 => ?_, fun e1 => k.bad (-22) ((if_neg hi').trans (if_pos e1))⟩
    have e1' : ¬ Km560.isValidShip b c v = false := by rw [e1]; exact fun z => Bool.noConfusion z
    obtain ⟨q0, hq0, hsh0⟩ := hL.get hi
    obtain ⟨d0, hd0⟩ := id hsh0
    refine ⟨_, rfl, pl, ad.P, dx, _, _, rfl, hp, T.clP, T.nP_ships, plF_ships _ _ _ _, _, rfl, ls, _, _, _, rfl, rfl, SqL.of hS, atI_nat hq0, q0, d0, _, rfl, hd0, shF_desc _, q0, _, rfl, hsh0, fun p H0 hp0 s0 h0 => ?_⟩
    refine ⟨_, rfl, _, rfl, _, rfl, fun x d2 hx hd2 hne2 => ⟨x, d2, ⟨b, c, v⟩, rfl, upd_same, fun H1 hsh kk => ⟨rfl, ?_⟩⟩⟩
    have s1 : Same H0 H1 := Same.made hx hd2 kk
    have s01 : Same H H1 := Same.trans s0 s1
    refine ⟨_, rfl, pl, ad.P, dx, _, _, rfl, s01 _ _ hp, T.clP, T.nP_ships, plF_ships _ _ _ _, _, rfl, ls, _, _, i, rfl, rfl, s01 _ _ hS, ?_, ?_⟩
    · rw [List.length_map]
      exact ixN_nat hia
    have hP1 := hP.same s01
    have hP2 := hP1.setShips ((hL.same s01).set i hsh)
    rw [List.map_set] at hP2
    have kp2 : Kp pl ls lc H (upd H1 ls (.lst ((as.map V.ref).set i (V.ref x)))) := (Kp.refl.same s01).atLs
    obtain ⟨⟨dx2, hp2⟩, ⟨as2, hS2, _⟩, hc2, _⟩ := id hP2
    refine ⟨Nat.zero_le _, fun q hq => ?_⟩
    have s3 : Same (upd H1 ls (.lst ((as.map V.ref).set i (V.ref x)))) (upd (upd H1 ls (.lst ((as.map V.ref).set i (V.ref x)))) q (.lst [])) := Same.new hq
    refine ⟨_, rfl, pl, ad.P, dx2, _, rfl, s3 _ _ hp2, T.clP, T.nP_conv, plF_len _ _ _ _, ?_⟩
    rw [plF_putConv]
    have hP3 := (hP2.same s3).setF (Km560.withoutConvoy { f with ships := f.ships.set i ⟨b, c, v⟩ }) rfl (lc' := q) (dx := dx2) upd_same (fun z => by subst z; rw [hS2] at hq; cases hq)
    have kp3 := (kp2.same s3).atPl (o := .ins ad.P dx2 (plF f.channelWidth f.closing ls q))
    refine ⟨_, rfl, ?_⟩
    have np1 : p ≠ pl := (ne_of_none hp hp0).symm
    have np2 : p ≠ ls := (ne_of_none hS hp0).symm
    refine k.good (Km560.withoutConvoy { f with ships := f.ships.set i ⟨b, c, v⟩ }) ⟨((Km560.getShip f i).beam : Int), [((Km560.getShip f i).selfClearance : Int), ((Km560.getShip f i).value : Int)]⟩ p _ ls q ((if_neg hi').trans (if_neg e1')) hp0 ?_ ⟨hP3, Inv.bare ?_ rfl, kp3, .inl rfl, .inr (kp2.free _ hq)⟩
    · refine (upd_ne np1).trans (s3 _ _ ?_)
      rw [upd_ne np2]
      exact s1 _ _ h0
    · show (f.ships.set i _).length ≤ 7
      rw [List.length_set]
      exact hI.few
theorem has_set_channel_width {f : Addr} {fd : FuncData} (F : Fun K "set_channel_width" "set_channel_width" s_set_channel_width f fd) (hm : mg "set_channel_width" = some (.ref f)) (T : Txt P w K mg ad)
    (h_want_channel : Has P w K mg base "want_channel" (L2.CX P w) 3 ["channel"] (sp_want_channel K ad))
    : Has P w K mg base "set_channel_width" (L2.CX P w) 4 ["planner", "channel"] (sp_set_channel_width K ad) := by
  refine ⟨f, fd, hm, F.kp, F.binds (ps := ["planner", "channel"]) (fun _ _ _ _ _ _ us hl => match us, hl with | [_, _], _ => rfl), F.okX sc_set_channel_width (fun vs H Q E => ?_) (fun cdv A outer s H vs Q E hr h => ⟨_, (pss_cons (ps_expr (pe_callH h_want_channel hr (passes_call (takes_of rfl rfl rfl rfl) (fun _ _ _ _ h => h)) (pa_cons (pv 1) pa_nil))) (pss_cons (ps_set (i := 2) sc_set_channel_width.nd rfl (Or.inl rfl) (pe_fld (pv 0) rfl)) (pss_cons (ps_fld (pv 0) (pv 1) rfl) (pss_cons (ps_fld (pv 0) (pe_lst pa_nil) rfl) (pss_one (ps_ret (pe_lst (pa_cons (pv 2) pa_nil)))))))), ?_⟩)⟩
  · first | (rintro ⟨_, rfl, _⟩; rfl) | (rintro ⟨_, _, rfl, _⟩; rfl) | (rintro ⟨_, _, _, rfl, _⟩; rfl) | (rintro ⟨_, _, _, _, rfl, _⟩; rfl) | (rintro ⟨_, _, _, _, _, rfl, _⟩; rfl) | (rintro ⟨_, _, _, _, _, _, rfl, _⟩; rfl) | (rintro ⟨_, _, _, _, _, _, _, rfl, _⟩; rfl) | (rintro ⟨_, _, _, _, _, _, _, _, rfl, _⟩; rfl) | (rintro ⟨_, _, _, _, _, _, _, _, _, rfl, _⟩; rfl)
  · obtain ⟨pl, ls, lc, f, c, rfl, hP, hI, k⟩ := h
    obtain ⟨⟨dx, hp⟩, ⟨as, hS, hL⟩, hc, hne⟩ := id hP
    refine ⟨_, rfl, c, rfl, fun h1 => ?_, fun h1 => k.bad (-22) (if_pos (by omega))⟩
    refine ⟨_, rfl, pl, ad.P, dx, _, _, rfl, hp, T.clP, T.nP_chan, plF_chan _ _ _ _, ?_⟩
    refine ⟨_, rfl, _, rfl, pl, ad.P, dx, _, rfl, hp, T.clP, T.nP_chan, plF_len _ _ _ _, ?_⟩
    rw [plF_putChan]
    have hP1 := hP.setF { f with channelWidth := c } rfl (dx := dx) hc hne
    have kp1 : Kp pl ls lc H (upd H pl (.ins ad.P dx (plF c f.closing ls lc))) := Kp.refl.atPl
    refine ⟨Nat.zero_le _, fun q hq => ?_⟩
    have s2 : Same (upd H pl (.ins ad.P dx (plF c f.closing ls lc))) (upd (upd H pl (.ins ad.P dx (plF c f.closing ls lc))) q (.lst [])) := Same.new hq
    refine ⟨_, rfl, pl, ad.P, dx, _, rfl, s2 _ _ upd_same, T.clP, T.nP_conv, plF_len _ _ _ _, ?_⟩
    rw [plF_putConv]
    have hq0 := kp1.free _ hq
    have hP3 := (hP1.same s2).setF (Km560.withoutConvoy { f with channelWidth := c }) rfl (lc' := q) (dx := dx) upd_same (ne_of_none hS hq0)
    have kp3 := (kp1.same s2).atPl (o := .ins ad.P dx (plF c f.closing ls q))
    refine ⟨_, rfl, (by show 1 ≤ sizeLine; decide), fun p hp4 => ?_⟩
    exact k.good (Km560.withoutConvoy { f with channelWidth := c }) ⟨(f.channelWidth : Nat), []⟩ p _ ls q (if_neg (by omega)) (kp3.free _ hp4) upd_same ⟨hP3.same (Same.new hp4), Inv.bare hI.few rfl, kp3.new hp4, .inl rfl, .inr hq0⟩
theorem has_set_closing {f : Addr} {fd : FuncData} (F : Fun K "set_closing" "set_closing" s_set_closing f fd) (hm : mg "set_closing" = some (.ref f)) (T : Txt P w K mg ad)
    (h_want_closing : Has P w K mg base "want_closing" (L2.CX P w) 3 ["closing"] (sp_want_closing K ad))
    : Has P w K mg base "set_closing" (L2.CX P w) 4 ["planner", "closing"] (sp_set_closing K ad) := by
  refine ⟨f, fd, hm, F.kp, F.binds (ps := ["planner", "closing"]) (fun _ _ _ _ _ _ us hl => match us, hl with | [_, _], _ => rfl), F.okX sc_set_closing (fun vs H Q E => ?_) (fun cdv A outer s H vs Q E hr h => ⟨_, (pss_cons (ps_expr (pe_callH h_want_closing hr (passes_call (takes_of rfl rfl rfl rfl) (fun _ _ _ _ h => h)) (pa_cons (pv 1) pa_nil))) (pss_cons (ps_set (i := 2) sc_set_closing.nd rfl (Or.inl rfl) (pe_fld (pv 0) rfl)) (pss_cons (ps_fld (pv 0) (pv 1) rfl) (pss_cons (ps_fld (pv 0) (pe_lst pa_nil) rfl) (pss_one (ps_ret (pe_lst (pa_cons (pv 2) pa_nil)))))))), ?_⟩)⟩
  · first | (rintro ⟨_, rfl, _⟩; rfl) | (rintro ⟨_, _, rfl, _⟩; rfl) | (rintro ⟨_, _, _, rfl, _⟩; rfl) | (rintro ⟨_, _, _, _, rfl, _⟩; rfl) | (rintro ⟨_, _, _, _, _, rfl, _⟩; rfl) | (rintro ⟨_, _, _, _, _, _, rfl, _⟩; rfl) | (rintro ⟨_, _, _, _, _, _, _, rfl, _⟩; rfl) | (rintro ⟨_, _, _, _, _, _, _, _, rfl, _⟩; rfl) | (rintro ⟨_, _, _, _, _, _, _, _, _, rfl, _⟩; rfl)
  · obtain ⟨pl, ls, lc, f, c, rfl, hP, hI, k⟩ := h
    obtain ⟨⟨dx, hp⟩, ⟨as, hS, hL⟩, hc, hne⟩ := id hP
    refine ⟨_, rfl, c, rfl, fun h1 => ?_, fun h1 => k.bad (-22) (if_pos (by omega))⟩
    refine ⟨_, rfl, pl, ad.P, dx, _, _, rfl, hp, T.clP, T.nP_clos, plF_clos _ _ _ _, ?_⟩
    refine ⟨_, rfl, _, rfl, pl, ad.P, dx, _, rfl, hp, T.clP, T.nP_clos, plF_len _ _ _ _, ?_⟩
    rw [plF_putClos]
    have hP1 := hP.setF { f with closing := c } rfl (dx := dx) hc hne
    have kp1 : Kp pl ls lc H (upd H pl (.ins ad.P dx (plF f.channelWidth c ls lc))) := Kp.refl.atPl
    refine ⟨Nat.zero_le _, fun q hq => ?_⟩
    have s2 : Same (upd H pl (.ins ad.P dx (plF f.channelWidth c ls lc))) (upd (upd H pl (.ins ad.P dx (plF f.channelWidth c ls lc))) q (.lst [])) := Same.new hq
    refine ⟨_, rfl, pl, ad.P, dx, _, rfl, s2 _ _ upd_same, T.clP, T.nP_conv, plF_len _ _ _ _, ?_⟩
    rw [plF_putConv]
    have hq0 := kp1.free _ hq
    have hP3 := (hP1.same s2).setF (Km560.withoutConvoy { f with closing := c }) rfl (lc' := q) (dx := dx) upd_same (ne_of_none hS hq0)
    have kp3 := (kp1.same s2).atPl (o := .ins ad.P dx (plF f.channelWidth c ls q))
    refine ⟨_, rfl, (by show 1 ≤ sizeLine; decide), fun p hp4 => ?_⟩
    exact k.good (Km560.withoutConvoy { f with closing := c }) ⟨(f.closing : Nat), []⟩ p _ ls q (if_neg (by omega)) (kp3.free _ hp4) upd_same ⟨hP3.same (Same.new hp4), Inv.bare hI.few rfl, kp3.new hp4, .inl rfl, .inr hq0⟩
theorem has_append_to_convoy {f : Addr} {fd : FuncData} (F : Fun K "append_to_convoy" "append_to_convoy" s_append_to_convoy f fd) (hm : mg "append_to_convoy" = some (.ref f)) (T : Txt P w K mg ad)
    (h_want : Has P w K mg base "want" (L2.CX P w) 2 ["truth", "code"] (sp_want K ad))
    (h_Planner_last_width : HasM P w K mg base ad.P "last_width" CX0 5 ["self"] (sp_Planner_last_width K ad))
    (h_Planner_is_next : HasM P w K mg base ad.P "is_next" CX0 6 ["self", "number"] (sp_Planner_is_next K ad))
    (h_want_ship : Has P w K mg base "want_ship" (L2.CX P w) 3 ["planner", "number"] (sp_want_ship K ad))
    : Has P w K mg base "append_to_convoy" (L2.CX P w) 7 ["planner", "number"] (sp_append_to_convoy K ad) := by
  refine ⟨f, fd, hm, F.kp, F.binds (ps := ["planner", "number"]) (fun _ _ _ _ _ _ us hl => match us, hl with | [_, _], _ => rfl), F.okX sc_append_to_convoy (fun vs H Q E => ?_) (fun cdv A outer s H vs Q E hr h => ⟨_, (pss_cons (ps_expr (pe_callH h_want_ship hr (passes_call (takes_of rfl rfl rfl rfl) (fun _ _ _ _ h => h)) (pa_cons (pv 0) (pa_cons (pv 1) pa_nil)))) (pss_cons (ps_expr (pe_callH h_want hr (passes_call (takes_of rfl rfl rfl rfl) (fun _ _ _ _ h => h)) (pa_cons (pe_cmpR op_notIn_seq (pv 1) (pe_fld (pv 0) rfl) (by with_unfolding_all rfl)) (pa_cons (pe_gi T.c_IN_CONVOY) pa_nil)))) (pss_cons (ps_expr (pe_callH h_want hr (passes_call (takes_of rfl rfl rfl rfl) (fun _ _ _ _ h => h)) (pa_cons (pe_methH (pv 0) T.clP h_Planner_is_next hr pass0 (pa_cons (pv 1) pa_nil)) (pa_cons (pe_gi T.c_CANNOT_FOLLOW) pa_nil)))) (pss_cons (ps_expr (pe_bm PySem.F.plainAttrs_list PySem.F.slot_list_append PySem.F.type_list_append mt_append (pe_fld (pv 0) rfl) (pa_cons (pv 1) pa_nil))) (pss_one (ps_ret (pe_lst (pa_cons (pe_methH0 (pv 0) T.clP h_Planner_last_width hr pass0) pa_nil)))))))), ?_⟩)⟩
  · first | (rintro ⟨_, rfl, _⟩; rfl) | (rintro ⟨_, _, rfl, _⟩; rfl) | (rintro ⟨_, _, _, rfl, _⟩; rfl) | (rintro ⟨_, _, _, _, rfl, _⟩; rfl) | (rintro ⟨_, _, _, _, _, rfl, _⟩; rfl) | (rintro ⟨_, _, _, _, _, _, rfl, _⟩; rfl) | (rintro ⟨_, _, _, _, _, _, _, rfl, _⟩; rfl) | (rintro ⟨_, _, _, _, _, _, _, _, rfl, _⟩; rfl) | (rintro ⟨_, _, _, _, _, _, _, _, _, rfl, _⟩; rfl)
  · obtain ⟨pl, ls, lc, f, i, rfl, hP, hI, k⟩ := h
    obtain ⟨⟨dx, hp⟩, ⟨as, hS, hL⟩, hc, hne⟩ := id hP
    refine ⟨_, rfl, _, rfl, pl, ls, lc, f, i, rfl, hP, fun hi => ?_, fun hi => k.bad (-2) (if_pos (Nat.le_of_not_lt hi))⟩
    have hi' : ¬ f.ships.length ≤ i := Nat.not_le_of_lt hi
    refine ⟨_, rfl, _, rfl, pl, ad.P, dx, _, _, rfl, hp, T.clP, T.nP_conv, plF_conv _ _ _ _, lc, _, rfl, .inl (SqL.of hc), rfl, ivs_flat _, _, -17, rfl, fun e1 => ?_, fun e1 => ?_⟩
    · have e2 : f.convoy.contains i = false := by
        have : (!inV (iv i) (ivs f.convoy)) = true := e1
        rw [inV_nat] at this
        cases h : f.convoy.contains i with
        | false => rfl
        | true => rw [h] at this; cases this
      have e2' : ¬ f.convoy.contains i = true := by rw [e2]; exact Bool.false_ne_true
      refine ⟨_, rfl, pl, dx, _, rfl, hp, plF_next _ _ _ _, _, rfl, pl, ls, lc, f, i, rfl, hP, hI, hi, fun H1 s1 => ⟨_, -35, rfl, fun e3 => ?_, fun e3 => ?_⟩⟩
      · obtain ⟨x, hx⟩ := Option.isSome_iff_exists.mp e3
        refine ⟨_, rfl, pl, ad.P, dx, _, _, rfl, s1 _ _ hp, T.clP, T.nP_conv, plF_conv _ _ _ _, .inl ⟨rfl, _, SqL.of (s1 _ _ hc)⟩, _, rfl, lc, _, iv i, rfl, rfl, s1 _ _ hc, ?_, ?_⟩
        · rw [ivs_len]
          have := hI.conv
          exact small1000 (by omega)
        rw [← ivs_snoc]
        have hP2 := (hP.same s1).setConv (f.convoy ++ [i])
        have kp2 : Kp pl ls lc H (upd H1 lc (.lst (ivs (f.convoy ++ [i])))) := (Kp.refl.same s1).atLc
        have hI2 : Inv { f with convoy := f.convoy ++ [i] } := hI.push hi (fun z => e2' (List.contains_iff_mem.mpr z)) hx
        obtain ⟨⟨dx2, hp2⟩, _, _, _⟩ := id hP2
        refine ⟨_, rfl, pl, dx2, _, rfl, hp2, plF_last _ _ _ _, pl, ls, lc, _, rfl, hP2, hI2, fun H3 s3 => ?_⟩
        rw [push_width hI hx]
        refine ⟨(by show 1 ≤ sizeLine; decide), fun p hp4 => ?_⟩
        refine k.good { f with convoy := f.convoy ++ [i] } ⟨(x : Nat), []⟩ p _ ls lc ?_ ((kp2.same s3).free _ hp4) upd_same ⟨hP2.same (Same.trans s3 (Same.new hp4)), hI2, (kp2.same s3).new hp4, .inl rfl, .inl rfl⟩
        refine (if_neg hi').trans ((if_neg e2').trans ?_)
        rw [hx]
        rfl
      · refine (k.bad (-35) ?_).same s1
        refine (if_neg hi').trans ((if_neg e2').trans ?_)
        cases hx : Km560.widthAfterShip f (Km560.convoyWidth f) i with
        | none => rfl
        | some x => rw [hx] at e3; cases e3
    · refine k.bad (-17) ((if_neg hi').trans (if_pos ?_))
      have : (!inV (iv i) (ivs f.convoy)) = false := e1
      rw [inV_nat] at this
      cases h : f.convoy.contains i with
      | true => rfl
      | false => rw [h] at this; cases this
theorem has_remove_last_from_convoy {f : Addr} {fd : FuncData} (F : Fun K "remove_last_from_convoy" "remove_last_from_convoy" s_remove_last_from_convoy f fd) (hm : mg "remove_last_from_convoy" = some (.ref f)) (T : Txt P w K mg ad)
    (h_want : Has P w K mg base "want" (L2.CX P w) 2 ["truth", "code"] (sp_want K ad))
    : Has P w K mg base "remove_last_from_convoy" (L2.CX P w) 3 ["planner"] (sp_remove_last_from_convoy K ad) := by
  refine ⟨f, fd, hm, F.kp, F.binds (ps := ["planner"]) (fun _ _ _ _ _ _ us hl => match us, hl with | [_], _ => rfl), F.okX sc_remove_last_from_convoy (fun vs H Q E => ?_) (fun cdv A outer s H vs Q E hr h => ⟨_, (pss_cons (ps_expr (pe_callH h_want hr (passes_call (takes_of rfl rfl rfl rfl) (fun _ _ _ _ h => h)) (pa_cons (pe_cmpR (op_neNil hr.units0) (pe_fld (pv 0) rfl) (pe_lst pa_nil) (nomark _)) (pa_cons (pe_gi T.c_EMPTY) pa_nil)))) (pss_one (ps_ret (pe_lst (pa_cons (pe_bm0 PySem.F.plainAttrs_list PySem.F.slot_list_pop PySem.F.type_list_pop mt_pop (pe_fld (pv 0) rfl)) pa_nil))))), ?_⟩)⟩
  · first | (rintro ⟨_, rfl, _⟩; rfl) | (rintro ⟨_, _, rfl, _⟩; rfl) | (rintro ⟨_, _, _, rfl, _⟩; rfl) | (rintro ⟨_, _, _, _, rfl, _⟩; rfl) | (rintro ⟨_, _, _, _, _, rfl, _⟩; rfl) | (rintro ⟨_, _, _, _, _, _, rfl, _⟩; rfl) | (rintro ⟨_, _, _, _, _, _, _, rfl, _⟩; rfl) | (rintro ⟨_, _, _, _, _, _, _, _, rfl, _⟩; rfl) | (rintro ⟨_, _, _, _, _, _, _, _, _, rfl, _⟩; rfl)
  · obtain ⟨pl, ls, lc, f, rfl, hP, hI, k⟩ := h
    obtain ⟨⟨dx, hp⟩, ⟨as, hS, hL⟩, hc, hne⟩ := id hP
    refine ⟨_, rfl, pl, ad.P, dx, _, _, rfl, hp, T.clP, T.nP_conv, plF_conv _ _ _ _, Nat.zero_le _, fun q hq => ?_⟩
    have s1 : Same H (upd H q (.lst [])) := Same.new hq
    refine ⟨lc, q, _, rfl, rfl, SqL.of (s1 _ _ hc), SqL.of upd_same, _, -6, rfl, fun e1 => ?_, fun e1 => ?_⟩
    · have hcne : f.convoy ≠ [] := fun z => by rw [z] at e1; cases e1
      obtain ⟨c, i, hci⟩ : ∃ c i, f.convoy = c ++ [i] := by
        rcases List.eq_nil_or_concat f.convoy with z | ⟨c, i, z⟩
        · exact absurd z hcne
        · exact ⟨c, i, by rw [z, List.concat_eq_append]⟩
      refine ⟨_, rfl, pl, ad.P, dx, _, _, rfl, s1 _ _ hp, T.clP, T.nP_conv, plF_conv _ _ _ _, .inl ⟨rfl, _, SqL.of (s1 _ _ hc)⟩, lc, _, iv i, rfl, rfl, s1 _ _ hc, ?_, ?_⟩
      · rw [hci, ivs_snoc, List.length_append, List.getElem?_append_right (by show _ ≤ _ + 1 - 1; omega)]
        show [iv i][(ivs c).length + 1 - 1 - (ivs c).length]? = some (iv i)
        rw [show (ivs c).length + 1 - 1 - (ivs c).length = 0 by omega]
        rfl
      rw [show (ivs f.convoy).dropLast = ivs c by rw [hci, ivs_snoc, List.dropLast_concat]]
      have hP2 := (hP.same s1).setConv c
      have kp2 : Kp pl ls lc H (upd (upd H q (.lst [])) lc (.lst (ivs c))) := (Kp.refl.same s1).atLc
      refine ⟨(by show 1 ≤ sizeLine; decide), fun p hp4 => ?_⟩
      refine k.good { f with convoy := c } ⟨(i : Nat), []⟩ p _ ls lc ?_ (kp2.free _ hp4) upd_same ⟨hP2.same (Same.new hp4), hI.pop hci, kp2.new hp4, .inl rfl, .inl rfl⟩
      show (match f.convoy.reverse with | [] => _ | i :: rest => _) = _
      rw [hci, List.reverse_append]
      show (some { f with convoy := c.reverse.reverse }, _) = _
      rw [List.reverse_reverse]
      rfl
    · have hce : f.convoy = [] := by
        cases h : f.convoy with
        | nil => rfl
        | cons a r => rw [h] at e1; cases e1
      refine (k.bad (-6) ?_).same s1
      show (match f.convoy.reverse with | [] => _ | i :: rest => _) = _
      rw [hce]
      rfl
theorem has_clear_convoy {f : Addr} {fd : FuncData} (F : Fun K "clear_convoy" "clear_convoy" s_clear_convoy f fd) (hm : mg "clear_convoy" = some (.ref f)) (T : Txt P w K mg ad)
    : Has P w K mg base "clear_convoy" CX0 1 ["planner"] (sp_clear_convoy K ad) := by
  refine ⟨f, fd, hm, F.kp, F.binds (ps := ["planner"]) (fun _ _ _ _ _ _ us hl => match us, hl with | [_], _ => rfl), F.ok sc_clear_convoy (fun vs H Q E => ?_) (fun cdv A outer s H vs Q E hr h => ⟨_, (pss_cons (ps_set (i := 1) sc_clear_convoy.nd rfl (Or.inl rfl) (pe_callB call_len_seq (by rfl) T.b_len (by decide +kernel) (pa_cons (pe_fld (pv 0) rfl) pa_nil))) (pss_cons (ps_fld (pv 0) (pe_lst pa_nil) rfl) (pss_one (ps_ret (pe_lst (pa_cons (pv 1) pa_nil)))))), ?_⟩)⟩
  · first | (rintro ⟨_, rfl, _⟩; rfl) | (rintro ⟨_, _, rfl, _⟩; rfl) | (rintro ⟨_, _, _, rfl, _⟩; rfl) | (rintro ⟨_, _, _, _, rfl, _⟩; rfl) | (rintro ⟨_, _, _, _, _, rfl, _⟩; rfl) | (rintro ⟨_, _, _, _, _, _, rfl, _⟩; rfl) | (rintro ⟨_, _, _, _, _, _, _, rfl, _⟩; rfl) | (rintro ⟨_, _, _, _, _, _, _, _, rfl, _⟩; rfl) | (rintro ⟨_, _, _, _, _, _, _, _, _, rfl, _⟩; rfl)
  · obtain ⟨pl, ls, lc, f, rfl, hP, hI, k⟩ := h
    obtain ⟨⟨dx, hp⟩, ⟨as, hS, hL⟩, hc, hne⟩ := id hP
    refine ⟨_, rfl, pl, ad.P, dx, _, _, rfl, hp, T.clP, T.nP_conv, plF_conv _ _ _ _, lc, _, rfl, .inl (SqL.of hc), ?_⟩
    refine ⟨Nat.zero_le _, fun q hq => ?_⟩
    have s2 : Same H (upd H q (.lst [])) := Same.new hq
    refine ⟨_, rfl, pl, ad.P, dx, _, rfl, s2 _ _ hp, T.clP, T.nP_conv, plF_len _ _ _ _, ?_⟩
    rw [plF_putConv]
    have hP3 := (hP.same s2).setF (Km560.withoutConvoy f) rfl (lc' := q) (dx := dx) upd_same (ne_of_none hS hq)
    have kp3 := (Kp.refl.same s2).atPl (pl := pl) (ls := ls) (lc := lc) (o := .ins ad.P dx (plF f.channelWidth f.closing ls q))
    refine ⟨_, rfl, (by show 1 ≤ sizeLine; decide), fun p hp4 => ?_⟩
    refine k.good (Km560.withoutConvoy f) ⟨(f.convoy.length : Nat), []⟩ p _ ls q rfl (kp3.free _ hp4) ?_ ⟨hP3.same (Same.new hp4), Inv.bare hI.few rfl, kp3.new hp4, .inl rfl, .inr hq⟩
    rw [upd_same, ivs_len]
    rfl
theorem has_form_largest_convoy {f : Addr} {fd : FuncData} (F : Fun K "form_largest_convoy" "form_largest_convoy" s_form_largest_convoy f fd) (hm : mg "form_largest_convoy" = some (.ref f)) (T : Txt P w K mg ad)
    (h_largest_set : Has P w K mg base "largest_set" CX0 5 ["ships", "closing", "previous"] (sp_largest_set K ad))
    (h_first_order : Has P w K mg base "first_order" CX0 5 ["ships", "closing", "ship_set", "previous"] (sp_first_order K ad))
    (h_Planner_start : HasM P w K mg base ad.P "start" CX0 1 ["self"] (sp_Planner_start K ad))
    : Has P w K mg base "form_largest_convoy" CX0 6 ["planner"] (sp_form_largest_convoy K ad) := by
  refine ⟨f, fd, hm, F.kp, F.binds (ps := ["planner"]) (fun _ _ _ _ _ _ us hl => match us, hl with | [_], _ => rfl), F.ok sc_form_largest_convoy (fun vs H Q E => ?_) (fun cdv A outer s H vs Q E hr h => ⟨_, (pss_cons (ps_set (i := 1) sc_form_largest_convoy.nd rfl (Or.inl rfl) (pe_callH h_largest_set hr pass0 (pa_cons (pe_fld (pv 0) rfl) (pa_cons (pe_fld (pv 0) rfl) (pa_cons (pe_methH0 (pv 0) T.clP h_Planner_start hr pass0) pa_nil))))) (pss_cons (ps_fld (pv 0) (pe_callH h_first_order hr pass0 (pa_cons (pe_fld (pv 0) rfl) (pa_cons (pe_fld (pv 0) rfl) (pa_cons (pv 1) (pa_cons (pe_methH0 (pv 0) T.clP h_Planner_start hr pass0) pa_nil))))) rfl) (pss_one (ps_ret (pe_lst (pa_cons (pe_callB call_len_seq (by rfl) T.b_len (by decide +kernel) (pa_cons (pe_fld (pv 0) rfl) pa_nil)) pa_nil)))))), ?_⟩)⟩
  · first | (rintro ⟨_, rfl, _⟩; rfl) | (rintro ⟨_, _, rfl, _⟩; rfl) | (rintro ⟨_, _, _, rfl, _⟩; rfl) | (rintro ⟨_, _, _, _, rfl, _⟩; rfl) | (rintro ⟨_, _, _, _, _, rfl, _⟩; rfl) | (rintro ⟨_, _, _, _, _, _, rfl, _⟩; rfl) | (rintro ⟨_, _, _, _, _, _, _, rfl, _⟩; rfl) | (rintro ⟨_, _, _, _, _, _, _, _, rfl, _⟩; rfl) | (rintro ⟨_, _, _, _, _, _, _, _, _, rfl, _⟩; rfl)
  · obtain ⟨pl, ls, lc, f, rfl, hP, hI, k⟩ := h
    obtain ⟨⟨dx, hp⟩, ⟨as, hS, hL⟩, hc, hne⟩ := id hP
    have hn := hI.few
    have hlt := bestSet_lt hn Km560.setSize setSize_zero
    have hfe := bestSet_feas hn Km560.setSize setSize_zero
    refine ⟨_, rfl, pl, ad.P, dx, _, _, rfl, hp, T.clP, T.nP_ships, plF_ships _ _ _ _, _, rfl, pl, ad.P, dx, _, _, rfl, hp, T.clP, T.nP_clos, plF_clos _ _ _ _, _, rfl, pl, dx, _, rfl, hp, plF_start _ _ _ _, pl, ls, lc, f, rfl, hP, ls, f, rfl, hP.shipsAt, hn, fun H1 s1 => ?_⟩
    have hP1 := hP.same s1
    have hp1 := s1 _ _ hp
    refine ⟨_, rfl, pl, ad.P, dx, _, _, rfl, hp1, T.clP, T.nP_ships, plF_ships _ _ _ _, _, rfl, pl, ad.P, dx, _, _, rfl, hp1, T.clP, T.nP_clos, plF_clos _ _ _ _, _, rfl, _, rfl, pl, dx, _, rfl, hp1, plF_start _ _ _ _, pl, ls, lc, f, rfl, hP1,
      ls, f, Km560.largestSet f, Km560.startWidth f, rfl, hP1.shipsAt, hn, hlt, hfe, fun q H2 hq s2 h2 => ?_⟩
    refine ⟨_, rfl, pl, ad.P, dx, _, rfl, s2 _ _ hp1, T.clP, T.nP_conv, plF_len _ _ _ _, ?_⟩
    rw [plF_putConv]
    have s12 : Same H H2 := Same.trans s1 s2
    have hP3 := (hP.same s12).setF { f with convoy := Km560.firstOrder f (Km560.largestSet f) } rfl (lc' := q) (dx := dx) h2 (ne_of_none hS (s1.free hq))
    have kp3 := (Kp.refl.same s12).atPl (pl := pl) (ls := ls) (lc := lc) (o := .ins ad.P dx (plF f.channelWidth f.closing ls q))
    obtain ⟨_, _, hc3, _⟩ := id hP3
    refine ⟨_, rfl, pl, ad.P, dx, _, _, rfl, upd_same, T.clP, T.nP_conv, plF_conv _ _ _ _, q, _, rfl, .inl (SqL.of hc3), (by show 1 ≤ sizeLine; decide), fun p hp4 => ?_⟩
    refine k.good { f with convoy := Km560.firstOrder f (Km560.largestSet f) } ⟨(Km560.setSize (Km560.largestSet f) : Nat), []⟩ p _ ls q rfl (kp3.free _ hp4) ?_ ⟨hP3.same (Same.new hp4), Inv.first hn hlt hfe, kp3.new hp4, .inl rfl, .inr (s1.free hq)⟩
    rw [upd_same, ivs_len]
    exact congrArg (fun (n : Nat) => some (HO.lst [V.int (n : Int)])) (first_len hn hlt hfe)
theorem has_form_most_valuable_convoy {f : Addr} {fd : FuncData} (F : Fun K "form_most_valuable_convoy" "form_most_valuable_convoy" s_form_most_valuable_convoy f fd) (hm : mg "form_most_valuable_convoy" = some (.ref f)) (T : Txt P w K mg ad)
    (h_worth_of : Has P w K mg base "worth_of" CX0 3 ["ships", "ship_set"] (sp_worth_of K ad))
    (h_most_valuable_set : Has P w K mg base "most_valuable_set" CX0 5 ["ships", "closing", "previous"] (sp_most_valuable_set K ad))
    (h_first_order : Has P w K mg base "first_order" CX0 5 ["ships", "closing", "ship_set", "previous"] (sp_first_order K ad))
    (h_Planner_start : HasM P w K mg base ad.P "start" CX0 1 ["self"] (sp_Planner_start K ad))
    : Has P w K mg base "form_most_valuable_convoy" CX0 6 ["planner"] (sp_form_most_valuable_convoy K ad) := by
  refine ⟨f, fd, hm, F.kp, F.binds (ps := ["planner"]) (fun _ _ _ _ _ _ us hl => match us, hl with | [_], _ => rfl), F.ok sc_form_most_valuable_convoy (fun vs H Q E => ?_) (fun cdv A outer s H vs Q E hr h => ⟨_, (pss_cons (ps_set (i := 1) sc_form_most_valuable_convoy.nd rfl (Or.inl rfl) (pe_callH h_most_valuable_set hr pass0 (pa_cons (pe_fld (pv 0) rfl) (pa_cons (pe_fld (pv 0) rfl) (pa_cons (pe_methH0 (pv 0) T.clP h_Planner_start hr pass0) pa_nil))))) (pss_cons (ps_fld (pv 0) (pe_callH h_first_order hr pass0 (pa_cons (pe_fld (pv 0) rfl) (pa_cons (pe_fld (pv 0) rfl) (pa_cons (pv 1) (pa_cons (pe_methH0 (pv 0) T.clP h_Planner_start hr pass0) pa_nil))))) rfl) (pss_one (ps_ret (pe_lst (pa_cons (pe_callH h_worth_of hr pass0 (pa_cons (pe_fld (pv 0) rfl) (pa_cons (pv 1) pa_nil))) pa_nil)))))), ?_⟩)⟩
  · first | (rintro ⟨_, rfl, _⟩; rfl) | (rintro ⟨_, _, rfl, _⟩; rfl) | (rintro ⟨_, _, _, rfl, _⟩; rfl) | (rintro ⟨_, _, _, _, rfl, _⟩; rfl) | (rintro ⟨_, _, _, _, _, rfl, _⟩; rfl) | (rintro ⟨_, _, _, _, _, _, rfl, _⟩; rfl) | (rintro ⟨_, _, _, _, _, _, _, rfl, _⟩; rfl) | (rintro ⟨_, _, _, _, _, _, _, _, rfl, _⟩; rfl) | (rintro ⟨_, _, _, _, _, _, _, _, _, rfl, _⟩; rfl)
  · obtain ⟨pl, ls, lc, f, rfl, hP, hI, k⟩ := h
    obtain ⟨⟨dx, hp⟩, ⟨as, hS, hL⟩, hc, hne⟩ := id hP
    have hn := hI.few
    have hlt := bestSet_lt hn (Km560.setValue f) (setValue_zero f)
    have hfe := bestSet_feas hn (Km560.setValue f) (setValue_zero f)
    refine ⟨_, rfl, pl, ad.P, dx, _, _, rfl, hp, T.clP, T.nP_ships, plF_ships _ _ _ _, _, rfl, pl, ad.P, dx, _, _, rfl, hp, T.clP, T.nP_clos, plF_clos _ _ _ _, _, rfl, pl, dx, _, rfl, hp, plF_start _ _ _ _, pl, ls, lc, f, rfl, hP, ls, f, rfl, hP.shipsAt, hn, fun H1 s1 => ?_⟩
    have hP1 := hP.same s1
    have hp1 := s1 _ _ hp
    refine ⟨_, rfl, pl, ad.P, dx, _, _, rfl, hp1, T.clP, T.nP_ships, plF_ships _ _ _ _, _, rfl, pl, ad.P, dx, _, _, rfl, hp1, T.clP, T.nP_clos, plF_clos _ _ _ _, _, rfl, _, rfl, pl, dx, _, rfl, hp1, plF_start _ _ _ _, pl, ls, lc, f, rfl, hP1,
      ls, f, Km560.mostValuableSet f, Km560.startWidth f, rfl, hP1.shipsAt, hn, hlt, hfe, fun q H2 hq s2 h2 => ?_⟩
    refine ⟨_, rfl, pl, ad.P, dx, _, rfl, s2 _ _ hp1, T.clP, T.nP_conv, plF_len _ _ _ _, ?_⟩
    rw [plF_putConv]
    have s12 : Same H H2 := Same.trans s1 s2
    have hP3 := (hP.same s12).setF { f with convoy := Km560.firstOrder f (Km560.mostValuableSet f) } rfl (lc' := q) (dx := dx) h2 (ne_of_none hS (s1.free hq))
    have kp3 := (Kp.refl.same s12).atPl (pl := pl) (ls := ls) (lc := lc) (o := .ins ad.P dx (plF f.channelWidth f.closing ls q))
    refine ⟨_, rfl, pl, ad.P, dx, _, _, rfl, upd_same, T.clP, T.nP_ships, plF_ships _ _ _ _, _, rfl, ls, f.ships, Km560.mostValuableSet f, rfl, hP3.shipsAt, by omega, fun H4 s4 => ⟨(by show 1 ≤ sizeLine; decide), fun p hp4 => ?_⟩⟩
    have kp4 := kp3.same s4
    refine k.good { f with convoy := Km560.firstOrder f (Km560.mostValuableSet f) } ⟨(Km560.setValue f (Km560.mostValuableSet f) : Nat), []⟩ p _ ls q rfl (kp4.free _ hp4) ?_ ⟨hP3.same (Same.trans s4 (Same.new hp4)), Inv.first hn hlt hfe, kp4.new hp4, .inl rfl, .inr (s1.free hq)⟩
    rw [upd_same]
    exact congrArg (fun (n : Nat) => some (HO.lst [V.int (n : Int)])) (value_eq f hn hlt)
end
end Ice
/-! # Part G: reports -/
namespace Ice
open PySem PySem.Spec PyProof.Rows L2
open IceM
open Km560 (Fleet)
abbrev s_counted : Stmt := top 67
abbrev N_counted : List Str := ["some"]
theorem sc_counted : FnScope N_counted ["some"] (defScope s_counted) := ⟨rfl, rfl, rfl, by decide +kernel, rfl, by decide +kernel, by decide +kernel⟩
abbrev s_list_ships : Stmt := top 68
abbrev N_list_ships : List Str := ["planner", "found", "ship"]
theorem sc_list_ships : FnScope N_list_ships ["planner"] (defScope s_list_ships) := ⟨rfl, rfl, rfl, by decide +kernel, rfl, by decide +kernel, by decide +kernel⟩
abbrev s_get_convoy : Stmt := top 69
abbrev N_get_convoy : List Str := ["planner"]
theorem sc_get_convoy : FnScope N_get_convoy ["planner"] (defScope s_get_convoy) := ⟨rfl, rfl, rfl, by decide +kernel, rfl, by decide +kernel, by decide +kernel⟩
abbrev s_convoy_widths : Stmt := top 70
abbrev N_convoy_widths : List Str := ["planner"]
theorem sc_convoy_widths : FnScope N_convoy_widths ["planner"] (defScope s_convoy_widths) := ⟨rfl, rfl, rfl, by decide +kernel, rfl, by decide +kernel, by decide +kernel⟩
abbrev s_next_candidates : Stmt := top 71
abbrev N_next_candidates : List Str := ["planner", "others", "number"]
theorem sc_next_candidates : FnScope N_next_candidates ["planner"] (defScope s_next_candidates) := ⟨rfl, rfl, rfl, by decide +kernel, rfl, by decide +kernel, by decide +kernel⟩
abbrev s_need_of_set : Stmt := top 72
abbrev N_need_of_set : List Str := ["planner", "ship_set"]
theorem sc_need_of_set : FnScope N_need_of_set ["planner", "ship_set"] (defScope s_need_of_set) := ⟨rfl, rfl, rfl, by decide +kernel, rfl, by decide +kernel, by decide +kernel⟩
abbrev s_is_feasible : Stmt := top 73
abbrev N_is_feasible : List Str := ["planner", "ship_set"]
theorem sc_is_feasible : FnScope N_is_feasible ["planner", "ship_set"] (defScope s_is_feasible) := ⟨rfl, rfl, rfl, by decide +kernel, rfl, by decide +kernel, by decide +kernel⟩
abbrev s_want_feasible : Stmt := top 74
abbrev N_want_feasible : List Str := ["planner", "ship_set"]
theorem sc_want_feasible : FnScope N_want_feasible ["planner", "ship_set"] (defScope s_want_feasible) := ⟨rfl, rfl, rfl, by decide +kernel, rfl, by decide +kernel, by decide +kernel⟩
abbrev s_find_order : Stmt := top 75
abbrev N_find_order : List Str := ["planner", "ship_set"]
theorem sc_find_order : FnScope N_find_order ["planner", "ship_set"] (defScope s_find_order) := ⟨rfl, rfl, rfl, by decide +kernel, rfl, by decide +kernel, by decide +kernel⟩
abbrev s_max_final_width : Stmt := top 76
abbrev N_max_final_width : List Str := ["planner", "ship_set"]
theorem sc_max_final_width : FnScope N_max_final_width ["planner", "ship_set"] (defScope s_max_final_width) := ⟨rfl, rfl, rfl, by decide +kernel, rfl, by decide +kernel, by decide +kernel⟩
abbrev s_largest_feasible_set : Stmt := top 77
abbrev N_largest_feasible_set : List Str := ["planner", "ship_set"]
theorem sc_largest_feasible_set : FnScope N_largest_feasible_set ["planner"] (defScope s_largest_feasible_set) := ⟨rfl, rfl, rfl, by decide +kernel, rfl, by decide +kernel, by decide +kernel⟩
abbrev s_most_valuable_feasible_set : Stmt := top 78
abbrev N_most_valuable_feasible_set : List Str := ["planner", "ship_set"]
theorem sc_most_valuable_feasible_set : FnScope N_most_valuable_feasible_set ["planner"] (defScope s_most_valuable_feasible_set) := ⟨rfl, rfl, rfl, by decide +kernel, rfl, by decide +kernel, by decide +kernel⟩
abbrev s_min_channel_width : Stmt := top 79
abbrev N_min_channel_width : List Str := ["planner", "need", "channel"]
theorem sc_min_channel_width : FnScope N_min_channel_width ["planner"] (defScope s_min_channel_width) := ⟨rfl, rfl, rfl, by decide +kernel, rfl, by decide +kernel, by decide +kernel⟩
abbrev s_largest_size : Stmt := top 80
abbrev N_largest_size : List Str := ["ships", "channel", "closing"]
theorem sc_largest_size : FnScope N_largest_size ["ships", "channel", "closing"] (defScope s_largest_size) := ⟨rfl, rfl, rfl, by decide +kernel, rfl, by decide +kernel, by decide +kernel⟩
abbrev s_largest_size_with_channel_width : Stmt := top 81
abbrev N_largest_size_with_channel_width : List Str := ["planner", "channel"]
theorem sc_largest_size_with_channel_width : FnScope N_largest_size_with_channel_width ["planner", "channel"] (defScope s_largest_size_with_channel_width) := ⟨rfl, rfl, rfl, by decide +kernel, rfl, by decide +kernel, by decide +kernel⟩
abbrev s_largest_size_with_closing : Stmt := top 82
abbrev N_largest_size_with_closing : List Str := ["planner", "closing"]
theorem sc_largest_size_with_closing : FnScope N_largest_size_with_closing ["planner", "closing"] (defScope s_largest_size_with_closing) := ⟨rfl, rfl, rfl, by decide +kernel, rfl, by decide +kernel, by decide +kernel⟩
abbrev s_largest_size_without_ship : Stmt := top 83
abbrev N_largest_size_without_ship : List Str := ["planner", "number"]
theorem sc_largest_size_without_ship : FnScope N_largest_size_without_ship ["planner", "number"] (defScope s_largest_size_without_ship) := ⟨rfl, rfl, rfl, by decide +kernel, rfl, by decide +kernel, by decide +kernel⟩
abbrev s_leads : Stmt := top 84
abbrev N_leads : List Str := ["planner", "first", "second"]
theorem sc_leads : FnScope N_leads ["planner", "first", "second"] (defScope s_leads) := ⟨rfl, rfl, rfl, by decide +kernel, rfl, by decide +kernel, by decide +kernel⟩
abbrev s_compare_pair : Stmt := top 85
abbrev N_compare_pair : List Str := ["planner", "first", "second"]
theorem sc_compare_pair : FnScope N_compare_pair ["planner", "first", "second"] (defScope s_compare_pair) := ⟨rfl, rfl, rfl, by decide +kernel, rfl, by decide +kernel, by decide +kernel⟩
abbrev s_summary : Stmt := top 86
abbrev N_summary : List Str := ["planner"]
theorem sc_summary : FnScope N_summary ["planner"] (defScope s_summary) := ⟨rfl, rfl, rfl, by decide +kernel, rfl, by decide +kernel, by decide +kernel⟩
def desc (s : Km560.Ship) : List Nat := [s.beam, s.selfClearance, s.value]
theorem desc_ints : ∀ ships : List Km560.Ship, (ships.flatMap fun ship => [(ship.beam : Int), (ship.selfClearance : Int), (ship.value : Int)]).map V.int = ivs (ships.flatMap desc)
  | [] => rfl
  | s :: r => by
    rw [List.flatMap_cons, List.map_append, desc_ints r, List.flatMap_cons]
    show _ = List.map iv (_ ++ _)
    rw [List.map_append]
    rfl
theorem desc_len : ∀ ships : List Km560.Ship, (ships.flatMap desc).length = 3 * ships.length
  | [] => rfl
  | s :: r => by
    rw [List.flatMap_cons, List.length_append, desc_len r, List.length_cons]
    show 3 + _ = _
    omega
theorem ivs_app (a b : List Nat) : ivs (a ++ b) = ivs a ++ ivs b := List.map_append ..
theorem listR (l : List Nat) : ((Km560.listResult l).num :: (Km560.listResult l).nums).map V.int = ivs (l.length :: l) := by
  show V.int (l.length : Int) :: (l.map fun (x : Nat) => (x : Int)).map V.int = iv l.length :: ivs l
  rw [ivs_ints]
theorem cut_take (xs : List V) (i : Nat) (h : i ≤ xs.length) : cutV xs none (some (i : Int)) = xs.take i := by
  unfold cutV
  rw [HT.sIx_none, HT.sIx_nat, Nat.min_eq_left h, List.drop_zero, Nat.sub_zero]
theorem cut_drop (xs : List V) (i : Nat) (h : i ≤ xs.length) : cutV xs (some (i : Int)) none = xs.drop i := by
  unfold cutV
  rw [HT.sIx_none, HT.sIx_nat, Nat.min_eq_left h]
  exact List.take_of_length_le (by rw [List.length_drop]; exact Nat.le_refl _)
theorem need_last {f : Fleet} : (needs f.ships f.closing).getLast? = some (need f.ships f.closing (2 ^ f.ships.length - 1)) := by
  have h := two_pow_pos' f.ships.length
  rw [List.getLast?_eq_getElem?, needs_length, ← needs_getD f.ships f.closing (2 ^ f.ships.length - 1) (by omega), List.getD_eq_getElem?_getD, List.getElem?_eq_getElem (by rw [needs_length]; omega)]
  rfl
def sp_counted (K : PySem.W.Frag) (ad : Ad) : Sp := fun vs H Q _ => ∃ (a : Addr) (xs : List Nat), vs = [.ref a] ∧ H a = some (.lst (ivs xs)) ∧ xs.length ≤ 900 ∧ ∀ p H', H p = none → Same H H' → H' p = some (.lst (ivs (xs.length :: xs))) → Q (.ref p) H'
def sp_list_ships (K : PySem.W.Frag) (ad : Ad) : Sp := sp0 ad .listShips
def sp_get_convoy (K : PySem.W.Frag) (ad : Ad) : Sp := sp0 ad .getConvoy
def sp_convoy_widths (K : PySem.W.Frag) (ad : Ad) : Sp := sp0 ad .convoyWidths
def sp_next_candidates (K : PySem.W.Frag) (ad : Ad) : Sp := sp0 ad .nextCandidates
def sp_need_of_set (K : PySem.W.Frag) (ad : Ad) : Sp := fun vs H Q _ => ∃ (pl ls lc : Addr) (f : Fleet) (s : Nat), vs = [.ref pl, iv s] ∧ PlAt ad H pl ls lc f ∧ f.ships.length ≤ 7 ∧ s < 2 ^ f.ships.length ∧ ∀ H', Same H H' → Q (iv (need f.ships f.closing s)) H'
def sp_is_feasible (K : PySem.W.Frag) (ad : Ad) : Sp := sp1 ad .isFeasible
def sp_want_feasible (K : PySem.W.Frag) (ad : Ad) : Sp := fun vs H Q E => ∃ (pl ls lc : Addr) (f : Fleet) (s : Nat), vs = [.ref pl, iv s] ∧ PlAt ad H pl ls lc f ∧ f.ships.length ≤ 7 ∧ s < 2 ^ f.ships.length ∧
  (Km560.isFeasible (Km560.maxWidthTable f) s = true → ∀ H', Same H H' → Q .non H') ∧ (Km560.isFeasible (Km560.maxWidthTable f) s = false → Refuses ad H E (-33))
def sp_find_order (K : PySem.W.Frag) (ad : Ad) : Sp := sp1 ad .findOrder
def sp_max_final_width (K : PySem.W.Frag) (ad : Ad) : Sp := sp1 ad .maxFinalWidth
def sp_largest_feasible_set (K : PySem.W.Frag) (ad : Ad) : Sp := sp0 ad .largestFeasibleSet
def sp_most_valuable_feasible_set (K : PySem.W.Frag) (ad : Ad) : Sp := sp0 ad .mostValuableFeasibleSet
def sp_min_channel_width (K : PySem.W.Frag) (ad : Ad) : Sp := sp0 ad .minChannelWidth
def sp_largest_size (K : PySem.W.Frag) (ad : Ad) : Sp := fun vs H Q _ => ∃ (a : Addr) (f : Fleet), vs = [.ref a, iv f.channelWidth, iv f.closing] ∧ ShipsAt K ad.S H a f.ships ∧ f.ships.length ≤ 7 ∧ ∀ H', Same H H' → Q (iv (Km560.setSize (Km560.largestSet f))) H'
def sp_largest_size_with_channel_width (K : PySem.W.Frag) (ad : Ad) : Sp := sp1 ad .largestSizeWithWidth
def sp_largest_size_with_closing (K : PySem.W.Frag) (ad : Ad) : Sp := sp1 ad .largestSizeWithClosing
def sp_largest_size_without_ship (K : PySem.W.Frag) (ad : Ad) : Sp := sp1 ad .largestSizeWithoutShip
def sp_leads (K : PySem.W.Frag) (ad : Ad) : Sp := fun vs H Q _ => ∃ (pl ls lc : Addr) (f : Fleet) (i j : Nat), vs = [.ref pl, iv i, iv j] ∧ PlAt ad H pl ls lc f ∧ i < f.ships.length ∧ j < f.ships.length ∧
  ∀ H', Same H H' → Q (.int (if Km560.isFeasibleOrder f [i, j] then 1 else 0)) H'
def sp_compare_pair (K : PySem.W.Frag) (ad : Ad) : Sp := sp2 ad .comparePair
def sp_summary (K : PySem.W.Frag) (ad : Ad) : Sp := sp0 ad .summary
section
variable {P : Program} {w : World} {K : PySem.W.Frag} {mg : Str → Option Value} {base : Heap} {ad : Ad}
theorem has_counted {f : Addr} {fd : FuncData} (F : Fun K "counted" "counted" s_counted f fd) (hm : mg "counted" = some (.ref f)) (T : Txt P w K mg ad)
    : Has P w K mg base "counted" CX0 1 ["some"] (sp_counted K ad) := by
  refine ⟨f, fd, hm, F.kp, F.binds (ps := ["some"]) (fun _ _ _ _ _ _ us hl => match us, hl with | [_], _ => rfl), F.ok sc_counted (fun vs H Q E => ?_) (fun cdv A outer s H vs Q E hr h => ⟨_, (pss_one (ps_ret (pe_op op_cat (pe_lst (pa_cons (pe_callB call_len_seq (by rfl) T.b_len (by decide +kernel) (pa_cons (pv 0) pa_nil)) pa_nil)) (pv 0)))), ?_⟩)⟩
  · first | (rintro ⟨_, rfl, _⟩; rfl) | (rintro ⟨_, _, rfl, _⟩; rfl) | (rintro ⟨_, _, _, rfl, _⟩; rfl) | (rintro ⟨_, _, _, _, rfl, _⟩; rfl) | (rintro ⟨_, _, _, _, _, rfl, _⟩; rfl) | (rintro ⟨_, _, _, _, _, _, rfl, _⟩; rfl) | (rintro ⟨_, _, _, _, _, _, _, rfl, _⟩; rfl) | (rintro ⟨_, _, _, _, _, _, _, _, rfl, _⟩; rfl) | (rintro ⟨_, _, _, _, _, _, _, _, _, rfl, _⟩; rfl)
  · obtain ⟨a, xs, rfl, ha, hlen, k⟩ := h
    refine ⟨_, rfl, a, _, rfl, .inl (SqL.of ha), (by show 1 ≤ sizeLine; decide), fun p hp => ?_⟩
    have s1 : Same H (upd H p (.lst [V.int ((ivs xs).length : Nat)])) := Same.new hp
    refine ⟨_, rfl, p, a, _, _, rfl, rfl, upd_same, s1 _ _ ha, ?_, fun q hq => ?_⟩
    · rw [ivs_len]
      show 1 + _ ≤ sizeLine
      exact Nat.le_of_lt (small1000 (by omega))
    · refine k q _ (s1.free hq) (Same.trans s1 (Same.new hq)) ?_
      rw [upd_same, ivs_len]
      rfl
theorem has_list_ships {f : Addr} {fd : FuncData} (F : Fun K "list_ships" "list_ships" s_list_ships f fd) (hm : mg "list_ships" = some (.ref f)) (T : Txt P w K mg ad)
    (h_Ship_described : HasM P w K mg base ad.S "described" CX0 1 ["self"] (sp_Ship_described K ad))
    : Has P w K mg base "list_ships" CX0 2 ["planner"] (sp_list_ships K ad) := by
  refine ⟨f, fd, hm, F.kp, F.binds (ps := ["planner"]) (fun _ _ _ _ _ _ us hl => match us, hl with | [_], _ => rfl), F.ok sc_list_ships (fun vs H Q E => ?_) (fun cdv A outer s H vs Q E hr h => ⟨_, (pss_cons (ps_set (i := 1) sc_list_ships.nd rfl (Or.inl rfl) (pe_lst (pa_cons (pe_callB call_len_seq (by rfl) T.b_len (by decide +kernel) (pa_cons (pe_fld (pv 0) rfl) pa_nil)) pa_nil))) (pss_cons (ps_for PassesOwn.never rfl (pi_list (pe_fld (pv 0) rfl)) (pg_name (i := 2) sc_list_ships.nd rfl (Or.inl rfl)) (pss_one (ps_expr (pe_bm PySem.F.plainAttrs_list PySem.F.slot_list_extend PySem.F.type_list_extend mt_extend (pv 1) (pa_cons (pe_methH0 (pv 2) T.clS h_Ship_described hr pass0) pa_nil))))) (pss_one (ps_ret (pv 1))))), ?_⟩)⟩
  · first | (rintro ⟨_, rfl, _⟩; rfl) | (rintro ⟨_, _, rfl, _⟩; rfl) | (rintro ⟨_, _, _, rfl, _⟩; rfl) | (rintro ⟨_, _, _, _, rfl, _⟩; rfl) | (rintro ⟨_, _, _, _, _, rfl, _⟩; rfl) | (rintro ⟨_, _, _, _, _, _, rfl, _⟩; rfl) | (rintro ⟨_, _, _, _, _, _, _, rfl, _⟩; rfl) | (rintro ⟨_, _, _, _, _, _, _, _, rfl, _⟩; rfl) | (rintro ⟨_, _, _, _, _, _, _, _, _, rfl, _⟩; rfl)
  · obtain ⟨pl, ls, lc, f, rfl, hP, hI, k⟩ := h
    obtain ⟨⟨dx, hp⟩, ⟨as, hS, hL⟩, hc, hne⟩ := id hP
    refine ⟨_, rfl, pl, ad.P, dx, _, _, rfl, hp, T.clP, T.nP_ships, plF_ships _ _ _ _, ls, _, rfl, .inl (SqL.of hS), (by show 1 ≤ sizeLine; decide), fun D hD => ?_⟩
    have s0 : Same H (upd H D (.lst [V.int ((as.map V.ref).length : Nat)])) := Same.new hD
    refine ⟨_, rfl, pl, ad.P, dx, _, _, rfl, s0 _ _ hp, T.clP, T.nP_ships, plF_ships _ _ _ _, ls, rfl, ⟨_, SqL.of (s0 _ _ hS)⟩, for_list (K := K) (a := ls) (xs := as.map V.ref)
      (fun i σ H' => Same H H' ∧ H' D = some (.lst (ivs (f.ships.length :: (f.ships.take i).flatMap desc))) ∧ ∃ v, σ = [some (.ref pl), some (.ref D), v]) ⟨s0, ?_, none, rfl⟩ (fun i σ H' _ q => SqL.of (q.1 _ _ hS)) ?_ ?_⟩
    · rw [upd_same, List.length_map, hL.len]
      rfl
    · rintro i x σ H' hx ⟨s2, h2, v, rfl⟩
      have hia : i < as.length := by
        have := (List.getElem?_eq_some_iff.mp hx).1
        rw [List.length_map] at this
        exact this
      have his : i < f.ships.length := by rw [← hL.len]; exact hia
      obtain ⟨q, hq, hsh⟩ := (hL.same s2).get his
      rw [hq] at hx
      cases hx
      obtain ⟨d2, hd2⟩ := id hsh
      refine ⟨_, rfl, .inl ⟨rfl, _, SqL.of h2⟩, _, rfl, q, d2, _, rfl, hd2, shF_desc _, q, _, rfl, hsh, fun p H3 hp3 s3 h3 => ?_⟩
      refine ⟨D, p, _, _, rfl, rfl, s3 _ _ h2, h3, ?_, Same.put (Same.trans s2 s3) hD, ?_, _, rfl⟩
      · rw [ivs_len, ivs_len, List.length_cons, desc_len, List.length_take]
        have := hI.few
        show _ + 3 ≤ sizeLine
        exact Nat.le_of_lt (small1000 (by omega))
      · have e1 : f.ships[i]? = some (sh f.ships i) := by
          have : f.ships[i]? = some f.ships[i] := List.getElem?_eq_getElem his
          rw [this, sh_of this]
        rw [upd_same, take_more e1, List.flatMap_append, ← ivs_app]
        rfl
    · rintro σ H' ⟨s2, h2, v, rfl⟩
      rw [List.length_map, hL.len, List.take_length] at h2
      refine ⟨_, rfl, k.report hP hI (r := ⟨(f.ships.length : Nat), f.ships.flatMap fun ship => [(ship.beam : Int), (ship.selfClearance : Int), (ship.value : Int)]⟩) rfl hD s2 ?_⟩
      rw [h2]
      show _ = some (HO.lst (V.int (f.ships.length : Int) :: (f.ships.flatMap fun ship => [(ship.beam : Int), (ship.selfClearance : Int), (ship.value : Int)]).map V.int))
      rw [desc_ints]
      rfl
theorem has_get_convoy {f : Addr} {fd : FuncData} (F : Fun K "get_convoy" "get_convoy" s_get_convoy f fd) (hm : mg "get_convoy" = some (.ref f)) (T : Txt P w K mg ad)
    (h_counted : Has P w K mg base "counted" CX0 1 ["some"] (sp_counted K ad))
    : Has P w K mg base "get_convoy" CX0 2 ["planner"] (sp_get_convoy K ad) := by
  refine ⟨f, fd, hm, F.kp, F.binds (ps := ["planner"]) (fun _ _ _ _ _ _ us hl => match us, hl with | [_], _ => rfl), F.ok sc_get_convoy (fun vs H Q E => ?_) (fun cdv A outer s H vs Q E hr h => ⟨_, (pss_one (ps_ret (pe_callH h_counted hr pass0 (pa_cons (pe_fld (pv 0) rfl) pa_nil)))), ?_⟩)⟩
  · first | (rintro ⟨_, rfl, _⟩; rfl) | (rintro ⟨_, _, rfl, _⟩; rfl) | (rintro ⟨_, _, _, rfl, _⟩; rfl) | (rintro ⟨_, _, _, _, rfl, _⟩; rfl) | (rintro ⟨_, _, _, _, _, rfl, _⟩; rfl) | (rintro ⟨_, _, _, _, _, _, rfl, _⟩; rfl) | (rintro ⟨_, _, _, _, _, _, _, rfl, _⟩; rfl) | (rintro ⟨_, _, _, _, _, _, _, _, rfl, _⟩; rfl) | (rintro ⟨_, _, _, _, _, _, _, _, _, rfl, _⟩; rfl)
  · obtain ⟨pl, ls, lc, f, rfl, hP, hI, k⟩ := h
    obtain ⟨⟨dx, hp⟩, ⟨as, hS, hL⟩, hc, hne⟩ := id hP
    refine ⟨_, rfl, pl, ad.P, dx, _, _, rfl, hp, T.clP, T.nP_conv, plF_conv _ _ _ _, lc, f.convoy, rfl, hc, Nat.le_trans hI.conv (by decide), fun p H' hp1 s1 h1 => ?_⟩
    exact k.report hP hI (r := Km560.listResult f.convoy) rfl hp1 s1 (by rw [listR]; exact h1)
theorem has_convoy_widths {f : Addr} {fd : FuncData} (F : Fun K "convoy_widths" "convoy_widths" s_convoy_widths f fd) (hm : mg "convoy_widths" = some (.ref f)) (T : Txt P w K mg ad)
    (h_Planner_widths : HasM P w K mg base ad.P "widths" CX0 4 ["self"] (sp_Planner_widths K ad))
    (h_counted : Has P w K mg base "counted" CX0 1 ["some"] (sp_counted K ad))
    : Has P w K mg base "convoy_widths" CX0 5 ["planner"] (sp_convoy_widths K ad) := by
  refine ⟨f, fd, hm, F.kp, F.binds (ps := ["planner"]) (fun _ _ _ _ _ _ us hl => match us, hl with | [_], _ => rfl), F.ok sc_convoy_widths (fun vs H Q E => ?_) (fun cdv A outer s H vs Q E hr h => ⟨_, (pss_one (ps_ret (pe_callH h_counted hr pass0 (pa_cons (pe_methH0 (pv 0) T.clP h_Planner_widths hr pass0) pa_nil)))), ?_⟩)⟩
  · first | (rintro ⟨_, rfl, _⟩; rfl) | (rintro ⟨_, _, rfl, _⟩; rfl) | (rintro ⟨_, _, _, rfl, _⟩; rfl) | (rintro ⟨_, _, _, _, rfl, _⟩; rfl) | (rintro ⟨_, _, _, _, _, rfl, _⟩; rfl) | (rintro ⟨_, _, _, _, _, _, rfl, _⟩; rfl) | (rintro ⟨_, _, _, _, _, _, _, rfl, _⟩; rfl) | (rintro ⟨_, _, _, _, _, _, _, _, rfl, _⟩; rfl) | (rintro ⟨_, _, _, _, _, _, _, _, _, rfl, _⟩; rfl)
  · obtain ⟨pl, ls, lc, f, rfl, hP, hI, k⟩ := h
    obtain ⟨⟨dx, hp⟩, ⟨as, hS, hL⟩, hc, hne⟩ := id hP
    refine ⟨_, rfl, pl, dx, _, rfl, hp, plF_widths _ _ _ _, pl, ls, lc, f, rfl, hP, hI, fun q H1 hq s1 h1 => ⟨q, _, rfl, h1, ?_, fun p H' hp1 s2 h2 => ?_⟩⟩
    · rw [wAlong_length]
      exact Nat.le_trans hI.conv (by decide)
    · refine k.report hP hI (r := Km560.listResult (Km560.widthsAlong f (Km560.startWidth f) f.convoy)) rfl (s1.free hp1) (Same.trans s1 s2) ?_
      rw [listR, hI.along]
      exact h2
theorem has_next_candidates {f : Addr} {fd : FuncData} (F : Fun K "next_candidates" "next_candidates" s_next_candidates f fd) (hm : mg "next_candidates" = some (.ref f)) (T : Txt P w K mg ad)
    (h_Planner_is_next : HasM P w K mg base ad.P "is_next" CX0 6 ["self", "number"] (sp_Planner_is_next K ad))
    (h_counted : Has P w K mg base "counted" CX0 1 ["some"] (sp_counted K ad))
    : Has P w K mg base "next_candidates" CX0 7 ["planner"] (sp_next_candidates K ad) := by
  refine ⟨f, fd, hm, F.kp, F.binds (ps := ["planner"]) (fun _ _ _ _ _ _ us hl => match us, hl with | [_], _ => rfl), F.ok sc_next_candidates (fun vs H Q E => ?_) (fun cdv A outer s H vs Q E hr h => ⟨_, (pss_cons (ps_setLc (i := 1) (own := [("number", 2)]) (g := gName 2) (tt := (tTest (tOp (rIn K true) (tVar 2) (tFld K (tVar 0) "convoy")))) (te := (tVar 2)) (by rfl) sc_next_candidates.nd rfl rfl (sw_true rfl rfl rfl (by decide +kernel)) (pi_range1 (by rfl) T.b_range (pa_cons (pe_callB call_len_seq (by rfl) T.b_len (by decide +kernel) (pa_cons (pe_fld (pv 0) rfl) pa_nil)) pa_nil)) (blkOk_by (own := [("number", 2)]) (N := N_next_candidates) (sc := defScope s_next_candidates) (by decide +kernel)) (fun _ _ _ _ _ => by exact pg_name (i := 2) sc_next_candidates.nd rfl (Or.inl rfl)) (fun _ _ _ _ _ => by exact pts_one (pt_cmpR op_notIn_seq (pv 2) (pe_fld (pv 0) rfl) (by with_unfolding_all rfl))) (fun _ _ _ _ _ => by exact (pv 2))) (pss_one (ps_ret (pe_callH h_counted hr pass0 (pa_cons (pe_lc (own := [("number", 2)]) (g := gName 2) (tt := (tB (tMeth ad.P "is_next" (sp_Planner_is_next K ad) [] E0 (tVar 0) (tCons (tVar 2) tNil)))) (te := (tVar 2)) (by rfl) sc_next_candidates.nd (pi_list (pv 1)) (blkOk_by (own := [("number", 2)]) (N := N_next_candidates) (sc := defScope s_next_candidates) (by decide +kernel)) (fun _ _ _ _ _ => by exact pg_name (i := 2) sc_next_candidates.nd rfl (Or.inl rfl)) (fun _ _ _ _ _ => by exact pts_one (pt_val (pe_methH (pv 0) T.clP h_Planner_is_next hr pass0 (pa_cons (pv 2) pa_nil)))) (fun _ _ _ _ _ => by exact (pv 2))) pa_nil))))), ?_⟩)⟩
  · first | (rintro ⟨_, rfl, _⟩; rfl) | (rintro ⟨_, _, rfl, _⟩; rfl) | (rintro ⟨_, _, _, rfl, _⟩; rfl) | (rintro ⟨_, _, _, _, rfl, _⟩; rfl) | (rintro ⟨_, _, _, _, _, rfl, _⟩; rfl) | (rintro ⟨_, _, _, _, _, _, rfl, _⟩; rfl) | (rintro ⟨_, _, _, _, _, _, _, rfl, _⟩; rfl) | (rintro ⟨_, _, _, _, _, _, _, _, rfl, _⟩; rfl) | (rintro ⟨_, _, _, _, _, _, _, _, _, rfl, _⟩; rfl)
  · obtain ⟨pl, ls, lc, f, rfl, hP, hI, k⟩ := h
    obtain ⟨⟨dx, hp⟩, ⟨as, hS, hL⟩, hc, hne⟩ := id hP
    have hn := hI.few
    have b2 : (f.ships.length : Int) < 2 ^ 62 := Int.lt_of_lt_of_le (b := 8) (by omega) (by decide)
    have b1 : -(2 ^ 62) ≤ (f.ships.length : Int) := Int.le_trans (b := 0) (by decide) (Int.natCast_nonneg _)
    refine ⟨_, rfl, pl, ad.P, dx, _, _, rfl, hp, T.clP, T.nP_ships, plF_ships _ _ _ _, ls, _, rfl, .inl (SqL.of hS), (f.ships.length : Int), ?_, b1, b2, fun D hD => lc_range (lo := 0) (n := f.ships.length)
      (fun i H' => Same H H' ∧ H' D = some (.lst (ivs ((List.range i).filter fun i => !(f.convoy.contains i))))) ⟨Same.new hD, upd_same⟩ ?_ ?_⟩
    · rw [List.length_map, hL.len]
    · rintro i H' hi ⟨s1, h1⟩
      rw [Int.zero_add]
      refine ⟨rfl, _, rfl, _, rfl, pl, ad.P, dx, _, _, rfl, s1 _ _ hp, T.clP, T.nP_conv, plF_conv _ _ _ _, lc, _, rfl, .inl (SqL.of (s1 _ _ hc)), rfl, ivs_flat _, _, rfl, ?_⟩
      show if (!inV (iv i) (ivs f.convoy)) = true then _ else _
      rw [inV_nat]
      refine if_by (fun e => ?_) (fun e => ?_)
      · refine ⟨_, rfl, _, h1, ?_, Same.put s1 hD, ?_⟩
        · rw [ivs_len]
          have := List.length_filter_le (fun i => !(f.convoy.contains i)) (List.range i)
          rw [List.length_range] at this
          exact small1000 (by omega)
        · rw [upd_same, List.range_succ, List.filter_append, List.filter_cons_of_pos (p := fun i => !(f.convoy.contains i)) e, List.filter_nil, ivs_snoc]
      · refine ⟨s1, ?_⟩
        rw [h1, List.range_succ, List.filter_append, List.filter_cons_of_neg (p := fun i => !(f.convoy.contains i)) (by rw [e]; exact Bool.false_ne_true), List.filter_nil, List.append_nil]
    · rintro H1 ⟨s1, h1⟩
      refine ⟨_, rfl, D, rfl, ⟨_, SqL.of h1⟩, fun D2 hD2 => lc_list (K := K) (a := D) (xs := ivs ((List.range f.ships.length).filter fun i => !(f.convoy.contains i)))
        (fun i H' => Same H1 H' ∧ H' D2 = some (.lst (ivs ((((List.range f.ships.length).filter fun i => !(f.convoy.contains i)).take i).filter fun i => (Km560.widthAfterShip f (Km560.convoyWidth f) i).isSome))))
        ⟨Same.new hD2, upd_same⟩ (fun i H' _ q => SqL.of (q.1 _ _ h1)) ?_ ?_⟩
      · rintro i x H' hx ⟨s2, h2⟩
        obtain ⟨j, hj, rfl⟩ := ivs_get hx
        have hjn : j < f.ships.length := List.mem_range.mp (List.mem_filter.mp (List.mem_of_getElem? hj)).1
        have s12 : Same H H' := Same.trans s1 s2
        refine ⟨rfl, _, rfl, pl, dx, _, rfl, s12 _ _ hp, plF_next _ _ _ _, _, rfl, pl, ls, lc, f, j, rfl, hP.same s12, hI, hjn, fun H3 s3 => ⟨_, rfl, ?_⟩⟩
        have s23 : Same H1 H3 := Same.trans s2 s3
        refine if_by (fun e => ?_) (fun e => ?_)
        · refine ⟨_, rfl, _, s3 _ _ h2, ?_, Same.put s23 hD2, ?_⟩
          · rw [ivs_len]
            have h8 := List.length_filter_le (fun i => (Km560.widthAfterShip f (Km560.convoyWidth f) i).isSome) (((List.range f.ships.length).filter fun i => !(f.convoy.contains i)).take i)
            have h9 := List.length_filter_le (fun i => !(f.convoy.contains i)) (List.range f.ships.length)
            rw [List.length_take] at h8
            rw [List.length_range] at h9
            exact small1000 (by omega)
          · rw [upd_same, take_more hj, List.filter_append, List.filter_cons_of_pos (p := fun i => (Km560.widthAfterShip f (Km560.convoyWidth f) i).isSome) e, List.filter_nil, ivs_snoc]
        · refine ⟨s23, ?_⟩
          rw [take_more hj, List.filter_append, List.filter_cons_of_neg (p := fun i => (Km560.widthAfterShip f (Km560.convoyWidth f) i).isSome) (by rw [e]; exact Bool.false_ne_true), List.filter_nil, List.append_nil]
          exact s3 _ _ h2
      · rintro H' ⟨s2, h2⟩
        rw [ivs_len, List.take_length, List.filter_filter] at h2
        have e : ((List.range f.ships.length).filter fun a => (Km560.widthAfterShip f (Km560.convoyWidth f) a).isSome && !(f.convoy.contains a)) = (List.range f.ships.length).filter fun a => !(f.convoy.contains a) && (Km560.widthAfterShip f (Km560.convoyWidth f) a).isSome :=
          List.filter_congr fun a _ => Bool.and_comm _ _
        rw [e] at h2
        refine ⟨D2, _, rfl, h2, ?_, fun p H4 hp4 s4 h4 => ?_⟩
        · have h9 := List.length_filter_le (fun a => !(f.convoy.contains a) && (Km560.widthAfterShip f (Km560.convoyWidth f) a).isSome) (List.range f.ships.length)
          rw [List.length_range] at h9
          omega
        · have s14 : Same H H4 := Same.trans s1 (Same.trans s2 s4)
          refine k.report hP hI (r := Km560.listResult ((List.range f.ships.length).filter fun a => !(f.convoy.contains a) && (Km560.widthAfterShip f (Km560.convoyWidth f) a).isSome)) rfl ((Same.trans s1 s2).free hp4) s14 ?_
          rw [listR]
          exact h4
theorem has_need_of_set {f : Addr} {fd : FuncData} (F : Fun K "need_of_set" "need_of_set" s_need_of_set f fd) (hm : mg "need_of_set" = some (.ref f)) (T : Txt P w K mg ad)
    (h_needs : Has P w K mg base "needs" CX0 4 ["ships", "closing"] (sp_needs K ad))
    : Has P w K mg base "need_of_set" CX0 5 ["planner", "ship_set"] (sp_need_of_set K ad) := by
  refine ⟨f, fd, hm, F.kp, F.binds (ps := ["planner", "ship_set"]) (fun _ _ _ _ _ _ us hl => match us, hl with | [_, _], _ => rfl), F.ok sc_need_of_set (fun vs H Q E => ?_) (fun cdv A outer s H vs Q E hr h => ⟨_, (pss_one (ps_ret (pe_ix ix_list (pe_callH h_needs hr pass0 (pa_cons (pe_fld (pv 0) rfl) (pa_cons (pe_fld (pv 0) rfl) pa_nil))) (pv 1) (fun _ _ => rfl)))), ?_⟩)⟩
  · first | (rintro ⟨_, rfl, _⟩; rfl) | (rintro ⟨_, _, rfl, _⟩; rfl) | (rintro ⟨_, _, _, rfl, _⟩; rfl) | (rintro ⟨_, _, _, _, rfl, _⟩; rfl) | (rintro ⟨_, _, _, _, _, rfl, _⟩; rfl) | (rintro ⟨_, _, _, _, _, _, rfl, _⟩; rfl) | (rintro ⟨_, _, _, _, _, _, _, rfl, _⟩; rfl) | (rintro ⟨_, _, _, _, _, _, _, _, rfl, _⟩; rfl) | (rintro ⟨_, _, _, _, _, _, _, _, _, rfl, _⟩; rfl)
  · obtain ⟨pl, ls, lc, f, s, rfl, hP, hn, hs, k⟩ := h
    obtain ⟨⟨dx, hp⟩, ⟨as, hS, hL⟩, hc, hne⟩ := id hP
    refine ⟨_, rfl, pl, ad.P, dx, _, _, rfl, hp, T.clP, T.nP_ships, plF_ships _ _ _ _, _, rfl, pl, ad.P, dx, _, _, rfl, hp, T.clP, T.nP_clos, plF_clos _ _ _ _, ls, f.ships, f.closing, rfl, hP.shipsAt, hn, fun p H1 hp1 s1 h1 => ?_⟩
    refine ⟨_, rfl, p, _, _, iv (need f.ships f.closing s), rfl, rfl, SqL.of h1, atI_nat ?_, k H1 s1⟩
    rw [ivs_at (by rw [needs_length]; exact hs), needs_getD _ _ _ hs]
theorem has_is_feasible {f : Addr} {fd : FuncData} (F : Fun K "is_feasible" "is_feasible" s_is_feasible f fd) (hm : mg "is_feasible" = some (.ref f)) (T : Txt P w K mg ad)
    (h_Planner_start : HasM P w K mg base ad.P "start" CX0 1 ["self"] (sp_Planner_start K ad))
    (h_want_set : Has P w K mg base "want_set" (L2.CX P w) 3 ["planner", "ship_set"] (sp_want_set K ad))
    (h_need_of_set : Has P w K mg base "need_of_set" CX0 5 ["planner", "ship_set"] (sp_need_of_set K ad))
    : Has P w K mg base "is_feasible" (L2.CX P w) 6 ["planner", "ship_set"] (sp_is_feasible K ad) := by
  refine ⟨f, fd, hm, F.kp, F.binds (ps := ["planner", "ship_set"]) (fun _ _ _ _ _ _ us hl => match us, hl with | [_, _], _ => rfl), F.okX sc_is_feasible (fun vs H Q E => ?_) (fun cdv A outer s H vs Q E hr h => ⟨_, (pss_cons (ps_expr (pe_callH h_want_set hr (passes_call (takes_of rfl rfl rfl rfl) (fun _ _ _ _ h => h)) (pa_cons (pv 0) (pa_cons (pv 1) pa_nil)))) (pss_one (ps_ret (pe_lst (pa_cons (pe_callTy call_int1 (by rfl) T.b_int boot_int (pa_cons (pe_cmpR op_le (pe_callH h_need_of_set hr pass0 (pa_cons (pv 0) (pa_cons (pv 1) pa_nil))) (pe_methH0 (pv 0) T.clP h_Planner_start hr pass0) (nomark _)) pa_nil)) pa_nil))))), ?_⟩)⟩
  · first | (rintro ⟨_, rfl, _⟩; rfl) | (rintro ⟨_, _, rfl, _⟩; rfl) | (rintro ⟨_, _, _, rfl, _⟩; rfl) | (rintro ⟨_, _, _, _, rfl, _⟩; rfl) | (rintro ⟨_, _, _, _, _, rfl, _⟩; rfl) | (rintro ⟨_, _, _, _, _, _, rfl, _⟩; rfl) | (rintro ⟨_, _, _, _, _, _, _, rfl, _⟩; rfl) | (rintro ⟨_, _, _, _, _, _, _, _, rfl, _⟩; rfl) | (rintro ⟨_, _, _, _, _, _, _, _, _, rfl, _⟩; rfl)
  · obtain ⟨pl, ls, lc, f, s, rfl, hP, hI, k⟩ := h
    obtain ⟨⟨dx, hp⟩, ⟨as, hS, hL⟩, hc, hne⟩ := id hP
    have hn := hI.few
    refine ⟨_, rfl, _, rfl, pl, ls, lc, f, s, rfl, hP, hn, fun hs => ?_, fun hs => k.bad (-2) (congrArg (Prod.mk (some f)) (if_pos (Nat.le_of_not_lt hs)))⟩
    refine ⟨_, rfl, _, rfl, pl, ls, lc, f, s, rfl, hP, hn, hs, fun H1 s1 => ?_⟩
    refine ⟨_, rfl, pl, dx, _, rfl, s1 _ _ hp, plF_start _ _ _ _, pl, ls, lc, f, rfl, hP.same s1, _, _, rfl, rfl, .inr ⟨_, rfl, (by show 1 ≤ sizeLine; decide), fun p hp1 => ?_⟩⟩
    refine k.report hP hI (r := Km560.boolean (Km560.isFeasible (Km560.maxWidthTable f) s)) (congrArg (Prod.mk (some f)) (if_neg (Nat.not_le_of_lt hs))) (s1.free hp1) (Same.trans s1 (Same.new hp1)) ?_
    rw [upd_same, feasible_iff hn hs, dec_le]
    rfl
theorem has_want_feasible {f : Addr} {fd : FuncData} (F : Fun K "want_feasible" "want_feasible" s_want_feasible f fd) (hm : mg "want_feasible" = some (.ref f)) (T : Txt P w K mg ad)
    (h_want : Has P w K mg base "want" (L2.CX P w) 2 ["truth", "code"] (sp_want K ad))
    (h_Planner_start : HasM P w K mg base ad.P "start" CX0 1 ["self"] (sp_Planner_start K ad))
    (h_need_of_set : Has P w K mg base "need_of_set" CX0 5 ["planner", "ship_set"] (sp_need_of_set K ad))
    : Has P w K mg base "want_feasible" (L2.CX P w) 6 ["planner", "ship_set"] (sp_want_feasible K ad) := by
  refine ⟨f, fd, hm, F.kp, F.binds (ps := ["planner", "ship_set"]) (fun _ _ _ _ _ _ us hl => match us, hl with | [_, _], _ => rfl), F.okX sc_want_feasible (fun vs H Q E => ?_) (fun cdv A outer s H vs Q E hr h => ⟨_, (pss_one (ps_expr (pe_callH h_want hr (passes_call (takes_of rfl rfl rfl rfl) (fun _ _ _ _ h => h)) (pa_cons (pe_cmpR op_le (pe_callH h_need_of_set hr pass0 (pa_cons (pv 0) (pa_cons (pv 1) pa_nil))) (pe_methH0 (pv 0) T.clP h_Planner_start hr pass0) (nomark _)) (pa_cons (pe_gi T.c_NOT_FEASIBLE) pa_nil))))), ?_⟩)⟩
  · first | (rintro ⟨_, rfl, _⟩; rfl) | (rintro ⟨_, _, rfl, _⟩; rfl) | (rintro ⟨_, _, _, rfl, _⟩; rfl) | (rintro ⟨_, _, _, _, rfl, _⟩; rfl) | (rintro ⟨_, _, _, _, _, rfl, _⟩; rfl) | (rintro ⟨_, _, _, _, _, _, rfl, _⟩; rfl) | (rintro ⟨_, _, _, _, _, _, _, rfl, _⟩; rfl) | (rintro ⟨_, _, _, _, _, _, _, _, rfl, _⟩; rfl) | (rintro ⟨_, _, _, _, _, _, _, _, _, rfl, _⟩; rfl)
  · obtain ⟨pl, ls, lc, f, s, rfl, hP, hn, hs, k1, k2⟩ := h
    obtain ⟨⟨dx, hp⟩, ⟨as, hS, hL⟩, hc, hne⟩ := id hP
    rw [feasible_iff hn hs] at k1 k2
    refine ⟨_, rfl, _, rfl, pl, ls, lc, f, s, rfl, hP, hn, hs, fun H1 s1 => ?_⟩
    refine ⟨_, rfl, pl, dx, _, rfl, s1 _ _ hp, plF_start _ _ _ _, pl, ls, lc, f, rfl, hP.same s1, _, _, rfl, rfl, _, -33, rfl, fun e => k1 ?_ H1 s1, fun e => (k2 ?_).same s1⟩
    · rw [dec_le] at e
      exact e
    · rw [dec_le] at e
      exact e
theorem has_find_order {f : Addr} {fd : FuncData} (F : Fun K "find_order" "find_order" s_find_order f fd) (hm : mg "find_order" = some (.ref f)) (T : Txt P w K mg ad)
    (h_first_order : Has P w K mg base "first_order" CX0 5 ["ships", "closing", "ship_set", "previous"] (sp_first_order K ad))
    (h_Planner_start : HasM P w K mg base ad.P "start" CX0 1 ["self"] (sp_Planner_start K ad))
    (h_want_set : Has P w K mg base "want_set" (L2.CX P w) 3 ["planner", "ship_set"] (sp_want_set K ad))
    (h_counted : Has P w K mg base "counted" CX0 1 ["some"] (sp_counted K ad))
    (h_want_feasible : Has P w K mg base "want_feasible" (L2.CX P w) 6 ["planner", "ship_set"] (sp_want_feasible K ad))
    : Has P w K mg base "find_order" (L2.CX P w) 7 ["planner", "ship_set"] (sp_find_order K ad) := by
  refine ⟨f, fd, hm, F.kp, F.binds (ps := ["planner", "ship_set"]) (fun _ _ _ _ _ _ us hl => match us, hl with | [_, _], _ => rfl), F.okX sc_find_order (fun vs H Q E => ?_) (fun cdv A outer s H vs Q E hr h => ⟨_, (pss_cons (ps_expr (pe_callH h_want_set hr (passes_call (takes_of rfl rfl rfl rfl) (fun _ _ _ _ h => h)) (pa_cons (pv 0) (pa_cons (pv 1) pa_nil)))) (pss_cons (ps_expr (pe_callH h_want_feasible hr (passes_call (takes_of rfl rfl rfl rfl) (fun _ _ _ _ h => h)) (pa_cons (pv 0) (pa_cons (pv 1) pa_nil)))) (pss_one (ps_ret (pe_callH h_counted hr pass0 (pa_cons (pe_callH h_first_order hr pass0 (pa_cons (pe_fld (pv 0) rfl) (pa_cons (pe_fld (pv 0) rfl) (pa_cons (pv 1) (pa_cons (pe_methH0 (pv 0) T.clP h_Planner_start hr pass0) pa_nil))))) pa_nil)))))), ?_⟩)⟩
  · first | (rintro ⟨_, rfl, _⟩; rfl) | (rintro ⟨_, _, rfl, _⟩; rfl) | (rintro ⟨_, _, _, rfl, _⟩; rfl) | (rintro ⟨_, _, _, _, rfl, _⟩; rfl) | (rintro ⟨_, _, _, _, _, rfl, _⟩; rfl) | (rintro ⟨_, _, _, _, _, _, rfl, _⟩; rfl) | (rintro ⟨_, _, _, _, _, _, _, rfl, _⟩; rfl) | (rintro ⟨_, _, _, _, _, _, _, _, rfl, _⟩; rfl) | (rintro ⟨_, _, _, _, _, _, _, _, _, rfl, _⟩; rfl)
  · obtain ⟨pl, ls, lc, f, s, rfl, hP, hI, k⟩ := h
    obtain ⟨⟨dx, hp⟩, ⟨as, hS, hL⟩, hc, hne⟩ := id hP
    have hn := hI.few
    refine ⟨_, rfl, _, rfl, pl, ls, lc, f, s, rfl, hP, hn, fun hs => ?_, fun hs => k.bad (-2) (congrArg (Prod.mk (some f)) (if_pos (Nat.le_of_not_lt hs)))⟩
    have hs' : ¬ 2 ^ f.ships.length ≤ s := Nat.not_le_of_lt hs
    refine ⟨_, rfl, _, rfl, pl, ls, lc, f, s, rfl, hP, hn, hs, fun e H1 s1 => ?_, fun e => k.bad (-33) (congrArg (Prod.mk (some f)) ((if_neg hs').trans (if_pos e)))⟩
    have hw : need f.ships f.closing s ≤ Km560.startWidth f := by
      rw [feasible_iff hn hs] at e
      exact of_decide_eq_true e
    have hP1 := hP.same s1
    have hp1 := s1 _ _ hp
    refine ⟨_, rfl, pl, ad.P, dx, _, _, rfl, hp1, T.clP, T.nP_ships, plF_ships _ _ _ _, _, rfl, pl, ad.P, dx, _, _, rfl, hp1, T.clP, T.nP_clos, plF_clos _ _ _ _, _, rfl, _, rfl, pl, dx, _, rfl, hp1, plF_start _ _ _ _, pl, ls, lc, f, rfl, hP1,
      ls, f, s, Km560.startWidth f, rfl, hP1.shipsAt, hn, hs, hw, fun q H2 hq s2 h2 => ⟨q, _, rfl, h2, ?_, fun p H3 hp3 s3 h3 => ?_⟩⟩
    · rw [show (Km560.firstOrderFrom f 7 (Km560.startWidth f) s).length = Km560.setSize s from first_len hn hs hw]
      exact Nat.le_trans (members_len s) (by decide)
    · refine k.report hP hI (r := Km560.listResult (Km560.firstOrder f s)) (congrArg (Prod.mk (some f)) ((if_neg hs').trans (if_neg (by rw [e]; exact fun z => Bool.noConfusion z)))) (s1.free (s2.free hp3)) (Same.trans s1 (Same.trans s2 s3)) ?_
      rw [listR]
      exact h3
theorem has_max_final_width {f : Addr} {fd : FuncData} (F : Fun K "max_final_width" "max_final_width" s_max_final_width f fd) (hm : mg "max_final_width" = some (.ref f)) (T : Txt P w K mg ad)
    (h_want : Has P w K mg base "want" (L2.CX P w) 2 ["truth", "code"] (sp_want K ad))
    (h_widest : Has P w K mg base "widest" CX0 4 ["ships", "closing", "previous"] (sp_widest K ad))
    (h_Planner_start : HasM P w K mg base ad.P "start" CX0 1 ["self"] (sp_Planner_start K ad))
    (h_want_set : Has P w K mg base "want_set" (L2.CX P w) 3 ["planner", "ship_set"] (sp_want_set K ad))
    (h_want_feasible : Has P w K mg base "want_feasible" (L2.CX P w) 6 ["planner", "ship_set"] (sp_want_feasible K ad))
    : Has P w K mg base "max_final_width" (L2.CX P w) 7 ["planner", "ship_set"] (sp_max_final_width K ad) := by
  refine ⟨f, fd, hm, F.kp, F.binds (ps := ["planner", "ship_set"]) (fun _ _ _ _ _ _ us hl => match us, hl with | [_, _], _ => rfl), F.okX sc_max_final_width (fun vs H Q E => ?_) (fun cdv A outer s H vs Q E hr h => ⟨_, (pss_cons (ps_expr (pe_callH h_want hr (passes_call (takes_of rfl rfl rfl rfl) (fun _ _ _ _ h => h)) (pa_cons (pe_cmpR op_gt (pv 1) pe_int (nomark _)) (pa_cons (pe_gi T.c_NOT_THERE) pa_nil)))) (pss_cons (ps_expr (pe_callH h_want_set hr (passes_call (takes_of rfl rfl rfl rfl) (fun _ _ _ _ h => h)) (pa_cons (pv 0) (pa_cons (pv 1) pa_nil)))) (pss_cons (ps_expr (pe_callH h_want_feasible hr (passes_call (takes_of rfl rfl rfl rfl) (fun _ _ _ _ h => h)) (pa_cons (pv 0) (pa_cons (pv 1) pa_nil)))) (pss_one (ps_ret (pe_lst (pa_cons (pe_ix ix_list (pe_callH h_widest hr pass0 (pa_cons (pe_fld (pv 0) rfl) (pa_cons (pe_fld (pv 0) rfl) (pa_cons (pe_methH0 (pv 0) T.clP h_Planner_start hr pass0) pa_nil)))) (pv 1) (fun _ _ => rfl)) pa_nil))))))), ?_⟩)⟩
  · first | (rintro ⟨_, rfl, _⟩; rfl) | (rintro ⟨_, _, rfl, _⟩; rfl) | (rintro ⟨_, _, _, rfl, _⟩; rfl) | (rintro ⟨_, _, _, _, rfl, _⟩; rfl) | (rintro ⟨_, _, _, _, _, rfl, _⟩; rfl) | (rintro ⟨_, _, _, _, _, _, rfl, _⟩; rfl) | (rintro ⟨_, _, _, _, _, _, _, rfl, _⟩; rfl) | (rintro ⟨_, _, _, _, _, _, _, _, rfl, _⟩; rfl) | (rintro ⟨_, _, _, _, _, _, _, _, _, rfl, _⟩; rfl)
  · obtain ⟨pl, ls, lc, f, s, rfl, hP, hI, k⟩ := h
    obtain ⟨⟨dx, hp⟩, ⟨as, hS, hL⟩, hc, hne⟩ := id hP
    have hn := hI.few
    refine ⟨_, rfl, _, _, rfl, rfl, _, -2, rfl, fun e0 => ?_, fun e0 => k.bad (-2) (congrArg (Prod.mk (some f)) (if_pos (.inr ?_)))⟩
    · have h0 : 0 < s := by
        have := of_decide_eq_true e0
        omega
      refine ⟨_, rfl, _, rfl, pl, ls, lc, f, s, rfl, hP, hn, fun hs => ?_, fun hs => k.bad (-2) (congrArg (Prod.mk (some f)) (if_pos (.inl (Nat.le_of_not_lt hs))))⟩
      have hs' : ¬ (2 ^ f.ships.length ≤ s ∨ s = 0) := by
        rintro (h | h)
        · exact Nat.not_le_of_lt hs h
        · omega
      refine ⟨_, rfl, _, rfl, pl, ls, lc, f, s, rfl, hP, hn, hs, fun e H1 s1 => ?_, fun e => k.bad (-33) (congrArg (Prod.mk (some f)) ((if_neg hs').trans (if_pos e)))⟩
      have hP1 := hP.same s1
      have hp1 := s1 _ _ hp
      have hlen : s < (Km560.maxWidthTable f).length := by
        rw [table_eq, widT_length]
        omega
      refine ⟨_, rfl, pl, ad.P, dx, _, _, rfl, hp1, T.clP, T.nP_ships, plF_ships _ _ _ _, _, rfl, pl, ad.P, dx, _, _, rfl, hp1, T.clP, T.nP_clos, plF_clos _ _ _ _, _, rfl, pl, dx, _, rfl, hp1, plF_start _ _ _ _, pl, ls, lc, f, rfl, hP1,
        ls, f, rfl, hP1.shipsAt, hn, fun q H2 hq s2 h2 => ⟨_, rfl, q, _, _, _, rfl, rfl, SqL.of h2, atI_nat (wvs_at hlen), (by show 1 ≤ sizeLine; decide), fun p hp3 => ?_⟩⟩
      refine k.report hP hI (r := Km560.number (((Km560.maxWidthTable f).getD s 0 - 1 : Nat) : Int)) (congrArg (Prod.mk (some f)) ((if_neg hs').trans (if_neg (by rw [e]; exact fun z => Bool.noConfusion z)))) (s1.free (s2.free hp3)) (Same.trans s1 (Same.trans s2 (Same.new hp3))) ?_
      have hpos : (Km560.maxWidthTable f).getD s 0 ≠ 0 := by
        intro z
        unfold Km560.isFeasible at e
        rw [z] at e
        cases e
      rw [upd_same, show ((((Km560.maxWidthTable f).getD s 0 : Nat) : Int) - 1) = (((Km560.maxWidthTable f).getD s 0 - 1 : Nat) : Int) by omega]
      rfl
    · have := of_decide_eq_false e0
      omega
theorem has_largest_feasible_set {f : Addr} {fd : FuncData} (F : Fun K "largest_feasible_set" "largest_feasible_set" s_largest_feasible_set f fd) (hm : mg "largest_feasible_set" = some (.ref f)) (T : Txt P w K mg ad)
    (h_size_of : Has P w K mg base "size_of" CX0 3 ["ship_set", "many"] (sp_size_of K ad))
    (h_largest_set : Has P w K mg base "largest_set" CX0 5 ["ships", "closing", "previous"] (sp_largest_set K ad))
    (h_Planner_start : HasM P w K mg base ad.P "start" CX0 1 ["self"] (sp_Planner_start K ad))
    : Has P w K mg base "largest_feasible_set" CX0 6 ["planner"] (sp_largest_feasible_set K ad) := by
  refine ⟨f, fd, hm, F.kp, F.binds (ps := ["planner"]) (fun _ _ _ _ _ _ us hl => match us, hl with | [_], _ => rfl), F.ok sc_largest_feasible_set (fun vs H Q E => ?_) (fun cdv A outer s H vs Q E hr h => ⟨_, (pss_cons (ps_set (i := 1) sc_largest_feasible_set.nd rfl (Or.inl rfl) (pe_callH h_largest_set hr pass0 (pa_cons (pe_fld (pv 0) rfl) (pa_cons (pe_fld (pv 0) rfl) (pa_cons (pe_methH0 (pv 0) T.clP h_Planner_start hr pass0) pa_nil))))) (pss_one (ps_ret (pe_lst (pa_cons (pe_callH h_size_of hr pass0 (pa_cons (pv 1) (pa_cons (pe_callB call_len_seq (by rfl) T.b_len (by decide +kernel) (pa_cons (pe_fld (pv 0) rfl) pa_nil)) pa_nil))) (pa_cons (pv 1) pa_nil)))))), ?_⟩)⟩
  · first | (rintro ⟨_, rfl, _⟩; rfl) | (rintro ⟨_, _, rfl, _⟩; rfl) | (rintro ⟨_, _, _, rfl, _⟩; rfl) | (rintro ⟨_, _, _, _, rfl, _⟩; rfl) | (rintro ⟨_, _, _, _, _, rfl, _⟩; rfl) | (rintro ⟨_, _, _, _, _, _, rfl, _⟩; rfl) | (rintro ⟨_, _, _, _, _, _, _, rfl, _⟩; rfl) | (rintro ⟨_, _, _, _, _, _, _, _, rfl, _⟩; rfl) | (rintro ⟨_, _, _, _, _, _, _, _, _, rfl, _⟩; rfl)
  · obtain ⟨pl, ls, lc, f, rfl, hP, hI, k⟩ := h
    obtain ⟨⟨dx, hp⟩, ⟨as, hS, hL⟩, hc, hne⟩ := id hP
    have hn := hI.few
    have hlt : Km560.largestSet f < 2 ^ f.ships.length := bestSet_lt hn Km560.setSize setSize_zero
    refine ⟨_, rfl, pl, ad.P, dx, _, _, rfl, hp, T.clP, T.nP_ships, plF_ships _ _ _ _, _, rfl, pl, ad.P, dx, _, _, rfl, hp, T.clP, T.nP_clos, plF_clos _ _ _ _, _, rfl, pl, dx, _, rfl, hp, plF_start _ _ _ _, pl, ls, lc, f, rfl, hP, ls, f, rfl, hP.shipsAt, hn, fun H1 s1 => ?_⟩
    refine ⟨_, rfl, _, rfl, pl, ad.P, dx, _, _, rfl, s1 _ _ hp, T.clP, T.nP_ships, plF_ships _ _ _ _, ls, _, rfl, .inl (SqL.of (s1 _ _ hS)), Km560.largestSet f, f.ships.length, ?_, by omega, fun H2 s2 => ⟨_, rfl, (by show 2 ≤ sizeLine; decide), fun p hp3 => ?_⟩⟩
    · rw [List.length_map, hL.len]
      rfl
    · refine k.report hP hI (r := ⟨(Km560.setSize (Km560.largestSet f) : Int), [(Km560.largestSet f : Int)]⟩) rfl (s1.free (s2.free hp3)) (Same.trans s1 (Same.trans s2 (Same.new hp3))) ?_
      rw [upd_same, mem_eq hn hlt]
      rfl
theorem has_most_valuable_feasible_set {f : Addr} {fd : FuncData} (F : Fun K "most_valuable_feasible_set" "most_valuable_feasible_set" s_most_valuable_feasible_set f fd) (hm : mg "most_valuable_feasible_set" = some (.ref f)) (T : Txt P w K mg ad)
    (h_worth_of : Has P w K mg base "worth_of" CX0 3 ["ships", "ship_set"] (sp_worth_of K ad))
    (h_most_valuable_set : Has P w K mg base "most_valuable_set" CX0 5 ["ships", "closing", "previous"] (sp_most_valuable_set K ad))
    (h_Planner_start : HasM P w K mg base ad.P "start" CX0 1 ["self"] (sp_Planner_start K ad))
    : Has P w K mg base "most_valuable_feasible_set" CX0 6 ["planner"] (sp_most_valuable_feasible_set K ad) := by
  refine ⟨f, fd, hm, F.kp, F.binds (ps := ["planner"]) (fun _ _ _ _ _ _ us hl => match us, hl with | [_], _ => rfl), F.ok sc_most_valuable_feasible_set (fun vs H Q E => ?_) (fun cdv A outer s H vs Q E hr h => ⟨_, (pss_cons (ps_set (i := 1) sc_most_valuable_feasible_set.nd rfl (Or.inl rfl) (pe_callH h_most_valuable_set hr pass0 (pa_cons (pe_fld (pv 0) rfl) (pa_cons (pe_fld (pv 0) rfl) (pa_cons (pe_methH0 (pv 0) T.clP h_Planner_start hr pass0) pa_nil))))) (pss_one (ps_ret (pe_lst (pa_cons (pe_callH h_worth_of hr pass0 (pa_cons (pe_fld (pv 0) rfl) (pa_cons (pv 1) pa_nil))) (pa_cons (pv 1) pa_nil)))))), ?_⟩)⟩
  · first | (rintro ⟨_, rfl, _⟩; rfl) | (rintro ⟨_, _, rfl, _⟩; rfl) | (rintro ⟨_, _, _, rfl, _⟩; rfl) | (rintro ⟨_, _, _, _, rfl, _⟩; rfl) | (rintro ⟨_, _, _, _, _, rfl, _⟩; rfl) | (rintro ⟨_, _, _, _, _, _, rfl, _⟩; rfl) | (rintro ⟨_, _, _, _, _, _, _, rfl, _⟩; rfl) | (rintro ⟨_, _, _, _, _, _, _, _, rfl, _⟩; rfl) | (rintro ⟨_, _, _, _, _, _, _, _, _, rfl, _⟩; rfl)
  · obtain ⟨pl, ls, lc, f, rfl, hP, hI, k⟩ := h
    obtain ⟨⟨dx, hp⟩, ⟨as, hS, hL⟩, hc, hne⟩ := id hP
    have hn := hI.few
    have hlt := bestSet_lt hn (Km560.setValue f) (setValue_zero f)
    refine ⟨_, rfl, pl, ad.P, dx, _, _, rfl, hp, T.clP, T.nP_ships, plF_ships _ _ _ _, _, rfl, pl, ad.P, dx, _, _, rfl, hp, T.clP, T.nP_clos, plF_clos _ _ _ _, _, rfl, pl, dx, _, rfl, hp, plF_start _ _ _ _, pl, ls, lc, f, rfl, hP, ls, f, rfl, hP.shipsAt, hn, fun H1 s1 => ?_⟩
    refine ⟨_, rfl, pl, ad.P, dx, _, _, rfl, s1 _ _ hp, T.clP, T.nP_ships, plF_ships _ _ _ _, _, rfl, ls, f.ships, Km560.mostValuableSet f, rfl, (hP.same s1).shipsAt, by omega, fun H2 s2 => ⟨_, rfl, (by show 2 ≤ sizeLine; decide), fun p hp3 => ?_⟩⟩
    refine k.report hP hI (r := ⟨(Km560.setValue f (Km560.mostValuableSet f) : Int), [(Km560.mostValuableSet f : Int)]⟩) rfl (s1.free (s2.free hp3)) (Same.trans s1 (Same.trans s2 (Same.new hp3))) ?_
    rw [upd_same]
    exact congrArg (fun (n : Nat) => some (HO.lst [V.int (n : Int), iv (Km560.mostValuableSet f)])) (value_eq f hn hlt)
theorem has_min_channel_width {f : Addr} {fd : FuncData} (F : Fun K "min_channel_width" "min_channel_width" s_min_channel_width f fd) (hm : mg "min_channel_width" = some (.ref f)) (T : Txt P w K mg ad)
    (h_want : Has P w K mg base "want" (L2.CX P w) 2 ["truth", "code"] (sp_want K ad))
    (h_needs : Has P w K mg base "needs" CX0 4 ["ships", "closing"] (sp_needs K ad))
    : Has P w K mg base "min_channel_width" (L2.CX P w) 5 ["planner"] (sp_min_channel_width K ad) := by
  refine ⟨f, fd, hm, F.kp, F.binds (ps := ["planner"]) (fun _ _ _ _ _ _ us hl => match us, hl with | [_], _ => rfl), F.okX sc_min_channel_width (fun vs H Q E => ?_) (fun cdv A outer s H vs Q E hr h => ⟨_, (pss_cons (ps_set (i := 1) sc_min_channel_width.nd rfl (Or.inl rfl) (pe_ix ix_list (pe_callH h_needs hr pass0 (pa_cons (pe_fld (pv 0) rfl) (pa_cons (pe_fld (pv 0) rfl) pa_nil))) (pe_un un_neg pe_int) (fun _ _ => rfl))) (pss_cons (ps_set (i := 2) sc_min_channel_width.nd rfl (Or.inl rfl) (pe_callB (call_max2 rfl) (by rfl) T.b_max (by decide +kernel) (pa_cons pe_int (pa_cons (pe_op op_sub (pv 1) (pe_fld (pv 0) rfl)) pa_nil)))) (pss_cons (ps_expr (pe_callH h_want hr (passes_call (takes_of rfl rfl rfl rfl) (fun _ _ _ _ h => h)) (pa_cons (pe_cmpR op_le (pv 2) (pe_gi T.c_MOST_CHANNEL) (nomark _)) (pa_cons (pe_gi T.c_NOT_FEASIBLE) pa_nil)))) (pss_one (ps_ret (pe_lst (pa_cons (pv 2) pa_nil))))))), ?_⟩)⟩
  · first | (rintro ⟨_, rfl, _⟩; rfl) | (rintro ⟨_, _, rfl, _⟩; rfl) | (rintro ⟨_, _, _, rfl, _⟩; rfl) | (rintro ⟨_, _, _, _, rfl, _⟩; rfl) | (rintro ⟨_, _, _, _, _, rfl, _⟩; rfl) | (rintro ⟨_, _, _, _, _, _, rfl, _⟩; rfl) | (rintro ⟨_, _, _, _, _, _, _, rfl, _⟩; rfl) | (rintro ⟨_, _, _, _, _, _, _, _, rfl, _⟩; rfl) | (rintro ⟨_, _, _, _, _, _, _, _, _, rfl, _⟩; rfl)
  · obtain ⟨pl, ls, lc, f, rfl, hP, hI, k⟩ := h
    obtain ⟨⟨dx, hp⟩, ⟨as, hS, hL⟩, hc, hne⟩ := id hP
    have hn := hI.few
    refine ⟨_, rfl, pl, ad.P, dx, _, _, rfl, hp, T.clP, T.nP_ships, plF_ships _ _ _ _, _, rfl, pl, ad.P, dx, _, _, rfl, hp, T.clP, T.nP_clos, plF_clos _ _ _ _, ls, f.ships, f.closing, rfl, hP.shipsAt, hn, fun q H1 hq s1 h1 => ?_⟩
    refine ⟨_, rfl, q, _, _, iv (need f.ships f.closing (2 ^ f.ships.length - 1)), rfl, rfl, SqL.of h1, atI_neg1 need_last, ?_⟩
    refine ⟨_, rfl, _, rfl, pl, ad.P, dx, _, _, rfl, s1 _ _ hp, T.clP, T.nP_clos, plF_clos _ _ _ _, _, _, rfl, rfl, _, _, rfl, ?_⟩
    have em := max_ints (need f.ships f.closing (2 ^ f.ships.length - 1)) f.closing
    have estep : Km560.step (some f) .minChannelWidth = (some f, match Km560.minChannelWidth f with | none => Km560.error (-33) | some width => Km560.number (width : Nat)) := rfl
    rw [minChannel_eq hn] at estep
    refine ⟨_, rfl, _, _, rfl, rfl, _, -33, rfl, fun e => ?_, fun e => ?_⟩
    · have e2 : need f.ships f.closing (2 ^ f.ships.length - 1) - f.closing ≤ 99 := by
        have := of_decide_eq_true e
        omega
      rw [if_pos e2] at estep
      refine ⟨_, rfl, (by show 1 ≤ sizeLine; decide), fun p hp3 => ?_⟩
      refine k.report hP hI estep (s1.free hp3) (Same.trans s1 (Same.new hp3)) ?_
      rw [upd_same]
      exact congrArg (fun z => some (HO.lst [V.int z])) em
    · have e2 : ¬ need f.ships f.closing (2 ^ f.ships.length - 1) - f.closing ≤ 99 := by
        have := of_decide_eq_false e
        omega
      rw [if_neg e2] at estep
      exact (k.bad (-33) estep).same s1
theorem has_largest_size {f : Addr} {fd : FuncData} (F : Fun K "largest_size" "largest_size" s_largest_size f fd) (hm : mg "largest_size" = some (.ref f)) (T : Txt P w K mg ad)
    (h_size_of : Has P w K mg base "size_of" CX0 3 ["ship_set", "many"] (sp_size_of K ad))
    (h_largest_set : Has P w K mg base "largest_set" CX0 5 ["ships", "closing", "previous"] (sp_largest_set K ad))
    : Has P w K mg base "largest_size" CX0 6 ["ships", "channel", "closing"] (sp_largest_size K ad) := by
  refine ⟨f, fd, hm, F.kp, F.binds (ps := ["ships", "channel", "closing"]) (fun _ _ _ _ _ _ us hl => match us, hl with | [_, _, _], _ => rfl), F.ok sc_largest_size (fun vs H Q E => ?_) (fun cdv A outer s H vs Q E hr h => ⟨_, (pss_one (ps_ret (pe_callH h_size_of hr pass0 (pa_cons (pe_callH h_largest_set hr pass0 (pa_cons (pv 0) (pa_cons (pv 2) (pa_cons (pe_op op_add (pv 1) (pv 2)) pa_nil)))) (pa_cons (pe_callB call_len_seq (by rfl) T.b_len (by decide +kernel) (pa_cons (pv 0) pa_nil)) pa_nil))))), ?_⟩)⟩
  · first | (rintro ⟨_, rfl, _⟩; rfl) | (rintro ⟨_, _, rfl, _⟩; rfl) | (rintro ⟨_, _, _, rfl, _⟩; rfl) | (rintro ⟨_, _, _, _, rfl, _⟩; rfl) | (rintro ⟨_, _, _, _, _, rfl, _⟩; rfl) | (rintro ⟨_, _, _, _, _, _, rfl, _⟩; rfl) | (rintro ⟨_, _, _, _, _, _, _, rfl, _⟩; rfl) | (rintro ⟨_, _, _, _, _, _, _, _, rfl, _⟩; rfl) | (rintro ⟨_, _, _, _, _, _, _, _, _, rfl, _⟩; rfl)
  · obtain ⟨a, f, rfl, hS, hn, k⟩ := h
    have hlt : Km560.largestSet f < 2 ^ f.ships.length := bestSet_lt hn Km560.setSize setSize_zero
    refine ⟨_, rfl, _, rfl, _, rfl, _, rfl, _, _, rfl, rfl, a, f, rfl, hS, hn, fun H1 s1 => ?_⟩
    obtain ⟨as, hS1, hL⟩ := hS.same s1
    refine ⟨_, rfl, a, _, rfl, .inl hS1, Km560.largestSet f, f.ships.length, ?_, by omega, fun H2 s2 => ?_⟩
    · rw [List.length_map, hL.len]
      rfl
    · rw [mem_eq hn hlt]
      exact k H2 (Same.trans s1 s2)
theorem has_largest_size_with_channel_width {f : Addr} {fd : FuncData} (F : Fun K "largest_size_with_channel_width" "largest_size_with_channel_width" s_largest_size_with_channel_width f fd) (hm : mg "largest_size_with_channel_width" = some (.ref f)) (T : Txt P w K mg ad)
    (h_want_channel : Has P w K mg base "want_channel" (L2.CX P w) 3 ["channel"] (sp_want_channel K ad))
    (h_largest_size : Has P w K mg base "largest_size" CX0 6 ["ships", "channel", "closing"] (sp_largest_size K ad))
    : Has P w K mg base "largest_size_with_channel_width" (L2.CX P w) 7 ["planner", "channel"] (sp_largest_size_with_channel_width K ad) := by
  refine ⟨f, fd, hm, F.kp, F.binds (ps := ["planner", "channel"]) (fun _ _ _ _ _ _ us hl => match us, hl with | [_, _], _ => rfl), F.okX sc_largest_size_with_channel_width (fun vs H Q E => ?_) (fun cdv A outer s H vs Q E hr h => ⟨_, (pss_cons (ps_expr (pe_callH h_want_channel hr (passes_call (takes_of rfl rfl rfl rfl) (fun _ _ _ _ h => h)) (pa_cons (pv 1) pa_nil))) (pss_one (ps_ret (pe_lst (pa_cons (pe_callH h_largest_size hr pass0 (pa_cons (pe_fld (pv 0) rfl) (pa_cons (pv 1) (pa_cons (pe_fld (pv 0) rfl) pa_nil)))) pa_nil))))), ?_⟩)⟩
  · first | (rintro ⟨_, rfl, _⟩; rfl) | (rintro ⟨_, _, rfl, _⟩; rfl) | (rintro ⟨_, _, _, rfl, _⟩; rfl) | (rintro ⟨_, _, _, _, rfl, _⟩; rfl) | (rintro ⟨_, _, _, _, _, rfl, _⟩; rfl) | (rintro ⟨_, _, _, _, _, _, rfl, _⟩; rfl) | (rintro ⟨_, _, _, _, _, _, _, rfl, _⟩; rfl) | (rintro ⟨_, _, _, _, _, _, _, _, rfl, _⟩; rfl) | (rintro ⟨_, _, _, _, _, _, _, _, _, rfl, _⟩; rfl)
  · obtain ⟨pl, ls, lc, f, c, rfl, hP, hI, k⟩ := h
    obtain ⟨⟨dx, hp⟩, ⟨as, hS, hL⟩, hc, hne⟩ := id hP
    refine ⟨_, rfl, c, rfl, fun h1 => ?_, fun h1 => k.bad (-22) (congrArg (Prod.mk (some f)) (if_pos (by omega)))⟩
    refine ⟨_, rfl, pl, ad.P, dx, _, _, rfl, hp, T.clP, T.nP_ships, plF_ships _ _ _ _, _, rfl, _, rfl, pl, ad.P, dx, _, _, rfl, hp, T.clP, T.nP_clos, plF_clos _ _ _ _, ls, { f with channelWidth := c }, rfl, hP.shipsAt, hI.few, fun H1 s1 => ⟨(by show 1 ≤ sizeLine; decide), fun p hp3 => ?_⟩⟩
    exact k.report hP hI (r := Km560.number (Km560.setSize (Km560.largestSet { f with channelWidth := c }) : Nat)) (congrArg (Prod.mk (some f)) (if_neg (by omega))) (s1.free hp3) (Same.trans s1 (Same.new hp3)) upd_same
theorem has_largest_size_with_closing {f : Addr} {fd : FuncData} (F : Fun K "largest_size_with_closing" "largest_size_with_closing" s_largest_size_with_closing f fd) (hm : mg "largest_size_with_closing" = some (.ref f)) (T : Txt P w K mg ad)
    (h_want_closing : Has P w K mg base "want_closing" (L2.CX P w) 3 ["closing"] (sp_want_closing K ad))
    (h_largest_size : Has P w K mg base "largest_size" CX0 6 ["ships", "channel", "closing"] (sp_largest_size K ad))
    : Has P w K mg base "largest_size_with_closing" (L2.CX P w) 7 ["planner", "closing"] (sp_largest_size_with_closing K ad) := by
  refine ⟨f, fd, hm, F.kp, F.binds (ps := ["planner", "closing"]) (fun _ _ _ _ _ _ us hl => match us, hl with | [_, _], _ => rfl), F.okX sc_largest_size_with_closing (fun vs H Q E => ?_) (fun cdv A outer s H vs Q E hr h => ⟨_, (pss_cons (ps_expr (pe_callH h_want_closing hr (passes_call (takes_of rfl rfl rfl rfl) (fun _ _ _ _ h => h)) (pa_cons (pv 1) pa_nil))) (pss_one (ps_ret (pe_lst (pa_cons (pe_callH h_largest_size hr pass0 (pa_cons (pe_fld (pv 0) rfl) (pa_cons (pe_fld (pv 0) rfl) (pa_cons (pv 1) pa_nil)))) pa_nil))))), ?_⟩)⟩
  · first | (rintro ⟨_, rfl, _⟩; rfl) | (rintro ⟨_, _, rfl, _⟩; rfl) | (rintro ⟨_, _, _, rfl, _⟩; rfl) | (rintro ⟨_, _, _, _, rfl, _⟩; rfl) | (rintro ⟨_, _, _, _, _, rfl, _⟩; rfl) | (rintro ⟨_, _, _, _, _, _, rfl, _⟩; rfl) | (rintro ⟨_, _, _, _, _, _, _, rfl, _⟩; rfl) | (rintro ⟨_, _, _, _, _, _, _, _, rfl, _⟩; rfl) | (rintro ⟨_, _, _, _, _, _, _, _, _, rfl, _⟩; rfl)
  · obtain ⟨pl, ls, lc, f, c, rfl, hP, hI, k⟩ := h
    obtain ⟨⟨dx, hp⟩, ⟨as, hS, hL⟩, hc, hne⟩ := id hP
    refine ⟨_, rfl, c, rfl, fun h1 => ?_, fun h1 => k.bad (-22) (congrArg (Prod.mk (some f)) (if_pos (by omega)))⟩
    refine ⟨_, rfl, pl, ad.P, dx, _, _, rfl, hp, T.clP, T.nP_ships, plF_ships _ _ _ _, _, rfl, pl, ad.P, dx, _, _, rfl, hp, T.clP, T.nP_chan, plF_chan _ _ _ _, _, rfl, ls, { f with closing := c }, rfl, hP.shipsAt, hI.few, fun H1 s1 => ⟨(by show 1 ≤ sizeLine; decide), fun p hp3 => ?_⟩⟩
    exact k.report hP hI (r := Km560.number (Km560.setSize (Km560.largestSet { f with closing := c }) : Nat)) (congrArg (Prod.mk (some f)) (if_neg (by omega))) (s1.free hp3) (Same.trans s1 (Same.new hp3)) upd_same
theorem has_largest_size_without_ship {f : Addr} {fd : FuncData} (F : Fun K "largest_size_without_ship" "largest_size_without_ship" s_largest_size_without_ship f fd) (hm : mg "largest_size_without_ship" = some (.ref f)) (T : Txt P w K mg ad)
    (h_want_ship : Has P w K mg base "want_ship" (L2.CX P w) 3 ["planner", "number"] (sp_want_ship K ad))
    (h_largest_size : Has P w K mg base "largest_size" CX0 6 ["ships", "channel", "closing"] (sp_largest_size K ad))
    : Has P w K mg base "largest_size_without_ship" (L2.CX P w) 7 ["planner", "number"] (sp_largest_size_without_ship K ad) := by
  refine ⟨f, fd, hm, F.kp, F.binds (ps := ["planner", "number"]) (fun _ _ _ _ _ _ us hl => match us, hl with | [_, _], _ => rfl), F.okX sc_largest_size_without_ship (fun vs H Q E => ?_) (fun cdv A outer s H vs Q E hr h => ⟨_, (pss_cons (ps_expr (pe_callH h_want_ship hr (passes_call (takes_of rfl rfl rfl rfl) (fun _ _ _ _ h => h)) (pa_cons (pv 0) (pa_cons (pv 1) pa_nil)))) (pss_one (ps_ret (pe_lst (pa_cons (pe_callH h_largest_size hr pass0 (pa_cons (pe_op op_cat (pe_slice sl_list (pe_fld (pv 0) rfl) po_none (po_some (pv 1))) (pe_slice sl_list (pe_fld (pv 0) rfl) (po_some (pe_op op_add (pv 1) pe_int)) po_none)) (pa_cons (pe_fld (pv 0) rfl) (pa_cons (pe_fld (pv 0) rfl) pa_nil)))) pa_nil))))), ?_⟩)⟩
  · first | (rintro ⟨_, rfl, _⟩; rfl) | (rintro ⟨_, _, rfl, _⟩; rfl) | (rintro ⟨_, _, _, rfl, _⟩; rfl) | (rintro ⟨_, _, _, _, rfl, _⟩; rfl) | (rintro ⟨_, _, _, _, _, rfl, _⟩; rfl) | (rintro ⟨_, _, _, _, _, _, rfl, _⟩; rfl) | (rintro ⟨_, _, _, _, _, _, _, rfl, _⟩; rfl) | (rintro ⟨_, _, _, _, _, _, _, _, rfl, _⟩; rfl) | (rintro ⟨_, _, _, _, _, _, _, _, _, rfl, _⟩; rfl)
  · obtain ⟨pl, ls, lc, f, i, rfl, hP, hI, k⟩ := h
    obtain ⟨⟨dx, hp⟩, ⟨as, hS, hL⟩, hc, hne⟩ := id hP
    refine ⟨_, rfl, _, rfl, pl, ls, lc, f, i, rfl, hP, fun hi => ?_, fun hi => k.bad (-2) (congrArg (Prod.mk (some f)) (if_pos (Nat.le_of_not_lt hi)))⟩
    have hia : i < as.length := by rw [hL.len]; exact hi
    refine ⟨_, rfl, pl, ad.P, dx, _, _, rfl, hp, T.clP, T.nP_ships, plF_ships _ _ _ _, _, rfl, _, rfl, ls, _, rfl, SqL.of hS, fun p1 hp1 => ?_⟩
    rw [cut_take _ _ (by rw [List.length_map]; omega)]
    have s1 : Same H (upd H p1 (.lst ((as.map V.ref).take i))) := Same.new hp1
    refine ⟨_, rfl, pl, ad.P, dx, _, _, rfl, s1 _ _ hp, T.clP, T.nP_ships, plF_ships _ _ _ _, _, rfl, _, _, rfl, rfl, _, rfl, ls, _, rfl, SqL.of (s1 _ _ hS), fun p2 hp2 => ?_⟩
    rw [show ((i : Int) + 1) = ((i + 1 : Nat) : Int) by omega, cut_drop _ _ (by rw [List.length_map]; omega)]
    have s2 : Same (upd H p1 (.lst ((as.map V.ref).take i))) (upd (upd H p1 (.lst ((as.map V.ref).take i))) p2 (.lst ((as.map V.ref).drop (i + 1)))) := Same.new hp2
    refine ⟨p1, p2, _, _, rfl, rfl, s2 _ _ upd_same, upd_same, ?_, fun p3 hp3 => ?_⟩
    · rw [List.length_take, List.length_drop, List.length_map]
      have := hI.few
      have h8 := hL.len
      exact Nat.le_of_lt (small1000 (by omega))
    have s3 : Same H (upd (upd (upd H p1 (.lst ((as.map V.ref).take i))) p2 (.lst ((as.map V.ref).drop (i + 1)))) p3 (.lst ((as.map V.ref).take i ++ (as.map V.ref).drop (i + 1)))) := Same.trans s1 (Same.trans s2 (Same.new hp3))
    refine ⟨_, rfl, pl, ad.P, dx, _, _, rfl, s3 _ _ hp, T.clP, T.nP_chan, plF_chan _ _ _ _, _, rfl, pl, ad.P, dx, _, _, rfl, s3 _ _ hp, T.clP, T.nP_clos, plF_clos _ _ _ _, p3, { f with ships := f.ships.eraseIdx i }, rfl, ⟨as.eraseIdx i, ?_, (hL.same s3).erase i⟩, ?_, fun H1 s4 => ⟨(by show 1 ≤ sizeLine; decide), fun p hp5 => ?_⟩⟩
    · rw [map_erase, List.eraseIdx_eq_take_drop_succ]
      exact SqL.of upd_same
    · show (f.ships.eraseIdx i).length ≤ 7
      rw [List.length_eraseIdx, if_pos hi]
      have := hI.few
      omega
    · exact k.report hP hI (r := Km560.number (Km560.setSize (Km560.largestSet { f with ships := f.ships.eraseIdx i }) : Nat)) (congrArg (Prod.mk (some f)) (if_neg (Nat.not_le_of_lt hi))) (s3.free (s4.free hp5)) (Same.trans s3 (Same.trans s4 (Same.new hp5))) upd_same
theorem has_leads {f : Addr} {fd : FuncData} (F : Fun K "leads" "leads" s_leads f fd) (hm : mg "leads" = some (.ref f)) (T : Txt P w K mg ad)
    (h_is_feasible_order : Has P w K mg base "is_feasible_order" CX0 3 ["ships", "order", "previous", "closing"] (sp_is_feasible_order K ad))
    (h_Planner_start : HasM P w K mg base ad.P "start" CX0 1 ["self"] (sp_Planner_start K ad))
    : Has P w K mg base "leads" CX0 4 ["planner", "first", "second"] (sp_leads K ad) := by
  refine ⟨f, fd, hm, F.kp, F.binds (ps := ["planner", "first", "second"]) (fun _ _ _ _ _ _ us hl => match us, hl with | [_, _, _], _ => rfl), F.ok sc_leads (fun vs H Q E => ?_) (fun cdv A outer s H vs Q E hr h => ⟨_, (pss_one (ps_ret (pe_callTy call_int1 (by rfl) T.b_int boot_int (pa_cons (pe_callH h_is_feasible_order hr pass0 (pa_cons (pe_fld (pv 0) rfl) (pa_cons (pe_lst (pa_cons (pv 1) (pa_cons (pv 2) pa_nil))) (pa_cons (pe_methH0 (pv 0) T.clP h_Planner_start hr pass0) (pa_cons (pe_fld (pv 0) rfl) pa_nil))))) pa_nil)))), ?_⟩)⟩
  · first | (rintro ⟨_, rfl, _⟩; rfl) | (rintro ⟨_, _, rfl, _⟩; rfl) | (rintro ⟨_, _, _, rfl, _⟩; rfl) | (rintro ⟨_, _, _, _, rfl, _⟩; rfl) | (rintro ⟨_, _, _, _, _, rfl, _⟩; rfl) | (rintro ⟨_, _, _, _, _, _, rfl, _⟩; rfl) | (rintro ⟨_, _, _, _, _, _, _, rfl, _⟩; rfl) | (rintro ⟨_, _, _, _, _, _, _, _, rfl, _⟩; rfl) | (rintro ⟨_, _, _, _, _, _, _, _, _, rfl, _⟩; rfl)
  · obtain ⟨pl, ls, lc, f, i, j, rfl, hP, hi, hj, k⟩ := h
    obtain ⟨⟨dx, hp⟩, ⟨as, hS, hL⟩, hc, hne⟩ := id hP
    refine ⟨_, rfl, pl, ad.P, dx, _, _, rfl, hp, T.clP, T.nP_ships, plF_ships _ _ _ _, _, rfl, _, rfl, (by show 2 ≤ sizeLine; decide), fun p1 hp1 => ?_⟩
    have s1 : Same H (upd H p1 (.lst [iv i, iv j])) := Same.new hp1
    refine ⟨_, rfl, pl, dx, _, rfl, s1 _ _ hp, plF_start _ _ _ _, pl, ls, lc, f, rfl, hP.same s1, _, rfl, pl, ad.P, dx, _, _, rfl, s1 _ _ hp, T.clP, T.nP_clos, plF_clos _ _ _ _, ls, p1, f, [i, j], Km560.startWidth f, rfl, (hP.same s1).shipsAt, SqL.of upd_same, ?_, .inr ⟨_, rfl, k _ s1⟩⟩
    intro x hx
    rcases List.mem_cons.mp hx with rfl | hx
    · exact hi
    · rw [List.mem_singleton] at hx
      subst hx
      exact hj
theorem has_compare_pair {f : Addr} {fd : FuncData} (F : Fun K "compare_pair" "compare_pair" s_compare_pair f fd) (hm : mg "compare_pair" = some (.ref f)) (T : Txt P w K mg ad)
    (h_want : Has P w K mg base "want" (L2.CX P w) 2 ["truth", "code"] (sp_want K ad))
    (h_want_ship : Has P w K mg base "want_ship" (L2.CX P w) 3 ["planner", "number"] (sp_want_ship K ad))
    (h_leads : Has P w K mg base "leads" CX0 4 ["planner", "first", "second"] (sp_leads K ad))
    : Has P w K mg base "compare_pair" (L2.CX P w) 5 ["planner", "first", "second"] (sp_compare_pair K ad) := by
  refine ⟨f, fd, hm, F.kp, F.binds (ps := ["planner", "first", "second"]) (fun _ _ _ _ _ _ us hl => match us, hl with | [_, _, _], _ => rfl), F.okX sc_compare_pair (fun vs H Q E => ?_) (fun cdv A outer s H vs Q E hr h => ⟨_, (pss_cons (ps_expr (pe_callH h_want_ship hr (passes_call (takes_of rfl rfl rfl rfl) (fun _ _ _ _ h => h)) (pa_cons (pv 0) (pa_cons (pv 1) pa_nil)))) (pss_cons (ps_expr (pe_callH h_want_ship hr (passes_call (takes_of rfl rfl rfl rfl) (fun _ _ _ _ h => h)) (pa_cons (pv 0) (pa_cons (pv 2) pa_nil)))) (pss_cons (ps_expr (pe_callH h_want hr (passes_call (takes_of rfl rfl rfl rfl) (fun _ _ _ _ h => h)) (pa_cons (pe_cmpR op_ne (pv 1) (pv 2) (nomark _)) (pa_cons (pe_gi T.c_OUT_OF_RANGE) pa_nil)))) (pss_one (ps_ret (pe_lst (pa_cons (pe_callH h_leads hr pass0 (pa_cons (pv 0) (pa_cons (pv 1) (pa_cons (pv 2) pa_nil)))) (pa_cons (pe_callH h_leads hr pass0 (pa_cons (pv 0) (pa_cons (pv 2) (pa_cons (pv 1) pa_nil)))) pa_nil)))))))), ?_⟩)⟩
  · first | (rintro ⟨_, rfl, _⟩; rfl) | (rintro ⟨_, _, rfl, _⟩; rfl) | (rintro ⟨_, _, _, rfl, _⟩; rfl) | (rintro ⟨_, _, _, _, rfl, _⟩; rfl) | (rintro ⟨_, _, _, _, _, rfl, _⟩; rfl) | (rintro ⟨_, _, _, _, _, _, rfl, _⟩; rfl) | (rintro ⟨_, _, _, _, _, _, _, rfl, _⟩; rfl) | (rintro ⟨_, _, _, _, _, _, _, _, rfl, _⟩; rfl) | (rintro ⟨_, _, _, _, _, _, _, _, _, rfl, _⟩; rfl)
  · obtain ⟨pl, ls, lc, f, i, j, rfl, hP, hI, k⟩ := h
    refine ⟨_, rfl, _, rfl, pl, ls, lc, f, i, rfl, hP, fun hi => ?_, fun hi => k.bad (-2) (congrArg (Prod.mk (some f)) (if_pos (.inl (Nat.le_of_not_lt hi))))⟩
    refine ⟨_, rfl, _, rfl, pl, ls, lc, f, j, rfl, hP, fun hj => ?_, fun hj => k.bad (-2) (congrArg (Prod.mk (some f)) (if_pos (.inr (Nat.le_of_not_lt hj))))⟩
    have hij : ¬ (f.ships.length ≤ i ∨ f.ships.length ≤ j) := by omega
    refine ⟨_, rfl, _, rfl, rfl, _, -22, rfl, fun e => ?_, fun e => ?_⟩
    · have hne : ¬ i = j := by
        rintro rfl
        rw [decide_eq_true rfl] at e
        cases e
      refine ⟨_, rfl, _, rfl, _, rfl, pl, ls, lc, f, i, j, rfl, hP, hi, hj, fun H1 s1 => ?_⟩
      refine ⟨_, rfl, _, rfl, _, rfl, pl, ls, lc, f, j, i, rfl, hP.same s1, hj, hi, fun H2 s2 => ⟨(by show 2 ≤ sizeLine; decide), fun p hp3 => ?_⟩⟩
      exact k.report hP hI (r := ⟨(if Km560.isFeasibleOrder f [i, j] then 1 else 0), [if Km560.isFeasibleOrder f [j, i] then 1 else 0]⟩) (congrArg (Prod.mk (some f)) ((if_neg hij).trans (if_neg hne))) (s1.free (s2.free hp3)) (Same.trans s1 (Same.trans s2 (Same.new hp3))) upd_same
    · refine k.bad (-22) (congrArg (Prod.mk (some f)) ((if_neg hij).trans (if_pos ?_)))
      by_cases c : i = j
      · exact c
      · have : (!decide (iv i = iv j)) = false := e
        rw [dec_iv, decide_eq_false c] at this
        cases this
theorem has_summary {f : Addr} {fd : FuncData} (F : Fun K "summary" "summary" s_summary f fd) (hm : mg "summary" = some (.ref f)) (T : Txt P w K mg ad)
    : Has P w K mg base "summary" CX0 1 ["planner"] (sp_summary K ad) := by
  refine ⟨f, fd, hm, F.kp, F.binds (ps := ["planner"]) (fun _ _ _ _ _ _ us hl => match us, hl with | [_], _ => rfl), F.ok sc_summary (fun vs H Q E => ?_) (fun cdv A outer s H vs Q E hr h => ⟨_, (pss_one (ps_ret (pe_lst (pa_cons (pe_callB call_len_seq (by rfl) T.b_len (by decide +kernel) (pa_cons (pe_fld (pv 0) rfl) pa_nil)) (pa_cons (pe_fld (pv 0) rfl) (pa_cons (pe_fld (pv 0) rfl) (pa_cons (pe_callB call_len_seq (by rfl) T.b_len (by decide +kernel) (pa_cons (pe_fld (pv 0) rfl) pa_nil)) pa_nil))))))), ?_⟩)⟩
  · first | (rintro ⟨_, rfl, _⟩; rfl) | (rintro ⟨_, _, rfl, _⟩; rfl) | (rintro ⟨_, _, _, rfl, _⟩; rfl) | (rintro ⟨_, _, _, _, rfl, _⟩; rfl) | (rintro ⟨_, _, _, _, _, rfl, _⟩; rfl) | (rintro ⟨_, _, _, _, _, _, rfl, _⟩; rfl) | (rintro ⟨_, _, _, _, _, _, _, rfl, _⟩; rfl) | (rintro ⟨_, _, _, _, _, _, _, _, rfl, _⟩; rfl) | (rintro ⟨_, _, _, _, _, _, _, _, _, rfl, _⟩; rfl)
  · obtain ⟨pl, ls, lc, f, rfl, hP, hI, k⟩ := h
    obtain ⟨⟨dx, hp⟩, ⟨as, hS, hL⟩, hc, hne⟩ := id hP
    refine ⟨_, rfl, pl, ad.P, dx, _, _, rfl, hp, T.clP, T.nP_ships, plF_ships _ _ _ _, ls, _, rfl, .inl (SqL.of hS), _, rfl, pl, ad.P, dx, _, _, rfl, hp, T.clP, T.nP_chan, plF_chan _ _ _ _, _, rfl, pl, ad.P, dx, _, _, rfl, hp, T.clP, T.nP_clos, plF_clos _ _ _ _,
      _, rfl, pl, ad.P, dx, _, _, rfl, hp, T.clP, T.nP_conv, plF_conv _ _ _ _, lc, _, rfl, .inl (SqL.of hc), (by show 4 ≤ sizeLine; decide), fun p hp3 => ?_⟩
    refine k.report hP hI (r := ⟨(f.ships.length : Nat), [(f.channelWidth : Int), (f.closing : Int), (f.convoy.length : Int)]⟩) rfl hp3 (Same.new hp3) ?_
    rw [upd_same, ivs_len, List.length_map, hL.len]
    rfl
end
end Ice
namespace IceM
open Km560

/-! ## the calls: of one number, of two; the list of calls read one behind another -/
def c0 : Nat → Option Call
  | 4 => some .listShips
  | 8 => some .removeLastFromConvoy
  | 9 => some .clearConvoy
  | 10 => some .getConvoy
  | 11 => some .convoyWidths
  | 12 => some .nextCandidates
  | 16 => some .largestFeasibleSet
  | 17 => some .mostValuableFeasibleSet
  | 18 => some .formLargestConvoy
  | 19 => some .formMostValuableConvoy
  | 20 => some .minChannelWidth
  | 25 => some .summary
  | _ => none
def c1 : Nat → Option (Nat → Call)
  | 2 => some .removeShip
  | 5 => some .setChannelWidth
  | 6 => some .setClosing
  | 7 => some .appendToConvoy
  | 13 => some .isFeasible
  | 14 => some .findOrder
  | 15 => some .maxFinalWidth
  | 21 => some .largestSizeWithWidth
  | 22 => some .largestSizeWithClosing
  | 23 => some .largestSizeWithoutShip
  | _ => none
/-- a call that is no create, by its number and its numbers -/
inductive IsOp : Nat → List Nat → Call → Prop where
  | zero {n : Nat} {c : Call} : c0 n = some c → IsOp n [] c
  | one {n : Nat} {cf : Nat → Call} (i : Nat) : c1 n = some cf → IsOp n [i] (cf i)
  | pair (a b : Nat) : IsOp 24 [a, b] (.comparePair a b)
  | add (a b c : Nat) : IsOp 1 [a, b, c] (.addShip a b c)
  | upd (a b c d : Nat) : IsOp 3 [a, b, c, d] (.updateShip a b c d)
/-- any call -/
inductive IsCall : Nat → List Nat → Call → Prop where
  | create (a b : Nat) : IsCall 0 [a, b] (.create a b)
  | op {n : Nat} {xs : List Nat} {c : Call} : n ≠ 0 → IsOp n xs c → IsCall n xs c
def cnts : List Nat := [2, 3, 1, 4, 0, 1, 1, 1, 0, 0, 0, 0, 0, 1, 1, 1, 0, 0, 0, 0, 0, 1, 1, 1, 2, 0]
theorem step_none {n : Nat} {xs : List Nat} {c : Call} (h : IsOp n xs c) : Km560.step none c = (none, ⟨-11, []⟩) := by
  cases h with
  | zero h =>
    unfold c0 at h
    split at h <;> first | (cases h; rfl) | cases h
  | one i h =>
    unfold c1 at h
    split at h <;> first | (cases h; rfl) | cases h
  | pair => rfl
  | add => rfl
  | upd => rfl
theorem shape_of {p : Int} {n k : Nat} (h : PyKm560.shape p = some (n, k)) : k = 0 ∧ 0 ≤ p ∧ cnts[p.toNat]? = some n := by
  unfold PyKm560.shape at h
  by_cases e0 : p = 0
  · subst e0
    cases h
    exact ⟨rfl, by decide, rfl⟩
  rw [if_neg e0] at h
  by_cases e1 : p = 1
  · subst e1
    cases h
    exact ⟨rfl, by decide, rfl⟩
  rw [if_neg e1] at h
  by_cases e2 : p = 2
  · subst e2
    cases h
    exact ⟨rfl, by decide, rfl⟩
  rw [if_neg e2] at h
  by_cases e3 : p = 3
  · subst e3
    cases h
    exact ⟨rfl, by decide, rfl⟩
  rw [if_neg e3] at h
  by_cases e4 : p = 4
  · subst e4
    cases h
    exact ⟨rfl, by decide, rfl⟩
  rw [if_neg e4] at h
  by_cases e5 : p = 5
  · subst e5
    cases h
    exact ⟨rfl, by decide, rfl⟩
  rw [if_neg e5] at h
  by_cases e6 : p = 6
  · subst e6
    cases h
    exact ⟨rfl, by decide, rfl⟩
  rw [if_neg e6] at h
  by_cases e7 : p = 7
  · subst e7
    cases h
    exact ⟨rfl, by decide, rfl⟩
  rw [if_neg e7] at h
  by_cases e8 : p = 8
  · subst e8
    cases h
    exact ⟨rfl, by decide, rfl⟩
  rw [if_neg e8] at h
  by_cases e9 : p = 9
  · subst e9
    cases h
    exact ⟨rfl, by decide, rfl⟩
  rw [if_neg e9] at h
  by_cases e10 : p = 10
  · subst e10
    cases h
    exact ⟨rfl, by decide, rfl⟩
  rw [if_neg e10] at h
  by_cases e11 : p = 11
  · subst e11
    cases h
    exact ⟨rfl, by decide, rfl⟩
  rw [if_neg e11] at h
  by_cases e12 : p = 12
  · subst e12
    cases h
    exact ⟨rfl, by decide, rfl⟩
  rw [if_neg e12] at h
  by_cases e13 : p = 13
  · subst e13
    cases h
    exact ⟨rfl, by decide, rfl⟩
  rw [if_neg e13] at h
  by_cases e14 : p = 14
  · subst e14
    cases h
    exact ⟨rfl, by decide, rfl⟩
  rw [if_neg e14] at h
  by_cases e15 : p = 15
  · subst e15
    cases h
    exact ⟨rfl, by decide, rfl⟩
  rw [if_neg e15] at h
  by_cases e16 : p = 16
  · subst e16
    cases h
    exact ⟨rfl, by decide, rfl⟩
  rw [if_neg e16] at h
  by_cases e17 : p = 17
  · subst e17
    cases h
    exact ⟨rfl, by decide, rfl⟩
  rw [if_neg e17] at h
  by_cases e18 : p = 18
  · subst e18
    cases h
    exact ⟨rfl, by decide, rfl⟩
  rw [if_neg e18] at h
  by_cases e19 : p = 19
  · subst e19
    cases h
    exact ⟨rfl, by decide, rfl⟩
  rw [if_neg e19] at h
  by_cases e20 : p = 20
  · subst e20
    cases h
    exact ⟨rfl, by decide, rfl⟩
  rw [if_neg e20] at h
  by_cases e21 : p = 21
  · subst e21
    cases h
    exact ⟨rfl, by decide, rfl⟩
  rw [if_neg e21] at h
  by_cases e22 : p = 22
  · subst e22
    cases h
    exact ⟨rfl, by decide, rfl⟩
  rw [if_neg e22] at h
  by_cases e23 : p = 23
  · subst e23
    cases h
    exact ⟨rfl, by decide, rfl⟩
  rw [if_neg e23] at h
  by_cases e24 : p = 24
  · subst e24
    cases h
    exact ⟨rfl, by decide, rfl⟩
  rw [if_neg e24] at h
  by_cases e25 : p = 25
  · subst e25
    cases h
    exact ⟨rfl, by decide, rfl⟩
  rw [if_neg e25] at h
  cases h
theorem call_of {p : Int} {r : List Int} {c : List (List Int)} {t : List Int} (h : PyFlat.call PyKm560.shape (p :: r) = some (c, t)) :
    0 ≤ p ∧ ∃ n, cnts[p.toNat]? = some n ∧ n ≤ r.length ∧ c = [p :: r.take n] ∧ t = r.drop n := by
  unfold PyFlat.call at h
  try dsimp only at h
  cases e : PyKm560.shape p with
  | none =>
    rw [e] at h
    cases h
  | some q =>
    obtain ⟨n, k⟩ := q
    rw [e] at h
    obtain ⟨rfl, h0, h1⟩ := shape_of e
    try dsimp only at h
    split at h
    · cases h
    · rename_i hl
      unfold PyFlat.rows at h
      try dsimp only at h
      cases h
      exact ⟨h0, n, h1, by omega, rfl, rfl⟩
theorem calls_of {f : Nat} {p : Int} {r : List Int} {cs : List (List (List Int))} (h : PyFlat.calls PyKm560.shape f (p :: r) = some cs) :
    0 ≤ p ∧ ∃ n f' cs', cnts[p.toNat]? = some n ∧ n ≤ r.length ∧ cs = [p :: r.take n] :: cs' ∧ PyFlat.calls PyKm560.shape f' (r.drop n) = some cs' := by
  cases f with
  | zero => cases h
  | succ f =>
    unfold PyFlat.calls at h
    try dsimp only at h
    cases e : PyFlat.call PyKm560.shape (p :: r) with
    | none =>
      rw [e] at h
      cases h
    | some q =>
      obtain ⟨c, t⟩ := q
      rw [e] at h
      try dsimp only at h
      obtain ⟨h0, n, h1, h2, rfl, rfl⟩ := call_of e
      cases e2 : PyFlat.calls PyKm560.shape f (r.drop n) with
      | none =>
        rw [e2] at h
        cases h
      | some cs' =>
        rw [e2] at h
        cases h
        exact ⟨h0, n, f, cs', h1, h2, rfl, e2⟩
theorem calls_nil {f : Nat} {cs : List (List (List Int))} (h : PyFlat.calls PyKm560.shape f [] = some cs) : cs = [] := by
  unfold PyFlat.calls at h
  cases h
  rfl
/-- a call that is read is one that the specification knows -/
theorem parse_of {n k : Nat} {xs : List Nat} (h : cnts[n]? = some k) (hl : xs.length = k) :
    ∃ c, IsCall n xs c ∧ Km560Neutral.parseCall (PyKm560.whole [(n : Int) :: xs.map fun (x : Nat) => (x : Int)]) = some c := by
  have hn : n < 26 := (List.getElem?_eq_some_iff.mp h).1
  match n, hn with
  | 0, _ => cases h; match xs, hl with | [a, b], _ => exact ⟨_, .create a b, rfl⟩
  | 1, _ => cases h; match xs, hl with | [a, b, c], _ => exact ⟨_, .op (by decide) (.add a b c), rfl⟩
  | 2, _ => cases h; match xs, hl with | [a], _ => exact ⟨_, .op (by decide) (.one a rfl), rfl⟩
  | 3, _ => cases h; match xs, hl with | [a, b, c, d], _ => exact ⟨_, .op (by decide) (.upd a b c d), rfl⟩
  | 4, _ => cases h; match xs, hl with | [], _ => exact ⟨_, .op (by decide) (.zero rfl), rfl⟩
  | 5, _ => cases h; match xs, hl with | [a], _ => exact ⟨_, .op (by decide) (.one a rfl), rfl⟩
  | 6, _ => cases h; match xs, hl with | [a], _ => exact ⟨_, .op (by decide) (.one a rfl), rfl⟩
  | 7, _ => cases h; match xs, hl with | [a], _ => exact ⟨_, .op (by decide) (.one a rfl), rfl⟩
  | 8, _ => cases h; match xs, hl with | [], _ => exact ⟨_, .op (by decide) (.zero rfl), rfl⟩
  | 9, _ => cases h; match xs, hl with | [], _ => exact ⟨_, .op (by decide) (.zero rfl), rfl⟩
  | 10, _ => cases h; match xs, hl with | [], _ => exact ⟨_, .op (by decide) (.zero rfl), rfl⟩
  | 11, _ => cases h; match xs, hl with | [], _ => exact ⟨_, .op (by decide) (.zero rfl), rfl⟩
  | 12, _ => cases h; match xs, hl with | [], _ => exact ⟨_, .op (by decide) (.zero rfl), rfl⟩
  | 13, _ => cases h; match xs, hl with | [a], _ => exact ⟨_, .op (by decide) (.one a rfl), rfl⟩
  | 14, _ => cases h; match xs, hl with | [a], _ => exact ⟨_, .op (by decide) (.one a rfl), rfl⟩
  | 15, _ => cases h; match xs, hl with | [a], _ => exact ⟨_, .op (by decide) (.one a rfl), rfl⟩
  | 16, _ => cases h; match xs, hl with | [], _ => exact ⟨_, .op (by decide) (.zero rfl), rfl⟩
  | 17, _ => cases h; match xs, hl with | [], _ => exact ⟨_, .op (by decide) (.zero rfl), rfl⟩
  | 18, _ => cases h; match xs, hl with | [], _ => exact ⟨_, .op (by decide) (.zero rfl), rfl⟩
  | 19, _ => cases h; match xs, hl with | [], _ => exact ⟨_, .op (by decide) (.zero rfl), rfl⟩
  | 20, _ => cases h; match xs, hl with | [], _ => exact ⟨_, .op (by decide) (.zero rfl), rfl⟩
  | 21, _ => cases h; match xs, hl with | [a], _ => exact ⟨_, .op (by decide) (.one a rfl), rfl⟩
  | 22, _ => cases h; match xs, hl with | [a], _ => exact ⟨_, .op (by decide) (.one a rfl), rfl⟩
  | 23, _ => cases h; match xs, hl with | [a], _ => exact ⟨_, .op (by decide) (.one a rfl), rfl⟩
  | 24, _ => cases h; match xs, hl with | [a, b], _ => exact ⟨_, .op (by decide) (.pair a b), rfl⟩
  | 25, _ => cases h; match xs, hl with | [], _ => exact ⟨_, .op (by decide) (.zero rfl), rfl⟩
def pl (s : State) (cs : List (List (List Int))) : List Int := PyFlat.told (PyFlat.played Km560Neutral.step s (cs.map PyKm560.whole))
theorem pl_nil (s : State) : pl s [] = [] := rfl
theorem pl_cons {n k : Nat} {xs : List Nat} {c : Call} (s : State) (cs : List (List (List Int))) (hc : Km560Neutral.parseCall (PyKm560.whole [(n : Int) :: xs.map fun (x : Nat) => (x : Int)]) = some c) :
    pl s ([(n : Int) :: xs.map fun (x : Nat) => (x : Int)] :: cs) = (((Km560.step s c).2.num :: (Km560.step s c).2.nums).length : Int) :: ((Km560.step s c).2.num :: (Km560.step s c).2.nums) ++ pl (Km560.step s c).1 cs := by
  have e : Km560Neutral.step s (PyKm560.whole [(n : Int) :: xs.map fun (x : Nat) => (x : Int)]) = ((Km560.step s c).1, (Km560.step s c).2.num :: (Km560.step s c).2.nums) := by
    unfold Km560Neutral.step
    rw [hc]
  unfold pl
  rw [List.map_cons]
  show PyFlat.told ((Km560Neutral.step s _).2 :: PyFlat.played Km560Neutral.step (Km560Neutral.step s _).1 _) = _
  rw [e]
  rfl
/-- what is asked of the list that is handed in -/
theorem asked_of {ns : List Int} (h : PyKm560.answers_asked ns = true) : ∃ cs, PyFlat.calls PyKm560.shape ns.length ns = some cs ∧ PyKm560.answers ns = pl none cs ∧ (PyKm560.answers ns).length ≤ 10000000 := by
  unfold PyKm560.answers_asked at h
  cases e : PyFlat.calls PyKm560.shape ns.length ns with
  | none =>
    rw [e] at h
    cases h
  | some cs =>
    rw [e] at h
    simp only [Bool.and_eq_true] at h
    refine ⟨cs, rfl, ?_, of_decide_eq_true h.2⟩
    unfold PyKm560.answers PyKm560.calls
    rw [e]
    rfl
end IceM
/-! # Part H: the desk -/
namespace Ice
open PySem PySem.Spec PyProof.Rows L2
open IceM
open Km560 (Fleet)
abbrev s_Desk_init : Stmt := inClass (top 94) 0
abbrev N_Desk_init : List Str := ["self"]
theorem sc_Desk_init : FnScope N_Desk_init ["self"] (defScope s_Desk_init) := ⟨rfl, rfl, rfl, by decide +kernel, rfl, by decide +kernel, by decide +kernel⟩
abbrev s_Desk_create : Stmt := inClass (top 94) 1
abbrev N_Desk_create : List Str := ["self", "channel", "closing"]
theorem sc_Desk_create : FnScope N_Desk_create ["self", "channel", "closing"] (defScope s_Desk_create) := ⟨rfl, rfl, rfl, by decide +kernel, rfl, by decide +kernel, by decide +kernel⟩
abbrev s_Desk_performed : Stmt := inClass (top 94) 2
abbrev N_Desk_performed : List Str := ["self", "number", "parameters", "planner", "operation"]
theorem sc_Desk_performed : FnScope N_Desk_performed ["self", "number", "parameters"] (defScope s_Desk_performed) := ⟨rfl, rfl, rfl, by decide +kernel, rfl, by decide +kernel, by decide +kernel⟩
/-! ### a call of a local name that holds one of many defs; a method's call within a try -/
def HoldsF (P : Program) (w : World) (K : PySem.W.Frag) (mg : Str → Option Value) (base : Heap) (f : Addr) (CX : CXT) (k : Nat) (sp : Sp) : Prop := ∃ fd ps, PySem.W.keepIn K (.ref f) = true ∧ Binds K fd ps [] ∧ FnOk P w K mg base CX k f fd ps sp
def tCallX (P : Program) (w : World) (K : PySem.W.Frag) (mg : Str → Option Value) (base : Heap) (CX : CXT) (k i : Nat) (E : XK) (t : TA) : TE := fun σ H Q => ∃ f sp, σ[i]? = some (some (.ref f)) ∧ HoldsF P w K mg base f CX k sp ∧ t σ H fun vs H1 => sp vs H1 Q E
def tMethS (C : Addr) (m : Str) (sp : Sp) (E : L2.St → XK) (ta : TE) (t : TA) : TE := fun σ H Q => ta σ H fun x H1 => ∃ a dx fs, x = .ref a ∧ H1 a = some (.ins C dx fs) ∧ fs.lookup m = none ∧ t σ H1 fun vs H2 => sp (x :: vs) H2 Q (E σ)
section
variable {X : Cx} {CX : CXT} {k j i : Nat} {C : Addr} {ps : List Str} {sp : Sp} {x m : Str} {p pos apos : Pos} {e o : Expr} {es : List Expr} {ta : TE} {t : TA}
theorem pe_callX {E : XK} (hr : Room j X.A) (hN : X.N[i]? = some x) (hv : Vis X.env.scope x) (hx : Passes CX X E) (ha : PA X (e :: es) t) (hk : k ≤ j := by decide) (hdb : (x == ("__debug__" : Str)) = false := by decide) (hcd : (x == ("__classdict__" : Str)) = false := by decide)
    (he : starEach (e :: es) X.env = (false, eval e X.env) :: starEach es X.env := by rfl) (hpl : (backTo pos (starEach es X.env)).any (·.1) = false := by rfl) :
    PE X (.Call (.Name x p) (e :: es) [] pos) (tCallX X.prog X.w X.K X.mg X.base CX k i E t) := by
  refine ⟨fun pins s σ H Q I h => ?_⟩
  obtain ⟨f, sp, hs, ⟨fd, ps, hkp, hb, F⟩, ht⟩ := h
  refine (pe_callL (i := i) (f := f) (sp := sp) (dvs := []) (E := E) F (hr.mono hk) hN hv hkp hb .nil hx ha hdb hcd he hpl).run pins s σ H Q I ⟨hs, ?_⟩
  have e0 : (fun (vs : List V) (H1 : Hp) => sp (vs ++ []) H1 Q E) = fun vs H1 => sp vs H1 Q E := by
    funext vs H1
    rw [List.append_nil]
  show t σ H (fun vs H1 => sp (vs ++ []) H1 Q E)
  rw [e0]
  exact ht
theorem pe_methSH {E : L2.St → XK} {pl : Sem Bool} (he : PE X o ta) (c : Cls X.K C) (F : HasM X.prog X.w X.K X.mg X.base C m CX k ps sp) (hr : Room j X.A) (hx : ∀ σ, PassesAt CX X σ (E σ)) (ha : PA X (e :: es) t) (hk : k ≤ j := by decide)
    (hst : starEach (e :: es) X.env = (false, eval e X.env) :: starEach es X.env := by rfl) (hpl : (backTo pos (starEach es X.env)).any (·.1) = false := by rfl)
    (ht : eval (.Call (.Attribute o m apos) (e :: es) [] pos) X.env = (do
      let ov ← eval o X.env
      standAt apos.atName
      let (f, first) ← holding [ov] (getMethod ov m pl)
      callWith pos f first (backTo pos (starEach (e :: es) X.env)) (backToKw pos (keywordEach [] X.env))) := by rfl) :
    PE X (.Call (.Attribute o m apos) (e :: es) [] pos) (tMethS C m sp E ta t) := by
  obtain ⟨f, fd, hm, hb, F⟩ := F
  refine ⟨fun pins s σ H Q I h => ?_⟩
  refine PySem.W.methodCall_KW (pl := pl) (thn (he.run pins s σ H _ I h) fun u s1 ⟨x, H1, I1, rx, a, dx, fs, ex, ea, l, q⟩ => ?_) ht
  subst ex
  obtain rfl : u = Value.ref a := rx
  refine getmeth_ok I1 ea c hm l ?_
  refine PySem.W.callWith_K (first := [.ref a]) (h₀ := X.base) I.ok.mod.kin hm.kp (thn (ha.run pos pins s1 σ H1 _ I1 q) fun us s2 ⟨vs, H2, I2, r, q2⟩ => ⟨I2.kIn, ?_⟩) hst hpl
  exact run_fnS (us := .ref a :: us) (vs := .ref a :: vs) F (hr.mono hk) hb (hx σ) I2 (.cons rfl r) q2
end
/-- a def that lets nothing out keeps its promise where something may come out -/
theorem fnOk_toX {P : Program} {w : World} {K : PySem.W.Frag} {mg : Str → Option Value} {base : Heap} {CX : CXT} {k : Nat} {f : Addr} {fd : FuncData} {ps : List Str} {sp : Sp} (F : FnOk P w K mg base CX0 k f fd ps sp) : FnOk P w K mg base CX k f fd ps sp := by
  refine ⟨F.len, fun A outer s H args us vs Q E hr e0 hb r h => codeAny_mono (F.run A outer s H args us vs Q E hr e0 hb r h) fun r' s' q => ?_⟩
  cases r' with
  | error e => exact q.elim
  | ok fl => cases fl <;> exact q
theorem Has.holds {P : Program} {w : World} {K : PySem.W.Frag} {mg : Str → Option Value} {base : Heap} {x : Str} {CX : CXT} {k j : Nat} {ps : List Str} {sp : Sp} {a : Addr} (h : Has P w K mg base x CX k ps sp) (e : mg x = some (.ref a)) (hk : k ≤ j := by decide) : HoldsF P w K mg base a CX j sp := by
  obtain ⟨f, fd, h1, h2, h3, h4⟩ := h
  rw [e] at h1
  cases h1
  exact ⟨fd, ps, h2, h3, h4.mono hk⟩
theorem Has.holds0 {P : Program} {w : World} {K : PySem.W.Frag} {mg : Str → Option Value} {base : Heap} {x : Str} {CX : CXT} {k j : Nat} {ps : List Str} {sp : Sp} {a : Addr} (h : Has P w K mg base x CX0 k ps sp) (e : mg x = some (.ref a)) (hk : k ≤ j := by decide) : HoldsF P w K mg base a CX j sp := by
  obtain ⟨f, fd, h1, h2, h3, h4⟩ := h
  rw [e] at h1
  cases h1
  exact ⟨fd, ps, h2, h3, (fnOk_toX h4).mono hk⟩
/-! ### the desk in the heap -/
def dkF (lp : Addr) : List (Str × V) := [("planners", .ref lp)]
theorem dkF_pl (lp : Addr) : (dkF lp).lookup ("planners" : Str) = some (.ref lp) := lk_here
theorem dkF_put (a b : Addr) : putF "planners" (.ref b) (dkF a) = dkF b := put_here
theorem dkF_create (lp : Addr) : (dkF lp).lookup ("create" : Str) = none := (lk_past (by decide +kernel)).trans rfl
theorem dkF_perf (lp : Addr) : (dkF lp).lookup ("performed" : Str) = none := (lk_past (by decide +kernel)).trans rfl
theorem dkF_answer (lp : Addr) : (dkF lp).lookup ("answer" : Str) = none := (lk_past (by decide +kernel)).trans rfl
def DeskAt (ad : Ad) (H : Hp) (d : Addr) (fp : List Addr) : Km560.State → Prop
  | none => ∃ dx lp, fp = [d, lp] ∧ H d = some (.ins ad.D dx (dkF lp)) ∧ H lp = some (.lst [])
  | some f => ∃ dx lp pl ls lc, fp = [d, lp, pl, ls, lc] ∧ H d = some (.ins ad.D dx (dkF lp)) ∧ H lp = some (.lst [.ref pl]) ∧ PlAt ad H pl ls lc f ∧ Inv f ∧ lp ≠ ls ∧ lp ≠ lc ∧ d ≠ pl
theorem DeskAt.same {ad : Ad} {H H' : Hp} {d : Addr} {fp : List Addr} {S : Km560.State} (h : DeskAt ad H d fp S) (s : Same H H') : DeskAt ad H' d fp S := by
  cases S with
  | none =>
    obtain ⟨dx, lp, e, h1, h2⟩ := h
    exact ⟨dx, lp, e, s _ _ h1, s _ _ h2⟩
  | some f =>
    obtain ⟨dx, lp, pl, ls, lc, e, h1, h2, h3, h4, h5⟩ := h
    exact ⟨dx, lp, pl, ls, lc, e, s _ _ h1, s _ _ h2, h3.same s, h4, h5⟩
/-- its own part, whatever the state is -/
theorem DeskAt.own {ad : Ad} {H : Hp} {d : Addr} {fp : List Addr} {S : Km560.State} (h : DeskAt ad H d fp S) : ∃ dx lp, H d = some (.ins ad.D dx (dkF lp)) ∧ d ∈ fp := by
  cases S with
  | none =>
    obtain ⟨dx, lp, e, h1, h2⟩ := h
    exact ⟨dx, lp, h1, by rw [e]; exact List.mem_cons_self⟩
  | some f =>
    obtain ⟨dx, lp, pl, ls, lc, e, h1, h2, h3, h4, h5⟩ := h
    exact ⟨dx, lp, h1, by rw [e]; exact List.mem_cons_self⟩
/-- the desk has moved on -/
structure Went (ad : Ad) (H H' : Hp) (d : Addr) (fp fp' : List Addr) (S' : Km560.State) : Prop where
  at_ : DeskAt ad H' d fp' S'
  keep : ∀ b o, H b = some o → b ∉ fp → H' b = some o
  new : ∀ b ∈ fp', b ∈ fp ∨ H b = none
structure DeskEnd (ad : Ad) (H : Hp) (d : Addr) (fp : List Addr) (S : Km560.State) (c : Km560.Call) (Q : VK) (E : XK) : Prop where
  bad : ∀ code : Int, Km560.step S c = (S, ⟨code, []⟩) → Refuses ad H E code
  good : ∀ (S' : Km560.State) (r : Km560.Result) (p : Addr) (H' : Hp) (fp' : List Addr), Km560.step S c = (S', r) → H p = none → H' p = some (.lst ((r.num :: r.nums).map V.int)) → Went ad H H' d fp fp' S' → Q (.ref p) H'
def sp_Desk_init (K : PySem.W.Frag) (ad : Ad) : Sp := fun vs H Q _ => ∃ (p dx : Addr), vs = [.ref p] ∧ H p = some (.ins ad.D dx []) ∧
  ∀ H' fp, DeskAt ad H' p fp none → (∀ b ∈ fp, b = p ∨ H b = none) → (∀ b o, H b = some o → b ≠ p → H' b = some o) → Q .non H'
def sp_Desk_create (K : PySem.W.Frag) (ad : Ad) : Sp := fun vs H Q E => ∃ (d : Addr) (fp : List Addr) (S : Km560.State) (a b : Nat), vs = [.ref d, iv a, iv b] ∧ DeskAt ad H d fp S ∧ DeskEnd ad H d fp S (.create a b) Q E
def sp_Desk_performed (K : PySem.W.Frag) (ad : Ad) : Sp := fun vs H Q E => ∃ (d q : Addr) (fp : List Addr) (S : Km560.State) (n : Nat) (xs : List Nat) (c : Km560.Call), vs = [.ref d, iv n, .ref q] ∧ DeskAt ad H d fp S ∧ SqL K H q (ivs xs) ∧ IsOp n xs c ∧ DeskEnd ad H d fp S c Q E
def sp_Desk_answer (K : PySem.W.Frag) (ad : Ad) : Sp := fun vs H Q _ => ∃ (d q : Addr) (fp : List Addr) (S : Km560.State) (n : Nat) (xs : List Nat) (c : Km560.Call), vs = [.ref d, iv n, .ref q] ∧ DeskAt ad H d fp S ∧ SqL K H q (ivs xs) ∧ IsCall n xs c ∧
  ∀ (S' : Km560.State) (r : Km560.Result) (p : Addr) (H' : Hp) (fp' : List Addr), Km560.step S c = (S', r) → H p = none → H' p = some (.lst ((r.num :: r.nums).map V.int)) → Went ad H H' d fp fp' S' → Q (.ref p) H'
/-- the specification's list of calls, answered -/
def sp_answers (K : PySem.W.Frag) (ad : Ad) : Sp := fun vs H Q _ => ∃ (a : Addr) (ns : List Int), vs = [.ref a] ∧ SqL K H a (ns.map V.int) ∧ (∀ x ∈ ns, 0 ≤ x) ∧ ns.length ≤ 200 ∧ PyKm560.answers_asked ns = true ∧
  ∀ (H' : Hp) (p : Addr), H' p = some (.lst ((PyKm560.answers ns).map V.int)) → Q (.ref p) H'
/-- from an operation's end to the desk's -/
theorem OpEnd.of {ad : Ad} {H : Hp} {d dx lp pl ls lc : Addr} {f : Fleet} {c : Km560.Call} {Q : VK} {E : XK} (k : DeskEnd ad H d [d, lp, pl, ls, lc] (some f) c Q E) (h1 : H d = some (.ins ad.D dx (dkF lp))) (h2 : H lp = some (.lst [.ref pl])) (hP : PlAt ad H pl ls lc f)
    (n1 : lp ≠ ls) (n2 : lp ≠ lc) (n3 : d ≠ pl) : OpEnd ad H pl ls lc f c Q E := by
  refine ⟨k.bad, fun f' r p H' ls' lc' e hp h M => k.good (some f') r p H' [d, lp, pl, ls', lc'] e hp h ⟨⟨dx, lp, pl, ls', lc', rfl, ?_, ?_, M.at_, M.inv, ?_, ?_, n3⟩, fun b o q hb => ?_, fun b hb => ?_⟩⟩
  · obtain ⟨as, hS, _⟩ := hP.ships
    exact M.kp.keep _ _ h1 n3 (ne_ins_lst h1 hS) (ne_ins_lst h1 hP.conv)
  · obtain ⟨d2, hI⟩ := hP.ins
    exact M.kp.keep _ _ h2 (ne_ins_lst hI h2).symm n1 n2
  · rcases M.ls_ with q | q
    · rw [q]
      exact n1
    · exact ne_of_none h2 q
  · rcases M.lc_ with q | q
    · rw [q]
      exact n2
    · exact ne_of_none h2 q
  · refine M.kp.keep b o q ?_ ?_ ?_ <;> (rintro rfl; exact hb (by simp))
  · simp only [List.mem_cons, List.not_mem_nil, or_false] at hb ⊢
    rcases hb with rfl | rfl | rfl | rfl | rfl
    · exact .inl (.inl rfl)
    · exact .inl (.inr (.inl rfl))
    · exact .inl (.inr (.inr (.inl rfl)))
    · rcases M.ls_ with q | q
      · exact .inl (.inr (.inr (.inr (.inl q))))
      · exact .inr q
    · rcases M.lc_ with q | q
      · exact .inl (.inr (.inr (.inr (.inr q))))
      · exact .inr q
theorem val0 {ad : Ad} {n : Nat} {c : Km560.Call} (h : c0 n = some c) : valueAt [(4, .ref (ad.op 4)), (8, .ref (ad.op 8)), (9, .ref (ad.op 9)), (10, .ref (ad.op 10)), (11, .ref (ad.op 11)), (12, .ref (ad.op 12)), (16, .ref (ad.op 16)), (17, .ref (ad.op 17)), (18, .ref (ad.op 18)), (19, .ref (ad.op 19)), (20, .ref (ad.op 20)), (25, .ref (ad.op 25))] (n : Int) = some (.ref (ad.op n)) := by
  unfold c0 at h
  split at h <;> first | rfl | cases h
theorem val1 {ad : Ad} {n : Nat} {cf : Nat → Km560.Call} (h : c1 n = some cf) :
    valueAt [(4, Value.ref (ad.op 4)), (8, .ref (ad.op 8)), (9, .ref (ad.op 9)), (10, .ref (ad.op 10)), (11, .ref (ad.op 11)), (12, .ref (ad.op 12)), (16, .ref (ad.op 16)), (17, .ref (ad.op 17)), (18, .ref (ad.op 18)), (19, .ref (ad.op 19)), (20, .ref (ad.op 20)), (25, .ref (ad.op 25))] (n : Int) = none ∧
    valueAt [(2, .ref (ad.op 2)), (5, .ref (ad.op 5)), (6, .ref (ad.op 6)), (7, .ref (ad.op 7)), (13, .ref (ad.op 13)), (14, .ref (ad.op 14)), (15, .ref (ad.op 15)), (21, .ref (ad.op 21)), (22, .ref (ad.op 22)), (23, .ref (ad.op 23))] (n : Int) = some (.ref (ad.op n)) := by
  unfold c1 at h
  split at h <;> first | exact ⟨rfl, rfl⟩ | cases h
section
variable {P : Program} {w : World} {K : PySem.W.Frag} {mg : Str → Option Value} {base : Heap} {ad : Ad}
theorem has_Desk_init {f : Addr} {fd : FuncData} (F : Fun K "__init__" "Desk.__init__" s_Desk_init f fd) (hg : mg "Desk" = some (.ref ad.D)) (hm : Mk K ad.D f) (T : Txt P w K mg ad)
    : HasI P w K mg base "Desk" ad.D CX0 1 ["self"] (sp_Desk_init K ad) := by
  refine ⟨hg, f, fd, hm, F.binds (ps := ["self"]) (fun _ _ _ _ _ _ us hl => match us, hl with | [_], _ => rfl), F.ok sc_Desk_init (fun vs H Q E => ?_) (fun cdv A outer s H vs Q E hr h => ⟨_, (pss_one (ps_fld (pv 0) (pe_lst pa_nil) rfl)), ?_⟩)⟩
  · first | (rintro ⟨_, rfl, _⟩; rfl) | (rintro ⟨_, _, rfl, _⟩; rfl) | (rintro ⟨_, _, _, rfl, _⟩; rfl) | (rintro ⟨_, _, _, _, rfl, _⟩; rfl) | (rintro ⟨_, _, _, _, _, rfl, _⟩; rfl) | (rintro ⟨_, _, _, _, _, _, rfl, _⟩; rfl) | (rintro ⟨_, _, _, _, _, _, _, rfl, _⟩; rfl) | (rintro ⟨_, _, _, _, _, _, _, _, rfl, _⟩; rfl) | (rintro ⟨_, _, _, _, _, _, _, _, _, rfl, _⟩; rfl)
  · obtain ⟨p, dx, rfl, hp, k⟩ := h
    refine ⟨Nat.zero_le _, fun l hl => ?_⟩
    have n1 : p ≠ l := ne_of_none hp hl
    refine ⟨_, rfl, p, ad.D, dx, [], rfl, (upd_ne n1).trans hp, T.clD, T.nD_plan, (by show 0 < 1000; decide), ?_⟩
    refine k _ [p, l] ⟨dx, l, rfl, upd_same, (upd_ne n1.symm).trans upd_same⟩ (fun b hb => ?_) fun b o e hb => ?_
    · simp only [List.mem_cons, List.not_mem_nil, or_false] at hb
      rcases hb with rfl | rfl
      · exact .inl rfl
      · exact .inr hl
    · rw [upd_ne hb, upd_ne (ne_of_none e hl)]
      exact e
theorem has_Desk_create {f : Addr} {fd : FuncData} (F : Fun K "create" "Desk.create" s_Desk_create f fd) (hm : Meth K ad.D "create" f) (T : Txt P w K mg ad)
    (h_Planner_init : HasI P w K mg base "Planner" ad.P CX0 1 ["self", "channel", "closing"] (sp_Planner_init K ad))
    (h_want_channel : Has P w K mg base "want_channel" (L2.CX P w) 3 ["channel"] (sp_want_channel K ad))
    (h_want_closing : Has P w K mg base "want_closing" (L2.CX P w) 3 ["closing"] (sp_want_closing K ad))
    : HasM P w K mg base ad.D "create" (L2.CX P w) 4 ["self", "channel", "closing"] (sp_Desk_create K ad) := by
  refine ⟨f, fd, hm, F.binds (ps := ["self", "channel", "closing"]) (fun _ _ _ _ _ _ us hl => match us, hl with | [_, _, _], _ => rfl), F.okX sc_Desk_create (fun vs H Q E => ?_) (fun cdv A outer s H vs Q E hr h => ⟨_, (pss_cons (ps_expr (pe_callH h_want_channel hr (passes_call (takes_of rfl rfl rfl rfl) (fun _ _ _ _ h => h)) (pa_cons (pv 1) pa_nil))) (pss_cons (ps_expr (pe_callH h_want_closing hr (passes_call (takes_of rfl rfl rfl rfl) (fun _ _ _ _ h => h)) (pa_cons (pv 2) pa_nil))) (pss_cons (ps_fld (pv 0) (pe_lst (pa_cons (pe_makeH h_Planner_init hr pass0 (pa_cons (pv 1) (pa_cons (pv 2) pa_nil))) pa_nil)) rfl) (pss_one (ps_ret (pe_lst (pa_cons pe_int pa_nil))))))), ?_⟩)⟩
  · first | (rintro ⟨_, rfl, _⟩; rfl) | (rintro ⟨_, _, rfl, _⟩; rfl) | (rintro ⟨_, _, _, rfl, _⟩; rfl) | (rintro ⟨_, _, _, _, rfl, _⟩; rfl) | (rintro ⟨_, _, _, _, _, rfl, _⟩; rfl) | (rintro ⟨_, _, _, _, _, _, rfl, _⟩; rfl) | (rintro ⟨_, _, _, _, _, _, _, rfl, _⟩; rfl) | (rintro ⟨_, _, _, _, _, _, _, _, rfl, _⟩; rfl) | (rintro ⟨_, _, _, _, _, _, _, _, _, rfl, _⟩; rfl)
  · obtain ⟨d, fp, S, a, b, rfl, hD, k⟩ := h
    obtain ⟨dx, lp, hd, hdf⟩ := hD.own
    refine ⟨_, rfl, a, rfl, fun h1 => ?_, fun h1 => k.bad (-22) (if_pos (by omega))⟩
    refine ⟨_, rfl, b, rfl, fun h2 => ?_, fun h2 => k.bad (-22) (if_pos (by omega))⟩
    refine ⟨_, rfl, _, rfl, fun x d2 hx hd2 hne2 => ⟨x, d2, a, b, rfl, upd_same, fun H1 ls lc hls hlc hP kk => ⟨rfl, (by show 1 ≤ sizeLine; decide), fun q hq => ?_⟩⟩⟩
    have s1 : Same H H1 := Same.made hx hd2 kk
    have hls0 : H ls = none := upd_free (upd_free hls)
    have hlc0 : H lc = none := upd_free (upd_free hlc)
    have hq0 : H q = none := s1.free hq
    have s2 : Same H1 (upd H1 q (.lst [.ref x])) := Same.new hq
    have dq : d ≠ q := ne_of_none hd hq0
    have dx' : d ≠ x := ne_of_none hd hx
    refine ⟨_, rfl, d, ad.D, dx, _, rfl, s2 _ _ (s1 _ _ hd), T.clD, T.nD_plan, (by show 1 < 1000; decide), ?_⟩
    rw [dkF_put]
    obtain ⟨⟨d3, hpi⟩, ⟨as, hS, hL⟩, hc, hne⟩ := hP.same s2
    have dls : d ≠ ls := ne_of_none hd hls0
    have dlc : d ≠ lc := ne_of_none hd hlc0
    have hP2 : PlAt ad (upd (upd H1 q (.lst [.ref x])) d (.ins ad.D dx (dkF q))) x ls lc ⟨a, b, [], []⟩ := by
      refine ⟨⟨d3, (upd_ne dx'.symm).trans hpi⟩, ⟨as, (upd_ne dls.symm).trans hS, ⟨hL.len, fun i a0 s q1 q2 => ?_⟩⟩, (upd_ne dlc.symm).trans hc, hne⟩
      cases q2
    have qls : q ≠ ls := fun z => by
      subst z
      obtain ⟨_, ⟨as2, hS2, _⟩, _, _⟩ := hP
      rw [hS2] at hq
      cases hq
    have qlc : q ≠ lc := fun z => by
      subst z
      obtain ⟨_, _, hc2, _⟩ := hP
      rw [hc2] at hq
      cases hq
    refine ⟨(by show 1 ≤ sizeLine; decide), fun p hp => ?_⟩
    have hp1 : H1 p = none := upd_free (upd_free hp)
    refine k.good (some ⟨a, b, [], []⟩) ⟨0, []⟩ p _ [d, q, x, ls, lc] (if_neg (by omega)) (s1.free hp1) upd_same
      ⟨DeskAt.same (S := some ⟨a, b, [], []⟩) ⟨dx, q, x, ls, lc, rfl, upd_same, (upd_ne dq.symm).trans upd_same, hP2, Inv.bare (Nat.zero_le _) rfl, qls, qlc, dx'⟩ (Same.new hp), fun b0 o e hb => ?_, fun b0 hb => ?_⟩
    · have nd : b0 ≠ d := fun z => hb (by rw [z]; exact hdf)
      rw [upd_ne (ne_of_none (s1 _ _ e) hp1), upd_ne nd, upd_ne (ne_of_none (s1 _ _ e) hq)]
      exact s1 _ _ e
    · simp only [List.mem_cons, List.not_mem_nil, or_false] at hb
      rcases hb with rfl | rfl | rfl | rfl | rfl
      · exact .inl hdf
      · exact .inr hq0
      · exact .inr hx
      · exact .inr hls0
      · exact .inr hlc0
theorem has_Desk_performed {f : Addr} {fd : FuncData} (F : Fun K "performed" "Desk.performed" s_Desk_performed f fd) (hm : Meth K ad.D "performed" f) (T : Txt P w K mg ad)
    (h_want : Has P w K mg base "want" (L2.CX P w) 2 ["truth", "code"] (sp_want K ad))
    (h_add_ship : Has P w K mg base "add_ship" (L2.CX P w) 3 ["planner", "beam", "clearance", "worth"] (sp_add_ship K ad))
    (h_update_ship : Has P w K mg base "update_ship" (L2.CX P w) 4 ["planner", "number", "beam", "clearance", "worth"] (sp_update_ship K ad))
    (h_compare_pair : Has P w K mg base "compare_pair" (L2.CX P w) 5 ["planner", "first", "second"] (sp_compare_pair K ad))
    (hop0 : ∀ n c, c0 n = some c → HoldsF P w K mg base (ad.op n) (L2.CX P w) 7 (sp0 ad c)) (hop1 : ∀ n cf, c1 n = some cf → HoldsF P w K mg base (ad.op n) (L2.CX P w) 7 (sp1 ad cf))
    : HasM P w K mg base ad.D "performed" (L2.CX P w) 8 ["self", "number", "parameters"] (sp_Desk_performed K ad) := by
  refine ⟨f, fd, hm, F.binds (ps := ["self", "number", "parameters"]) (fun _ _ _ _ _ _ us hl => match us, hl with | [_, _, _], _ => rfl), F.okX sc_Desk_performed (fun vs H Q E => ?_) (fun cdv A outer s H vs Q E hr h => ⟨_, (pss_cons (ps_expr (pe_callH h_want hr (passes_call (takes_of rfl rfl rfl rfl) (fun _ _ _ _ h => h)) (pa_cons (pe_cmpR (op_neNil hr.units0) (pe_fld (pv 0) rfl) (pe_lst pa_nil) (nomark _)) (pa_cons (pe_gi T.c_NO_INSTANCE) pa_nil)))) (pss_cons (ps_set (i := 3) sc_Desk_performed.nd rfl (Or.inl rfl) (pe_ix ix_list (pe_fld (pv 0) rfl) pe_int (fun _ _ => rfl))) (pss_cons (ps_if (pt_cmpR (op_inID T.d_NO_INTEGER) (pv 1) (pe_gr T.g_NO_INTEGER) (by with_unfolding_all rfl)) (pss_cons (ps_set (i := 4) sc_Desk_performed.nd rfl (Or.inl rfl) (pe_ix (ix_ID T.d_NO_INTEGER) (pe_gr T.g_NO_INTEGER) (pv 1) (fun _ _ => rfl))) (pss_one (ps_ret (pe_callX (k := 7) (i := 4) hr rfl (Or.inl rfl) (passes_call (takes_of rfl rfl rfl rfl) (fun _ _ _ _ h => h)) (pa_cons (pv 3) pa_nil))))) pss_nil) (pss_cons (ps_if (pt_cmpR (op_inID T.d_ONE_INTEGER) (pv 1) (pe_gr T.g_ONE_INTEGER) (by with_unfolding_all rfl)) (pss_cons (ps_set (i := 4) sc_Desk_performed.nd rfl (Or.inl rfl) (pe_ix (ix_ID T.d_ONE_INTEGER) (pe_gr T.g_ONE_INTEGER) (pv 1) (fun _ _ => rfl))) (pss_one (ps_ret (pe_callX (k := 7) (i := 4) hr rfl (Or.inl rfl) (passes_call (takes_of rfl rfl rfl rfl) (fun _ _ _ _ h => h)) (pa_cons (pv 3) (pa_cons (pe_ix ix_list (pv 2) pe_int (fun _ _ => rfl)) pa_nil)))))) pss_nil) (pss_cons (ps_if (pt_cmpR op_eq (pv 1) (pe_gi T.c_COMPARE_PAIR) (nomark _)) (pss_one (ps_ret (pe_callH h_compare_pair hr (passes_call (takes_of rfl rfl rfl rfl) (fun _ _ _ _ h => h)) (pa_cons (pv 3) (pa_cons (pe_ix ix_list (pv 2) pe_int (fun _ _ => rfl)) (pa_cons (pe_ix ix_list (pv 2) pe_int (fun _ _ => rfl)) pa_nil)))))) pss_nil) (pss_cons (ps_if (pt_cmpR op_eq (pv 1) (pe_gi T.c_ADD_SHIP) (nomark _)) (pss_one (ps_ret (pe_callH h_add_ship hr (passes_call (takes_of rfl rfl rfl rfl) (fun _ _ _ _ h => h)) (pa_cons (pv 3) (pa_cons (pe_ix ix_list (pv 2) pe_int (fun _ _ => rfl)) (pa_cons (pe_ix ix_list (pv 2) pe_int (fun _ _ => rfl)) (pa_cons (pe_ix ix_list (pv 2) pe_int (fun _ _ => rfl)) pa_nil))))))) pss_nil) (pss_one (ps_ret (pe_callH h_update_ship hr (passes_call (takes_of rfl rfl rfl rfl) (fun _ _ _ _ h => h)) (pa_cons (pv 3) (pa_cons (pe_ix ix_list (pv 2) pe_int (fun _ _ => rfl)) (pa_cons (pe_ix ix_list (pv 2) pe_int (fun _ _ => rfl)) (pa_cons (pe_ix ix_list (pv 2) pe_int (fun _ _ => rfl)) (pa_cons (pe_ix ix_list (pv 2) pe_int (fun _ _ => rfl)) pa_nil)))))))))))))), ?_⟩)⟩
  · first | (rintro ⟨_, rfl, _⟩; rfl) | (rintro ⟨_, _, rfl, _⟩; rfl) | (rintro ⟨_, _, _, rfl, _⟩; rfl) | (rintro ⟨_, _, _, _, rfl, _⟩; rfl) | (rintro ⟨_, _, _, _, _, rfl, _⟩; rfl) | (rintro ⟨_, _, _, _, _, _, rfl, _⟩; rfl) | (rintro ⟨_, _, _, _, _, _, _, rfl, _⟩; rfl) | (rintro ⟨_, _, _, _, _, _, _, _, rfl, _⟩; rfl) | (rintro ⟨_, _, _, _, _, _, _, _, _, rfl, _⟩; rfl)
  · obtain ⟨d, q, fp, S, n, xs, c, rfl, hD, hq, hop, k⟩ := h
    cases S with
    | none =>
      obtain ⟨dx, lp, rfl, h1, h2⟩ := hD
      refine ⟨_, rfl, d, ad.D, dx, _, _, rfl, h1, T.clD, T.nD_plan, dkF_pl _, Nat.zero_le _, fun z hz => ?_⟩
      have s1 : Same H (upd H z (.lst [])) := Same.new hz
      refine ⟨lp, z, _, rfl, rfl, SqL.of (s1 _ _ h2), SqL.of upd_same, _, -11, rfl, (fun e => by cases e), fun _ => (k.bad (-11) (step_none hop)).same s1⟩
    | some f =>
      obtain ⟨dx, lp, pl, ls, lc, rfl, h1, h2, hP, hI, n1, n2, n3⟩ := hD
      have ko : OpEnd ad H pl ls lc f c Q E := OpEnd.of k h1 h2 hP n1 n2 n3
      refine ⟨_, rfl, d, ad.D, dx, _, _, rfl, h1, T.clD, T.nD_plan, dkF_pl _, Nat.zero_le _, fun z hz => ?_⟩
      have s1 : Same H (upd H z (.lst [])) := Same.new hz
      have ko1 : OpEnd ad (upd H z (.lst [])) pl ls lc f c Q E := by
        refine ⟨fun code e => (ko.bad code e).same s1, fun f' r p H' ls' lc' e hp h M => ko.good f' r p H' ls' lc' e (s1.free hp) h ⟨M.at_, M.inv, ⟨fun b o e1 e2 e3 e4 => M.kp.keep b o (s1 _ _ e1) e2 e3 e4, fun b e1 => s1.free (M.kp.free b e1)⟩, ?_, ?_⟩⟩
        · rcases M.ls_ with q | q
          · exact .inl q
          · exact .inr (s1.free q)
        · rcases M.lc_ with q | q
          · exact .inl q
          · exact .inr (s1.free q)
      have hP1 := hP.same s1
      have hq1 : SqL K (upd H z (.lst [])) q (ivs xs) := s1.seq hq
      refine ⟨lp, z, _, rfl, rfl, SqL.of (s1 _ _ h2), SqL.of upd_same, _, -11, rfl, fun _ => ?_, (fun e => by cases e)⟩
      refine ⟨_, rfl, d, ad.D, dx, _, _, rfl, s1 _ _ h1, T.clD, T.nD_plan, dkF_pl _, lp, _, _, .ref pl, rfl, rfl, SqL.of (s1 _ _ h2), atI_nat (j := 0) rfl, ?_⟩
      cases hop with
      | zero h =>
        have hv := val0 (ad := ad) h
        refine ⟨_, rfl, _, rfl, rfl, _, rfl, ?_⟩
        rw [hv]
        refine if_true_of rfl ?_
        refine ⟨_, rfl, _, ad.op n, rfl, rfl, hv, ?_⟩
        exact ⟨ad.op n, _, rfl, hop0 n c h, _, rfl, pl, ls, lc, f, rfl, hP1, hI, ko1⟩
      | @one n cf i h =>
        obtain ⟨hv0, hv⟩ := val1 (ad := ad) h
        refine ⟨_, rfl, _, rfl, rfl, _, rfl, ?_⟩
        rw [hv0]
        refine if_false_of rfl ?_
        refine ⟨_, rfl, _, rfl, rfl, _, rfl, ?_⟩
        rw [hv]
        refine if_true_of rfl ?_
        refine ⟨_, rfl, _, ad.op n, rfl, rfl, hv, ?_⟩
        exact ⟨ad.op n, _, rfl, hop1 n cf h, _, rfl, _, rfl, q, _, _, iv i, rfl, rfl, hq1, atI_nat (j := 0) rfl, pl, ls, lc, f, i, rfl, hP1, hI, ko1⟩
      | pair a b =>
        refine ⟨_, rfl, _, rfl, rfl, _, rfl, if_false_of rfl ?_⟩
        refine ⟨_, rfl, _, rfl, rfl, _, rfl, if_false_of rfl ?_⟩
        refine ⟨_, rfl, rfl, _, rfl, if_true_of rfl ?_⟩
        exact ⟨_, rfl, _, rfl, q, _, _, iv a, rfl, rfl, hq1, atI_nat (j := 0) rfl, _, rfl, q, _, _, iv b, rfl, rfl, hq1, atI_nat (j := 1) rfl, pl, ls, lc, f, a, b, rfl, hP1, hI, ko1⟩
      | add a b c =>
        refine ⟨_, rfl, _, rfl, rfl, _, rfl, if_false_of rfl ?_⟩
        refine ⟨_, rfl, _, rfl, rfl, _, rfl, if_false_of rfl ?_⟩
        refine ⟨_, rfl, rfl, _, rfl, if_false_of rfl ?_⟩
        refine ⟨_, rfl, rfl, _, rfl, if_true_of rfl ?_⟩
        exact ⟨_, rfl, _, rfl, q, _, _, iv a, rfl, rfl, hq1, atI_nat (j := 0) rfl, _, rfl, q, _, _, iv b, rfl, rfl, hq1, atI_nat (j := 1) rfl, _, rfl, q, _, _, iv c, rfl, rfl, hq1, atI_nat (j := 2) rfl, pl, ls, lc, f, a, b, c, rfl, hP1, hI, ko1⟩
      | upd a b c e =>
        refine ⟨_, rfl, _, rfl, rfl, _, rfl, if_false_of rfl ?_⟩
        refine ⟨_, rfl, _, rfl, rfl, _, rfl, if_false_of rfl ?_⟩
        refine ⟨_, rfl, rfl, _, rfl, if_false_of rfl ?_⟩
        refine ⟨_, rfl, rfl, _, rfl, if_false_of rfl ?_⟩
        exact ⟨_, rfl, _, rfl, q, _, _, iv a, rfl, rfl, hq1, atI_nat (j := 0) rfl, _, rfl, q, _, _, iv b, rfl, rfl, hq1, atI_nat (j := 1) rfl, _, rfl, q, _, _, iv c, rfl, rfl, hq1, atI_nat (j := 2) rfl, _, rfl, q, _, _, iv e, rfl, rfl, hq1, atI_nat (j := 3) rfl, pl, ls, lc, f, a, b, c, e, rfl, hP1, hI, ko1⟩
end
end Ice
/-! # Part I: one call answered, all calls answered -/
namespace Ice
open PySem PySem.Spec PyProof.Rows L2
open IceM
open Km560 (Fleet)
abbrev s_Desk_answer : Stmt := inClass (top 94) 3
abbrev N_Desk_answer : List Str := ["self", "number", "parameters", "found", "e"]
theorem sc_Desk_answer : FnScope N_Desk_answer ["self", "number", "parameters"] (defScope s_Desk_answer) := ⟨rfl, rfl, rfl, by decide +kernel, rfl, by decide +kernel, by decide +kernel⟩
abbrev s_answers : Stmt := top 95
abbrev N_answers : List Str := ["calls", "desk", "found", "at", "number", "behind", "answer"]
theorem sc_answers : FnScope N_answers ["calls"] (defScope s_answers) := ⟨rfl, rfl, rfl, by decide +kernel, rfl, by decide +kernel, by decide +kernel⟩
theorem toNat_ivs {l : List Int} (h : ∀ x ∈ l, 0 ≤ x) : l.map V.int = ivs (l.map Int.toNat) := by
  show _ = List.map iv (List.map Int.toNat l)
  rw [List.map_map]
  refine List.map_congr_left fun x hx => ?_
  have := h x hx
  show V.int x = V.int ((x.toNat : Nat) : Int)
  rw [Int.toNat_of_nonneg this]
theorem toNat_ints {l : List Int} (h : ∀ x ∈ l, 0 ≤ x) : l = (l.map Int.toNat).map fun (n : Nat) => (n : Int) := by
  rw [List.map_map]
  refine (List.map_id l).symm.trans (List.map_congr_left fun x hx => ?_)
  exact (Int.toNat_of_nonneg (h x hx)).symm
theorem DeskAt.upd {ad : Ad} {H : Hp} {d D : Addr} {fp : List Addr} {S : Km560.State} {xs : List V} {o : HO} (h : DeskAt ad H d fp S) (hD : D ∉ fp) (hx : H D = some (.lst xs)) : DeskAt ad (upd H D o) d fp S := by
  cases S with
  | none =>
    obtain ⟨dx, lp, rfl, h1, h2⟩ := h
    simp only [List.mem_cons, List.not_mem_nil, or_false, not_or] at hD
    exact ⟨dx, lp, rfl, (upd_ne (Ne.symm hD.1)).trans h1, (upd_ne (Ne.symm hD.2)).trans h2⟩
  | some f =>
    obtain ⟨dx, lp, pl, ls, lc, rfl, h1, h2, ⟨⟨d2, g1⟩, ⟨as, g2, g3⟩, g4, g5⟩, h4, h5⟩ := h
    simp only [List.mem_cons, List.not_mem_nil, or_false, not_or] at hD
    obtain ⟨e1, e2, e3, e4, e5⟩ := hD
    exact ⟨dx, lp, pl, ls, lc, rfl, (upd_ne (Ne.symm e1)).trans h1, (upd_ne (Ne.symm e2)).trans h2, ⟨⟨d2, (upd_ne (Ne.symm e3)).trans g1⟩, ⟨as, (upd_ne (Ne.symm e4)).trans g2, g3.upd hx⟩, (upd_ne (Ne.symm e5)).trans g4, g5⟩, h4, h5⟩
theorem cut_mid (l : List Int) (i j : Nat) (h : i + j ≤ l.length) : cutV (l.map V.int) (some (i : Int)) (some ((i + j : Nat) : Int)) = ((l.drop i).take j).map V.int := by
  unfold cutV
  rw [HT.sIx_nat, HT.sIx_nat, List.length_map, Nat.min_eq_left h, Nat.min_eq_left (by omega), Nat.add_sub_cancel_left, ← List.map_drop, ← List.map_take]
section
variable {P : Program} {w : World} {K : PySem.W.Frag} {mg : Str → Option Value} {base : Heap} {ad : Ad}
theorem has_Desk_answer {f : Addr} {fd : FuncData} (F : Fun K "answer" "Desk.answer" s_Desk_answer f fd) (hm : Meth K ad.D "answer" f) (T : Txt P w K mg ad)
    (h_Desk_create : HasM P w K mg base ad.D "create" (L2.CX P w) 4 ["self", "channel", "closing"] (sp_Desk_create K ad))
    (h_Desk_performed : HasM P w K mg base ad.D "performed" (L2.CX P w) 8 ["self", "number", "parameters"] (sp_Desk_performed K ad))
    : HasM P w K mg base ad.D "answer" CX0 9 ["self", "number", "parameters"] (sp_Desk_answer K ad) := by
  refine ⟨f, fd, hm, F.binds (ps := ["self", "number", "parameters"]) (fun _ _ _ _ _ _ us hl => match us, hl with | [_, _, _], _ => rfl), F.ok sc_Desk_answer (fun vs H Q E => ?_) (fun cdv A outer s H vs Q E hr h => ⟨_, (pss_cons (ps_try_as (i := 4) (tb := (fun W => tIfS (tTest (tOp rEq (tVar 1) (tC (V.int 0)))) (tAsg (tMethS ad.D "create" (sp_Desk_create K ad) (WE W) (tVar 0) (tCons (tOp (rIxL K) (tVar 2) (tC (V.int 0))) (tCons (tOp (rIxL K) (tVar 2) (tC (V.int 1))) tNil))) (gName 3)) (tAsg (tMethS ad.D "performed" (sp_Desk_performed K ad) (WE W) (tVar 0) (tCons (tVar 1) (tCons (tVar 2) tNil))) (gName 3)))) (ts := (fun a cls d => tAsg (tLst (tCons (tCodeRef ad.R a cls d (tVar 4)) tNil)) (gName 3))) (Wout := fun _ _ _ _ => False) rfl rfl sc_Desk_answer.nd rfl rfl ⟨rfl, by decide, Or.inl T.ref.gC⟩ takes0 (fun W pn xe tk _ => (pss_one (ps_if (pt_cmpR op_eq (pv 1) (pe_gi T.c_CREATE) (nomark _)) (pss_one (ps_set (i := 3) sc_Desk_answer.nd rfl (Or.inl rfl) (by exact (pe_methSH (pv 0) T.clD h_Desk_create hr (fun σ => passAt tk σ) (by exact (pa_cons (pe_ix ix_list (pv 2) pe_int (fun _ _ => rfl)) (pa_cons (pe_ix ix_list (pv 2) pe_int (fun _ _ => rfl)) pa_nil))))))) (pss_one (ps_set (i := 3) sc_Desk_answer.nd rfl (Or.inl rfl) (by exact (pe_methSH (pv 0) T.clD h_Desk_performed hr (fun σ => passAt tk σ) (by exact (pa_cons (pv 1) (pa_cons (pv 2) pa_nil)))))))))) (fun a oe cls d pn hz hf => (pss_one (ps_set (i := 3) sc_Desk_answer.nd rfl (Or.inl rfl) (by exact (pe_lst (pa_cons (pe_codeRef T.ref hz hf (pv 4)) pa_nil))))))) (pss_one (ps_ret (pv 3)))), ?_⟩)⟩
  · first | (rintro ⟨_, rfl, _⟩; rfl) | (rintro ⟨_, _, rfl, _⟩; rfl) | (rintro ⟨_, _, _, rfl, _⟩; rfl) | (rintro ⟨_, _, _, _, rfl, _⟩; rfl) | (rintro ⟨_, _, _, _, _, rfl, _⟩; rfl) | (rintro ⟨_, _, _, _, _, _, rfl, _⟩; rfl) | (rintro ⟨_, _, _, _, _, _, _, rfl, _⟩; rfl) | (rintro ⟨_, _, _, _, _, _, _, _, rfl, _⟩; rfl) | (rintro ⟨_, _, _, _, _, _, _, _, _, rfl, _⟩; rfl)
  · obtain ⟨d, q, fp, S, n, xs, c, rfl, hD, hq, hc, k⟩ := h
    have bad : ∀ (code : Int) (dd : Addr) (H' : Hp), Km560.step S c = (S, ⟨code, []⟩) → H dd = none → Same H H' → H' dd = some (.xd [(("code" : Str), .int code)]) →
        wAs K (.ref ad.R) 4 (fun a cls d => tAsg (tLst (tCons (tCodeRef ad.R a cls d (tVar 4)) tNil)) (gName 3)) (fun _ _ _ _ => False) { nx := tRet (tVar 3) { nx := fun _ H' => Q .non H', rt := Q }, rt := Q } (.ref ad.R) (some dd) [some (.ref d), some (iv n), some (.ref q), none, none] H' := fun code dd H' e hd s hx => by
      refine ⟨true, T.ref.te, fun _ a0 _ => ?_, fun z => Bool.noConfusion z⟩
      refine ⟨_, rfl, rfl, rfl, dd, _, rfl, hx, (by show 1 ≤ sizeLine; decide), fun p hp => ?_⟩
      refine ⟨_, rfl, ?_⟩
      exact k S ⟨code, []⟩ p _ fp e (s.free hp) upd_same ⟨hD.same (Same.trans s (Same.new hp)), fun b o e2 _ => Same.trans s (Same.new hp) _ _ e2, fun b hb => .inl hb⟩
    obtain ⟨dx, lp, hd, hdf⟩ := hD.own
    cases hc with
    | create a b =>
      refine ⟨_, rfl, rfl, _, rfl, if_true_of rfl ?_⟩
      refine ⟨_, rfl, d, dx, _, rfl, hd, dkF_create _, _, rfl, q, _, _, iv a, rfl, rfl, hq, atI_nat (j := 0) rfl, _, rfl, q, _, _, iv b, rfl, rfl, hq, atI_nat (j := 1) rfl, d, fp, S, a, b, rfl, hD, ⟨fun code e dd H' h1 h2 h3 => bad code dd H' e h1 h2 h3, fun S' r p H' fp' e h1 h2 h3 => ⟨_, rfl, k S' r p H' fp' e h1 h2 h3⟩⟩⟩
    | op hn hop =>
      have e0 : decide (V.int (n : Int) = V.int 0) = false := decide_eq_false fun z => hn (by injection z with z; omega)
      refine ⟨_, rfl, rfl, _, rfl, if_false_of e0 ?_⟩
      exact ⟨_, rfl, d, dx, _, rfl, hd, dkF_perf _, _, rfl, _, rfl, d, q, fp, S, n, xs, c, rfl, hD, hq, hop, ⟨fun code e dd H' h1 h2 h3 => bad code dd H' e h1 h2 h3, fun S' r p H' fp' e h1 h2 h3 => ⟨_, rfl, k S' r p H' fp' e h1 h2 h3⟩⟩⟩
theorem has_answers {f : Addr} {fd : FuncData} (F : Fun K "answers" "answers" s_answers f fd) (hm : mg "answers" = some (.ref f)) (T : Txt P w K mg ad)
    (h_Desk_init : HasI P w K mg base "Desk" ad.D CX0 1 ["self"] (sp_Desk_init K ad))
    (h_Desk_answer : HasM P w K mg base ad.D "answer" CX0 9 ["self", "number", "parameters"] (sp_Desk_answer K ad))
    : FnOk P w K mg base CX0 10 f fd ["calls"] (sp_answers K ad) := by
  refine F.ok sc_answers (fun vs H Q E => ?_) (fun cdv A outer s H vs Q E hr h => ⟨_, (pss_cons (ps_set (i := 1) sc_answers.nd rfl (Or.inl rfl) (pe_makeH0 h_Desk_init hr pass0)) (pss_cons (ps_set (i := 2) sc_answers.nd rfl (Or.inl rfl) (pe_lst pa_nil)) (pss_cons (ps_set (i := 3) sc_answers.nd rfl (Or.inl rfl) pe_int) (pss_cons (ps_while PassesOwn.never (pt_cmpR op_lt (pv 3) (pe_callB call_len_seq (by rfl) T.b_len (by decide +kernel) (pa_cons (pv 0) pa_nil)) (nomark _)) (pss_cons (ps_set (i := 4) sc_answers.nd rfl (Or.inl rfl) (pe_ix ix_list (pv 0) (pv 3) (fun _ _ => rfl))) (pss_cons (ps_set (i := 5) sc_answers.nd rfl (Or.inl rfl) (pe_op op_add (pe_op op_add (pv 3) pe_int) (pe_ix ix_tup (pe_gr T.g_COUNTS) (pv 4) (fun _ _ => rfl)))) (pss_cons (ps_set (i := 6) sc_answers.nd rfl (Or.inl rfl) (pe_methH (pv 1) T.clD h_Desk_answer hr pass0 (pa_cons (pv 4) (pa_cons (pe_slice sl_list (pv 0) (po_some (pe_op op_add (pv 3) pe_int)) (po_some (pv 5))) pa_nil)))) (pss_cons (ps_expr (pe_bm PySem.F.plainAttrs_list PySem.F.slot_list_append PySem.F.type_list_append mt_append (pv 2) (pa_cons (pe_callB call_len_seq (by rfl) T.b_len (by decide +kernel) (pa_cons (pv 6) pa_nil)) pa_nil))) (pss_cons (ps_expr (pe_bm PySem.F.plainAttrs_list PySem.F.slot_list_extend PySem.F.type_list_extend mt_extend (pv 2) (pa_cons (pv 6) pa_nil))) (pss_one (ps_set (i := 3) sc_answers.nd rfl (Or.inl rfl) (pv 5))))))))) (pss_one (ps_ret (pv 2))))))), ?_⟩)
  · first | (rintro ⟨_, rfl, _⟩; rfl) | (rintro ⟨_, _, rfl, _⟩; rfl) | (rintro ⟨_, _, _, rfl, _⟩; rfl) | (rintro ⟨_, _, _, _, rfl, _⟩; rfl) | (rintro ⟨_, _, _, _, _, rfl, _⟩; rfl) | (rintro ⟨_, _, _, _, _, _, rfl, _⟩; rfl) | (rintro ⟨_, _, _, _, _, _, _, rfl, _⟩; rfl) | (rintro ⟨_, _, _, _, _, _, _, _, rfl, _⟩; rfl) | (rintro ⟨_, _, _, _, _, _, _, _, _, rfl, _⟩; rfl)
  · obtain ⟨a, ns, rfl, hS, hpos, hlen, hask, k⟩ := h
    obtain ⟨cs0, hcs0, hans, hshort⟩ := asked_of hask
    have hsz : sizeLine = 16777216 := sizeLine_eq
    refine fun x dx hx hdx hne => ⟨x, dx, rfl, upd_same, fun H1 fp1 hD1 hnew1 kk => ⟨rfl, Nat.zero_le _, fun D hD => ?_⟩⟩
    have s1 : Same H H1 := Same.made hx hdx kk
    have sD : Same H1 (upd H1 D (.lst [])) := Same.new hD
    have hDH : H D = none := s1.free hD
    have hnewH : ∀ b ∈ fp1, H b = none := fun b hb => by
      rcases hnew1 b hb with z | z
      · rw [z]
        exact hx
      · exact upd_free (upd_free z)
    have hDfp : D ∉ fp1 := fun z => by
      obtain ⟨d1, lp, rfl, g1, g2⟩ := id hD1
      simp only [List.mem_cons, List.not_mem_nil, or_false] at z
      rcases z with rfl | rfl
      · rw [g1] at hD
        cases hD
      · rw [g2] at hD
        cases hD
    refine ⟨fun m σ H' => ∃ (at_ : Nat) (S : Km560.State) (fp : List Addr) (out : List Int) (f : Nat) (cs : List (List (List Int))) (v1 v2 v3 : Option V), m = ns.length - at_ ∧ at_ ≤ ns.length ∧ Same H H' ∧ DeskAt ad H' x fp S ∧ (∀ b ∈ fp, H b = none) ∧ D ∉ fp ∧ H' D = some (.lst (out.map V.int)) ∧
      PyFlat.calls PyKm560.shape f (ns.drop at_) = some cs ∧ out ++ pl S cs = PyKm560.answers ns ∧ σ = [some (.ref a), some (.ref x), some (.ref D), some (iv at_), v1, v2, v3],
      ⟨_, 0, none, fp1, [], ns.length, cs0, none, none, none, rfl, Nat.zero_le _, Same.trans s1 sD, hD1.same sD, hnewH, hDfp, upd_same, hcs0, hans.symm, rfl⟩, ?_⟩
    rintro m σ H' ⟨at_, S, fp, out, f, cs, v1, v2, v3, rfl, hat, s2, hDk, hfp, hDn, hout, hcs, heq, rfl⟩
    refine ⟨_, rfl, _, rfl, a, _, rfl, .inl (s2.seq hS), _, _, rfl, rfl, _, rfl, ?_⟩
    rw [List.length_map]
    refine if_by (fun e => ?_) (fun e => ?_)
    · have hlt : at_ < ns.length := by
        have := of_decide_eq_true e
        omega
      have hdrop : ns.drop at_ = ns[at_] :: ns.drop (at_ + 1) := List.drop_eq_getElem_cons hlt
      have hget : (ns.map V.int)[at_]? = some (.int ns[at_]) := by
        rw [List.getElem?_map, List.getElem?_eq_getElem hlt]
        rfl
      generalize hr : ns.drop (at_ + 1) = r at hdrop
      generalize ns[at_] = z at hdrop hget
      rw [hdrop] at hcs
      obtain ⟨hz, cnt, f', cs', hcnt, hcl, rfl, hcs'⟩ := calls_of hcs
      obtain ⟨n, rfl⟩ : ∃ n : Nat, z = (n : Int) := ⟨z.toNat, (Int.toNat_of_nonneg hz).symm⟩
      rw [Int.toNat_natCast] at hcnt
      have hrl : r.length = ns.length - (at_ + 1) := by rw [← hr, List.length_drop]
      have hrpos : ∀ y ∈ r.take cnt, 0 ≤ y := fun y hy => hpos y (by
        have := List.mem_of_mem_take hy
        rw [← hr] at this
        exact List.mem_of_mem_drop this)
      have hcut : cutV (ns.map V.int) (some ((at_ + 1 : Nat) : Int)) (some ((at_ + 1 + cnt : Nat) : Int)) = ivs ((r.take cnt).map Int.toNat) := by
        rw [cut_mid ns (at_ + 1) cnt (by omega), hr, toNat_ivs hrpos]
      have hints := toNat_ints hrpos
      generalize (r.take cnt).map Int.toNat = xs at hcut hints
      have hxl : xs.length = cnt := by
        have := congrArg List.length hints
        rw [List.length_map, List.length_take] at this
        omega
      rw [hints] at heq
      obtain ⟨c, hc, hparse⟩ := parse_of hcnt hxl
      rw [pl_cons (k := 0) S cs' hparse] at heq
      obtain ⟨dx2, lp2, hdk, _⟩ := hDk.own
      refine ⟨_, fun σ' H' h => h, ?_⟩
      refine ⟨_, rfl, _, rfl, a, _, _, iv n, rfl, rfl, s2.seq hS, atI_nat hget, ?_⟩
      refine ⟨_, rfl, _, _, rfl, rfl, _, rfl, ad.cnt, _, _, iv cnt, rfl, rfl, T.t_COUNTS _, atI_nat ?_, _, _, rfl, rfl, ?_⟩
      · rw [List.getElem?_map, show counts[n]? = some cnt from hcnt]
        rfl
      show gName 5 (V.int ((at_ : Int) + 1 + (cnt : Int))) _ _ _
      rw [show (at_ : Int) + 1 + (cnt : Int) = ((at_ + 1 + cnt : Nat) : Int) by omega]
      refine ⟨_, rfl, x, dx2, _, rfl, hdk, dkF_answer _, _, rfl, _, rfl, _, rfl, _, _, rfl, rfl, _, rfl, _, rfl, _, rfl, a, _, rfl, s2.seq hS, fun q hq => ?_⟩
      rw [show (at_ : Int) + 1 = ((at_ + 1 : Nat) : Int) by omega, hcut]
      have s3 : Same H' (upd H' q (.lst (ivs xs))) := Same.new hq
      refine ⟨x, q, fp, S, n, xs, c, rfl, hDk.same s3, SqL.of upd_same, hc, fun S' rr p H3 fp' hst hp3 h3 W => ?_⟩
      rw [hst] at heq
      dsimp only at heq
      have hD3 : H3 D = some (.lst (out.map V.int)) := W.keep _ _ (s3 _ _ hout) hDn
      have s23 : Same H H3 := fun b o e1 => W.keep b o (s3 _ _ (s2 _ _ e1)) fun hb => by
        rw [hfp b hb] at e1
        cases e1
      have pD : p ≠ D := (ne_of_none (s3 _ _ hout) hp3).symm
      have hDn' : D ∉ fp' := fun hb => by
        rcases W.new D hb with z | z
        · exact hDn z
        · rw [s3 _ _ hout] at z
          cases z
      have hfp' : ∀ b ∈ fp', H b = none := fun b hb => by
        rcases W.new b hb with z | z
        · exact hfp b z
        · exact s2.free (s3.free z)
      have hlen2 : out.length + ((rr.num :: rr.nums).length + 1) ≤ 10000000 := by
        have := congrArg List.length heq
        simp only [List.length_append, List.length_cons] at this ⊢
        omega
      refine ⟨_, rfl, .inl ⟨rfl, _, SqL.of hD3⟩, _, rfl, p, _, rfl, .inl (SqL.of h3), D, _, _, rfl, rfl, hD3, ?_, ?_⟩
      · rw [List.length_map]
        omega
      refine ⟨_, rfl, .inl ⟨rfl, _, SqL.of upd_same⟩, _, rfl, D, p, _, _, rfl, rfl, upd_same, (upd_ne pD).trans h3, ?_, ?_⟩
      · rw [List.length_append, List.length_map, List.length_map, List.length_singleton]
        omega
      refine ⟨_, rfl, ?_⟩
      refine ⟨ns.length - (at_ + 1 + cnt), by omega, at_ + 1 + cnt, S', fp', out ++ ((rr.num :: rr.nums).length : Int) :: (rr.num :: rr.nums), f', cs', _, _, _, rfl, by omega, Same.put (Same.put s23 hDH) hDH, (W.at_.upd hDn' hD3).upd hDn' upd_same, hfp', hDn', ?_, ?_, ?_, rfl⟩
      · rw [upd_same, List.length_map, List.map_append, List.append_assoc]
        rfl
      · rw [← List.drop_drop, hr]
        exact hcs'
      · rw [← heq, List.append_assoc]
    · have e2 : at_ = ns.length := by
        have := of_decide_eq_false e
        omega
      subst e2
      rw [List.drop_length] at hcs
      have := calls_nil hcs
      subst this
      rw [pl_nil, List.append_nil] at heq
      rw [heq] at hout
      exact ⟨_, rfl, k H' D hout⟩
end
end Ice
/-! # Part J: what the top has written, and the end -/
namespace Ice
open PySem PySem.Spec PyProof.Rows L2
open PySem.W (Codec)
open IceM
theorem exm_self {K : PySem.W.Frag} {S : Addr} (h1 : PySem.W.subIn K (.ref S) (.type "BaseException") = some true) (h2 : PySem.W.isClsIn K S = true) (h3 : PySem.W.typeIn K (.ref S) = some (.type "type")) (h4 : PySem.W.subIn K (.ref S) (.ref S) = some true) :
    PySem.W.exmOne K (.ref S) (.ref S) = some true := by
  have e1 : (PySem.W.subIn K (.ref S) (.type "BaseException") == some true) = true := by rw [h1] <;> rfl
  have e2 : ((PySem.W.clsIn K S).isSome && PySem.W.typeIn K (.ref S) == some (.type "type")) = true := by
    have h2' : (PySem.W.clsIn K S).isSome = true := h2
    rw [h2', h3] <;> rfl
  show (if (PySem.W.subIn K (.ref S) (.type "BaseException") == some true) = true then (if ((PySem.W.clsIn K S).isSome && PySem.W.typeIn K (.ref S) == some (.type "type")) = true then PySem.W.subIn K (.ref S) (.ref S) else none) else none) = some true
  rw [if_pos e1, if_pos e2]
  exact h4
theorem cst {K : PySem.W.Frag} {x : Str} {i : Int} {t : Tok} (e : PySem.W.nsIn K mainGlobals x = some (some (.int i t))) : ∃ t, PySem.W.nsIn K mainGlobals x = some (some (.int i t)) := ⟨t, e⟩
/-- a def of the module, as the top has left it -/
structure FunG (K : PySem.W.Frag) (x : Str) (st : Stmt) (f : Addr) : Prop where
  ns : PySem.W.nsIn K mainGlobals x = some (some (.ref f))
  fn : ∃ fd, Fun K x x st f fd
theorem funG {K : PySem.W.Frag} {x : Str} {st : Stmt} {f : Addr} {oc : Value} {od an : Option Addr} {osl : Array (Option Value)} {kV doc pm cdv ct : Value} (a : PySem.W.nsIn K mainGlobals x = some (some (.ref f)))
    (l : K.lookup f = some ⟨oc, od, .func (PySem.W.fnOf x x (defArgs st) (defBody st) (defScope st) .none kV doc pm an cdv ct), osl⟩) (c : PySem.W.codeIn K cdv x = true) (k : PySem.W.keepIn K (.ref f) = true) : FunG K x st f := ⟨a, _, fun_mk (st := st) l c k⟩
/-- a method -/
structure FunM (K : PySem.W.Frag) (C : Addr) (x qual : Str) (st : Stmt) (f : Addr) : Prop where
  at_ : Meth K C x f
  fn : ∃ fd, Fun K x qual st f fd
theorem funM {K : PySem.W.Frag} {C : Addr} {x qual : Str} {st : Stmt} {f : Addr} {oc : Value} {od an : Option Addr} {osl : Array (Option Value)} {kV doc pm cdv ct : Value} (a : PySem.W.findIn K (.ref C) x = some (some (.ref f))) (i : PySem.W.isFn K (.ref f) = true)
    (l : K.lookup f = some ⟨oc, od, .func (PySem.W.fnOf x qual (defArgs st) (defBody st) (defScope st) .none kV doc pm an cdv ct), osl⟩) (c : PySem.W.codeIn K cdv qual = true) (k : PySem.W.keepIn K (.ref f) = true) : FunM K C x qual st f := ⟨⟨a, i, k⟩, _, fun_mk (st := st) l c k⟩
/-- a class that is made -/
structure ClsG (K : PySem.W.Frag) (x : Str) (C : Addr) : Prop where
  ns : PySem.W.nsIn K mainGlobals x = some (some (.ref C))
  cl : Cls K C
  makes : PySem.W.makesIn K C = true
  kp : PySem.W.keepIn K (.ref C) = true
theorem clsG {K : PySem.W.Frag} {x : Str} {C : Addr} (a : PySem.W.nsIn K mainGlobals x = some (some (.ref C))) (pg : PySem.W.plainGet K C Str.empty = true) (hd : PySem.W.hasDictIn K C = true) (po : PySem.W.plainOver K C = true)
    (sa : PySem.W.findIn K (.ref C) "__setattr__" = some (some (.builtin "object.__setattr__"))) (mk : PySem.W.makesIn K C = true) (kp : PySem.W.keepIn K (.ref C) = true) : ClsG K x C := ⟨a, ⟨pg, hd, po, sa⟩, mk, kp⟩
/-- the keys of a written dict are ints at their own hash -/
def keysB (es : Array DictEntry) : Bool := es.toList.all fun e => match e.key with
  | .int k _ => e.hash == hashInt k
  | _ => false
theorem keysB_of {P : Program} {w : World} {es : Array DictEntry} (h : keysB es = true) : KeysOf (intKind P w) es := by
  intro e he
  have h1 := List.all_eq_true.mp h e (by simpa using he)
  cases q : e.key with
  | int k t =>
    rw [q] at h1
    exact ⟨k, by show Value.isInt k (.int k t) = true; simp [Value.isInt], eq_of_beq h1⟩
  | _ => rw [q] at h1; cases h1
/-- its entries, by their keys and values -/
def pairsB : List DictEntry → List (Int × Addr) → Bool
  | [], [] => true
  | e :: es, p :: ps => (match e.key with | .int k _ => k == p.1 | _ => false) && (match e.val with | .ref a => a == p.2 | _ => false) && pairsB es ps
  | _, _ => false
theorem pairsB_of {P : Program} {w : World} : ∀ {es : List DictEntry} {ps : List (Int × Addr)}, pairsB es ps = true → Pairs (intKind P w) es (ps.map fun p => (p.1, Value.ref p.2))
  | [], [], _ => .nil
  | [], _ :: _, h => by cases h
  | _ :: _, [], h => by cases h
  | e :: es, p :: ps, h => by
    unfold pairsB at h
    rw [Bool.and_eq_true, Bool.and_eq_true] at h
    obtain ⟨⟨h1, h2⟩, h3⟩ := h
    refine .cons ?_ ?_ (pairsB_of h3)
    · cases q : e.key with
      | int k t =>
        rw [q] at h1
        have : k = p.1 := eq_of_beq h1
        subst this
        show Value.isInt p.1 (.int p.1 t) = true
        simp [Value.isInt]
      | _ => rw [q] at h1; cases h1
    · cases q : e.val with
      | ref a =>
        rw [q] at h2
        have : a = p.2 := eq_of_beq h2
        subst this
        rfl
      | _ => rw [q] at h2; cases h2
theorem idict {P : Program} {w : World} {K : PySem.W.Frag} {d : Addr} {es : Array DictEntry} {n : Nat} {ps : List (Int × Addr)} {kvs : List (Int × Value)} (l : K.lookup d = some ⟨.type "dict", none, .dict es n, #[]⟩) (a : keysB es = true) (b : pairsB es.toList ps = true)
    (low : (d == sysModules) = false) (e : ps.map (fun p => (p.1, Value.ref p.2)) = kvs) (nd : (kvs.map (·.1)).Nodup) : IDict P w K d kvs := ⟨⟨es, n, l, keysB_of a, by rw [← e]; exact pairsB_of b⟩, nd, low⟩
abbrev s_Refused_init : Stmt := inClass (top 9) 0

theorem all_mk {P : Program} {w : World} {K : PySem.W.Frag} {h : Heap} {mg : Str → Option Value} {fa : Addr} {CS CP CD CR rI cnt dN dO f_answers : Addr}
    {f_want f_set_count f_is_member f_members f_without f_size_of f_worth_of f_least_before f_need_with_first f_need_of f_needs f_feasible_sets f_first_greatest f_largest_set f_most_valuable_set f_Ship_init f_Ship_described f_is_ship f_width_before f_can_follow f_width_after f_is_feasible_order f_widths_along f_next_in_order f_first_order f_widest_of f_widest f_Planner_init f_Planner_start f_Planner_widths f_Planner_last_width f_Planner_is_next f_is_channel f_want_channel f_want_closing f_want_ship f_want_set f_add_ship f_remove_ship f_update_ship f_set_channel_width f_set_closing f_append_to_convoy f_remove_last_from_convoy f_clear_convoy f_form_largest_convoy f_form_most_valuable_convoy f_counted f_list_ships f_get_convoy f_convoy_widths f_next_candidates f_need_of_set f_is_feasible f_want_feasible f_find_order f_max_final_width f_largest_feasible_set f_most_valuable_feasible_set f_min_channel_width f_largest_size f_largest_size_with_channel_width f_largest_size_with_closing f_largest_size_without_ship f_leads f_compare_pair f_summary f_Desk_init f_Desk_create f_Desk_performed f_Desk_answer : Addr}
    {nm q : Str} {N : Addr} {bs : List Value} {sn : List Str} {sub : List Value} {ab : Bool} {col : Option Bool} {dd : Option Addr} {m0 m1 m2 m3 m5 : Option Value}
    {od1 an1 od3 an3 : Option Addr} {sl1 sl3 : Array (Option Value)} {oc1 dc1 pm1 cd1 ct1 oc3 kV3 dc3 pm3 cd3 ct3 : Value} {odc : Option Addr} {its : Array Value} {nc : Nat} {slc : Array (Option Value)} {esN esO : Array DictEntry} {nN nO : Nat}
    (X : K.In h) (G : h.Ns mainGlobals mg) (hfa : mg "answers" = some (.ref fa))
    (S : ClsG K "Ship" CS) (PL : ClsG K "Planner" CP) (DK : ClsG K "Desk" CD)
    (nS_beam : PySem.W.findIn K (.ref CS) "beam" = some none)
    (nS_clear : PySem.W.findIn K (.ref CS) "clearance" = some none)
    (nS_worth : PySem.W.findIn K (.ref CS) "worth" = some none)
    (nP_chan : PySem.W.findIn K (.ref CP) "channel" = some none)
    (nP_clos : PySem.W.findIn K (.ref CP) "closing" = some none)
    (nP_ships : PySem.W.findIn K (.ref CP) "ships" = some none)
    (nP_conv : PySem.W.findIn K (.ref CP) "convoy" = some none)
    (nD_plan : PySem.W.findIn K (.ref CD) "planners" = some none)
    (aR : PySem.W.nsIn K mainGlobals "Refused" = some (some (.ref CR)))
    (xL : K.lookup CR = some (excClassObj nm q CR N bs [.type "ValueError", .type "Exception", .type "BaseException", .type "object"] true sn sub ab col dd m0 m1 m2 m3 m5 "ValueError.__new__"))
    (saR : PySem.W.findIn K (.ref CR) "__setattr__" = some (some (.builtin "object.__setattr__"))) (gaR : PySem.W.findIn K (.ref CR) "__getattribute__" = some (some (.builtin "BaseException.__getattribute__"))) (ggR : PySem.W.findIn K (.ref CR) "__getattr__" = some none) (nbR : PySem.W.findIn K (.ref CR) "code" = some none)
    (iR : PySem.W.findIn K (.ref CR) "__init__" = some (some (.ref rI))) (tI : PySem.W.typeIn K (.ref rI) = some (.type "function"))
    (lI : K.lookup rI = some ⟨oc1, od1, .func (PySem.W.fnOf "__init__" "Refused.__init__" (PySem.RefX.iA ⟨12, 17, 12, 21⟩ ⟨12, 23, 12, 27⟩) (PySem.RefX.iB ⟨13, 8, 13, 12⟩ ⟨13, 8, 13, 17⟩ ⟨13, 20, 13, 24⟩ ⟨13, 8, 13, 24⟩) PySem.RefX.iS .none .none dc1 pm1 an1 cd1 ct1), sl1⟩) (cI : PySem.W.codeIn K cd1 "Refused.__init__" = true)
    (kR : PySem.W.keepIn K (.ref CR) = true) (eR : PySem.W.subIn K (.ref CR) (.type "BaseException") = some true) (tR : PySem.W.typeIn K (.ref CR) = some (.type "type")) (hR : PySem.W.hasDictIn K CR = true) (icR : PySem.W.isClsIn K CR = true) (sR : PySem.W.subIn K (.ref CR) (.ref CR) = some true)
    (c_NO_INSTANCE : ∃ t, PySem.W.nsIn K mainGlobals "NO_INSTANCE" = some (some (.int (-11) t)))
    (c_NOT_THERE : ∃ t, PySem.W.nsIn K mainGlobals "NOT_THERE" = some (some (.int (-2) t)))
    (c_OUT_OF_RANGE : ∃ t, PySem.W.nsIn K mainGlobals "OUT_OF_RANGE" = some (some (.int (-22) t)))
    (c_TOO_MANY : ∃ t, PySem.W.nsIn K mainGlobals "TOO_MANY" = some (some (.int (-28) t)))
    (c_IN_CONVOY : ∃ t, PySem.W.nsIn K mainGlobals "IN_CONVOY" = some (some (.int (-17) t)))
    (c_CANNOT_FOLLOW : ∃ t, PySem.W.nsIn K mainGlobals "CANNOT_FOLLOW" = some (some (.int (-35) t)))
    (c_EMPTY : ∃ t, PySem.W.nsIn K mainGlobals "EMPTY" = some (some (.int (-6) t)))
    (c_NOT_FEASIBLE : ∃ t, PySem.W.nsIn K mainGlobals "NOT_FEASIBLE" = some (some (.int (-33) t)))
    (c_MOST_BEAM : ∃ t, PySem.W.nsIn K mainGlobals "MOST_BEAM" = some (some (.int 50 t)))
    (c_MOST_CLEARANCE : ∃ t, PySem.W.nsIn K mainGlobals "MOST_CLEARANCE" = some (some (.int 50 t)))
    (c_MOST_VALUE : ∃ t, PySem.W.nsIn K mainGlobals "MOST_VALUE" = some (some (.int 99 t)))
    (c_NO_WIDTH : ∃ t, PySem.W.nsIn K mainGlobals "NO_WIDTH" = some (some (.int (-1) t)))
    (c_LEAST_CHANNEL : ∃ t, PySem.W.nsIn K mainGlobals "LEAST_CHANNEL" = some (some (.int 1 t)))
    (c_MOST_CHANNEL : ∃ t, PySem.W.nsIn K mainGlobals "MOST_CHANNEL" = some (some (.int 99 t)))
    (c_MOST_CLOSING : ∃ t, PySem.W.nsIn K mainGlobals "MOST_CLOSING" = some (some (.int 20 t)))
    (c_MOST_SHIPS : ∃ t, PySem.W.nsIn K mainGlobals "MOST_SHIPS" = some (some (.int 7 t)))
    (c_CREATE : ∃ t, PySem.W.nsIn K mainGlobals "CREATE" = some (some (.int 0 t)))
    (c_ADD_SHIP : ∃ t, PySem.W.nsIn K mainGlobals "ADD_SHIP" = some (some (.int 1 t)))
    (c_COMPARE_PAIR : ∃ t, PySem.W.nsIn K mainGlobals "COMPARE_PAIR" = some (some (.int 24 t)))
    (b_range : PySem.W.nsIn K mainGlobals "range" = some none)
    (b_enumerate : PySem.W.nsIn K mainGlobals "enumerate" = some none)
    (b_len : PySem.W.nsIn K mainGlobals "len" = some none)
    (b_sum : PySem.W.nsIn K mainGlobals "sum" = some none)
    (b_max : PySem.W.nsIn K mainGlobals "max" = some none)
    (b_min : PySem.W.nsIn K mainGlobals "min" = some none)
    (b_int : PySem.W.nsIn K mainGlobals "int" = some none)
    (aC : PySem.W.nsIn K mainGlobals "COUNTS" = some (some (.ref cnt))) (lC : K.lookup cnt = some ⟨.type "tuple", odc, .seq its nc, slc⟩) (vC : Vals (ivs counts) its.toList)
    (aN : PySem.W.nsIn K mainGlobals "NO_INTEGER" = some (some (.ref dN))) (lN : K.lookup dN = some ⟨.type "dict", none, .dict esN nN, #[]⟩) (kN : keysB esN = true)
    (aO : PySem.W.nsIn K mainGlobals "ONE_INTEGER" = some (some (.ref dO))) (lO : K.lookup dO = some ⟨.type "dict", none, .dict esO nO, #[]⟩) (kO : keysB esO = true)
    (F_want : FunG K "want" s_want f_want)
    (F_set_count : FunG K "set_count" s_set_count f_set_count)
    (F_is_member : FunG K "is_member" s_is_member f_is_member)
    (F_members : FunG K "members" s_members f_members)
    (F_without : FunG K "without" s_without f_without)
    (F_size_of : FunG K "size_of" s_size_of f_size_of)
    (F_worth_of : FunG K "worth_of" s_worth_of f_worth_of)
    (F_least_before : FunG K "least_before" s_least_before f_least_before)
    (F_need_with_first : FunG K "need_with_first" s_need_with_first f_need_with_first)
    (F_need_of : FunG K "need_of" s_need_of f_need_of)
    (F_needs : FunG K "needs" s_needs f_needs)
    (F_feasible_sets : FunG K "feasible_sets" s_feasible_sets f_feasible_sets)
    (F_first_greatest : FunG K "first_greatest" s_first_greatest f_first_greatest)
    (F_largest_set : FunG K "largest_set" s_largest_set f_largest_set)
    (F_most_valuable_set : FunG K "most_valuable_set" s_most_valuable_set f_most_valuable_set)
    (F_is_ship : FunG K "is_ship" s_is_ship f_is_ship)
    (F_width_before : FunG K "width_before" s_width_before f_width_before)
    (F_can_follow : FunG K "can_follow" s_can_follow f_can_follow)
    (F_width_after : FunG K "width_after" s_width_after f_width_after)
    (F_is_feasible_order : FunG K "is_feasible_order" s_is_feasible_order f_is_feasible_order)
    (F_widths_along : FunG K "widths_along" s_widths_along f_widths_along)
    (F_next_in_order : FunG K "next_in_order" s_next_in_order f_next_in_order)
    (F_first_order : FunG K "first_order" s_first_order f_first_order)
    (F_widest_of : FunG K "widest_of" s_widest_of f_widest_of)
    (F_widest : FunG K "widest" s_widest f_widest)
    (F_is_channel : FunG K "is_channel" s_is_channel f_is_channel)
    (F_want_channel : FunG K "want_channel" s_want_channel f_want_channel)
    (F_want_closing : FunG K "want_closing" s_want_closing f_want_closing)
    (F_want_ship : FunG K "want_ship" s_want_ship f_want_ship)
    (F_want_set : FunG K "want_set" s_want_set f_want_set)
    (F_add_ship : FunG K "add_ship" s_add_ship f_add_ship)
    (F_remove_ship : FunG K "remove_ship" s_remove_ship f_remove_ship)
    (F_update_ship : FunG K "update_ship" s_update_ship f_update_ship)
    (F_set_channel_width : FunG K "set_channel_width" s_set_channel_width f_set_channel_width)
    (F_set_closing : FunG K "set_closing" s_set_closing f_set_closing)
    (F_append_to_convoy : FunG K "append_to_convoy" s_append_to_convoy f_append_to_convoy)
    (F_remove_last_from_convoy : FunG K "remove_last_from_convoy" s_remove_last_from_convoy f_remove_last_from_convoy)
    (F_clear_convoy : FunG K "clear_convoy" s_clear_convoy f_clear_convoy)
    (F_form_largest_convoy : FunG K "form_largest_convoy" s_form_largest_convoy f_form_largest_convoy)
    (F_form_most_valuable_convoy : FunG K "form_most_valuable_convoy" s_form_most_valuable_convoy f_form_most_valuable_convoy)
    (F_counted : FunG K "counted" s_counted f_counted)
    (F_list_ships : FunG K "list_ships" s_list_ships f_list_ships)
    (F_get_convoy : FunG K "get_convoy" s_get_convoy f_get_convoy)
    (F_convoy_widths : FunG K "convoy_widths" s_convoy_widths f_convoy_widths)
    (F_next_candidates : FunG K "next_candidates" s_next_candidates f_next_candidates)
    (F_need_of_set : FunG K "need_of_set" s_need_of_set f_need_of_set)
    (F_is_feasible : FunG K "is_feasible" s_is_feasible f_is_feasible)
    (F_want_feasible : FunG K "want_feasible" s_want_feasible f_want_feasible)
    (F_find_order : FunG K "find_order" s_find_order f_find_order)
    (F_max_final_width : FunG K "max_final_width" s_max_final_width f_max_final_width)
    (F_largest_feasible_set : FunG K "largest_feasible_set" s_largest_feasible_set f_largest_feasible_set)
    (F_most_valuable_feasible_set : FunG K "most_valuable_feasible_set" s_most_valuable_feasible_set f_most_valuable_feasible_set)
    (F_min_channel_width : FunG K "min_channel_width" s_min_channel_width f_min_channel_width)
    (F_largest_size : FunG K "largest_size" s_largest_size f_largest_size)
    (F_largest_size_with_channel_width : FunG K "largest_size_with_channel_width" s_largest_size_with_channel_width f_largest_size_with_channel_width)
    (F_largest_size_with_closing : FunG K "largest_size_with_closing" s_largest_size_with_closing f_largest_size_with_closing)
    (F_largest_size_without_ship : FunG K "largest_size_without_ship" s_largest_size_without_ship f_largest_size_without_ship)
    (F_leads : FunG K "leads" s_leads f_leads)
    (F_compare_pair : FunG K "compare_pair" s_compare_pair f_compare_pair)
    (F_summary : FunG K "summary" s_summary f_summary)
    (F_Ship_described : FunM K CS "described" "Ship.described" s_Ship_described f_Ship_described)
    (F_Planner_start : FunM K CP "start" "Planner.start" s_Planner_start f_Planner_start)
    (F_Planner_widths : FunM K CP "widths" "Planner.widths" s_Planner_widths f_Planner_widths)
    (F_Planner_last_width : FunM K CP "last_width" "Planner.last_width" s_Planner_last_width f_Planner_last_width)
    (F_Planner_is_next : FunM K CP "is_next" "Planner.is_next" s_Planner_is_next f_Planner_is_next)
    (F_Desk_create : FunM K CD "create" "Desk.create" s_Desk_create f_Desk_create)
    (F_Desk_performed : FunM K CD "performed" "Desk.performed" s_Desk_performed f_Desk_performed)
    (F_Desk_answer : FunM K CD "answer" "Desk.answer" s_Desk_answer f_Desk_answer)
    (F_Ship_init : FunM K CS "__init__" "Ship.__init__" s_Ship_init f_Ship_init)
    (F_Planner_init : FunM K CP "__init__" "Planner.__init__" s_Planner_init f_Planner_init)
    (F_Desk_init : FunM K CD "__init__" "Desk.__init__" s_Desk_init f_Desk_init)
    (pN : pairsB esN.toList [(4, f_list_ships), (8, f_remove_last_from_convoy), (9, f_clear_convoy), (10, f_get_convoy), (11, f_convoy_widths), (12, f_next_candidates), (16, f_largest_feasible_set), (17, f_most_valuable_feasible_set), (18, f_form_largest_convoy), (19, f_form_most_valuable_convoy), (20, f_min_channel_width), (25, f_summary)] = true) (wN : (dN == sysModules) = false) (pO : pairsB esO.toList [(2, f_remove_ship), (5, f_set_channel_width), (6, f_set_closing), (7, f_append_to_convoy), (13, f_is_feasible), (14, f_find_order), (15, f_max_final_width), (21, f_largest_size_with_channel_width), (22, f_largest_size_with_closing), (23, f_largest_size_without_ship)] = true) (wO : (dO == sysModules) = false)
    (a3 : PySem.W.nsIn K mainGlobals "answers" = some (some (.ref f_answers))) (l3 : K.lookup f_answers = some ⟨oc3, od3, .func (PySem.W.fnOf "answers" "answers" (defArgs s_answers) (defBody s_answers) (defScope s_answers) .none kV3 dc3 pm3 an3 cd3 ct3), sl3⟩) (c3 : PySem.W.codeIn K cd3 "answers" = true) (k3 : PySem.W.keepIn K (.ref f_answers) = true) :
    ∃ fd : FuncData, (∀ (s : Shared) (us : List Value), us.length = (["calls"] : List Str).length → BindsTo s fd ⟨us, []⟩ ((["calls"] : List Str).zip us)) ∧ ∀ base : Heap, K.In base → base.Ns mainGlobals mg → FnOk P w K mg base CX0 10 fa fd ["calls"] (sp_answers K ⟨0, 0, 0, 0, 0, 0, 0, 0, fun _ => 0⟩) := by
  have e := hfa.symm.trans (PySem.W.mg_of X G a3)
  cases e
  have ref : PySem.RefX.RefTxt K mg CR rI :=
    { gC := PySem.W.mg_of X G aR, cls := ⟨nm, q, N, bs, _, sn, sub, ab, col, dd, m0, m1, m2, m3, m5, xL, by decide +kernel⟩, sa := saR, ga := gaR, gg := ggR, noN := nbR, iC := iR, tC := tI, kC := kR, exC := eR, tyC := tR, hdC := hR, te := exm_self eR icR tR sR,
      fn := ⟨_, _, _, _, _, _, _, _, _, _, _, _, _, _, lI, cI⟩ }
  let ad : Ad := ⟨CS, CP, CD, CR, rI, cnt, dN, dO, fun n => match n with | 2 => f_remove_ship | 4 => f_list_ships | 5 => f_set_channel_width | 6 => f_set_closing | 7 => f_append_to_convoy | 8 => f_remove_last_from_convoy | 9 => f_clear_convoy | 10 => f_get_convoy | 11 => f_convoy_widths | 12 => f_next_candidates | 13 => f_is_feasible | 14 => f_find_order | 15 => f_max_final_width | 16 => f_largest_feasible_set | 17 => f_most_valuable_feasible_set | 18 => f_form_largest_convoy | 19 => f_form_most_valuable_convoy | 20 => f_min_channel_width | 21 => f_largest_size_with_channel_width | 22 => f_largest_size_with_closing | 23 => f_largest_size_without_ship | 25 => f_summary | _ => 0⟩
  have T : Txt P w K mg ad := {
    clS := S.cl, clP := PL.cl, clD := DK.cl, ref := ref,
    nS_beam := nS_beam,
    nS_clear := nS_clear,
    nS_worth := nS_worth,
    nP_chan := nP_chan,
    nP_clos := nP_clos,
    nP_ships := nP_ships,
    nP_conv := nP_conv,
    nD_plan := nD_plan,
    c_NO_INSTANCE := (let ⟨t, e⟩ := c_NO_INSTANCE; ⟨t, PySem.W.mg_of X G e⟩),
    c_NOT_THERE := (let ⟨t, e⟩ := c_NOT_THERE; ⟨t, PySem.W.mg_of X G e⟩),
    c_OUT_OF_RANGE := (let ⟨t, e⟩ := c_OUT_OF_RANGE; ⟨t, PySem.W.mg_of X G e⟩),
    c_TOO_MANY := (let ⟨t, e⟩ := c_TOO_MANY; ⟨t, PySem.W.mg_of X G e⟩),
    c_IN_CONVOY := (let ⟨t, e⟩ := c_IN_CONVOY; ⟨t, PySem.W.mg_of X G e⟩),
    c_CANNOT_FOLLOW := (let ⟨t, e⟩ := c_CANNOT_FOLLOW; ⟨t, PySem.W.mg_of X G e⟩),
    c_EMPTY := (let ⟨t, e⟩ := c_EMPTY; ⟨t, PySem.W.mg_of X G e⟩),
    c_NOT_FEASIBLE := (let ⟨t, e⟩ := c_NOT_FEASIBLE; ⟨t, PySem.W.mg_of X G e⟩),
    c_MOST_BEAM := (let ⟨t, e⟩ := c_MOST_BEAM; ⟨t, PySem.W.mg_of X G e⟩),
    c_MOST_CLEARANCE := (let ⟨t, e⟩ := c_MOST_CLEARANCE; ⟨t, PySem.W.mg_of X G e⟩),
    c_MOST_VALUE := (let ⟨t, e⟩ := c_MOST_VALUE; ⟨t, PySem.W.mg_of X G e⟩),
    c_NO_WIDTH := (let ⟨t, e⟩ := c_NO_WIDTH; ⟨t, PySem.W.mg_of X G e⟩),
    c_LEAST_CHANNEL := (let ⟨t, e⟩ := c_LEAST_CHANNEL; ⟨t, PySem.W.mg_of X G e⟩),
    c_MOST_CHANNEL := (let ⟨t, e⟩ := c_MOST_CHANNEL; ⟨t, PySem.W.mg_of X G e⟩),
    c_MOST_CLOSING := (let ⟨t, e⟩ := c_MOST_CLOSING; ⟨t, PySem.W.mg_of X G e⟩),
    c_MOST_SHIPS := (let ⟨t, e⟩ := c_MOST_SHIPS; ⟨t, PySem.W.mg_of X G e⟩),
    c_CREATE := (let ⟨t, e⟩ := c_CREATE; ⟨t, PySem.W.mg_of X G e⟩),
    c_ADD_SHIP := (let ⟨t, e⟩ := c_ADD_SHIP; ⟨t, PySem.W.mg_of X G e⟩),
    c_COMPARE_PAIR := (let ⟨t, e⟩ := c_COMPARE_PAIR; ⟨t, PySem.W.mg_of X G e⟩),
    b_range := PySem.W.mg_none_of X G b_range,
    b_enumerate := PySem.W.mg_none_of X G b_enumerate,
    b_len := PySem.W.mg_none_of X G b_len,
    b_sum := PySem.W.mg_none_of X G b_sum,
    b_max := PySem.W.mg_none_of X G b_max,
    b_min := PySem.W.mg_none_of X G b_min,
    b_int := PySem.W.mg_none_of X G b_int,
    g_COUNTS := PySem.W.mg_of X G aC, t_COUNTS := fun H => .inr ⟨_, its, nc, lC, rfl, rfl, (by have q := vC.length; show its.toList.length ≤ sizeLine; rw [← q]; show 26 ≤ sizeLine; decide), vC⟩, g_NO_INTEGER := PySem.W.mg_of X G aN, g_ONE_INTEGER := PySem.W.mg_of X G aO,
    d_NO_INTEGER := idict lN kN pN wN rfl (by show ([4, 8, 9, 10, 11, 12, 16, 17, 18, 19, 20, 25] : List Int).Nodup; decide), d_ONE_INTEGER := idict lO kO pO wO rfl (by show ([2, 5, 6, 7, 13, 14, 15, 21, 22, 23] : List Int).Nodup; decide) }
  obtain ⟨fd_want, G_want⟩ := F_want.fn
  obtain ⟨fd_set_count, G_set_count⟩ := F_set_count.fn
  obtain ⟨fd_is_member, G_is_member⟩ := F_is_member.fn
  obtain ⟨fd_members, G_members⟩ := F_members.fn
  obtain ⟨fd_without, G_without⟩ := F_without.fn
  obtain ⟨fd_size_of, G_size_of⟩ := F_size_of.fn
  obtain ⟨fd_worth_of, G_worth_of⟩ := F_worth_of.fn
  obtain ⟨fd_least_before, G_least_before⟩ := F_least_before.fn
  obtain ⟨fd_need_with_first, G_need_with_first⟩ := F_need_with_first.fn
  obtain ⟨fd_need_of, G_need_of⟩ := F_need_of.fn
  obtain ⟨fd_needs, G_needs⟩ := F_needs.fn
  obtain ⟨fd_feasible_sets, G_feasible_sets⟩ := F_feasible_sets.fn
  obtain ⟨fd_first_greatest, G_first_greatest⟩ := F_first_greatest.fn
  obtain ⟨fd_largest_set, G_largest_set⟩ := F_largest_set.fn
  obtain ⟨fd_most_valuable_set, G_most_valuable_set⟩ := F_most_valuable_set.fn
  obtain ⟨fd_Ship_init, G_Ship_init⟩ := F_Ship_init.fn
  obtain ⟨fd_Ship_described, G_Ship_described⟩ := F_Ship_described.fn
  obtain ⟨fd_is_ship, G_is_ship⟩ := F_is_ship.fn
  obtain ⟨fd_width_before, G_width_before⟩ := F_width_before.fn
  obtain ⟨fd_can_follow, G_can_follow⟩ := F_can_follow.fn
  obtain ⟨fd_width_after, G_width_after⟩ := F_width_after.fn
  obtain ⟨fd_is_feasible_order, G_is_feasible_order⟩ := F_is_feasible_order.fn
  obtain ⟨fd_widths_along, G_widths_along⟩ := F_widths_along.fn
  obtain ⟨fd_next_in_order, G_next_in_order⟩ := F_next_in_order.fn
  obtain ⟨fd_first_order, G_first_order⟩ := F_first_order.fn
  obtain ⟨fd_widest_of, G_widest_of⟩ := F_widest_of.fn
  obtain ⟨fd_widest, G_widest⟩ := F_widest.fn
  obtain ⟨fd_Planner_init, G_Planner_init⟩ := F_Planner_init.fn
  obtain ⟨fd_Planner_start, G_Planner_start⟩ := F_Planner_start.fn
  obtain ⟨fd_Planner_widths, G_Planner_widths⟩ := F_Planner_widths.fn
  obtain ⟨fd_Planner_last_width, G_Planner_last_width⟩ := F_Planner_last_width.fn
  obtain ⟨fd_Planner_is_next, G_Planner_is_next⟩ := F_Planner_is_next.fn
  obtain ⟨fd_is_channel, G_is_channel⟩ := F_is_channel.fn
  obtain ⟨fd_want_channel, G_want_channel⟩ := F_want_channel.fn
  obtain ⟨fd_want_closing, G_want_closing⟩ := F_want_closing.fn
  obtain ⟨fd_want_ship, G_want_ship⟩ := F_want_ship.fn
  obtain ⟨fd_want_set, G_want_set⟩ := F_want_set.fn
  obtain ⟨fd_add_ship, G_add_ship⟩ := F_add_ship.fn
  obtain ⟨fd_remove_ship, G_remove_ship⟩ := F_remove_ship.fn
  obtain ⟨fd_update_ship, G_update_ship⟩ := F_update_ship.fn
  obtain ⟨fd_set_channel_width, G_set_channel_width⟩ := F_set_channel_width.fn
  obtain ⟨fd_set_closing, G_set_closing⟩ := F_set_closing.fn
  obtain ⟨fd_append_to_convoy, G_append_to_convoy⟩ := F_append_to_convoy.fn
  obtain ⟨fd_remove_last_from_convoy, G_remove_last_from_convoy⟩ := F_remove_last_from_convoy.fn
  obtain ⟨fd_clear_convoy, G_clear_convoy⟩ := F_clear_convoy.fn
  obtain ⟨fd_form_largest_convoy, G_form_largest_convoy⟩ := F_form_largest_convoy.fn
  obtain ⟨fd_form_most_valuable_convoy, G_form_most_valuable_convoy⟩ := F_form_most_valuable_convoy.fn
  obtain ⟨fd_counted, G_counted⟩ := F_counted.fn
  obtain ⟨fd_list_ships, G_list_ships⟩ := F_list_ships.fn
  obtain ⟨fd_get_convoy, G_get_convoy⟩ := F_get_convoy.fn
  obtain ⟨fd_convoy_widths, G_convoy_widths⟩ := F_convoy_widths.fn
  obtain ⟨fd_next_candidates, G_next_candidates⟩ := F_next_candidates.fn
  obtain ⟨fd_need_of_set, G_need_of_set⟩ := F_need_of_set.fn
  obtain ⟨fd_is_feasible, G_is_feasible⟩ := F_is_feasible.fn
  obtain ⟨fd_want_feasible, G_want_feasible⟩ := F_want_feasible.fn
  obtain ⟨fd_find_order, G_find_order⟩ := F_find_order.fn
  obtain ⟨fd_max_final_width, G_max_final_width⟩ := F_max_final_width.fn
  obtain ⟨fd_largest_feasible_set, G_largest_feasible_set⟩ := F_largest_feasible_set.fn
  obtain ⟨fd_most_valuable_feasible_set, G_most_valuable_feasible_set⟩ := F_most_valuable_feasible_set.fn
  obtain ⟨fd_min_channel_width, G_min_channel_width⟩ := F_min_channel_width.fn
  obtain ⟨fd_largest_size, G_largest_size⟩ := F_largest_size.fn
  obtain ⟨fd_largest_size_with_channel_width, G_largest_size_with_channel_width⟩ := F_largest_size_with_channel_width.fn
  obtain ⟨fd_largest_size_with_closing, G_largest_size_with_closing⟩ := F_largest_size_with_closing.fn
  obtain ⟨fd_largest_size_without_ship, G_largest_size_without_ship⟩ := F_largest_size_without_ship.fn
  obtain ⟨fd_leads, G_leads⟩ := F_leads.fn
  obtain ⟨fd_compare_pair, G_compare_pair⟩ := F_compare_pair.fn
  obtain ⟨fd_summary, G_summary⟩ := F_summary.fn
  obtain ⟨fd_Desk_init, G_Desk_init⟩ := F_Desk_init.fn
  obtain ⟨fd_Desk_create, G_Desk_create⟩ := F_Desk_create.fn
  obtain ⟨fd_Desk_performed, G_Desk_performed⟩ := F_Desk_performed.fn
  obtain ⟨fd_Desk_answer, G_Desk_answer⟩ := F_Desk_answer.fn
  refine ⟨PySem.W.fnOf "answers" "answers" (defArgs s_answers) (defBody s_answers) (defScope s_answers) .none kV3 dc3 pm3 an3 cd3 ct3, fun s us hu => match us, hu with | [_], _ => .of_eq rfl, fun base _ _ => ?_⟩
  have h_want : Has P w K mg base "want" (L2.CX P w) 2 ["truth", "code"] (sp_want K ad) := has_want G_want (PySem.W.mg_of X G F_want.ns) T 
  have h_set_count : Has P w K mg base "set_count" CX0 1 ["many"] (sp_set_count K ad) := has_set_count G_set_count (PySem.W.mg_of X G F_set_count.ns) T 
  have h_is_member : Has P w K mg base "is_member" CX0 1 ["ship_set", "number"] (sp_is_member K ad) := has_is_member G_is_member (PySem.W.mg_of X G F_is_member.ns) T 
  have h_members : Has P w K mg base "members" CX0 2 ["ship_set", "many"] (sp_members K ad) := has_members G_members (PySem.W.mg_of X G F_members.ns) T h_is_member
  have h_without : Has P w K mg base "without" CX0 1 ["ship_set", "number"] (sp_without K ad) := has_without G_without (PySem.W.mg_of X G F_without.ns) T 
  have h_size_of : Has P w K mg base "size_of" CX0 3 ["ship_set", "many"] (sp_size_of K ad) := has_size_of G_size_of (PySem.W.mg_of X G F_size_of.ns) T h_members
  have h_worth_of : Has P w K mg base "worth_of" CX0 3 ["ships", "ship_set"] (sp_worth_of K ad) := has_worth_of G_worth_of (PySem.W.mg_of X G F_worth_of.ns) T h_members
  have h_least_before : Has P w K mg base "least_before" CX0 1 ["ship", "later"] (sp_least_before K ad) := has_least_before G_least_before (PySem.W.mg_of X G F_least_before.ns) T 
  have h_need_with_first : Has P w K mg base "need_with_first" CX0 2 ["ship", "later", "closing"] (sp_need_with_first K ad) := has_need_with_first G_need_with_first (PySem.W.mg_of X G F_need_with_first.ns) T h_least_before
  have h_need_of : Has P w K mg base "need_of" CX0 3 ["ships", "closing", "table", "ship_set"] (sp_need_of K ad) := has_need_of G_need_of (PySem.W.mg_of X G F_need_of.ns) T h_members h_without h_need_with_first
  have h_needs : Has P w K mg base "needs" CX0 4 ["ships", "closing"] (sp_needs K ad) := has_needs G_needs (PySem.W.mg_of X G F_needs.ns) T h_set_count h_need_of
  have h_feasible_sets : Has P w K mg base "feasible_sets" CX0 1 ["table", "previous"] (sp_feasible_sets K ad) := has_feasible_sets G_feasible_sets (PySem.W.mg_of X G F_feasible_sets.ns) T 
  have h_first_greatest : Has P w K mg base "first_greatest" CX0 1 ["numbers", "sizes"] (sp_first_greatest K ad) := has_first_greatest G_first_greatest (PySem.W.mg_of X G F_first_greatest.ns) T 
  have h_largest_set : Has P w K mg base "largest_set" CX0 5 ["ships", "closing", "previous"] (sp_largest_set K ad) := has_largest_set G_largest_set (PySem.W.mg_of X G F_largest_set.ns) T h_size_of h_needs h_feasible_sets h_first_greatest
  have h_most_valuable_set : Has P w K mg base "most_valuable_set" CX0 5 ["ships", "closing", "previous"] (sp_most_valuable_set K ad) := has_most_valuable_set G_most_valuable_set (PySem.W.mg_of X G F_most_valuable_set.ns) T h_worth_of h_needs h_feasible_sets h_first_greatest
  have h_Ship_init : HasI P w K mg base "Ship" ad.S CX0 1 ["self", "beam", "clearance", "worth"] (sp_Ship_init K ad) := has_Ship_init G_Ship_init (PySem.W.mg_of X G S.ns) ⟨S.makes, F_Ship_init.at_.at_, F_Ship_init.at_.fn, S.kp⟩ T 
  have h_Ship_described : HasM P w K mg base ad.S "described" CX0 1 ["self"] (sp_Ship_described K ad) := has_Ship_described G_Ship_described F_Ship_described.at_ T 
  have h_is_ship : Has P w K mg base "is_ship" CX0 1 ["beam", "clearance", "worth"] (sp_is_ship K ad) := has_is_ship G_is_ship (PySem.W.mg_of X G F_is_ship.ns) T 
  have h_width_before : Has P w K mg base "width_before" CX0 1 ["previous", "closing"] (sp_width_before K ad) := has_width_before G_width_before (PySem.W.mg_of X G F_width_before.ns) T 
  have h_can_follow : Has P w K mg base "can_follow" CX0 2 ["ship", "previous", "closing"] (sp_can_follow K ad) := has_can_follow G_can_follow (PySem.W.mg_of X G F_can_follow.ns) T h_width_before
  have h_width_after : Has P w K mg base "width_after" CX0 2 ["ship", "previous", "closing"] (sp_width_after K ad) := has_width_after G_width_after (PySem.W.mg_of X G F_width_after.ns) T h_width_before
  have h_is_feasible_order : Has P w K mg base "is_feasible_order" CX0 3 ["ships", "order", "previous", "closing"] (sp_is_feasible_order K ad) := has_is_feasible_order G_is_feasible_order (PySem.W.mg_of X G F_is_feasible_order.ns) T h_can_follow h_width_after
  have h_widths_along : Has P w K mg base "widths_along" CX0 3 ["ships", "order", "previous", "closing"] (sp_widths_along K ad) := has_widths_along G_widths_along (PySem.W.mg_of X G F_widths_along.ns) T h_width_after
  have h_next_in_order : Has P w K mg base "next_in_order" CX0 3 ["ships", "closing", "table", "ship_set", "previous"] (sp_next_in_order K ad) := has_next_in_order G_next_in_order (PySem.W.mg_of X G F_next_in_order.ns) T h_members h_without h_need_with_first
  have h_first_order : Has P w K mg base "first_order" CX0 5 ["ships", "closing", "ship_set", "previous"] (sp_first_order K ad) := has_first_order G_first_order (PySem.W.mg_of X G F_first_order.ns) T h_members h_without h_needs h_width_after h_next_in_order
  have h_widest_of : Has P w K mg base "widest_of" CX0 3 ["ships", "closing", "table", "ship_set"] (sp_widest_of K ad) := has_widest_of G_widest_of (PySem.W.mg_of X G F_widest_of.ns) T h_members h_without h_can_follow h_width_after
  have h_widest : Has P w K mg base "widest" CX0 4 ["ships", "closing", "previous"] (sp_widest K ad) := has_widest G_widest (PySem.W.mg_of X G F_widest.ns) T h_set_count h_widest_of
  have h_Planner_init : HasI P w K mg base "Planner" ad.P CX0 1 ["self", "channel", "closing"] (sp_Planner_init K ad) := has_Planner_init G_Planner_init (PySem.W.mg_of X G PL.ns) ⟨PL.makes, F_Planner_init.at_.at_, F_Planner_init.at_.fn, PL.kp⟩ T 
  have h_Planner_start : HasM P w K mg base ad.P "start" CX0 1 ["self"] (sp_Planner_start K ad) := has_Planner_start G_Planner_start F_Planner_start.at_ T 
  have h_Planner_widths : HasM P w K mg base ad.P "widths" CX0 4 ["self"] (sp_Planner_widths K ad) := has_Planner_widths G_Planner_widths F_Planner_widths.at_ T h_widths_along h_Planner_start
  have h_Planner_last_width : HasM P w K mg base ad.P "last_width" CX0 5 ["self"] (sp_Planner_last_width K ad) := has_Planner_last_width G_Planner_last_width F_Planner_last_width.at_ T h_Planner_start h_Planner_widths
  have h_Planner_is_next : HasM P w K mg base ad.P "is_next" CX0 6 ["self", "number"] (sp_Planner_is_next K ad) := has_Planner_is_next G_Planner_is_next F_Planner_is_next.at_ T h_can_follow h_Planner_last_width
  have h_is_channel : Has P w K mg base "is_channel" CX0 1 ["channel"] (sp_is_channel K ad) := has_is_channel G_is_channel (PySem.W.mg_of X G F_is_channel.ns) T 
  have h_want_channel : Has P w K mg base "want_channel" (L2.CX P w) 3 ["channel"] (sp_want_channel K ad) := has_want_channel G_want_channel (PySem.W.mg_of X G F_want_channel.ns) T h_want h_is_channel
  have h_want_closing : Has P w K mg base "want_closing" (L2.CX P w) 3 ["closing"] (sp_want_closing K ad) := has_want_closing G_want_closing (PySem.W.mg_of X G F_want_closing.ns) T h_want
  have h_want_ship : Has P w K mg base "want_ship" (L2.CX P w) 3 ["planner", "number"] (sp_want_ship K ad) := has_want_ship G_want_ship (PySem.W.mg_of X G F_want_ship.ns) T h_want
  have h_want_set : Has P w K mg base "want_set" (L2.CX P w) 3 ["planner", "ship_set"] (sp_want_set K ad) := has_want_set G_want_set (PySem.W.mg_of X G F_want_set.ns) T h_want h_set_count
  have h_add_ship : Has P w K mg base "add_ship" (L2.CX P w) 3 ["planner", "beam", "clearance", "worth"] (sp_add_ship K ad) := has_add_ship G_add_ship (PySem.W.mg_of X G F_add_ship.ns) T h_want h_Ship_init h_is_ship
  have h_remove_ship : Has P w K mg base "remove_ship" (L2.CX P w) 4 ["planner", "number"] (sp_remove_ship K ad) := has_remove_ship G_remove_ship (PySem.W.mg_of X G F_remove_ship.ns) T h_want_ship
  have h_update_ship : Has P w K mg base "update_ship" (L2.CX P w) 4 ["planner", "number", "beam", "clearance", "worth"] (sp_update_ship K ad) := has_update_ship G_update_ship (PySem.W.mg_of X G F_update_ship.ns) T h_want h_Ship_init h_Ship_described h_is_ship h_want_ship
  have h_set_channel_width : Has P w K mg base "set_channel_width" (L2.CX P w) 4 ["planner", "channel"] (sp_set_channel_width K ad) := has_set_channel_width G_set_channel_width (PySem.W.mg_of X G F_set_channel_width.ns) T h_want_channel
  have h_set_closing : Has P w K mg base "set_closing" (L2.CX P w) 4 ["planner", "closing"] (sp_set_closing K ad) := has_set_closing G_set_closing (PySem.W.mg_of X G F_set_closing.ns) T h_want_closing
  have h_append_to_convoy : Has P w K mg base "append_to_convoy" (L2.CX P w) 7 ["planner", "number"] (sp_append_to_convoy K ad) := has_append_to_convoy G_append_to_convoy (PySem.W.mg_of X G F_append_to_convoy.ns) T h_want h_Planner_last_width h_Planner_is_next h_want_ship
  have h_remove_last_from_convoy : Has P w K mg base "remove_last_from_convoy" (L2.CX P w) 3 ["planner"] (sp_remove_last_from_convoy K ad) := has_remove_last_from_convoy G_remove_last_from_convoy (PySem.W.mg_of X G F_remove_last_from_convoy.ns) T h_want
  have h_clear_convoy : Has P w K mg base "clear_convoy" CX0 1 ["planner"] (sp_clear_convoy K ad) := has_clear_convoy G_clear_convoy (PySem.W.mg_of X G F_clear_convoy.ns) T 
  have h_form_largest_convoy : Has P w K mg base "form_largest_convoy" CX0 6 ["planner"] (sp_form_largest_convoy K ad) := has_form_largest_convoy G_form_largest_convoy (PySem.W.mg_of X G F_form_largest_convoy.ns) T h_largest_set h_first_order h_Planner_start
  have h_form_most_valuable_convoy : Has P w K mg base "form_most_valuable_convoy" CX0 6 ["planner"] (sp_form_most_valuable_convoy K ad) := has_form_most_valuable_convoy G_form_most_valuable_convoy (PySem.W.mg_of X G F_form_most_valuable_convoy.ns) T h_worth_of h_most_valuable_set h_first_order h_Planner_start
  have h_counted : Has P w K mg base "counted" CX0 1 ["some"] (sp_counted K ad) := has_counted G_counted (PySem.W.mg_of X G F_counted.ns) T 
  have h_list_ships : Has P w K mg base "list_ships" CX0 2 ["planner"] (sp_list_ships K ad) := has_list_ships G_list_ships (PySem.W.mg_of X G F_list_ships.ns) T h_Ship_described
  have h_get_convoy : Has P w K mg base "get_convoy" CX0 2 ["planner"] (sp_get_convoy K ad) := has_get_convoy G_get_convoy (PySem.W.mg_of X G F_get_convoy.ns) T h_counted
  have h_convoy_widths : Has P w K mg base "convoy_widths" CX0 5 ["planner"] (sp_convoy_widths K ad) := has_convoy_widths G_convoy_widths (PySem.W.mg_of X G F_convoy_widths.ns) T h_Planner_widths h_counted
  have h_next_candidates : Has P w K mg base "next_candidates" CX0 7 ["planner"] (sp_next_candidates K ad) := has_next_candidates G_next_candidates (PySem.W.mg_of X G F_next_candidates.ns) T h_Planner_is_next h_counted
  have h_need_of_set : Has P w K mg base "need_of_set" CX0 5 ["planner", "ship_set"] (sp_need_of_set K ad) := has_need_of_set G_need_of_set (PySem.W.mg_of X G F_need_of_set.ns) T h_needs
  have h_is_feasible : Has P w K mg base "is_feasible" (L2.CX P w) 6 ["planner", "ship_set"] (sp_is_feasible K ad) := has_is_feasible G_is_feasible (PySem.W.mg_of X G F_is_feasible.ns) T h_Planner_start h_want_set h_need_of_set
  have h_want_feasible : Has P w K mg base "want_feasible" (L2.CX P w) 6 ["planner", "ship_set"] (sp_want_feasible K ad) := has_want_feasible G_want_feasible (PySem.W.mg_of X G F_want_feasible.ns) T h_want h_Planner_start h_need_of_set
  have h_find_order : Has P w K mg base "find_order" (L2.CX P w) 7 ["planner", "ship_set"] (sp_find_order K ad) := has_find_order G_find_order (PySem.W.mg_of X G F_find_order.ns) T h_first_order h_Planner_start h_want_set h_counted h_want_feasible
  have h_max_final_width : Has P w K mg base "max_final_width" (L2.CX P w) 7 ["planner", "ship_set"] (sp_max_final_width K ad) := has_max_final_width G_max_final_width (PySem.W.mg_of X G F_max_final_width.ns) T h_want h_widest h_Planner_start h_want_set h_want_feasible
  have h_largest_feasible_set : Has P w K mg base "largest_feasible_set" CX0 6 ["planner"] (sp_largest_feasible_set K ad) := has_largest_feasible_set G_largest_feasible_set (PySem.W.mg_of X G F_largest_feasible_set.ns) T h_size_of h_largest_set h_Planner_start
  have h_most_valuable_feasible_set : Has P w K mg base "most_valuable_feasible_set" CX0 6 ["planner"] (sp_most_valuable_feasible_set K ad) := has_most_valuable_feasible_set G_most_valuable_feasible_set (PySem.W.mg_of X G F_most_valuable_feasible_set.ns) T h_worth_of h_most_valuable_set h_Planner_start
  have h_min_channel_width : Has P w K mg base "min_channel_width" (L2.CX P w) 5 ["planner"] (sp_min_channel_width K ad) := has_min_channel_width G_min_channel_width (PySem.W.mg_of X G F_min_channel_width.ns) T h_want h_needs
  have h_largest_size : Has P w K mg base "largest_size" CX0 6 ["ships", "channel", "closing"] (sp_largest_size K ad) := has_largest_size G_largest_size (PySem.W.mg_of X G F_largest_size.ns) T h_size_of h_largest_set
  have h_largest_size_with_channel_width : Has P w K mg base "largest_size_with_channel_width" (L2.CX P w) 7 ["planner", "channel"] (sp_largest_size_with_channel_width K ad) := has_largest_size_with_channel_width G_largest_size_with_channel_width (PySem.W.mg_of X G F_largest_size_with_channel_width.ns) T h_want_channel h_largest_size
  have h_largest_size_with_closing : Has P w K mg base "largest_size_with_closing" (L2.CX P w) 7 ["planner", "closing"] (sp_largest_size_with_closing K ad) := has_largest_size_with_closing G_largest_size_with_closing (PySem.W.mg_of X G F_largest_size_with_closing.ns) T h_want_closing h_largest_size
  have h_largest_size_without_ship : Has P w K mg base "largest_size_without_ship" (L2.CX P w) 7 ["planner", "number"] (sp_largest_size_without_ship K ad) := has_largest_size_without_ship G_largest_size_without_ship (PySem.W.mg_of X G F_largest_size_without_ship.ns) T h_want_ship h_largest_size
  have h_leads : Has P w K mg base "leads" CX0 4 ["planner", "first", "second"] (sp_leads K ad) := has_leads G_leads (PySem.W.mg_of X G F_leads.ns) T h_is_feasible_order h_Planner_start
  have h_compare_pair : Has P w K mg base "compare_pair" (L2.CX P w) 5 ["planner", "first", "second"] (sp_compare_pair K ad) := has_compare_pair G_compare_pair (PySem.W.mg_of X G F_compare_pair.ns) T h_want h_want_ship h_leads
  have h_summary : Has P w K mg base "summary" CX0 1 ["planner"] (sp_summary K ad) := has_summary G_summary (PySem.W.mg_of X G F_summary.ns) T 
  have h_Desk_init : HasI P w K mg base "Desk" ad.D CX0 1 ["self"] (sp_Desk_init K ad) := has_Desk_init G_Desk_init (PySem.W.mg_of X G DK.ns) ⟨DK.makes, F_Desk_init.at_.at_, F_Desk_init.at_.fn, DK.kp⟩ T 
  have h_Desk_create : HasM P w K mg base ad.D "create" (L2.CX P w) 4 ["self", "channel", "closing"] (sp_Desk_create K ad) := has_Desk_create G_Desk_create F_Desk_create.at_ T h_Planner_init h_want_channel h_want_closing
  have hop0 : ∀ n c, c0 n = some c → HoldsF P w K mg base (ad.op n) (L2.CX P w) 7 (sp0 ad c) := by
    intro n c hc
    unfold c0 at hc
    split at hc
    · cases hc; exact Has.holds0 h_list_ships (PySem.W.mg_of X G F_list_ships.ns)
    · cases hc; exact Has.holds h_remove_last_from_convoy (PySem.W.mg_of X G F_remove_last_from_convoy.ns)
    · cases hc; exact Has.holds0 h_clear_convoy (PySem.W.mg_of X G F_clear_convoy.ns)
    · cases hc; exact Has.holds0 h_get_convoy (PySem.W.mg_of X G F_get_convoy.ns)
    · cases hc; exact Has.holds0 h_convoy_widths (PySem.W.mg_of X G F_convoy_widths.ns)
    · cases hc; exact Has.holds0 h_next_candidates (PySem.W.mg_of X G F_next_candidates.ns)
    · cases hc; exact Has.holds0 h_largest_feasible_set (PySem.W.mg_of X G F_largest_feasible_set.ns)
    · cases hc; exact Has.holds0 h_most_valuable_feasible_set (PySem.W.mg_of X G F_most_valuable_feasible_set.ns)
    · cases hc; exact Has.holds0 h_form_largest_convoy (PySem.W.mg_of X G F_form_largest_convoy.ns)
    · cases hc; exact Has.holds0 h_form_most_valuable_convoy (PySem.W.mg_of X G F_form_most_valuable_convoy.ns)
    · cases hc; exact Has.holds h_min_channel_width (PySem.W.mg_of X G F_min_channel_width.ns)
    · cases hc; exact Has.holds0 h_summary (PySem.W.mg_of X G F_summary.ns)
    · cases hc
  have hop1 : ∀ n cf, c1 n = some cf → HoldsF P w K mg base (ad.op n) (L2.CX P w) 7 (sp1 ad cf) := by
    intro n c hc
    unfold c1 at hc
    split at hc
    · cases hc; exact Has.holds h_remove_ship (PySem.W.mg_of X G F_remove_ship.ns)
    · cases hc; exact Has.holds h_set_channel_width (PySem.W.mg_of X G F_set_channel_width.ns)
    · cases hc; exact Has.holds h_set_closing (PySem.W.mg_of X G F_set_closing.ns)
    · cases hc; exact Has.holds h_append_to_convoy (PySem.W.mg_of X G F_append_to_convoy.ns)
    · cases hc; exact Has.holds h_is_feasible (PySem.W.mg_of X G F_is_feasible.ns)
    · cases hc; exact Has.holds h_find_order (PySem.W.mg_of X G F_find_order.ns)
    · cases hc; exact Has.holds h_max_final_width (PySem.W.mg_of X G F_max_final_width.ns)
    · cases hc; exact Has.holds h_largest_size_with_channel_width (PySem.W.mg_of X G F_largest_size_with_channel_width.ns)
    · cases hc; exact Has.holds h_largest_size_with_closing (PySem.W.mg_of X G F_largest_size_with_closing.ns)
    · cases hc; exact Has.holds h_largest_size_without_ship (PySem.W.mg_of X G F_largest_size_without_ship.ns)
    · cases hc
  have h_Desk_performed : HasM P w K mg base ad.D "performed" (L2.CX P w) 8 ["self", "number", "parameters"] (sp_Desk_performed K ad) := has_Desk_performed G_Desk_performed F_Desk_performed.at_ T h_want h_add_ship h_update_ship h_compare_pair hop0 hop1
  have h_Desk_answer : HasM P w K mg base ad.D "answer" CX0 9 ["self", "number", "parameters"] (sp_Desk_answer K ad) := has_Desk_answer G_Desk_answer F_Desk_answer.at_ T h_Desk_create h_Desk_performed
  have F3 := fun_mk (st := s_answers) l3 c3 k3
  have r := has_answers (ad := ad) F3 (PySem.W.mg_of X G a3) T h_Desk_init h_Desk_answer
  exact r
end Ice
open PySem PySem.W PyProof.Rows
set_option maxRecDepth 100000 in
set_option maxHeartbeats 8000000 in
theorem PySem.Challenge.cw_icelane_s01_answers_holds : PySem.Challenge.rw_icelane_s01_answers.Holds := by
  w_on; k_headS; (case hw => exact ⟨[.list [.int 25]], by decide +kernel, by decide +kernel⟩)
  k_fillS
  refine L2.walk_specK (r := PySem.Challenge.rw_icelane_s01_answers) (k := 10) (CX := L2.CX0) (ps := ["calls"]) (sp := fun K => Ice.sp_answers K ⟨0, 0, 0, 0, 0, 0, 0, 0, fun _ => 0⟩) (by decide +kernel) rfl rfl ⟨rfl, by decide, by decide⟩ (fun w h Y => PySem.W.kIn_of Y) ?F ?S (fun _ _ _ _ z => z)
  case F =>
    intro w mg fa h Y KX G hmg
    refine' Ice.all_mk KX G hmg ?z_S ?z_PL ?z_DK ?z_nS_beam ?z_nS_clear ?z_nS_worth ?z_nP_chan ?z_nP_clos ?z_nP_ships ?z_nP_conv ?z_nD_plan ?z_aR ?z_xL ?z_saR ?z_gaR ?z_ggR ?z_nbR ?z_iR ?z_tI ?z_lI ?z_cI ?z_kR ?z_eR ?z_tR ?z_hR ?z_icR ?z_sR ?z_c_NO_INSTANCE ?z_c_NOT_THERE ?z_c_OUT_OF_RANGE ?z_c_TOO_MANY ?z_c_IN_CONVOY ?z_c_CANNOT_FOLLOW ?z_c_EMPTY ?z_c_NOT_FEASIBLE ?z_c_MOST_BEAM ?z_c_MOST_CLEARANCE ?z_c_MOST_VALUE ?z_c_NO_WIDTH ?z_c_LEAST_CHANNEL ?z_c_MOST_CHANNEL ?z_c_MOST_CLOSING ?z_c_MOST_SHIPS ?z_c_CREATE ?z_c_ADD_SHIP ?z_c_COMPARE_PAIR ?z_b_range ?z_b_enumerate ?z_b_len ?z_b_sum ?z_b_max ?z_b_min ?z_b_int ?z_aC ?z_lC ?z_vC ?z_aN ?z_lN ?z_kN ?z_aO ?z_lO ?z_kO ?z_F_want ?z_F_set_count ?z_F_is_member ?z_F_members ?z_F_without ?z_F_size_of ?z_F_worth_of ?z_F_least_before ?z_F_need_with_first ?z_F_need_of ?z_F_needs ?z_F_feasible_sets ?z_F_first_greatest ?z_F_largest_set ?z_F_most_valuable_set ?z_F_is_ship ?z_F_width_before ?z_F_can_follow ?z_F_width_after ?z_F_is_feasible_order ?z_F_widths_along ?z_F_next_in_order ?z_F_first_order ?z_F_widest_of ?z_F_widest ?z_F_is_channel ?z_F_want_channel ?z_F_want_closing ?z_F_want_ship ?z_F_want_set ?z_F_add_ship ?z_F_remove_ship ?z_F_update_ship ?z_F_set_channel_width ?z_F_set_closing ?z_F_append_to_convoy ?z_F_remove_last_from_convoy ?z_F_clear_convoy ?z_F_form_largest_convoy ?z_F_form_most_valuable_convoy ?z_F_counted ?z_F_list_ships ?z_F_get_convoy ?z_F_convoy_widths ?z_F_next_candidates ?z_F_need_of_set ?z_F_is_feasible ?z_F_want_feasible ?z_F_find_order ?z_F_max_final_width ?z_F_largest_feasible_set ?z_F_most_valuable_feasible_set ?z_F_min_channel_width ?z_F_largest_size ?z_F_largest_size_with_channel_width ?z_F_largest_size_with_closing ?z_F_largest_size_without_ship ?z_F_leads ?z_F_compare_pair ?z_F_summary ?z_F_Ship_described ?z_F_Planner_start ?z_F_Planner_widths ?z_F_Planner_last_width ?z_F_Planner_is_next ?z_F_Desk_create ?z_F_Desk_performed ?z_F_Desk_answer ?z_F_Ship_init ?z_F_Planner_init ?z_F_Desk_init ?z_pN ?z_wN ?z_pO ?z_wO ?z_a3 ?z_l3 ?z_c3 ?z_k3
    (case z_S => refine' Ice.clsG ?a_S ?pg_S ?hd_S ?po_S ?sa_S ?mk_S ?kp_S; (case a_S => k_is); (case pg_S => k_is); (case hd_S => k_is); (case po_S => k_is); (case sa_S => k_is); (case mk_S => k_is); (case kp_S => k_is))
    (case z_PL => refine' Ice.clsG ?a_PL ?pg_PL ?hd_PL ?po_PL ?sa_PL ?mk_PL ?kp_PL; (case a_PL => k_is); (case pg_PL => k_is); (case hd_PL => k_is); (case po_PL => k_is); (case sa_PL => k_is); (case mk_PL => k_is); (case kp_PL => k_is))
    (case z_DK => refine' Ice.clsG ?a_DK ?pg_DK ?hd_DK ?po_DK ?sa_DK ?mk_DK ?kp_DK; (case a_DK => k_is); (case pg_DK => k_is); (case hd_DK => k_is); (case po_DK => k_is); (case sa_DK => k_is); (case mk_DK => k_is); (case kp_DK => k_is))
    (case z_nS_beam => k_is)
    (case z_nS_clear => k_is)
    (case z_nS_worth => k_is)
    (case z_nP_chan => k_is)
    (case z_nP_clos => k_is)
    (case z_nP_ships => k_is)
    (case z_nP_conv => k_is)
    (case z_nD_plan => k_is)
    (case z_aR => k_is)
    (case z_xL => k_is)
    (case z_saR => k_is)
    (case z_gaR => k_is)
    (case z_ggR => k_is)
    (case z_nbR => k_is)
    (case z_iR => k_is)
    (case z_tI => k_is)
    (case z_lI => k_is)
    (case z_cI => k_is)
    (case z_kR => k_is)
    (case z_eR => k_is)
    (case z_tR => k_is)
    (case z_hR => k_is)
    (case z_icR => k_is)
    (case z_sR => first | rfl | k_is)
    (case z_c_NO_INSTANCE => refine' Ice.cst ?e_c_NO_INSTANCE; (case e_c_NO_INSTANCE => k_is))
    (case z_c_NOT_THERE => refine' Ice.cst ?e_c_NOT_THERE; (case e_c_NOT_THERE => k_is))
    (case z_c_OUT_OF_RANGE => refine' Ice.cst ?e_c_OUT_OF_RANGE; (case e_c_OUT_OF_RANGE => k_is))
    (case z_c_TOO_MANY => refine' Ice.cst ?e_c_TOO_MANY; (case e_c_TOO_MANY => k_is))
    (case z_c_IN_CONVOY => refine' Ice.cst ?e_c_IN_CONVOY; (case e_c_IN_CONVOY => k_is))
    (case z_c_CANNOT_FOLLOW => refine' Ice.cst ?e_c_CANNOT_FOLLOW; (case e_c_CANNOT_FOLLOW => k_is))
    (case z_c_EMPTY => refine' Ice.cst ?e_c_EMPTY; (case e_c_EMPTY => k_is))
    (case z_c_NOT_FEASIBLE => refine' Ice.cst ?e_c_NOT_FEASIBLE; (case e_c_NOT_FEASIBLE => k_is))
    (case z_c_MOST_BEAM => refine' Ice.cst ?e_c_MOST_BEAM; (case e_c_MOST_BEAM => k_is))
    (case z_c_MOST_CLEARANCE => refine' Ice.cst ?e_c_MOST_CLEARANCE; (case e_c_MOST_CLEARANCE => k_is))
    (case z_c_MOST_VALUE => refine' Ice.cst ?e_c_MOST_VALUE; (case e_c_MOST_VALUE => k_is))
    (case z_c_NO_WIDTH => refine' Ice.cst ?e_c_NO_WIDTH; (case e_c_NO_WIDTH => k_is))
    (case z_c_LEAST_CHANNEL => refine' Ice.cst ?e_c_LEAST_CHANNEL; (case e_c_LEAST_CHANNEL => k_is))
    (case z_c_MOST_CHANNEL => refine' Ice.cst ?e_c_MOST_CHANNEL; (case e_c_MOST_CHANNEL => k_is))
    (case z_c_MOST_CLOSING => refine' Ice.cst ?e_c_MOST_CLOSING; (case e_c_MOST_CLOSING => k_is))
    (case z_c_MOST_SHIPS => refine' Ice.cst ?e_c_MOST_SHIPS; (case e_c_MOST_SHIPS => k_is))
    (case z_c_CREATE => refine' Ice.cst ?e_c_CREATE; (case e_c_CREATE => k_is))
    (case z_c_ADD_SHIP => refine' Ice.cst ?e_c_ADD_SHIP; (case e_c_ADD_SHIP => k_is))
    (case z_c_COMPARE_PAIR => refine' Ice.cst ?e_c_COMPARE_PAIR; (case e_c_COMPARE_PAIR => k_is))
    (case z_b_range => k_is)
    (case z_b_enumerate => k_is)
    (case z_b_len => k_is)
    (case z_b_sum => k_is)
    (case z_b_max => k_is)
    (case z_b_min => k_is)
    (case z_b_int => k_is)
    (case z_aC => k_is)
    (case z_lC => k_is)
    (case z_vC => repeat (first | exact Paired.nil | refine Paired.cons ⟨_, rfl⟩ ?_))
    (case z_aN => k_is)
    (case z_lN => k_is)
    (case z_kN => decide +kernel)
    (case z_aO => k_is)
    (case z_lO => k_is)
    (case z_kO => decide +kernel)
    (case z_F_want => refine' Ice.funG ?a_F_want ?l_F_want ?c_F_want ?k_F_want; (case a_F_want => k_is); (case l_F_want => k_is); (case c_F_want => k_is); (case k_F_want => k_is))
    (case z_F_set_count => refine' Ice.funG ?a_F_set_count ?l_F_set_count ?c_F_set_count ?k_F_set_count; (case a_F_set_count => k_is); (case l_F_set_count => k_is); (case c_F_set_count => k_is); (case k_F_set_count => k_is))
    (case z_F_is_member => refine' Ice.funG ?a_F_is_member ?l_F_is_member ?c_F_is_member ?k_F_is_member; (case a_F_is_member => k_is); (case l_F_is_member => k_is); (case c_F_is_member => k_is); (case k_F_is_member => k_is))
    (case z_F_members => refine' Ice.funG ?a_F_members ?l_F_members ?c_F_members ?k_F_members; (case a_F_members => k_is); (case l_F_members => k_is); (case c_F_members => k_is); (case k_F_members => k_is))
    (case z_F_without => refine' Ice.funG ?a_F_without ?l_F_without ?c_F_without ?k_F_without; (case a_F_without => k_is); (case l_F_without => k_is); (case c_F_without => k_is); (case k_F_without => k_is))
    (case z_F_size_of => refine' Ice.funG ?a_F_size_of ?l_F_size_of ?c_F_size_of ?k_F_size_of; (case a_F_size_of => k_is); (case l_F_size_of => k_is); (case c_F_size_of => k_is); (case k_F_size_of => k_is))
    (case z_F_worth_of => refine' Ice.funG ?a_F_worth_of ?l_F_worth_of ?c_F_worth_of ?k_F_worth_of; (case a_F_worth_of => k_is); (case l_F_worth_of => k_is); (case c_F_worth_of => k_is); (case k_F_worth_of => k_is))
    (case z_F_least_before => refine' Ice.funG ?a_F_least_before ?l_F_least_before ?c_F_least_before ?k_F_least_before; (case a_F_least_before => k_is); (case l_F_least_before => k_is); (case c_F_least_before => k_is); (case k_F_least_before => k_is))
    (case z_F_need_with_first => refine' Ice.funG ?a_F_need_with_first ?l_F_need_with_first ?c_F_need_with_first ?k_F_need_with_first; (case a_F_need_with_first => k_is); (case l_F_need_with_first => k_is); (case c_F_need_with_first => k_is); (case k_F_need_with_first => k_is))
    (case z_F_need_of => refine' Ice.funG ?a_F_need_of ?l_F_need_of ?c_F_need_of ?k_F_need_of; (case a_F_need_of => k_is); (case l_F_need_of => k_is); (case c_F_need_of => k_is); (case k_F_need_of => k_is))
    (case z_F_needs => refine' Ice.funG ?a_F_needs ?l_F_needs ?c_F_needs ?k_F_needs; (case a_F_needs => k_is); (case l_F_needs => k_is); (case c_F_needs => k_is); (case k_F_needs => k_is))
    (case z_F_feasible_sets => refine' Ice.funG ?a_F_feasible_sets ?l_F_feasible_sets ?c_F_feasible_sets ?k_F_feasible_sets; (case a_F_feasible_sets => k_is); (case l_F_feasible_sets => k_is); (case c_F_feasible_sets => k_is); (case k_F_feasible_sets => k_is))
    (case z_F_first_greatest => refine' Ice.funG ?a_F_first_greatest ?l_F_first_greatest ?c_F_first_greatest ?k_F_first_greatest; (case a_F_first_greatest => k_is); (case l_F_first_greatest => k_is); (case c_F_first_greatest => k_is); (case k_F_first_greatest => k_is))
    (case z_F_largest_set => refine' Ice.funG ?a_F_largest_set ?l_F_largest_set ?c_F_largest_set ?k_F_largest_set; (case a_F_largest_set => k_is); (case l_F_largest_set => k_is); (case c_F_largest_set => k_is); (case k_F_largest_set => k_is))
    (case z_F_most_valuable_set => refine' Ice.funG ?a_F_most_valuable_set ?l_F_most_valuable_set ?c_F_most_valuable_set ?k_F_most_valuable_set; (case a_F_most_valuable_set => k_is); (case l_F_most_valuable_set => k_is); (case c_F_most_valuable_set => k_is); (case k_F_most_valuable_set => k_is))
    (case z_F_is_ship => refine' Ice.funG ?a_F_is_ship ?l_F_is_ship ?c_F_is_ship ?k_F_is_ship; (case a_F_is_ship => k_is); (case l_F_is_ship => k_is); (case c_F_is_ship => k_is); (case k_F_is_ship => k_is))
    (case z_F_width_before => refine' Ice.funG ?a_F_width_before ?l_F_width_before ?c_F_width_before ?k_F_width_before; (case a_F_width_before => k_is); (case l_F_width_before => k_is); (case c_F_width_before => k_is); (case k_F_width_before => k_is))
    (case z_F_can_follow => refine' Ice.funG ?a_F_can_follow ?l_F_can_follow ?c_F_can_follow ?k_F_can_follow; (case a_F_can_follow => k_is); (case l_F_can_follow => k_is); (case c_F_can_follow => k_is); (case k_F_can_follow => k_is))
    (case z_F_width_after => refine' Ice.funG ?a_F_width_after ?l_F_width_after ?c_F_width_after ?k_F_width_after; (case a_F_width_after => k_is); (case l_F_width_after => k_is); (case c_F_width_after => k_is); (case k_F_width_after => k_is))
    (case z_F_is_feasible_order => refine' Ice.funG ?a_F_is_feasible_order ?l_F_is_feasible_order ?c_F_is_feasible_order ?k_F_is_feasible_order; (case a_F_is_feasible_order => k_is); (case l_F_is_feasible_order => k_is); (case c_F_is_feasible_order => k_is); (case k_F_is_feasible_order => k_is))
    (case z_F_widths_along => refine' Ice.funG ?a_F_widths_along ?l_F_widths_along ?c_F_widths_along ?k_F_widths_along; (case a_F_widths_along => k_is); (case l_F_widths_along => k_is); (case c_F_widths_along => k_is); (case k_F_widths_along => k_is))
    (case z_F_next_in_order => refine' Ice.funG ?a_F_next_in_order ?l_F_next_in_order ?c_F_next_in_order ?k_F_next_in_order; (case a_F_next_in_order => k_is); (case l_F_next_in_order => k_is); (case c_F_next_in_order => k_is); (case k_F_next_in_order => k_is))
    (case z_F_first_order => refine' Ice.funG ?a_F_first_order ?l_F_first_order ?c_F_first_order ?k_F_first_order; (case a_F_first_order => k_is); (case l_F_first_order => k_is); (case c_F_first_order => k_is); (case k_F_first_order => k_is))
    (case z_F_widest_of => refine' Ice.funG ?a_F_widest_of ?l_F_widest_of ?c_F_widest_of ?k_F_widest_of; (case a_F_widest_of => k_is); (case l_F_widest_of => k_is); (case c_F_widest_of => k_is); (case k_F_widest_of => k_is))
    (case z_F_widest => refine' Ice.funG ?a_F_widest ?l_F_widest ?c_F_widest ?k_F_widest; (case a_F_widest => k_is); (case l_F_widest => k_is); (case c_F_widest => k_is); (case k_F_widest => k_is))
    (case z_F_is_channel => refine' Ice.funG ?a_F_is_channel ?l_F_is_channel ?c_F_is_channel ?k_F_is_channel; (case a_F_is_channel => k_is); (case l_F_is_channel => k_is); (case c_F_is_channel => k_is); (case k_F_is_channel => k_is))
    (case z_F_want_channel => refine' Ice.funG ?a_F_want_channel ?l_F_want_channel ?c_F_want_channel ?k_F_want_channel; (case a_F_want_channel => k_is); (case l_F_want_channel => k_is); (case c_F_want_channel => k_is); (case k_F_want_channel => k_is))
    (case z_F_want_closing => refine' Ice.funG ?a_F_want_closing ?l_F_want_closing ?c_F_want_closing ?k_F_want_closing; (case a_F_want_closing => k_is); (case l_F_want_closing => k_is); (case c_F_want_closing => k_is); (case k_F_want_closing => k_is))
    (case z_F_want_ship => refine' Ice.funG ?a_F_want_ship ?l_F_want_ship ?c_F_want_ship ?k_F_want_ship; (case a_F_want_ship => k_is); (case l_F_want_ship => k_is); (case c_F_want_ship => k_is); (case k_F_want_ship => k_is))
    (case z_F_want_set => refine' Ice.funG ?a_F_want_set ?l_F_want_set ?c_F_want_set ?k_F_want_set; (case a_F_want_set => k_is); (case l_F_want_set => k_is); (case c_F_want_set => k_is); (case k_F_want_set => k_is))
    (case z_F_add_ship => refine' Ice.funG ?a_F_add_ship ?l_F_add_ship ?c_F_add_ship ?k_F_add_ship; (case a_F_add_ship => k_is); (case l_F_add_ship => k_is); (case c_F_add_ship => k_is); (case k_F_add_ship => k_is))
    (case z_F_remove_ship => refine' Ice.funG ?a_F_remove_ship ?l_F_remove_ship ?c_F_remove_ship ?k_F_remove_ship; (case a_F_remove_ship => k_is); (case l_F_remove_ship => k_is); (case c_F_remove_ship => k_is); (case k_F_remove_ship => k_is))
    (case z_F_update_ship => refine' Ice.funG ?a_F_update_ship ?l_F_update_ship ?c_F_update_ship ?k_F_update_ship; (case a_F_update_ship => k_is); (case l_F_update_ship => k_is); (case c_F_update_ship => k_is); (case k_F_update_ship => k_is))
    (case z_F_set_channel_width => refine' Ice.funG ?a_F_set_channel_width ?l_F_set_channel_width ?c_F_set_channel_width ?k_F_set_channel_width; (case a_F_set_channel_width => k_is); (case l_F_set_channel_width => k_is); (case c_F_set_channel_width => k_is); (case k_F_set_channel_width => k_is))
    (case z_F_set_closing => refine' Ice.funG ?a_F_set_closing ?l_F_set_closing ?c_F_set_closing ?k_F_set_closing; (case a_F_set_closing => k_is); (case l_F_set_closing => k_is); (case c_F_set_closing => k_is); (case k_F_set_closing => k_is))
    (case z_F_append_to_convoy => refine' Ice.funG ?a_F_append_to_convoy ?l_F_append_to_convoy ?c_F_append_to_convoy ?k_F_append_to_convoy; (case a_F_append_to_convoy => k_is); (case l_F_append_to_convoy => k_is); (case c_F_append_to_convoy => k_is); (case k_F_append_to_convoy => k_is))
    (case z_F_remove_last_from_convoy => refine' Ice.funG ?a_F_remove_last_from_convoy ?l_F_remove_last_from_convoy ?c_F_remove_last_from_convoy ?k_F_remove_last_from_convoy; (case a_F_remove_last_from_convoy => k_is); (case l_F_remove_last_from_convoy => k_is); (case c_F_remove_last_from_convoy => k_is); (case k_F_remove_last_from_convoy => k_is))
    (case z_F_clear_convoy => refine' Ice.funG ?a_F_clear_convoy ?l_F_clear_convoy ?c_F_clear_convoy ?k_F_clear_convoy; (case a_F_clear_convoy => k_is); (case l_F_clear_convoy => k_is); (case c_F_clear_convoy => k_is); (case k_F_clear_convoy => k_is))
    (case z_F_form_largest_convoy => refine' Ice.funG ?a_F_form_largest_convoy ?l_F_form_largest_convoy ?c_F_form_largest_convoy ?k_F_form_largest_convoy; (case a_F_form_largest_convoy => k_is); (case l_F_form_largest_convoy => k_is); (case c_F_form_largest_convoy => k_is); (case k_F_form_largest_convoy => k_is))
    (case z_F_form_most_valuable_convoy => refine' Ice.funG ?a_F_form_most_valuable_convoy ?l_F_form_most_valuable_convoy ?c_F_form_most_valuable_convoy ?k_F_form_most_valuable_convoy; (case a_F_form_most_valuable_convoy => k_is); (case l_F_form_most_valuable_convoy => k_is); (case c_F_form_most_valuable_convoy => k_is); (case k_F_form_most_valuable_convoy => k_is))
    (case z_F_counted => refine' Ice.funG ?a_F_counted ?l_F_counted ?c_F_counted ?k_F_counted; (case a_F_counted => k_is); (case l_F_counted => k_is); (case c_F_counted => k_is); (case k_F_counted => k_is))
    (case z_F_list_ships => refine' Ice.funG ?a_F_list_ships ?l_F_list_ships ?c_F_list_ships ?k_F_list_ships; (case a_F_list_ships => k_is); (case l_F_list_ships => k_is); (case c_F_list_ships => k_is); (case k_F_list_ships => k_is))
    (case z_F_get_convoy => refine' Ice.funG ?a_F_get_convoy ?l_F_get_convoy ?c_F_get_convoy ?k_F_get_convoy; (case a_F_get_convoy => k_is); (case l_F_get_convoy => k_is); (case c_F_get_convoy => k_is); (case k_F_get_convoy => k_is))
    (case z_F_convoy_widths => refine' Ice.funG ?a_F_convoy_widths ?l_F_convoy_widths ?c_F_convoy_widths ?k_F_convoy_widths; (case a_F_convoy_widths => k_is); (case l_F_convoy_widths => k_is); (case c_F_convoy_widths => k_is); (case k_F_convoy_widths => k_is))
    (case z_F_next_candidates => refine' Ice.funG ?a_F_next_candidates ?l_F_next_candidates ?c_F_next_candidates ?k_F_next_candidates; (case a_F_next_candidates => k_is); (case l_F_next_candidates => k_is); (case c_F_next_candidates => k_is); (case k_F_next_candidates => k_is))
    (case z_F_need_of_set => refine' Ice.funG ?a_F_need_of_set ?l_F_need_of_set ?c_F_need_of_set ?k_F_need_of_set; (case a_F_need_of_set => k_is); (case l_F_need_of_set => k_is); (case c_F_need_of_set => k_is); (case k_F_need_of_set => k_is))
    (case z_F_is_feasible => refine' Ice.funG ?a_F_is_feasible ?l_F_is_feasible ?c_F_is_feasible ?k_F_is_feasible; (case a_F_is_feasible => k_is); (case l_F_is_feasible => k_is); (case c_F_is_feasible => k_is); (case k_F_is_feasible => k_is))
    (case z_F_want_feasible => refine' Ice.funG ?a_F_want_feasible ?l_F_want_feasible ?c_F_want_feasible ?k_F_want_feasible; (case a_F_want_feasible => k_is); (case l_F_want_feasible => k_is); (case c_F_want_feasible => k_is); (case k_F_want_feasible => k_is))
    (case z_F_find_order => refine' Ice.funG ?a_F_find_order ?l_F_find_order ?c_F_find_order ?k_F_find_order; (case a_F_find_order => k_is); (case l_F_find_order => k_is); (case c_F_find_order => k_is); (case k_F_find_order => k_is))
    (case z_F_max_final_width => refine' Ice.funG ?a_F_max_final_width ?l_F_max_final_width ?c_F_max_final_width ?k_F_max_final_width; (case a_F_max_final_width => k_is); (case l_F_max_final_width => k_is); (case c_F_max_final_width => k_is); (case k_F_max_final_width => k_is))
    (case z_F_largest_feasible_set => refine' Ice.funG ?a_F_largest_feasible_set ?l_F_largest_feasible_set ?c_F_largest_feasible_set ?k_F_largest_feasible_set; (case a_F_largest_feasible_set => k_is); (case l_F_largest_feasible_set => k_is); (case c_F_largest_feasible_set => k_is); (case k_F_largest_feasible_set => k_is))
    (case z_F_most_valuable_feasible_set => refine' Ice.funG ?a_F_most_valuable_feasible_set ?l_F_most_valuable_feasible_set ?c_F_most_valuable_feasible_set ?k_F_most_valuable_feasible_set; (case a_F_most_valuable_feasible_set => k_is); (case l_F_most_valuable_feasible_set => k_is); (case c_F_most_valuable_feasible_set => k_is); (case k_F_most_valuable_feasible_set => k_is))
    (case z_F_min_channel_width => refine' Ice.funG ?a_F_min_channel_width ?l_F_min_channel_width ?c_F_min_channel_width ?k_F_min_channel_width; (case a_F_min_channel_width => k_is); (case l_F_min_channel_width => k_is); (case c_F_min_channel_width => k_is); (case k_F_min_channel_width => k_is))
    (case z_F_largest_size => refine' Ice.funG ?a_F_largest_size ?l_F_largest_size ?c_F_largest_size ?k_F_largest_size; (case a_F_largest_size => k_is); (case l_F_largest_size => k_is); (case c_F_largest_size => k_is); (case k_F_largest_size => k_is))
    (case z_F_largest_size_with_channel_width => refine' Ice.funG ?a_F_largest_size_with_channel_width ?l_F_largest_size_with_channel_width ?c_F_largest_size_with_channel_width ?k_F_largest_size_with_channel_width; (case a_F_largest_size_with_channel_width => k_is); (case l_F_largest_size_with_channel_width => k_is); (case c_F_largest_size_with_channel_width => k_is); (case k_F_largest_size_with_channel_width => k_is))
    (case z_F_largest_size_with_closing => refine' Ice.funG ?a_F_largest_size_with_closing ?l_F_largest_size_with_closing ?c_F_largest_size_with_closing ?k_F_largest_size_with_closing; (case a_F_largest_size_with_closing => k_is); (case l_F_largest_size_with_closing => k_is); (case c_F_largest_size_with_closing => k_is); (case k_F_largest_size_with_closing => k_is))
    (case z_F_largest_size_without_ship => refine' Ice.funG ?a_F_largest_size_without_ship ?l_F_largest_size_without_ship ?c_F_largest_size_without_ship ?k_F_largest_size_without_ship; (case a_F_largest_size_without_ship => k_is); (case l_F_largest_size_without_ship => k_is); (case c_F_largest_size_without_ship => k_is); (case k_F_largest_size_without_ship => k_is))
    (case z_F_leads => refine' Ice.funG ?a_F_leads ?l_F_leads ?c_F_leads ?k_F_leads; (case a_F_leads => k_is); (case l_F_leads => k_is); (case c_F_leads => k_is); (case k_F_leads => k_is))
    (case z_F_compare_pair => refine' Ice.funG ?a_F_compare_pair ?l_F_compare_pair ?c_F_compare_pair ?k_F_compare_pair; (case a_F_compare_pair => k_is); (case l_F_compare_pair => k_is); (case c_F_compare_pair => k_is); (case k_F_compare_pair => k_is))
    (case z_F_summary => refine' Ice.funG ?a_F_summary ?l_F_summary ?c_F_summary ?k_F_summary; (case a_F_summary => k_is); (case l_F_summary => k_is); (case c_F_summary => k_is); (case k_F_summary => k_is))
    (case z_F_Ship_described => refine' Ice.funM ?a_F_Ship_described ?i_F_Ship_described ?l_F_Ship_described ?c_F_Ship_described ?k_F_Ship_described; (case a_F_Ship_described => k_is); (case i_F_Ship_described => k_is); (case l_F_Ship_described => k_is); (case c_F_Ship_described => k_is); (case k_F_Ship_described => k_is))
    (case z_F_Planner_start => refine' Ice.funM ?a_F_Planner_start ?i_F_Planner_start ?l_F_Planner_start ?c_F_Planner_start ?k_F_Planner_start; (case a_F_Planner_start => k_is); (case i_F_Planner_start => k_is); (case l_F_Planner_start => k_is); (case c_F_Planner_start => k_is); (case k_F_Planner_start => k_is))
    (case z_F_Planner_widths => refine' Ice.funM ?a_F_Planner_widths ?i_F_Planner_widths ?l_F_Planner_widths ?c_F_Planner_widths ?k_F_Planner_widths; (case a_F_Planner_widths => k_is); (case i_F_Planner_widths => k_is); (case l_F_Planner_widths => k_is); (case c_F_Planner_widths => k_is); (case k_F_Planner_widths => k_is))
    (case z_F_Planner_last_width => refine' Ice.funM ?a_F_Planner_last_width ?i_F_Planner_last_width ?l_F_Planner_last_width ?c_F_Planner_last_width ?k_F_Planner_last_width; (case a_F_Planner_last_width => k_is); (case i_F_Planner_last_width => k_is); (case l_F_Planner_last_width => k_is); (case c_F_Planner_last_width => k_is); (case k_F_Planner_last_width => k_is))
    (case z_F_Planner_is_next => refine' Ice.funM ?a_F_Planner_is_next ?i_F_Planner_is_next ?l_F_Planner_is_next ?c_F_Planner_is_next ?k_F_Planner_is_next; (case a_F_Planner_is_next => k_is); (case i_F_Planner_is_next => k_is); (case l_F_Planner_is_next => k_is); (case c_F_Planner_is_next => k_is); (case k_F_Planner_is_next => k_is))
    (case z_F_Desk_create => refine' Ice.funM ?a_F_Desk_create ?i_F_Desk_create ?l_F_Desk_create ?c_F_Desk_create ?k_F_Desk_create; (case a_F_Desk_create => k_is); (case i_F_Desk_create => k_is); (case l_F_Desk_create => k_is); (case c_F_Desk_create => k_is); (case k_F_Desk_create => k_is))
    (case z_F_Desk_performed => refine' Ice.funM ?a_F_Desk_performed ?i_F_Desk_performed ?l_F_Desk_performed ?c_F_Desk_performed ?k_F_Desk_performed; (case a_F_Desk_performed => k_is); (case i_F_Desk_performed => k_is); (case l_F_Desk_performed => k_is); (case c_F_Desk_performed => k_is); (case k_F_Desk_performed => k_is))
    (case z_F_Desk_answer => refine' Ice.funM ?a_F_Desk_answer ?i_F_Desk_answer ?l_F_Desk_answer ?c_F_Desk_answer ?k_F_Desk_answer; (case a_F_Desk_answer => k_is); (case i_F_Desk_answer => k_is); (case l_F_Desk_answer => k_is); (case c_F_Desk_answer => k_is); (case k_F_Desk_answer => k_is))
    (case z_F_Ship_init => refine' Ice.funM ?a_F_Ship_init ?i_F_Ship_init ?l_F_Ship_init ?c_F_Ship_init ?k_F_Ship_init; (case a_F_Ship_init => k_is); (case i_F_Ship_init => k_is); (case l_F_Ship_init => k_is); (case c_F_Ship_init => k_is); (case k_F_Ship_init => k_is))
    (case z_F_Planner_init => refine' Ice.funM ?a_F_Planner_init ?i_F_Planner_init ?l_F_Planner_init ?c_F_Planner_init ?k_F_Planner_init; (case a_F_Planner_init => k_is); (case i_F_Planner_init => k_is); (case l_F_Planner_init => k_is); (case c_F_Planner_init => k_is); (case k_F_Planner_init => k_is))
    (case z_F_Desk_init => refine' Ice.funM ?a_F_Desk_init ?i_F_Desk_init ?l_F_Desk_init ?c_F_Desk_init ?k_F_Desk_init; (case a_F_Desk_init => k_is); (case i_F_Desk_init => k_is); (case l_F_Desk_init => k_is); (case c_F_Desk_init => k_is); (case k_F_Desk_init => k_is))
    (case z_pN => decide +kernel)
    (case z_wN => decide +kernel)
    (case z_pO => decide +kernel)
    (case z_wO => decide +kernel)
    (case z_a3 => k_is)
    (case z_l3 => k_is)
    (case z_c3 => k_is)
    (case z_k3 => k_is)
  case S =>
    intro K H xs a hO hwi hask hx
    cases hx with
    | cons h1 h2 =>
      cases h2
      cases h1 with
      | lst hs ha =>
        have e := L2.ints_dw a.1 _ ha
        subst e
        have q : ((Codec.inLen 0 200 a.1 && a.1.all (Codec.inInt 0 4294967295)) && true) = true := hwi
        rw [Bool.and_eq_true, Bool.and_eq_true] at q
        have hlo : ∀ x ∈ a.1, 0 ≤ x := fun x hx => by
          have := List.all_eq_true.mp q.1.2 x hx
          unfold Codec.inInt at this
          simp only [Bool.and_eq_true, decide_eq_true_eq] at this
          exact this.1
        exact ⟨_, a.1, rfl, hs, hlo, (Codec.inNat_iff.mp q.1.1).2, hask, fun H' p hp => .lst (L2.SqL.of hp) (L2.dw_ints _)⟩
#print axioms PySem.Challenge.cw_icelane_s01_answers_holds
