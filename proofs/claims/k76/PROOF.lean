import PyProof.Rows.All
import Wide.All
import OpenK.AllK
import Wide.FinOn
import KE.KStateDown
import KE.SortData
import Lean
import HandS.Base
import HandS.Call
import HandS.Ends
import HandS.More
import HandS.Words
import HandS.Codes
import HandS.Evl
import HandS.Star
import HandS.DictComp
import HandS.Deep
import HandS.Comp
import HandS.Iter
import HandS.OwnEq
import HandS.FStr
import HandS.Strs
import HandS.Set
import HandS.SetFor
import HandS.IsInst
import HandS.SortInts
import HandS.Dict
import HandS.Text
import HandS.HeadHook1
import HandS.SetKeys
import HandS.Remove
import PySem.Challenge.RW_suitedpairs_k76_whole_fewest_leads_there
import KE.Datum
import PyProof.StrOps2
import KE.KDictZip
import HandS.ListItems
import PyProof.CollectWalk
import HandS.HeadEnd
import PyProof.ReprRoads
import PyProof.ReprLen
import OpenK.KOps
import PyProof.P3Eq
import PyProof.Rows.ReprOcc
import HandS.Head0
import HandS.Head1
import HandS.Head2
import HandS.HeadHook2
set_option linter.all false
/-! Plain mathematics of law k76: lines, rows, kept persons, stuck persons. No program in sight. -/
namespace K76
section
variable {α : Type} [DecidableEq α]

/-! ### picking places -/
def pick (line : List α) (ps : List Nat) : List α := ps.filterMap (fun p => line[p]?)
theorem pick_nil (line : List α) : pick line [] = [] := rfl
theorem pick_cons {line : List α} {p : Nat} {x : α} {ps : List Nat} (h : line[p]? = some x) : pick line (p :: ps) = x :: pick line ps := by
  unfold pick
  rw [List.filterMap_cons, h]
theorem pick_append (line : List α) (a b : List Nat) : pick line (a ++ b) = pick line a ++ pick line b := by
  unfold pick
  rw [List.filterMap_append]
theorem pick_length {line : List α} : ∀ {ps : List Nat}, (∀ p ∈ ps, p < line.length) → (pick line ps).length = ps.length
  | [], _ => rfl
  | p :: ps, h => by
    rw [pick_cons (List.getElem?_eq_getElem (h p List.mem_cons_self)), List.length_cons, List.length_cons, pick_length fun q hq => h q (List.mem_cons_of_mem _ hq)]

/-! ### the kept persons -/
/-- of each kind the last persons, as many as w holds; b: the place of the line's first one -/
def sel (w : List α) : Nat → List α → List Nat
  | _, [] => []
  | b, x :: r => if r.count x < w.count x then b :: sel w (b + 1) r else sel w (b + 1) r
theorem sel_ge {w : List α} : ∀ {l : List α} {b p : Nat}, p ∈ sel w b l → b ≤ p ∧ p < b + l.length
  | [], _, _, h => absurd h List.not_mem_nil
  | x :: r, b, p, h => by
    unfold sel at h
    have ih : p ∈ sel w (b + 1) r → b ≤ p ∧ p < b + (x :: r).length := fun z => by
      have := sel_ge z
      rw [List.length_cons]
      omega
    split at h
    · rcases List.mem_cons.mp h with e | e
      · rw [e, List.length_cons]
        omega
      · exact ih e
    · exact ih h
theorem sel_sorted {w : List α} : ∀ {l : List α} {b : Nat}, (sel w b l).Pairwise (· < ·)
  | [], _ => List.Pairwise.nil
  | x :: r, b => by
    unfold sel
    split
    · refine List.Pairwise.cons (fun p hp => ?_) sel_sorted
      have := sel_ge hp
      omega
    · exact sel_sorted
/-- p is kept iff there are fewer of its kind behind it than wanted -/
theorem sel_mem {w : List α} : ∀ {l : List α} {b p : Nat}, p ∈ sel w b l ↔ ∃ i x, p = b + i ∧ l[i]? = some x ∧ (l.drop (i + 1)).count x < w.count x
  | [], b, p => by
    constructor
    · intro h
      exact absurd h List.not_mem_nil
    · rintro ⟨i, x, _, h, _⟩
      rw [List.getElem?_nil] at h
      cases h
  | y :: r, b, p => by
    have ih := @sel_mem w r (b + 1) p
    constructor
    · intro h
      unfold sel at h
      have go : p ∈ sel w (b + 1) r → ∃ i x, p = b + i ∧ (y :: r)[i]? = some x ∧ ((y :: r).drop (i + 1)).count x < w.count x := fun z => by
        obtain ⟨i, x, e, h1, h2⟩ := ih.mp z
        exact ⟨i + 1, x, by omega, by rw [List.getElem?_cons_succ]; exact h1, by rw [List.drop_succ_cons]; exact h2⟩
      split at h
      · rename_i hc
        rcases List.mem_cons.mp h with e | e
        · exact ⟨0, y, by omega, List.getElem?_cons_zero, by rw [List.drop_succ_cons, List.drop_zero]; exact hc⟩
        · exact go e
      · exact go h
    · rintro ⟨i, x, e, h1, h2⟩
      unfold sel
      cases i with
      | zero =>
        rw [List.getElem?_cons_zero] at h1
        cases h1
        rw [List.drop_succ_cons, List.drop_zero] at h2
        rw [if_pos h2]
        exact List.mem_cons.mpr (.inl (by omega))
      | succ i =>
        rw [List.getElem?_cons_succ] at h1
        rw [List.drop_succ_cons] at h2
        have z := ih.mpr ⟨i, x, by omega, h1, h2⟩
        split
        · exact List.mem_cons_of_mem _ z
        · exact z

/-- one turn of the search from the end -/
def keptStep (line : List α) (s : List α × List Nat) (p : Nat) : List α × List Nat :=
  match line[p]? with
  | some x => if x ∈ s.1 then (s.1.erase x, p :: s.2) else s
  | none => s
/-- behind t turns -/
def keptTo (line w : List α) : Nat → List α × List Nat
  | 0 => (w, [])
  | t + 1 => keptStep line (keptTo line w t) (line.length - 1 - t)
def keptM (line goal : List α) (m : Nat) : Option (List Nat) :=
  if (keptTo line (goal.take m) line.length).1 = [] ∧ pick line (keptTo line (goal.take m) line.length).2 = goal.take m then some (keptTo line (goal.take m) line.length).2 else none

theorem count_drop_pred {line : List α} {p : Nat} {x : α} (h : line[p]? = some x) (y : α) : (line.drop p).count y = (line.drop (p + 1)).count y + if x = y then 1 else 0 := by
  obtain ⟨hp, e⟩ := List.getElem?_eq_some_iff.mp h
  rw [List.drop_eq_getElem_cons hp, List.count_cons, e]
  by_cases q : x = y
  · simp [q]
  · simp [q]
/-- what stands behind t turns -/
theorem keptTo_ok (line w : List α) : ∀ t, t ≤ line.length → (∀ y, (keptTo line w t).1.count y = w.count y - (line.drop (line.length - t)).count y) ∧ (keptTo line w t).2 = sel w (line.length - t) (line.drop (line.length - t))
  | 0, _ => by
    rw [Nat.sub_zero, List.drop_length]
    exact ⟨fun y => by simp [keptTo], rfl⟩
  | t + 1, h => by
    obtain ⟨h1, h2⟩ := keptTo_ok line w t (by omega)
    have hp : line.length - (t + 1) < line.length := by omega
    have ep : line.length - 1 - t = line.length - (t + 1) := by omega
    have es : line.length - t = line.length - (t + 1) + 1 := by omega
    obtain ⟨x, hx⟩ : ∃ x, line[line.length - (t + 1)]? = some x := ⟨_, List.getElem?_eq_getElem hp⟩
    have hd : line.drop (line.length - (t + 1)) = x :: line.drop (line.length - (t + 1) + 1) := by
      obtain ⟨hp', e⟩ := List.getElem?_eq_some_iff.mp hx
      rw [List.drop_eq_getElem_cons hp', e]
    rw [es] at h1 h2
    have hm : x ∈ (keptTo line w t).1 ↔ (line.drop (line.length - (t + 1) + 1)).count x < w.count x := by
      rw [← List.count_pos_iff, h1 x]
      omega
    show (∀ y, (keptStep line (keptTo line w t) (line.length - 1 - t)).1.count y = _) ∧ (keptStep line (keptTo line w t) (line.length - 1 - t)).2 = _
    rw [ep]
    unfold keptStep
    rw [hx]
    simp only
    by_cases c : x ∈ (keptTo line w t).1
    · rw [if_pos c]
      refine ⟨fun y => ?_, ?_⟩
      · show ((keptTo line w t).1.erase x).count y = _
        rw [List.count_erase, h1 y, hd, List.count_cons]
        by_cases q : x = y
        · subst q
          simp
          omega
        · have q' : (x == y) = false := by simp [q]
          rw [q']
          simp
      · show (_ :: (keptTo line w t).2) = _
        rw [h2, hd]
        show _ = (if _ then _ else _)
        rw [if_pos (hm.mp c)]
    · rw [if_neg c]
      have c' := (not_congr hm).mp c
      refine ⟨fun y => ?_, ?_⟩
      · show ((keptTo line w t).1).count y = _
        rw [h1 y, hd, List.count_cons]
        by_cases q : x = y
        · subst q
          simp
          omega
        · have q' : (x == y) = false := by simp [q]
          rw [q']
          simp
      · show (keptTo line w t).2 = _
        rw [h2, hd]
        show _ = (if _ then _ else _)
        rw [if_neg c']
theorem kept_found (line w : List α) : (keptTo line w line.length).2 = sel w 0 line := by
  have h := (keptTo_ok line w line.length (Nat.le_refl _)).2
  rw [Nat.sub_self, List.drop_zero] at h
  exact h
theorem kept_wanted (line w : List α) : (keptTo line w line.length).1 = [] ↔ ∀ y, w.count y ≤ line.count y := by
  have h := (keptTo_ok line w line.length (Nat.le_refl _)).1
  rw [Nat.sub_self, List.drop_zero] at h
  constructor
  · intro e y
    have := h y
    rw [e, List.count_nil] at this
    omega
  · intro e
    cases q : (keptTo line w line.length).1 with
    | nil => rfl
    | cons x r =>
      have := h x
      rw [q, List.count_cons_self] at this
      have := e x
      omega
/-- the kept persons, in one sentence -/
theorem keptM_yes {line goal : List α} {m : Nat} (h1 : ∀ y, (goal.take m).count y ≤ line.count y) (h2 : pick line (sel (goal.take m) 0 line) = goal.take m) : keptM line goal m = some (sel (goal.take m) 0 line) := by
  unfold keptM
  rw [kept_found, if_pos ⟨(kept_wanted line _).mpr h1, h2⟩]
theorem keptM_no1 {line goal : List α} {m : Nat} {y : α} (h : line.count y < (goal.take m).count y) : keptM line goal m = none := by
  unfold keptM
  rw [if_neg fun q => ?_]
  have := (kept_wanted line _).mp q.1 y
  omega
theorem keptM_no2 {line goal : List α} {m : Nat} (h : ¬ pick line (sel (goal.take m) 0 line) = goal.take m) : keptM line goal m = none := by
  unfold keptM
  rw [kept_found, if_neg fun q => h q.2]
theorem keptM_some {line goal : List α} {m : Nat} {K : List Nat} (h : keptM line goal m = some K) : K = sel (goal.take m) 0 line ∧ pick line K = goal.take m := by
  unfold keptM at h
  rw [kept_found] at h
  split at h
  · rename_i c
    cases h
    exact ⟨rfl, c.2⟩
  · cases h
theorem keptM_lt {line goal : List α} {m : Nat} {K : List Nat} (h : keptM line goal m = some K) : ∀ p ∈ K, p < line.length := fun p hp => by
  rw [(keptM_some h).1] at hp
  have := sel_ge hp
  omega
theorem keptM_sorted {line goal : List α} {m : Nat} {K : List Nat} (h : keptM line goal m = some K) : K.Pairwise (· < ·) := by
  rw [(keptM_some h).1]
  exact sel_sorted
theorem keptM_length {line goal : List α} {m : Nat} {K : List Nat} (h : keptM line goal m = some K) (hm : m ≤ goal.length) : K.length = m := by
  have h1 := pick_length (keptM_lt h)
  rw [(keptM_some h).2, List.length_take] at h1
  omega
theorem keptM_take {line goal : List α} {m : Nat} {K : List Nat} (h : keptM line goal m = some K) : pick line K = goal.take m := (keptM_some h).2

/-! ### the law's own search: the last persons of each kind -/
/-- the places of a kind -/
def placesOf (line : List α) (k : α) : List Nat := (List.range line.length).filter fun p => decide (line[p]? = some k)
def lastOf (line : List α) (k : α) (n : Nat) : List Nat := (placesOf line k).drop ((placesOf line k).length - n)
def posFrom (k : α) : Nat → List α → List Nat
  | _, [] => []
  | b, x :: r => if x = k then b :: posFrom k (b + 1) r else posFrom k (b + 1) r
theorem posFrom_range (k : α) : ∀ (l : List α) (b : Nat), ((List.range' b l.length).filter fun p => decide (l[p - b]? = some k)) = posFrom k b l
  | [], _ => rfl
  | x :: r, b => by
    have e : (List.range' (b + 1) r.length).filter (fun p => decide ((x :: r)[p - b]? = some k)) = posFrom k (b + 1) r := by
      rw [← posFrom_range k r (b + 1)]
      refine List.filter_congr fun p hp => ?_
      have hb : b + 1 ≤ p := (List.mem_range'_1.mp hp).1
      have e1 : p - b = (p - (b + 1)) + 1 := by omega
      rw [e1, List.getElem?_cons_succ]
    rw [List.length_cons, List.range'_succ, List.filter_cons, e]
    show _ = (if x = k then b :: posFrom k (b + 1) r else posFrom k (b + 1) r)
    rw [Nat.sub_self, List.getElem?_cons_zero]
    by_cases q : x = k
    · simp [q]
    · simp [q]
theorem placesOf_eq (line : List α) (k : α) : placesOf line k = posFrom k 0 line := by
  have h := posFrom_range k line 0
  unfold placesOf
  rw [List.range_eq_range', ← h]
  rfl
theorem posFrom_length (k : α) : ∀ (l : List α) (b : Nat), (posFrom k b l).length = l.count k
  | [], _ => rfl
  | x :: r, b => by
    show (if x = k then b :: posFrom k (b + 1) r else posFrom k (b + 1) r).length = _
    rw [List.count_cons]
    by_cases q : x = k
    · rw [if_pos q, List.length_cons, posFrom_length k r]
      simp [q]
    · rw [if_neg q, posFrom_length k r]
      simp [q]
theorem placesOf_length (line : List α) (k : α) : (placesOf line k).length = line.count k := by
  rw [placesOf_eq, posFrom_length]
theorem posFrom_ge (k : α) : ∀ {l : List α} {b p : Nat}, p ∈ posFrom k b l → b ≤ p
  | [], _, _, h => absurd h List.not_mem_nil
  | x :: r, b, p, h => by
    have h : p ∈ (if x = k then b :: posFrom k (b + 1) r else posFrom k (b + 1) r) := h
    have ih : p ∈ posFrom k (b + 1) r → b ≤ p := fun z => by
      have := posFrom_ge k z
      omega
    split at h
    · rcases List.mem_cons.mp h with e | e
      · omega
      · exact ih e
    · exact ih h
theorem posFrom_sorted (k : α) : ∀ (l : List α) (b : Nat), (posFrom k b l).Pairwise (· < ·)
  | [], _ => List.Pairwise.nil
  | x :: r, b => by
    show (if x = k then b :: posFrom k (b + 1) r else posFrom k (b + 1) r).Pairwise _
    split
    · exact List.Pairwise.cons (fun p hp => by have := posFrom_ge k hp; omega) (posFrom_sorted k r _)
    · exact posFrom_sorted k r _
/-- the last n places of a kind: those with fewer than n of the kind behind them -/
theorem posFrom_last (k : α) (n : Nat) : ∀ (l : List α) (b p : Nat), p ∈ (posFrom k b l).drop ((posFrom k b l).length - n) ↔ ∃ i, p = b + i ∧ l[i]? = some k ∧ (l.drop (i + 1)).count k < n
  | [], b, p => by
    constructor
    · intro h
      rw [show posFrom k b ([] : List α) = [] from rfl, List.drop_nil] at h
      exact absurd h List.not_mem_nil
    · rintro ⟨i, _, h, _⟩
      rw [List.getElem?_nil] at h
      cases h
  | x :: r, b, p => by
    have ih := posFrom_last k n r (b + 1) p
    have up : (∃ i, p = b + 1 + i ∧ r[i]? = some k ∧ (r.drop (i + 1)).count k < n) → ∃ i, p = b + i ∧ (x :: r)[i]? = some k ∧ ((x :: r).drop (i + 1)).count k < n := fun ⟨i, e, h1, h2⟩ =>
      ⟨i + 1, by omega, by rw [List.getElem?_cons_succ]; exact h1, by rw [List.drop_succ_cons]; exact h2⟩
    have hl := posFrom_length k r (b + 1)
    by_cases q : x = k
    · have e0 : posFrom k b (x :: r) = b :: posFrom k (b + 1) r := if_pos q
      rw [e0, List.length_cons]
      by_cases c : (posFrom k (b + 1) r).length < n
      · have e1 : (posFrom k (b + 1) r).length + 1 - n = 0 := by omega
        have e2 : (posFrom k (b + 1) r).length - n = 0 := by omega
        rw [e2, List.drop_zero] at ih
        rw [e1, List.drop_zero]
        constructor
        · intro h
          rcases List.mem_cons.mp h with e | e
          · exact ⟨0, by omega, by rw [List.getElem?_cons_zero, q], by rw [List.drop_succ_cons, List.drop_zero]; omega⟩
          · exact up (ih.mp e)
        · rintro ⟨i, e, h1, h2⟩
          cases i with
          | zero => exact List.mem_cons.mpr (.inl (by omega))
          | succ i =>
            rw [List.getElem?_cons_succ] at h1
            rw [List.drop_succ_cons] at h2
            exact List.mem_cons_of_mem _ (ih.mpr ⟨i, by omega, h1, h2⟩)
      · have e1 : (posFrom k (b + 1) r).length + 1 - n = ((posFrom k (b + 1) r).length - n) + 1 := by omega
        rw [e1, List.drop_succ_cons, ih]
        constructor
        · exact up
        · rintro ⟨i, e, h1, h2⟩
          cases i with
          | zero =>
            rw [List.drop_succ_cons, List.drop_zero] at h2
            omega
          | succ i =>
            rw [List.getElem?_cons_succ] at h1
            rw [List.drop_succ_cons] at h2
            exact ⟨i, by omega, h1, h2⟩
    · have e0 : posFrom k b (x :: r) = posFrom k (b + 1) r := if_neg q
      rw [e0, ih]
      constructor
      · exact up
      · rintro ⟨i, e, h1, h2⟩
        cases i with
        | zero =>
          rw [List.getElem?_cons_zero] at h1
          exact absurd (Option.some.inj h1) q
        | succ i =>
          rw [List.getElem?_cons_succ] at h1
          rw [List.drop_succ_cons] at h2
          exact ⟨i, by omega, h1, h2⟩
theorem lastOf_mem {line : List α} {k : α} {n p : Nat} : p ∈ lastOf line k n ↔ line[p]? = some k ∧ (line.drop (p + 1)).count k < n := by
  unfold lastOf
  rw [placesOf_eq, posFrom_last]
  constructor
  · rintro ⟨i, e, h1, h2⟩
    rw [show p = i by omega]
    exact ⟨h1, h2⟩
  · rintro ⟨h1, h2⟩
    exact ⟨p, by omega, h1, h2⟩
theorem lastOf_sorted {line : List α} {k : α} {n : Nat} : (lastOf line k n).Pairwise (· < ·) := by
  unfold lastOf
  rw [placesOf_eq]
  exact (posFrom_sorted k line 0).sublist (List.drop_sublist _ _)
/-- two ascending lists with the same members are one -/
theorem asc_eq : ∀ {a b : List Nat}, a.Pairwise (· < ·) → b.Pairwise (· < ·) → (∀ p, p ∈ a ↔ p ∈ b) → a = b
  | [], [], _, _, _ => rfl
  | [], y :: b, _, _, h => absurd ((h y).mpr List.mem_cons_self) List.not_mem_nil
  | x :: a, [], _, _, h => absurd ((h x).mp List.mem_cons_self) List.not_mem_nil
  | x :: a, y :: b, ha, hb, h => by
    obtain ⟨ha1, ha2⟩ := List.pairwise_cons.mp ha
    obtain ⟨hb1, hb2⟩ := List.pairwise_cons.mp hb
    have e : x = y := by
      rcases List.mem_cons.mp ((h x).mp List.mem_cons_self) with q | q
      · exact q
      · rcases List.mem_cons.mp ((h y).mpr List.mem_cons_self) with r | r
        · exact r.symm
        · have := hb1 x q
          have := ha1 y r
          omega
    subst e
    rw [asc_eq ha2 hb2 fun p => ?_]
    constructor
    · intro hp
      rcases List.mem_cons.mp ((h p).mp (List.mem_cons_of_mem _ hp)) with q | q
      · have := ha1 p hp
        omega
      · exact q
    · intro hp
      rcases List.mem_cons.mp ((h p).mpr (List.mem_cons_of_mem _ hp)) with q | q
      · have := hb1 p hp
        omega
      · exact q
/-- the law's list, sorted, is the program's -/
theorem law_kept {line w : List α} {us : List α} {s : List Nat} (hu : us.Nodup) (hw : ∀ k ∈ w, k ∈ us) (hp : s.Perm (us.flatMap fun k => lastOf line k (w.count k))) (hs : s.Pairwise (· ≤ ·)) : s = sel w 0 line := by
  have nd : (us.flatMap fun k => lastOf line k (w.count k)).Nodup := by
    unfold List.Nodup
    rw [List.pairwise_flatMap]
    refine ⟨fun k _ => lastOf_sorted.imp fun h => Nat.ne_of_lt h, ?_⟩
    refine List.Pairwise.imp ?_ hu
    intro a b hab x hx y hy e
    subst e
    have h1 := (lastOf_mem.mp hx).1
    have h2 := (lastOf_mem.mp hy).1
    rw [h1] at h2
    exact hab (Option.some.inj h2)
  have nds : s.Nodup := hp.nodup_iff.mpr nd
  have asc : s.Pairwise (· < ·) := by
    refine (hs.and nds).imp fun {a b} h => ?_
    have h1 := h.1
    have h2 := h.2
    omega
  refine asc_eq asc sel_sorted fun p => ?_
  rw [hp.mem_iff, List.mem_flatMap, sel_mem]
  constructor
  · rintro ⟨k, _, hk⟩
    obtain ⟨h1, h2⟩ := lastOf_mem.mp hk
    exact ⟨p, k, by omega, h1, h2⟩
  · rintro ⟨i, x, e, h1, h2⟩
    have e' : p = i := by omega
    subst e'
    exact ⟨x, hw x (List.count_pos_iff.mp (by omega)), lastOf_mem.mpr ⟨h1, h2⟩⟩

/-! ### whom newcomers make leave -/
/-- one turn of leave: row, stuck, barred -/
def leaveStep (mt : α → List α) (K : List Nat) (s : List α × List Nat × List α) (p : Nat) (x : α) : List α × List Nat × List α :=
  let free := (mt x).filter fun m => decide (m ∉ s.2.2)
  match free with
  | m :: _ => if p ∉ K then (s.1 ++ [m], s.2.1, s.2.2) else (s.1, s.2.1, s.2.2 ++ free)
  | [] => (s.1, if p ∉ K then s.2.1 ++ [p] else s.2.1, s.2.2 ++ free)
def leaveTo (mt : α → List α) (line : List α) (K : List Nat) : Nat → List α × List Nat × List α
  | 0 => ([], [], [])
  | n + 1 => match line[n]? with
    | some x => leaveStep mt K (leaveTo mt line K n) n x
    | none => leaveTo mt line K n
def rowM (mt : α → List α) (line : List α) (K : List Nat) : List α := (leaveTo mt line K line.length).1
def stuckM (mt : α → List α) (line : List α) (K : List Nat) : List Nat := (leaveTo mt line K line.length).2.1
theorem leaveTo_succ {mt : α → List α} {line : List α} {K : List Nat} {n : Nat} {x : α} (h : line[n]? = some x) : leaveTo mt line K (n + 1) = leaveStep mt K (leaveTo mt line K n) n x := by
  show (match line[n]? with | some x => leaveStep mt K (leaveTo mt line K n) n x | none => leaveTo mt line K n) = _
  rw [h]
/-- a person can leave ahead of the kept ones -/
def Can (mt : α → List α) (line : List α) (K : List Nat) (i : Nat) : Prop := ∃ x m, line[i]? = some x ∧ m ∈ mt x ∧ ∀ j y, j < i → j ∈ K → line[j]? = some y → m ∉ mt y
/-- what a scan from the front knows: its stuck persons and its barred kinds -/
structure Scan (mt : α → List α) (line : List α) (K : List Nat) (n : Nat) (stuck : List Nat) (barred : List α) : Prop where
  iff : stuck = [] ↔ ∀ i, i < n → i ∉ K → Can mt line K i
  bar : stuck = [] → ∀ m, m ∈ barred ↔ ∃ j y, j < n ∧ j ∈ K ∧ line[j]? = some y ∧ m ∈ mt y
theorem Scan.zero {mt : α → List α} {line : List α} {K : List Nat} : Scan mt line K 0 [] [] := by
  refine ⟨⟨fun _ i h => absurd h (Nat.not_lt_zero _), fun _ => rfl⟩, fun _ m => ⟨fun h => absurd h List.not_mem_nil, ?_⟩⟩
  rintro ⟨j, y, h, _⟩
  exact absurd h (Nat.not_lt_zero _)
section
variable {mt : α → List α} {line : List α} {K : List Nat} {n : Nat} {stuck : List Nat} {barred : List α} {x : α}
theorem Scan.can (S : Scan mt line K n stuck barred) (hx : line[n]? = some x) (h0 : stuck = []) : Can mt line K n ↔ ∃ m, m ∈ mt x ∧ m ∉ barred := by
  constructor
  · rintro ⟨y, m, h1, h2, h3⟩
    rw [hx] at h1
    cases h1
    refine ⟨m, h2, fun hb => ?_⟩
    obtain ⟨j, z, a, b, c, d⟩ := (S.bar h0 m).mp hb
    exact h3 j z a b c d
  · rintro ⟨m, h1, h2⟩
    refine ⟨x, m, hx, h1, fun j y a b c d => h2 ((S.bar h0 m).mpr ⟨j, y, a, b, c, d⟩)⟩
/-- a kept person: its mates are barred from here on -/
theorem Scan.kept {barred' : List α} (S : Scan mt line K n stuck barred) (hx : line[n]? = some x) (hK : n ∈ K) (hb : ∀ m, m ∈ barred' ↔ m ∈ barred ∨ m ∈ mt x) : Scan mt line K (n + 1) stuck barred' := by
  refine ⟨?_, fun h0 m => ?_⟩
  · rw [S.iff]
    constructor
    · intro h i hi hk
      rcases Nat.lt_succ_iff_lt_or_eq.mp hi with q | q
      · exact h i q hk
      · exact absurd (q ▸ hK) hk
    · intro h i hi hk
      exact h i (Nat.lt_succ_of_lt hi) hk
  · rw [hb, S.bar h0]
    constructor
    · rintro (⟨j, y, a, b, c, d⟩ | h)
      · exact ⟨j, y, Nat.lt_succ_of_lt a, b, c, d⟩
      · exact ⟨n, x, Nat.lt_succ_self _, hK, hx, h⟩
    · rintro ⟨j, y, a, b, c, d⟩
      rcases Nat.lt_succ_iff_lt_or_eq.mp a with q | q
      · exact .inl ⟨j, y, q, b, c, d⟩
      · subst q
        rw [hx] at c
        cases c
        exact .inr d
/-- one who can leave -/
theorem Scan.free (S : Scan mt line K n stuck barred) (hx : line[n]? = some x) (hK : n ∉ K) (hf : ∃ m, m ∈ mt x ∧ m ∉ barred) : Scan mt line K (n + 1) stuck barred := by
  refine ⟨?_, fun h0 m => ?_⟩
  · constructor
    · intro h0 i hi hk
      rcases Nat.lt_succ_iff_lt_or_eq.mp hi with q | q
      · exact S.iff.mp h0 i q hk
      · subst q
        exact (S.can hx h0).mpr hf
    · intro h
      exact S.iff.mpr fun i hi hk => h i (Nat.lt_succ_of_lt hi) hk
  · rw [S.bar h0]
    constructor
    · rintro ⟨j, y, a, b, c, d⟩
      exact ⟨j, y, Nat.lt_succ_of_lt a, b, c, d⟩
    · rintro ⟨j, y, a, b, c, d⟩
      rcases Nat.lt_succ_iff_lt_or_eq.mp a with q | q
      · exact ⟨j, y, q, b, c, d⟩
      · exact absurd (q ▸ b) hK
/-- one who can't -/
theorem Scan.stuck' {barred' : List α} (S : Scan mt line K n stuck barred) (hx : line[n]? = some x) (hK : n ∉ K) (hf : ¬ ∃ m, m ∈ mt x ∧ m ∉ barred) : Scan mt line K (n + 1) (stuck ++ [n]) barred' := by
  have ne : stuck ++ [n] ≠ [] := by simp
  refine ⟨⟨fun h => absurd h ne, fun h => ?_⟩, fun h => absurd h ne⟩
  have h0 : stuck = [] := S.iff.mpr fun i hi hk => h i (Nat.lt_succ_of_lt hi) hk
  exact absurd ((S.can hx h0).mp (h n (Nat.lt_succ_self _) hK)) hf
end
theorem leave_scan (mt : α → List α) (line : List α) (K : List Nat) : ∀ n, n ≤ line.length → Scan mt line K n (leaveTo mt line K n).2.1 (leaveTo mt line K n).2.2
  | 0, _ => Scan.zero
  | n + 1, h => by
    have S := leave_scan mt line K n (by omega)
    obtain ⟨x, hx⟩ : ∃ x, line[n]? = some x := ⟨_, List.getElem?_eq_getElem (by omega)⟩
    rw [leaveTo_succ hx]
    have hbar : ∀ m, m ∈ (leaveTo mt line K n).2.2 ++ (mt x).filter (fun m => decide (m ∉ (leaveTo mt line K n).2.2)) ↔ m ∈ (leaveTo mt line K n).2.2 ∨ m ∈ mt x := fun m => by
      rw [List.mem_append, List.mem_filter, decide_eq_true_eq]
      constructor
      · rintro (q | q)
        · exact .inl q
        · exact .inr q.1
      · rintro (q | q)
        · exact .inl q
        · by_cases z : m ∈ (leaveTo mt line K n).2.2
          · exact .inl z
          · exact .inr ⟨q, z⟩
    unfold leaveStep
    simp only
    cases hf : (mt x).filter (fun m => decide (m ∉ (leaveTo mt line K n).2.2)) with
    | nil =>
      rw [hf] at hbar
      have no : ¬ ∃ m, m ∈ mt x ∧ m ∉ (leaveTo mt line K n).2.2 := fun ⟨m, h1, h2⟩ => by
        have : m ∈ (mt x).filter (fun m => decide (m ∉ (leaveTo mt line K n).2.2)) := List.mem_filter.mpr ⟨h1, decide_eq_true h2⟩
        rw [hf] at this
        exact absurd this List.not_mem_nil
      by_cases hK : n ∈ K
      · simp only [hK, not_true_eq_false, if_false]
        exact S.kept hx hK hbar
      · simp only [hK, not_false_eq_true, if_true]
        exact S.stuck' hx hK no
    | cons m r =>
      rw [hf] at hbar
      have yes : ∃ m, m ∈ mt x ∧ m ∉ (leaveTo mt line K n).2.2 := by
        have : m ∈ (mt x).filter (fun m => decide (m ∉ (leaveTo mt line K n).2.2)) := by
          rw [hf]
          exact List.mem_cons_self
        obtain ⟨h1, h2⟩ := List.mem_filter.mp this
        exact ⟨m, h1, of_decide_eq_true h2⟩
      by_cases hK : n ∈ K
      · simp only [hK, not_true_eq_false, if_false]
        exact S.kept hx hK hbar
      · simp only [hK, not_false_eq_true, if_true]
        exact S.free hx hK yes
theorem stuckM_iff {mt : α → List α} {line : List α} {K : List Nat} : stuckM mt line K = [] ↔ ∀ i, i < line.length → i ∉ K → Can mt line K i := (leave_scan mt line K line.length (Nat.le_refl _)).iff

/-! ### a run -/
section
variable (fit : α → α → Bool)
def come (there : List α) (k : α) : List α := match there.findIdx? (fun x => fit x k) with
  | some i => there.eraseIdx i
  | none => there ++ [k]
def afterM (there : List α) : List α → List α
  | [] => there
  | k :: r => afterM (come fit there k) r
theorem afterM_append (there : List α) : ∀ (r s : List α), afterM fit there (r ++ s) = afterM fit (afterM fit there r) s := by
  intro r
  induction r generalizing there with
  | nil => intro s; rfl
  | cons k r ih => intro s; exact ih _ s
def IsLine (l : List α) : Prop := l.Pairwise fun a b => fit a b = false
variable {fit}
theorem come_none {there : List α} {k : α} (h : ∀ x ∈ there, fit x k = false) : come fit there k = there ++ [k] := by
  unfold come
  rw [List.findIdx?_eq_none_iff.mpr h]
theorem come_at {a b : List α} {x k : α} (h : ∀ y ∈ a, fit y k = false) (hx : fit x k = true) : come fit (a ++ x :: b) k = a ++ b := by
  unfold come
  have e : (a ++ x :: b).findIdx? (fun x => fit x k) = some a.length := by
    rw [List.findIdx?_append, List.findIdx?_eq_none_iff.mpr h, List.findIdx?_cons, hx]
    simp
  rw [e]
  show (a ++ x :: b).eraseIdx a.length = _
  rw [List.eraseIdx_append_of_length_le (Nat.le_refl _), Nat.sub_self]
  rfl
/-- a line's items come one by one to its beginning -/
theorem after_line : ∀ (r l : List α), IsLine fit (l ++ r) → afterM fit l r = l ++ r
  | [], l, _ => by rw [List.append_nil]; rfl
  | k :: r, l, h => by
    show afterM fit (come fit l k) r = _
    have h1 : ∀ x ∈ l, fit x k = false := fun x hx => (List.pairwise_append.mp h).2.2 x hx k List.mem_cons_self
    rw [come_none h1, after_line r (l ++ [k]) (by rw [List.append_assoc]; exact h), List.append_assoc]
    rfl
theorem IsLine.come {l : List α} {k : α} (h : IsLine fit l) : IsLine fit (come fit l k) := by
  unfold K76.come
  cases e : l.findIdx? (fun x => fit x k) with
  | some i => exact h.sublist (List.eraseIdx_sublist ..)
  | none =>
    have h1 := List.findIdx?_eq_none_iff.mp e
    refine List.pairwise_append.mpr ⟨h, List.pairwise_singleton _ _, fun a ha b hb => ?_⟩
    rw [List.mem_singleton.mp hb]
    exact h1 a ha
theorem IsLine.after : ∀ (r : List α) {l : List α}, IsLine fit l → IsLine fit (afterM fit l r)
  | [], _, h => h
  | k :: r, _, h => IsLine.after r (h.come (k := k))
theorem IsLine.snoc {l : List α} {k : α} (h : IsLine fit l) (hk : ∀ x ∈ l, fit x k = false) : IsLine fit (l ++ [k]) :=
  List.pairwise_append.mpr ⟨h, List.pairwise_singleton _ _, fun a ha b hb => by rw [List.mem_singleton.mp hb]; exact hk a ha⟩
theorem IsLine.nil : IsLine fit [] := List.Pairwise.nil
theorem IsLine.take {l : List α} (h : IsLine fit l) (n : Nat) : IsLine fit (l.take n) := h.sublist (List.take_sublist _ _)
theorem IsLine.sub {l m : List α} (h : IsLine fit l) (s : m.Sublist l) : IsLine fit m := h.sublist s

variable {mt : α → List α} {line : List α} {K : List Nat}
/-- behind the newcomers of the first n persons -/
theorem after_leave (hmt : ∀ x m, m ∈ mt x ↔ m ∈ mt x ∧ fit x m = true) (hks : ∀ x y m, m ∈ mt x → fit y m = true → m ∈ mt y) (h0 : stuckM mt line K = []) :
    ∀ n, n ≤ line.length → afterM fit line (leaveTo mt line K n).1 = pick line ((List.range n).filter fun i => decide (i ∈ K)) ++ line.drop n
  | 0, _ => by
    rw [List.drop_zero]
    rfl
  | n + 1, h => by
    have ih := after_leave hmt hks h0 n (by omega)
    have S := leave_scan mt line K n (by omega)
    have all := stuckM_iff.mp h0
    have s0 : (leaveTo mt line K n).2.1 = [] := S.iff.mpr fun i hi hk => all i (by omega) hk
    obtain ⟨x, hx⟩ : ∃ x, line[n]? = some x := ⟨_, List.getElem?_eq_getElem (by omega)⟩
    have hd : line.drop n = x :: line.drop (n + 1) := by
      obtain ⟨hp', e⟩ := List.getElem?_eq_some_iff.mp hx
      rw [List.drop_eq_getElem_cons hp', e]
    rw [leaveTo_succ hx, List.range_succ, List.filter_append, pick_append]
    by_cases hK : n ∈ K
    · have e1 : (leaveStep mt K (leaveTo mt line K n) n x).1 = (leaveTo mt line K n).1 := by
        unfold leaveStep
        simp only
        split <;> simp [hK]
      have e2 : [n].filter (fun i => decide (i ∈ K)) = [n] := by simp [hK]
      rw [e1, e2, ih, hd, pick_cons hx, pick_nil, List.append_assoc]
      rfl
    · have e2 : [n].filter (fun i => decide (i ∈ K)) = [] := by simp [hK]
      rw [e2, pick_nil, List.append_nil]
      obtain ⟨m0, hm0, hb0⟩ := (S.can hx s0).mp (all n (by omega) hK)
      obtain ⟨m, r, hf⟩ : ∃ m r, (mt x).filter (fun m => decide (m ∉ (leaveTo mt line K n).2.2)) = m :: r := by
        cases hf : (mt x).filter (fun m => decide (m ∉ (leaveTo mt line K n).2.2)) with
        | nil =>
          have : m0 ∈ (mt x).filter (fun m => decide (m ∉ (leaveTo mt line K n).2.2)) := List.mem_filter.mpr ⟨hm0, decide_eq_true hb0⟩
          rw [hf] at this
          exact absurd this List.not_mem_nil
        | cons m r => exact ⟨m, r, rfl⟩
      have e1 : (leaveStep mt K (leaveTo mt line K n) n x).1 = (leaveTo mt line K n).1 ++ [m] := by
        unfold leaveStep
        simp only
        rw [hf]
        simp [hK]
      have hmm : m ∈ (mt x).filter (fun m => decide (m ∉ (leaveTo mt line K n).2.2)) := by
        rw [hf]
        exact List.mem_cons_self
      obtain ⟨hm1, hm2⟩ := List.mem_filter.mp hmm
      have hm2 := of_decide_eq_true hm2
      rw [e1, afterM_append, ih, hd]
      show come fit _ m = _
      refine come_at (fun y hy => ?_) ((hmt x m).mp hm1).2
      unfold pick at hy
      obtain ⟨j, hj, hjy⟩ := List.mem_filterMap.mp hy
      obtain ⟨hj1, hj2⟩ := List.mem_filter.mp hj
      cases hq : fit y m with
      | false => rfl
      | true => exact absurd ((S.bar s0 m).mpr ⟨j, y, List.mem_range.mp hj1, of_decide_eq_true hj2, hjy, hks x y m hm1 hq⟩) hm2
theorem range_filter_mem {n : Nat} {K : List Nat} (h1 : K.Pairwise (· < ·)) (h2 : ∀ p ∈ K, p < n) : (List.range n).filter (fun i => decide (i ∈ K)) = K := by
  refine asc_eq ?_ h1 fun p => ?_
  · exact List.pairwise_lt_range.sublist List.filter_sublist
  · rw [List.mem_filter, List.mem_range, decide_eq_true_eq]
    exact ⟨fun h => h.2, fun h => ⟨h2 p h, h⟩⟩
/-- the row leads from the line to the goal -/
theorem row_leads {goal : List α} {m : Nat} (hmt : ∀ x m, m ∈ mt x → fit x m = true) (hks : ∀ x y m, m ∈ mt x → fit y m = true → m ∈ mt y) (hK : keptM line goal m = some K) (h0 : stuckM mt line K = []) (hg : IsLine fit goal) :
    afterM fit line (rowM mt line K ++ goal.drop m) = goal := by
  have h1 := after_leave (fun x m => ⟨fun h => ⟨h, hmt x m h⟩, fun h => h.1⟩) hks h0 line.length (Nat.le_refl _)
  rw [List.drop_length, List.append_nil, range_filter_mem (keptM_sorted hK) (keptM_lt hK), keptM_take hK] at h1
  rw [afterM_append]
  show afterM fit (afterM fit line (leaveTo mt line K line.length).1) _ = _
  rw [h1, after_line _ _ (by rw [List.take_append_drop]; exact hg), List.take_append_drop]
end
theorem leave_length (mt : α → List α) (line : List α) (K : List Nat) : ∀ n, n ≤ line.length → (leaveTo mt line K n).1.length + (leaveTo mt line K n).2.1.length + ((List.range n).filter fun i => decide (i ∈ K)).length = n
  | 0, _ => rfl
  | n + 1, h => by
    have ih := leave_length mt line K n (by omega)
    obtain ⟨x, hx⟩ : ∃ x, line[n]? = some x := ⟨_, List.getElem?_eq_getElem (by omega)⟩
    rw [leaveTo_succ hx, List.range_succ, List.filter_append, List.length_append]
    unfold leaveStep
    simp only
    by_cases hK : n ∈ K
    · have e2 : [n].filter (fun i => decide (i ∈ K)) = [n] := by simp [hK]
      rw [e2]
      split <;> simp [hK] <;> omega
    · have e2 : [n].filter (fun i => decide (i ∈ K)) = [] := by simp [hK]
      rw [e2]
      split <;> simp [hK] <;> omega
theorem row_length {mt : α → List α} {line goal : List α} {K : List Nat} {m : Nat} (hm : m ≤ goal.length) (hK : keptM line goal m = some K) (h0 : stuckM mt line K = []) : (rowM mt line K).length + m = line.length := by
  have h := leave_length mt line K line.length (Nat.le_refl _)
  rw [range_filter_mem (keptM_sorted hK) (keptM_lt hK), keptM_length hK hm] at h
  have h0' : (leaveTo mt line K line.length).2.1 = [] := h0
  rw [h0'] at h
  unfold rowM
  simpa using h
theorem row_le (mt : α → List α) (line : List α) (K : List Nat) (n : Nat) (h : n ≤ line.length) : (leaveTo mt line K n).1.length ≤ n ∧ (leaveTo mt line K n).2.1.length ≤ n := by
  have := leave_length mt line K n h
  omega

/-! ### the best number -/
/-- so many first items can be kept while all others leave -/
def Good (mt : α → List α) (line goal : List α) (m : Nat) : Prop := ∃ K, keptM line goal m = some K ∧ stuckM mt line K = []
def Best (mt : α → List α) (line goal : List α) (m : Nat) : Prop := m ≤ goal.length ∧ Good mt line goal m ∧ ∀ m', m < m' → m' ≤ goal.length → ¬ Good mt line goal m'
def NoBest (mt : α → List α) (line goal : List α) : Prop := ∀ m', m' ≤ goal.length → ¬ Good mt line goal m'
theorem Best.inj {mt : α → List α} {line goal : List α} {m m' : Nat} (h : Best mt line goal m) (h' : Best mt line goal m') : m = m' := by
  rcases Nat.lt_trichotomy m m' with q | q | q
  · exact absurd h'.2.1 (h.2.2 m' q h'.1)
  · exact q
  · exact absurd h.2.1 (h'.2.2 m q h.1)
theorem Best.no {mt : α → List α} {line goal : List α} {m : Nat} (h : Best mt line goal m) (h' : NoBest mt line goal) : False := h' m h.1 h.2.1
/-- the law's answer -/
def BestIs (mt : α → List α) (line goal : List α) : Option Nat → Prop
  | some m => Best mt line goal m
  | none => NoBest mt line goal
/-- what fewest answers: a row, or papers -/
def paperM (mt : α → List α) (line goal : List α) (m : Nat) : Option (List Nat) := (keptM line goal m).map (stuckM mt line)
def rowAt (mt : α → List α) (line goal : List α) (m : Nat) : List α := rowM mt line ((keptM line goal m).getD []) ++ goal.drop m
inductive FewM (mt : α → List α) (line goal : List α) : Sum (List α) (List (Option (List Nat))) → Prop
  | row {m : Nat} : Best mt line goal m → FewM mt line goal (.inl (rowAt mt line goal m))
  | never : NoBest mt line goal → FewM mt line goal (.inr ((List.range (goal.length + 1)).map (paperM mt line goal)))
theorem FewM.inj {mt : α → List α} {line goal : List α} {a b : Sum (List α) (List (Option (List Nat)))} (h : FewM mt line goal a) (h' : FewM mt line goal b) : a = b := by
  cases h with
  | row h =>
    cases h' with
    | row h' => rw [h.inj h']
    | never h' => exact (h.no h').elim
  | never h =>
    cases h' with
    | row h' => exact (h'.no h).elim
    | never h' => rfl
theorem rowAt_length {mt : α → List α} {line goal : List α} {m : Nat} (h : Best mt line goal m) : (rowAt mt line goal m).length + 2 * m = line.length + goal.length := by
  obtain ⟨h1, ⟨K, hK, h0⟩, _⟩ := h
  unfold rowAt
  rw [hK, List.length_append, List.length_drop]
  have := row_length h1 hK h0
  show (rowM mt line K).length + _ + _ = _
  omega
theorem rowAt_leads {fit : α → α → Bool} {mt : α → List α} {line goal : List α} {m : Nat} (hmt : ∀ x m, m ∈ mt x → fit x m = true) (hks : ∀ x y m, m ∈ mt x → fit y m = true → m ∈ mt y) (h : Best mt line goal m) (hg : IsLine fit goal) :
    afterM fit line (rowAt mt line goal m) = goal := by
  obtain ⟨h1, ⟨K, hK, h0⟩, _⟩ := h
  unfold rowAt
  rw [hK]
  exact row_leads hmt hks hK h0 hg

/-! ### the law's own stuck persons: nobody can leave any more -/
structure Left (mt : α → List α) (line : List α) (K left : List Nat) : Prop where
  asc : left.Pairwise (· < ·)
  lt : ∀ i ∈ left, i < line.length
  out : ∀ i ∈ left, i ∉ K
  stay : ∀ i, i < line.length → i ∉ K → ¬ Can mt line K i → i ∈ left
/-- can leave ahead of the kept and the left ones -/
def CanL (mt : α → List α) (line : List α) (K left : List Nat) (i : Nat) : Prop := ∃ x m, line[i]? = some x ∧ m ∈ mt x ∧ ∀ j y, j < i → (j ∈ K ∨ j ∈ left) → line[j]? = some y → m ∉ mt y
section
variable {mt : α → List α} {line : List α} {K left : List Nat}
theorem Left.init : Left mt line K ((List.range line.length).filter fun i => decide (i ∉ K)) :=
  ⟨List.pairwise_lt_range.sublist List.filter_sublist, fun i hi => List.mem_range.mp (List.mem_filter.mp hi).1, fun i hi => of_decide_eq_true (List.mem_filter.mp hi).2,
    fun i h1 h2 _ => List.mem_filter.mpr ⟨List.mem_range.mpr h1, decide_eq_true h2⟩⟩
theorem Left.next {g : Nat} (L : Left mt line K left) (hc : CanL mt line K left g) : Left mt line K (left.filter fun i => decide (i ≠ g)) := by
  refine ⟨L.asc.sublist List.filter_sublist, fun i hi => L.lt i (List.mem_filter.mp hi).1, fun i hi => L.out i (List.mem_filter.mp hi).1, fun i h1 h2 h3 => ?_⟩
  refine List.mem_filter.mpr ⟨L.stay i h1 h2 h3, decide_eq_true fun e => ?_⟩
  subst e
  obtain ⟨x, m, a, b, c⟩ := hc
  exact h3 ⟨x, m, a, b, fun j y hj hk hy => c j y hj (.inl hk) hy⟩
theorem Left.shorter {g : Nat} (hg : g ∈ left) : (left.filter fun i => decide (i ≠ g)).length < left.length := by
  rw [← List.countP_eq_length_filter]
  rcases Nat.lt_or_ge (left.countP fun i => decide (i ≠ g)) left.length with h | h
  · exact h
  · have e : left.countP (fun i => decide (i ≠ g)) = left.length := Nat.le_antisymm List.countP_le_length h
    have := List.countP_eq_length.mp e g hg
    simp at this
theorem Left.done (L : Left mt line K left) (h : ∀ i ∈ left, ¬ CanL mt line K left i) : left = [] ↔ stuckM mt line K = [] := by
  rw [stuckM_iff]
  constructor
  · intro e i h1 h2
    refine Classical.byContradiction fun h3 => ?_
    have := L.stay i h1 h2 h3
    rw [e] at this
    exact absurd this List.not_mem_nil
  · intro all
    cases left with
    | nil => rfl
    | cons f r =>
      obtain ⟨x, m, a, b, c⟩ := all f (L.lt f List.mem_cons_self) (L.out f List.mem_cons_self)
      refine absurd ⟨x, m, a, b, fun j y hj hk hy => ?_⟩ (h f List.mem_cons_self)
      rcases hk with hk | hk
      · exact c j y hj hk hy
      · exfalso
        rcases List.mem_cons.mp hk with e | e
        · omega
        · have := (List.pairwise_cons.mp L.asc).1 j e
          omega
end
end
end K76

set_option Elab.async false
set_option linter.all false
set_option maxRecDepth 100000
set_option maxHeartbeats 1000000
namespace K7
open PySem PySem.Spec PyProof.Rows L2

/-! ### the text by places -/
def top (i : Nat) : Stmt := PySem.Challenge.pw_suitedpairs_k76_whole_fewest_leads_there.main.body.getD i (.Pass ⟨0, 0, 0, 0⟩)
/-- the defs of the module -/
def gl : List (Str × Nat) := [("is_kind", 4), ("are_kinds", 5), ("leave", 7), ("kept", 9), ("fewest", 10), ("are_different", 19), ("in_order", 20), ("_law_bag", 23), ("_law_take", 24), ("_law_names", 25), ("_law_plan", 26), ("_law_suits", 27), ("_law_alike", 28),
  ("_law_fit", 29), ("_law_line", 30), ("_law_row", 31), ("_law_run", 32), ("_law_after", 33), ("_law_some", 34), ("_law_goal", 35), ("_law_kept", 36), ("_law_mates", 37), ("_law_left", 38), ("_law_stuck", 39), ("_law_best", 40), ("_law_great_line", 41),
  ("_law_as_fresh", 42), ("_law_told_right", 43), ("_law_in_place_right", 44), ("law", 45)]
/-- the methods of the class -/
def ml : List (Str × Str × Nat) := [("__init__", "Suits.__init__", 0), ("mates_in", "Suits.mates_in", 1), ("kinds", "Suits.kinds", 5), ("pairs", "Suits.pairs", 6), ("lonely", "Suits.lonely", 7), ("mates", "Suits.mates", 8), ("is_calm", "Suits.is_calm", 9),
  ("calm_sets", "Suits.calm_sets", 10), ("__eq__", "Suits.__eq__", 13), ("__repr__", "Suits.__repr__", 14)]
def fn : List He.FnD := (gl.map fun p => ⟨(p.1, none), p.1, p.1, C8.fnArgs (top p.2), C8.fnBody (top p.2), C8.fnScope (top p.2)⟩) ++
  ml.map fun p => ⟨("Suits", some p.1), p.1, p.2.1, C8.fnArgs (inClass (top 21) p.2.2), C8.fnBody (inClass (top 21) p.2.2), C8.fnScope (inClass (top 21) p.2.2)⟩
def bl : List Str := ["len", "range", "list", "sorted", "any", "all", "isinstance", "enumerate", "set", "tuple", "str", "abs", "min", "int", "repr", "dict"]
def mts : List Str := ["mates_in", "kinds", "pairs", "lonely", "mates", "is_calm", "calm_sets", "__eq__", "__repr__"]
def attrs : List Str := ["its_kinds", "its_pairs", "its_mates"]
def fa : List He.Fa := (gl.map fun p => .glo p.1) ++ (gl.map fun p => .keep p.1) ++ (bl.map fun x => .free x) ++ [.str "LETTERS" "abcdefghijklmnopqrstuvwxyz", .int "MOST_LETTERS" 8, .int "MOST_KINDS" 8, .int "MOST_PAIRS" 36, .glo "Suits", .cls "Suits", .mkr "Suits"] ++
  (mts.map fun m => .meth "Suits" m) ++ (attrs.map fun f => .noat "Suits" f)
abbrev CS (K : PySem.W.Frag) : Addr := He.ga K "Suits"
/-- what isinstance asks of the class -/
def insB (K : PySem.W.Frag) : Bool := decide (PySem.W.findIn K (.ref (CS K)) "__class__" = some (some (.builtin "object.__class__"))) && decide (PySem.W.specialIn K (.builtin "object.__class__") "__get__" = some (some (.builtin "getset_descriptor.__get__"))) &&
  decide (PySem.W.takesIn K (.builtin "object.__class__") = some true) && decide (PySem.W.mroIn K (CS K) (.type "object") = some true) && decide (PySem.W.kitOne K (.ref (CS K)) (.ref (CS K)) = some true)

structure Tx (P : Program) (w : World) (K : PySem.W.Frag) (mg : Str → Option Value) (base : Heap) : Prop where
  says : He.SaysE fa fn K
  ins : insB K = true
  kin : K.In base
  glob : base.Ns mainGlobals mg

section
variable {P : Program} {w : World} {K : PySem.W.Frag} {mg : Str → Option Value} {base : Heap}
theorem Tx.fact (T : Tx P w K mg base) {f : He.Fa} (h : f ∈ fa) : f.ok K = true := by
  obtain ⟨i, hi⟩ := List.mem_iff_getElem?.mp h
  exact T.says.fact i hi
theorem Tx.def_ (T : Tx P w K mg base) {d : He.FnD} (h : d ∈ fn) : ∃ oc od osl kV doc pm an cdv ct, K.lookup (He.fAd K d.at_) = some ⟨oc, od, .func (PySem.W.fnOf d.name d.qual d.params d.body d.scope .none kV doc pm an cdv ct), osl⟩ ∧ PySem.W.codeIn K cdv d.qual = true := by
  obtain ⟨i, hi⟩ := List.mem_iff_getElem?.mp h
  exact T.says.def_ i hi
theorem mem1 {α : Type} {a b c d e : List α} {x : α} (h : x ∈ a ++ b ++ c ++ d ++ e) : x ∈ a ++ b ++ c ++ d ++ e := h
theorem Tx.free (T : Tx P w K mg base) {x : Str} (h : x ∈ bl) : mg x = none :=
  He.free_ok T.kin T.glob (T.fact (by
    unfold fa
    simp only [List.mem_append]
    exact .inl (.inl (.inl (.inr (List.mem_map_of_mem h))))))
theorem Tx.glo (T : Tx P w K mg base) {p : Str × Nat} (h : p ∈ gl) : mg p.1 = some (.ref (He.ga K p.1)) :=
  He.glo_ok T.kin T.glob (T.fact (by
    unfold fa
    simp only [List.mem_append]
    exact .inl (.inl (.inl (.inl (.inl (List.mem_map_of_mem (f := fun p : Str × Nat => He.Fa.glo p.1) h)))))))
theorem Tx.keep (T : Tx P w K mg base) {p : Str × Nat} (h : p ∈ gl) : PySem.W.keepIn K (.ref (He.ga K p.1)) = true :=
  He.keep_ok (T.fact (by
    unfold fa
    simp only [List.mem_append]
    exact .inl (.inl (.inl (.inl (.inr (List.mem_map_of_mem (f := fun p : Str × Nat => He.Fa.keep p.1) h)))))))
theorem Tx.k (T : Tx P w K mg base) {f : He.Fa} (h : f ∈ [He.Fa.str "LETTERS" "abcdefghijklmnopqrstuvwxyz", .int "MOST_LETTERS" 8, .int "MOST_KINDS" 8, .int "MOST_PAIRS" 36, .glo "Suits", .cls "Suits", .mkr "Suits"]) : f.ok K = true :=
  T.fact (by
    unfold fa
    simp only [List.mem_append]
    exact .inl (.inl (.inr h)))
theorem Tx.meth (T : Tx P w K mg base) {m : Str} (h : m ∈ mts) : Meth K (CS K) m (He.ma K (CS K) m) :=
  He.meth_ok (T.fact (by
    unfold fa
    simp only [List.mem_append]
    exact .inl (.inr (List.mem_map_of_mem (f := fun m : Str => He.Fa.meth "Suits" m) h))))
theorem Tx.noat (T : Tx P w K mg base) {m : Str} (h : m ∈ attrs) : NoAttr K (CS K) m :=
  He.noat_ok (T.fact (by
    unfold fa
    simp only [List.mem_append]
    exact .inr (List.mem_map_of_mem (f := fun m : Str => He.Fa.noat "Suits" m) h)))
theorem Tx.cls (T : Tx P w K mg base) : Cls K (CS K) := He.cls_ok (T.k (f := .cls "Suits") (by simp))
theorem Tx.maker (T : Tx P w K mg base) : Mk K (CS K) (He.ma K (CS K) "__init__") := He.mkr_ok (T.k (f := .mkr "Suits") (by simp))
theorem Tx.suits (T : Tx P w K mg base) : mg "Suits" = some (.ref (CS K)) := He.glo_ok T.kin T.glob (T.k (f := .glo "Suits") (by simp))
theorem Tx.c_Suits (T : Tx P w K mg base) : ∃ u, mg "Suits" = some u ∧ RelV (.ref (CS K)) u := ⟨_, T.suits, rfl⟩
theorem Tx.c_LETTERS (T : Tx P w K mg base) : ∃ u, mg "LETTERS" = some u ∧ RelV (.str "abcdefghijklmnopqrstuvwxyz") u := by
  obtain ⟨t, h⟩ := He.str_ok T.kin T.glob (T.k (f := .str "LETTERS" "abcdefghijklmnopqrstuvwxyz") (by simp))
  exact ⟨_, h, ⟨_, rfl⟩⟩
theorem Tx.c_MOST_LETTERS (T : Tx P w K mg base) : ∃ u, mg "MOST_LETTERS" = some u ∧ RelV (.int 8) u := by
  obtain ⟨t, h⟩ := He.int_ok T.kin T.glob (T.k (f := .int "MOST_LETTERS" 8) (by simp))
  exact ⟨_, h, ⟨_, rfl⟩⟩
theorem Tx.c_MOST_KINDS (T : Tx P w K mg base) : ∃ u, mg "MOST_KINDS" = some u ∧ RelV (.int 8) u := by
  obtain ⟨t, h⟩ := He.int_ok T.kin T.glob (T.k (f := .int "MOST_KINDS" 8) (by simp))
  exact ⟨_, h, ⟨_, rfl⟩⟩
theorem Tx.c_MOST_PAIRS (T : Tx P w K mg base) : ∃ u, mg "MOST_PAIRS" = some u ∧ RelV (.int 36) u := by
  obtain ⟨t, h⟩ := He.int_ok T.kin T.glob (T.k (f := .int "MOST_PAIRS" 36) (by simp))
  exact ⟨_, h, ⟨_, rfl⟩⟩
theorem Tx.insC (T : Tx P w K mg base) : C8.InsC K (CS K) := by
  have h := T.ins
  unfold insB at h
  simp only [Bool.and_eq_true, decide_eq_true_eq] at h
  exact ⟨T.cls, h.1.1.1.1, h.1.1.1.2, h.1.1.2, h.1.2, h.2⟩
theorem Tx.b_len (T : Tx P w K mg base) : mg "len" = none := T.free (by simp [bl])
theorem Tx.b_range (T : Tx P w K mg base) : mg "range" = none := T.free (by simp [bl])
theorem Tx.b_list (T : Tx P w K mg base) : mg "list" = none := T.free (by simp [bl])
theorem Tx.b_sorted (T : Tx P w K mg base) : mg "sorted" = none := T.free (by simp [bl])
theorem Tx.b_any (T : Tx P w K mg base) : mg "any" = none := T.free (by simp [bl])
theorem Tx.b_all (T : Tx P w K mg base) : mg "all" = none := T.free (by simp [bl])
theorem Tx.b_isinstance (T : Tx P w K mg base) : mg "isinstance" = none := T.free (by simp [bl])
theorem Tx.b_enumerate (T : Tx P w K mg base) : mg "enumerate" = none := T.free (by simp [bl])
theorem Tx.b_set (T : Tx P w K mg base) : mg "set" = none := T.free (by simp [bl])
theorem Tx.b_tuple (T : Tx P w K mg base) : mg "tuple" = none := T.free (by simp [bl])
theorem Tx.b_str (T : Tx P w K mg base) : mg "str" = none := T.free (by simp [bl])
theorem Tx.b_abs (T : Tx P w K mg base) : mg "abs" = none := T.free (by simp [bl])
theorem Tx.b_min (T : Tx P w K mg base) : mg "min" = none := T.free (by simp [bl])
theorem Tx.b_int (T : Tx P w K mg base) : mg "int" = none := T.free (by simp [bl])
theorem Tx.b_repr (T : Tx P w K mg base) : mg "repr" = none := T.free (by simp [bl])
theorem Tx.b_dict (T : Tx P w K mg base) : mg "dict" = none := T.free (by simp [bl])

theorem Tx.d (T : Tx P w K mg base) (x : Str) (n : Nat) (h : (x, n) ∈ gl) : ∃ f fd, C8.Def K mg x (top n) f fd ∧ fd.defaults = .none := by
  obtain ⟨oc, od, osl, kV, doc, pm, an, cdv, ct, lk, hcd⟩ := T.def_ (d := ⟨(x, none), x, x, C8.fnArgs (top n), C8.fnBody (top n), C8.fnScope (top n)⟩) (by
    unfold fn
    exact List.mem_append_left _ (List.mem_map_of_mem (f := fun p : Str × Nat => (⟨(p.1, none), p.1, p.1, C8.fnArgs (top p.2), C8.fnBody (top p.2), C8.fnScope (top p.2)⟩ : He.FnD)) h))
  exact ⟨_, _, ⟨⟨⟨oc, od, .none, kV, doc, pm, an, cdv, ct, osl, rfl, lk, hcd⟩⟩, T.glo h, T.keep h⟩, rfl⟩
theorem Tx.m (T : Tx P w K mg base) (m q : Str) (j : Nat) (h : (m, q, j) ∈ ml) : ∃ fd, C8.Fun K m q (inClass (top 21) j) (He.ma K (CS K) m) fd ∧ fd.defaults = .none := by
  obtain ⟨oc, od, osl, kV, doc, pm, an, cdv, ct, lk, hcd⟩ := T.def_ (d := ⟨("Suits", some m), m, q, C8.fnArgs (inClass (top 21) j), C8.fnBody (inClass (top 21) j), C8.fnScope (inClass (top 21) j)⟩) (by
    unfold fn
    exact List.mem_append_right _ (List.mem_map_of_mem (f := fun p : Str × Str × Nat => (⟨("Suits", some p.1), p.1, p.2.1, C8.fnArgs (inClass (top 21) p.2.2), C8.fnBody (inClass (top 21) p.2.2), C8.fnScope (inClass (top 21) p.2.2)⟩ : He.FnD)) h))
  exact ⟨_, ⟨⟨oc, od, .none, kV, doc, pm, an, cdv, ct, osl, rfl, lk, hcd⟩⟩, rfl⟩
end

/-! ### data -/
abbrev LS (H : Hp) (a : Addr) (xs : List Str) : Prop := H a = some (.lst (xs.map V.str))
abbrev LI (H : Hp) (a : Addr) (ns : List Nat) : Prop := H a = some (.lst (ns.map fun n : Nat => V.int (n : Int)))
/-- what is known stays known -/
abbrev Sm (H H' : Hp) : Prop := Evl.Ex H H'
/-- a kind -/
structure Kd (z : Str) : Prop where
  lo : 1 ≤ z.length
  hi : z.length ≤ 8
  low : ∀ c ∈ z.cps.toList, 97 ≤ c ∧ c ≤ 122
def fitP (ps : List (Str × Str)) (x y : Str) : Bool := decide ((x, y) ∈ ps) || decide ((y, x) ∈ ps)
theorem fitP_comm (ps : List (Str × Str)) (x y : Str) : fitP ps x y = fitP ps y x := by
  unfold fitP
  rw [Bool.or_comm]
def TwoAt (H : Hp) (r : Addr) (p : Str × Str) : Prop := H r = some (.tup [.str p.1, .str p.2])
def PairsAt (H : Hp) (a : Addr) (ps : List (Str × Str)) : Prop := ∃ rs : List Addr, H a = some (.lst (rs.map V.ref)) ∧ Paired (TwoAt H) rs ps
structure PlanOk (ks : List Str) (ps : List (Str × Str)) : Prop where
  nd : ks.Nodup
  lo : 1 ≤ ks.length
  hi : ks.length ≤ 8
  kd : ∀ k ∈ ks, Kd k
  sub : ∀ p ∈ ps, p.1 ∈ ks ∧ p.2 ∈ ks
  len : ps.length ≤ 36
def PlanAt (H : Hp) (a : Addr) (ks : List Str) (ps : List (Str × Str)) : Prop :=
  ∃ ka pa, H a = some (.dK [(.inr "kinds", .ref ka), (.inr "pairs", .ref pa)]) ∧ LS H ka ks ∧ PairsAt H pa ps
theorem TwoAt.mono {H H' : Hp} {r : Addr} {p : Str × Str} (e : Sm H H') (h : TwoAt H r p) : TwoAt H' r p := e r _ h
theorem PairsAt.mono {H H' : Hp} {a : Addr} {ps : List (Str × Str)} (e : Sm H H') (h : PairsAt H a ps) : PairsAt H' a ps := by
  obtain ⟨rs, h1, h2⟩ := h
  exact ⟨rs, e _ _ h1, Paired.mapP h2 fun _ _ q => q.mono e⟩
theorem PlanAt.mono {H H' : Hp} {a : Addr} {ks : List Str} {ps : List (Str × Str)} (e : Sm H H') (h : PlanAt H a ks ps) : PlanAt H' a ks ps := by
  obtain ⟨ka, pa, h1, h2, h3⟩ := h
  exact ⟨ka, pa, e _ _ h1, e _ _ h2, h3.mono e⟩
/-- the pure promise: from what is known, a value and what is then known of it -/
def Pure (pre : List V → Hp → Prop) (post : List V → Hp → V → Hp → Prop) : Sp := fun vs H Q _ => pre vs H ∧ ∀ r H', Sm H H' → post vs H r H' → Q r H'
end K7

set_option Elab.async false
set_option linter.all false
set_option maxRecDepth 100000
set_option maxHeartbeats 1000000
namespace K7
open PySem PySem.Spec PyProof.Rows L2
open Evl (Ex Ev EvT EvL EvA ex_l ex_t sq_of st_of sz_of sz_lt fresh_back)

/-! ### what is known, carried on -/
theorem Sm.new {H H' : Hp} {p : Addr} {o : HO} (e : Sm H H') (h : H' p = none) : Sm H (upd H' p o) := e.trans (Ex.new h)
theorem Sm.put {H H' : Hp} {p : Addr} {o : HO} (e : Sm H H') (h : H p = none) : Sm H (upd H' p o) := Ex.mut e h
theorem _root_.Evl.Ex.add {H H' : Hp} {p : Addr} {o : HO} (e : Ex H H') (h : H' p = none) : Ex H (upd H' p o) := e.trans (Ex.new h)
theorem _root_.Evl.Ex.put {H H' : Hp} {p : Addr} {o : HO} (e : Ex H H') (h : H p = none) : Ex H (upd H' p o) := Ex.mut e h
theorem Sm.rfl' {H : Hp} : Sm H H := Ex.refl H
theorem ne_new {H H' : Hp} {p a : Addr} {o : HO} (e : Sm H H') (h : H' p = none) (ha : H a = some o) : a ≠ p := fun z => by
  subst z
  rw [e a o ha] at h
  cases h
theorem get?_map' {α β : Type} {f : α → β} {l : List α} {i : Nat} {x : β} (h : (l.map f)[i]? = some x) : ∃ y, l[i]? = some y ∧ x = f y := by
  rw [List.getElem?_map] at h
  cases e : l[i]? with
  | none => rw [e] at h; cases h
  | some y => rw [e] at h; exact ⟨y, rfl, (Option.some.inj h).symm⟩
theorem take_succ' {α : Type} {l : List α} {i : Nat} {y : α} (h : l[i]? = some y) : l.take (i + 1) = l.take i ++ [y] := by
  rw [List.take_add_one, h]; rfl

/-- a new thing's place is no known one -/
theorem ne_fr {H : Hp} {p a : Addr} {o : HO} (h : H p = none) (ha : H a = some o) : a ≠ p := ne_of_none ha h
theorem put_ne {H : Hp} {p a : Addr} {o u : HO} (ha : H a = some u) (h : a ≠ p) : upd H p o a = some u := by rw [upd_ne h]; exact ha

section
variable {K : PySem.W.Frag} {α : Type} {enc : α → V} {ys : List α} {p : α → Bool} {gv : α → V} {a : Addr} {j : Nat} {vs : List Nat} {σ : L2.St} {H : Hp} {Q : Addr → Hp → Prop} {t : TT} {te : TE}
/-- [e for y in a if t], all known -/
theorem lcL (p : α → Bool) (gv : α → V) (hx : SqL K H a (ys.map enc)) (hz : ys.length ≤ 50000)
    (ht : ∀ y ∈ ys, EvT t ((wipe σ vs).set j (some (enc y))) H (p y)) (he : ∀ y ∈ ys, p y = true → Ev te ((wipe σ vs).set j (some (enc y))) H (gv y))
    (hQ : ∀ D H', H D = none → Sm H H' → H' D = some (.lst ((ys.filter p).map gv)) → Q D H') (hw : ∀ x, wipe ((wipe σ vs).set j (some x)) vs = wipe σ vs := by intro _; rfl) :
    ∀ D, H D = none → ∃ W : Nat → Nat → Hp → Prop, (∃ m, W 0 m (upd H D (.lst []))) ∧ ∀ i m H', W i m H' →
      ((Itl K a).stop i H' ∧ Q D H') ∨ ((Itl K a).go i H' ∧ ∃ Nx : Hp → Prop, (∀ H'', Nx H'' → ∃ m', m' < m ∧ W (i + 1) m' H'') ∧ ∀ x H'', (Itl K a).yld i H' x H'' → gName j x (wipe σ vs) H'' fun σ2 H2 => wipe σ2 vs = wipe σ vs ∧ t σ2 H2 fun b H3 =>
        if b = true then te σ2 H3 fun y H4 => ∃ acc, H4 D = some (.lst acc) ∧ acc.length < sizeLine ∧ Nx (upd H4 D (.lst (acc ++ [y]))) else Nx H3) := fun D hD =>
  lc_list (K := K) (a := a) (xs := ys.map enc) (g := gName j) (D := D) (Qd := fun H' => Q D H') (fun i H' => Sm H H' ∧ H' D = some (.lst (((ys.take i).filter p).map gv))) ⟨Ex.new hD, by simp only [List.take_zero]; exact upd_same⟩ (fun i H' _ q => ex_l q.1 hx)
    (fun i x H' hi q => by
      obtain ⟨y, hy, rfl⟩ := get?_map' hi
      have my : y ∈ ys := List.mem_of_getElem? hy
      refine ⟨hw _, ht y my H' q.1 _ fun H3 e3 => ?_⟩
      cases hp : p y with
      | true =>
        show te _ H3 _
        refine he y my hp H3 (q.1.trans e3) _ fun H4 e4 => ⟨_, e4 D _ (e3 D _ q.2), ?_, Ex.mut (q.1.trans (e3.trans e4)) hD, ?_⟩
        · refine sz_lt ?_
          rw [List.length_map]
          have := List.length_filter_le p (ys.take i)
          have := List.length_take_le i ys
          have := List.length_take_le' i ys
          omega
        · rw [take_succ' hy, List.filter_append, List.map_append, List.filter_cons, if_pos hp]
          exact upd_same
      | false =>
        show Sm H H3 ∧ _
        refine ⟨q.1.trans e3, ?_⟩
        rw [take_succ' hy, List.filter_append, List.map_append, List.filter_cons, if_neg (by rw [hp]; decide)]
        show H3 D = some (.lst (_ ++ []))
        rw [List.append_nil]
        exact e3 D _ q.2)
    (fun H' q => by
      refine hQ D H' hD q.1 ?_
      have h := q.2
      rw [List.length_map, List.take_length] at h
      exact h)
/-- the test that is none -/
theorem et_yes {σ' : L2.St} : EvT tYes σ' H true := fun H1 _ Q q => q H1 (Ex.refl H1)
theorem filter_yes {l : List α} : l.filter (fun _ => true) = l := List.filter_eq_self.mpr fun _ _ => rfl
/-- [e for y in a] -/
theorem lcLy (gv : α → V) (hx : SqL K H a (ys.map enc)) (hz : ys.length ≤ 50000)
    (he : ∀ y ∈ ys, Ev te ((wipe σ vs).set j (some (enc y))) H (gv y))
    (hQ : ∀ D H', H D = none → Sm H H' → H' D = some (.lst (ys.map gv)) → Q D H') (hw : ∀ x, wipe ((wipe σ vs).set j (some x)) vs = wipe σ vs := by intro _; rfl) :
    ∀ D, H D = none → ∃ W : Nat → Nat → Hp → Prop, (∃ m, W 0 m (upd H D (.lst []))) ∧ ∀ i m H', W i m H' →
      ((Itl K a).stop i H' ∧ Q D H') ∨ ((Itl K a).go i H' ∧ ∃ Nx : Hp → Prop, (∀ H'', Nx H'' → ∃ m', m' < m ∧ W (i + 1) m' H'') ∧ ∀ x H'', (Itl K a).yld i H' x H'' → gName j x (wipe σ vs) H'' fun σ2 H2 => wipe σ2 vs = wipe σ vs ∧ tYes σ2 H2 fun b H3 =>
        if b = true then te σ2 H3 fun y H4 => ∃ acc, H4 D = some (.lst acc) ∧ acc.length < sizeLine ∧ Nx (upd H4 D (.lst (acc ++ [y]))) else Nx H3) :=
  lcL (fun _ => true) gv hx hz (fun _ _ => et_yes) (fun y m _ => he y m) (fun D H' h1 h2 h3 => hQ D H' h1 h2 (by rw [filter_yes] at h3; exact h3)) hw
/-- [e for i in range(n) if t] -/
theorem lcR {n : Nat} (p : Nat → Bool) (gv : Nat → V) (hz : n ≤ 50000)
    (ht : ∀ i, i < n → EvT t ((wipe σ vs).set j (some (.int (i : Int)))) H (p i)) (he : ∀ i, i < n → p i = true → Ev te ((wipe σ vs).set j (some (.int (i : Int)))) H (gv i))
    (hQ : ∀ D H', H D = none → Sm H H' → H' D = some (.lst (((List.range n).filter p).map gv)) → Q D H') (hw : ∀ x, wipe ((wipe σ vs).set j (some x)) vs = wipe σ vs := by intro _; rfl) :
    ∀ D, H D = none → ∃ W : Nat → Nat → Hp → Prop, (∃ m, W 0 m (upd H D (.lst []))) ∧ ∀ i m H', W i m H' →
      ((Itr 0 n).stop i H' ∧ Q D H') ∨ ((Itr 0 n).go i H' ∧ ∃ Nx : Hp → Prop, (∀ H'', Nx H'' → ∃ m', m' < m ∧ W (i + 1) m' H'') ∧ ∀ x H'', (Itr 0 n).yld i H' x H'' → gName j x (wipe σ vs) H'' fun σ2 H2 => wipe σ2 vs = wipe σ vs ∧ t σ2 H2 fun b H3 =>
        if b = true then te σ2 H3 fun y H4 => ∃ acc, H4 D = some (.lst acc) ∧ acc.length < sizeLine ∧ Nx (upd H4 D (.lst (acc ++ [y]))) else Nx H3) := fun D hD =>
  lc_range (lo := 0) (n := n) (g := gName j) (D := D) (Qd := fun H' => Q D H') (fun i H' => Sm H H' ∧ H' D = some (.lst (((List.range i).filter p).map gv))) ⟨Ex.new hD, upd_same⟩
    (fun i H' hi q => by
      have e0 : (0 : Int) + (i : Int) = (i : Int) := Int.zero_add _
      show wipe ((wipe σ vs).set j (some (.int ((0 : Int) + (i : Int))))) vs = wipe σ vs ∧ _
      rw [e0]
      refine ⟨hw _, ht i hi H' q.1 _ fun H3 e3 => ?_⟩
      cases hp : p i with
      | true =>
        show te _ H3 _
        refine he i hi hp H3 (q.1.trans e3) _ fun H4 e4 => ⟨_, e4 D _ (e3 D _ q.2), ?_, Ex.mut (q.1.trans (e3.trans e4)) hD, ?_⟩
        · refine sz_lt ?_
          rw [List.length_map]
          have := List.length_filter_le p (List.range i)
          rw [List.length_range] at this
          omega
        · rw [List.range_succ, List.filter_append, List.map_append, List.filter_cons, if_pos hp]
          exact upd_same
      | false =>
        show Sm H H3 ∧ _
        refine ⟨q.1.trans e3, ?_⟩
        rw [List.range_succ, List.filter_append, List.map_append, List.filter_cons, if_neg (by rw [hp]; decide)]
        show H3 D = some (.lst (_ ++ []))
        rw [List.append_nil]
        exact e3 D _ q.2)
    (fun H' q => hQ D H' hD q.1 q.2)
theorem lcRy {n : Nat} (gv : Nat → V) (hz : n ≤ 50000)
    (he : ∀ i, i < n → Ev te ((wipe σ vs).set j (some (.int (i : Int)))) H (gv i))
    (hQ : ∀ D H', H D = none → Sm H H' → H' D = some (.lst ((List.range n).map gv)) → Q D H') (hw : ∀ x, wipe ((wipe σ vs).set j (some x)) vs = wipe σ vs := by intro _; rfl) :
    ∀ D, H D = none → ∃ W : Nat → Nat → Hp → Prop, (∃ m, W 0 m (upd H D (.lst []))) ∧ ∀ i m H', W i m H' →
      ((Itr 0 n).stop i H' ∧ Q D H') ∨ ((Itr 0 n).go i H' ∧ ∃ Nx : Hp → Prop, (∀ H'', Nx H'' → ∃ m', m' < m ∧ W (i + 1) m' H'') ∧ ∀ x H'', (Itr 0 n).yld i H' x H'' → gName j x (wipe σ vs) H'' fun σ2 H2 => wipe σ2 vs = wipe σ vs ∧ tYes σ2 H2 fun b H3 =>
        if b = true then te σ2 H3 fun y H4 => ∃ acc, H4 D = some (.lst acc) ∧ acc.length < sizeLine ∧ Nx (upd H4 D (.lst (acc ++ [y]))) else Nx H3) :=
  lcR (fun _ => true) gv hz (fun _ _ => et_yes) (fun i h _ => he i h) (fun D H' h1 h2 h3 => hQ D H' h1 h2 (by rw [filter_yes] at h3; exact h3)) hw
end
theorem map_bl {α : Type} (f : α → Bool) (l : List α) : l.map (fun y => V.bl (f y)) = (l.map f).map V.bl := by rw [List.map_map]; rfl
theorem any_id {α : Type} (f : α → Bool) (l : List α) : (l.map f).any id = l.any f := by rw [List.any_map]; rfl
theorem all_id {α : Type} (f : α → Bool) (l : List α) : (l.map f).all id = l.all f := by rw [List.all_map]; rfl
theorem flat_strs' (ys : List Str) : (ys.map V.str).all flatV = true := flat_strs ys
theorem inV_strs (x : Str) (ys : List Str) : inV (.str x) (ys.map V.str) = decide (x ∈ ys) := by
  induction ys with
  | nil => rfl
  | cons y ys ih =>
    show (eqV (.str y) (.str x) || inV (.str x) (ys.map V.str)) = _
    rw [ih]
    by_cases h : y = x
    · subst h
      simp [eqV]
    · have h' : x ≠ y := fun z => h z.symm
      simp [eqV, h, h']
theorem inV_nats (x : Nat) (ys : List Nat) : inV (.int (x : Int)) (ys.map fun n : Nat => V.int (n : Int)) = decide (x ∈ ys) := by
  induction ys with
  | nil => rfl
  | cons y ys ih =>
    show (eqV (.int (y : Int)) (.int (x : Int)) || inV (.int (x : Int)) (ys.map fun n : Nat => V.int (n : Int))) = _
    rw [ih]
    by_cases h : y = x
    · subst h
      simp [eqV]
    · have h' : x ≠ y := fun z => h z.symm
      have h2 : ¬ (y : Int) = (x : Int) := by omega
      simp [eqV, h2, h']
theorem flat_nats (ys : List Nat) : (ys.map fun n : Nat => V.int (n : Int)).all flatV = true := by
  rw [List.all_map]
  exact List.all_eq_true.mpr fun _ _ => rfl
theorem atI_nat {xs : List V} {i : Nat} {v : V} (h : xs[i]? = some v) : atI xs (i : Int) = some v := by
  unfold atI
  rw [Evl.ixN_nat (List.getElem?_eq_some_iff.mp h).1]
  exact h
theorem ifF {c : Bool} {A B : Prop} (hc : c = false) (h : B) : if c = true then A else B := by
  rw [hc, if_neg Bool.false_ne_true]
  exact h
theorem ifT {c : Bool} {A B : Prop} (hc : c = true) (h : A) : if c = true then A else B := by
  rw [if_pos hc]
  exact h
theorem two_le : 2 ≤ sizeLine := by decide
/-- for i, x in enumerate(a) -/
theorem for_enum {K : PySem.W.Frag} {a : Addr} {xs : List V} {g : TG} {tb : TS} {D : Ends} {σ : L2.St} {H : Hp} (Pv : Nat → L2.St → Hp → Prop) (h0 : Pv 0 σ H) (hl : ∀ i σ H, i ≤ xs.length → Pv i σ H → SqL K H a xs)
    (hs : ∀ i x σ H T, xs[i]? = some x → Pv i σ H → H T = none → g (.ref T) σ (upd H T (.tup [.int (i : Nat), x])) fun σ2 H2 => tb { D with nx := Pv (i + 1), ct := Pv (i + 1), bk := D.nx } σ2 H2) (hd : ∀ σ H, Pv xs.length σ H → D.nx σ H) :
    ∃ W : Nat → Nat → L2.St → Hp → Prop, (∃ m, W 0 m σ H) ∧ ∀ i m σ H, W i m σ H →
      ((Ite K a).stop i H ∧ D.nx σ H) ∨ ((Ite K a).go i H ∧ ∃ N : L2.St → Hp → Prop, (∀ σ' H', N σ' H' → ∃ m', m' < m ∧ W (i + 1) m' σ' H') ∧ ∀ x H', (Ite K a).yld i H x H' → g x σ H' fun σ2 H2 => tb { D with nx := N, ct := N, bk := D.nx } σ2 H2) := by
  refine ⟨fun i m σ H => m + i = xs.length ∧ Pv i σ H, ⟨xs.length, rfl, h0⟩, ?_⟩
  rintro i m σ H ⟨hm, p⟩
  have q := hl i σ H (by omega) p
  cases m with
  | zero =>
    have e : i = xs.length := by omega
    subst e
    exact .inl ⟨⟨xs, q, Nat.le_refl _⟩, hd σ H p⟩
  | succ m =>
    have hi : i < xs.length := by omega
    refine .inr ⟨⟨xs, xs[i], q, List.getElem?_eq_getElem hi⟩, Pv (i + 1), fun σ' H' p' => ⟨m, by omega, by omega, p'⟩, ?_⟩
    rintro x H' ⟨T, y, rfl, hT, rfl, hy⟩
    exact hs i y σ H T (hy xs q) p hT
end K7
namespace K7
open PySem PySem.Spec PyProof.Rows L2
theorem cutV_to (xs : List V) (m : Nat) : cutV xs none (some (m : Int)) = xs.take m := by
  unfold cutV
  rw [HT.sIx_nat, HT.sIx_none, List.drop_zero, Nat.sub_zero]
  by_cases h : m ≤ xs.length
  · rw [Nat.min_eq_left h]
  · rw [Nat.min_eq_right (by omega), List.take_of_length_le (Nat.le_refl _), List.take_of_length_le (by omega)]
theorem cutV_from (xs : List V) (m : Nat) : cutV xs (some (m : Int)) none = xs.drop m := by
  unfold cutV
  rw [HT.sIx_nat, HT.sIx_none]
  by_cases h : m ≤ xs.length
  · rw [Nat.min_eq_left h, List.take_of_length_le (by rw [List.length_drop]; exact Nat.le_refl _)]
  · rw [Nat.min_eq_right (by omega), Nat.sub_self, List.take_zero, List.drop_eq_nil_of_le (by omega)]
theorem bigS (n : Nat) (h : n ≤ 100000) : n < sizeLine := Nat.lt_of_le_of_lt h (by decide)
end K7

namespace K7
open PySem PySem.Spec PyProof.Rows L2
open Evl (Ex Ev EvT EvL EvA ex_l ex_t sq_of st_of sz_of sz_lt fresh_back)
/-- [e for c in text] -/
theorem lcS {x : Str} {j : Nat} {vs : List Nat} {σ : L2.St} {H : Hp} {Q : Addr → Hp → Prop} {te : TE} (gv : Nat → V) (hz : x.length ≤ 50000)
    (he : ∀ c ∈ x.cps.toList, Ev te ((wipe σ vs).set j (some (.str ⟨#[c]⟩))) H (gv c))
    (hQ : ∀ D H', H D = none → Sm H H' → H' D = some (.lst (x.cps.toList.map gv)) → Q D H') (hw : ∀ x, wipe ((wipe σ vs).set j (some x)) vs = wipe σ vs := by intro _; rfl) :
    ∀ D, H D = none → ∃ W : Nat → Nat → Hp → Prop, (∃ m, W 0 m (upd H D (.lst []))) ∧ ∀ i m H', W i m H' →
      ((Its x).stop i H' ∧ Q D H') ∨ ((Its x).go i H' ∧ ∃ Nx : Hp → Prop, (∀ H'', Nx H'' → ∃ m', m' < m ∧ W (i + 1) m' H'') ∧ ∀ v H'', (Its x).yld i H' v H'' → gName j v (wipe σ vs) H'' fun σ2 H2 => wipe σ2 vs = wipe σ vs ∧ tYes σ2 H2 fun b H3 =>
        if b = true then te σ2 H3 fun y H4 => ∃ acc, H4 D = some (.lst acc) ∧ acc.length < sizeLine ∧ Nx (upd H4 D (.lst (acc ++ [y]))) else Nx H3) := fun D hD => by
  have hz' : x.cps.size ≤ 50000 := hz
  refine ⟨fun i m H' => i + m = x.cps.size ∧ Sm H H' ∧ H' D = some (.lst ((x.cps.toList.take i).map gv)), ⟨x.cps.size, Nat.zero_add _, Ex.new hD, upd_same⟩, ?_⟩
  rintro i m H' ⟨hm, e, h⟩
  cases m with
  | zero =>
    have hi : i = x.cps.size := by omega
    subst hi
    refine .inl ⟨Nat.le_refl _, hQ D H' hD e ?_⟩
    rw [← Array.length_toList, List.take_length] at h
    exact h
  | succ m =>
    have hi : i < x.cps.size := by omega
    refine .inr ⟨hi, _, fun H'' q => ⟨m, Nat.lt_succ_self _, q⟩, ?_⟩
    rintro v H'' ⟨rfl, c, hc, rfl⟩
    have hc' : x.cps.toList[i]? = some c := by rw [Array.getElem?_toList]; exact hc
    refine ⟨hw _, ?_⟩
    show te _ H'' _
    refine he c (List.mem_of_getElem? hc') H'' e _ fun H4 e4 => ⟨_, e4 D _ h, ?_, by omega, Ex.mut (e.trans e4) hD, ?_⟩
    · refine sz_lt ?_
      rw [List.length_map]
      have := List.length_take_le i x.cps.toList
      omega
    · rw [take_succ' hc', List.map_append]
      exact upd_same
/-- {k: e for y in a} -/
theorem dc_list {K : PySem.W.Frag} {a : Addr} {xs : List V} {g : TG} {tt : TT} {tk tv : TE} {vs : List Nat} {σ : L2.St} {H1 : Hp} {D : Addr} {Qd : Hp → Prop} (Pv : Nat → Hp → Prop) (h0 : Pv 0 (upd H1 D (.dK []))) (hl : ∀ i H, i ≤ xs.length → Pv i H → SqL K H a xs)
    (hs : ∀ i x H, xs[i]? = some x → Pv i H → g x (wipe σ vs) H fun σ2 H2 => wipe σ2 vs = wipe σ vs ∧ tt σ2 H2 fun b H3 =>
      if b = true then tk σ2 H3 fun y H4 => tv σ2 H4 fun z H5 => ∃ kvs k, y = kV k ∧ H5 D = some (.dK kvs) ∧ kvs.length < sizeLine ∧ Pv (i + 1) (upd H5 D (.dK (putK kvs k z))) else Pv (i + 1) H3) (hd : ∀ H, Pv xs.length H → Qd H) :
    ∃ W : Nat → Nat → Hp → Prop, (∃ m, W 0 m (upd H1 D (.dK []))) ∧ ∀ i m H, W i m H →
      ((Itl K a).stop i H ∧ Qd H) ∨ ((Itl K a).go i H ∧ ∃ Nx : Hp → Prop, (∀ H', Nx H' → ∃ m', m' < m ∧ W (i + 1) m' H') ∧ ∀ x H', (Itl K a).yld i H x H' → g x (wipe σ vs) H' fun σ2 H2 => wipe σ2 vs = wipe σ vs ∧ tt σ2 H2 fun b H3 =>
        if b = true then tk σ2 H3 fun y H4 => tv σ2 H4 fun z H5 => ∃ kvs k, y = kV k ∧ H5 D = some (.dK kvs) ∧ kvs.length < sizeLine ∧ Nx (upd H5 D (.dK (putK kvs k z))) else Nx H3) := by
  refine ⟨fun i m H => i + m = xs.length ∧ Pv i H, ⟨xs.length, Nat.zero_add _, h0⟩, ?_⟩
  rintro i m H ⟨hm, p⟩
  have q := hl i H (by omega) p
  cases m with
  | zero =>
    have e : i = xs.length := by omega
    subst e
    exact .inl ⟨⟨xs, q, Nat.le_refl _⟩, hd H p⟩
  | succ m =>
    have hi : i < xs.length := by omega
    refine .inr ⟨⟨xs, xs[i], q, List.getElem?_eq_getElem hi⟩, Pv (i + 1), fun H' p' => ⟨m, by omega, by omega, p'⟩, ?_⟩
    rintro x H' ⟨rfl, y⟩
    exact hs i x _ (y xs q) p
end K7

set_option Elab.async false
set_option linter.all false
set_option maxRecDepth 100000
set_option maxHeartbeats 1000000
namespace K7
open PySem PySem.Spec PyProof.Rows L2
open PySem.W (Datum)
open Evl (Ex Ev EvT EvL EvA ex_l ex_t sq_of st_of sz_of sz_lt fresh_back)

/-! ### data on the abstract heap -/
mutual
theorem dp_mono {K : PySem.W.Frag} {H H' : Hp} (e : Sm H H') : ∀ (d : PyData) (v : V), Dp K H v d → Dp K H' v d
  | .none, _, h => by cases h; exact .non
  | .bool b, _, h => by cases h; exact .bl b
  | .int i, _, h => by cases h; exact .int i
  | .str x, _, h => by cases h; exact .str x
  | .list ds, _, h => by
    cases h with
    | lst h1 h2 => exact .lst (ex_l e h1) (dpAll_mono e ds _ h2)
  | .tuple ds, _, h => by
    cases h with
    | tup h1 h2 => exact .tup (ex_t e h1) (dpAll_mono e ds _ h2)
  | .dict _, _, h => by cases h
theorem dpAll_mono {K : PySem.W.Frag} {H H' : Hp} (e : Sm H H') : ∀ (ds : List PyData) (vs : List V), DpAll K H vs ds → DpAll K H' vs ds
  | [], _, h => by cases h; exact .nil
  | d :: ds, _, h => by
    cases h with
    | cons h1 h2 => exact .cons (dp_mono e d _ h1) (dpAll_mono e ds _ h2)
end
theorem dp_strs {K : PySem.W.Frag} {H : Hp} : ∀ xs : List Str, DpAll K H (xs.map V.str) (xs.map Datum.toD)
  | [] => .nil
  | x :: xs => .cons (.str x) (dp_strs xs)
theorem dp_ls {K : PySem.W.Frag} {H : Hp} {a : Addr} {xs : List Str} (h : LS H a xs) : Dp K H (.ref a) (Datum.toD xs) := .lst (sq_of h) (dp_strs xs)
def natsD (ns : List Nat) : PyData := .list (ns.map fun n : Nat => PyData.int (n : Int))
theorem dp_nats {K : PySem.W.Frag} {H : Hp} : ∀ xs : List Nat, DpAll K H (xs.map fun n : Nat => V.int (n : Int)) (xs.map fun n : Nat => PyData.int (n : Int))
  | [] => .nil
  | x :: xs => .cons (.int _) (dp_nats xs)
theorem dp_li {K : PySem.W.Frag} {H : Hp} {a : Addr} {xs : List Nat} (h : LI H a xs) : Dp K H (.ref a) (natsD xs) := .lst (sq_of h) (dp_nats xs)
theorem dp_two {K : PySem.W.Frag} {H : Hp} {r : Addr} {p : Str × Str} (h : TwoAt H r p) : Dp K H (.ref r) (Datum.toD p) := .tup (st_of h) (.cons (.str _) (.cons (.str _) .nil))
theorem dp_twos {K : PySem.W.Frag} {H : Hp} : ∀ {rs : List Addr} {ps : List (Str × Str)}, Paired (TwoAt H) rs ps → DpAll K H (rs.map V.ref) (ps.map Datum.toD)
  | _, _, .nil => .nil
  | _, _, .cons h t => .cons (dp_two h) (dp_twos t)
theorem dp_pairs {K : PySem.W.Frag} {H : Hp} {a : Addr} {ps : List (Str × Str)} (h : PairsAt H a ps) : Dp K H (.ref a) (Datum.toD ps) := by
  obtain ⟨rs, h1, h2⟩ := h
  exact .lst (sq_of h1) (dp_twos h2)
/-! ### that == may ask -/
theorem strOk_of {z : Str} {n : Nat} (h : ∀ c ∈ z.cps.toList, c ≤ n) (hn : n < 0x110000) : PyData.strOk z = true := by
  unfold PyData.strOk
  rw [← Array.all_toList]
  exact List.all_eq_true.mpr fun c hc => decide_eq_true (Nat.lt_of_le_of_lt (h c hc) hn)
theorem Kd.strOk {z : Str} (h : Kd z) : PyData.strOk z = true := strOk_of (n := 122) (fun c hc => (h.low c hc).2) (by decide)
theorem canAll_of {α : Type} {f : α → PyData} : ∀ {l : List α}, (∀ x ∈ l, (f x).canLay0 = true) → PyData.canLayAll0 (l.map f) = true
  | [], _ => rfl
  | x :: l, h => by
    show ((f x).canLay0 && PyData.canLayAll0 (l.map f)) = true
    rw [h x List.mem_cons_self, canAll_of fun y hy => h y (List.mem_cons_of_mem _ hy)]
    rfl
theorem depthAll_le {α : Type} {f : α → PyData} {n : Nat} : ∀ {l : List α}, (∀ x ∈ l, (f x).depth ≤ n) → PyData.depthAll (l.map f) ≤ n
  | [], _ => Nat.zero_le _
  | x :: l, h => by
    show max ((f x).depth) (PyData.depthAll (l.map f)) ≤ n
    exact Nat.max_le.mpr ⟨h x List.mem_cons_self, depthAll_le fun y hy => h y (List.mem_cons_of_mem _ hy)⟩
theorem shaped_of {d : PyData} (h : d.canLay0 = true) (hd : d.depth ≤ 64) : SeqAt.shaped d = true := by
  unfold SeqAt.shaped
  rw [h, decide_eq_true hd]
  rfl
def okS (xs : List Str) : Prop := ∀ x ∈ xs, PyData.strOk x = true
def okP (ps : List (Str × Str)) : Prop := ∀ p ∈ ps, PyData.strOk p.1 = true ∧ PyData.strOk p.2 = true
theorem can_strs {xs : List Str} (h : okS xs) : (Datum.toD xs).canLay0 = true := canAll_of (f := PyData.str) h
theorem can_two {p : Str × Str} (h : PyData.strOk p.1 = true ∧ PyData.strOk p.2 = true) : (Datum.toD p).canLay0 = true := by
  show ((PyData.strOk p.1) && (PyData.strOk p.2 && true)) = true
  rw [h.1, h.2]
  rfl
theorem can_pairs {ps : List (Str × Str)} (h : okP ps) : (Datum.toD ps).canLay0 = true := canAll_of (f := Datum.toD) fun p hp => can_two (h p hp)
theorem can_nats (ns : List Nat) : (natsD ns).canLay0 = true := canAll_of (f := fun n : Nat => PyData.int (n : Int)) fun _ _ => rfl
theorem sh_strs {xs : List Str} (h : okS xs) : SeqAt.shaped (Datum.toD xs) = true := shaped_of (can_strs h) (Nat.le_trans (Datum.depth_le xs) (by decide))
theorem sh_two {p : Str × Str} (h : PyData.strOk p.1 = true ∧ PyData.strOk p.2 = true) : SeqAt.shaped (Datum.toD p) = true := shaped_of (can_two h) (Nat.le_trans (Datum.depth_le p) (by decide))
theorem sh_pairs {ps : List (Str × Str)} (h : okP ps) : SeqAt.shaped (Datum.toD ps) = true := shaped_of (can_pairs h) (Nat.le_trans (Datum.depth_le ps) (by decide))
theorem sh_nats (ns : List Nat) : SeqAt.shaped (natsD ns) = true := by
  refine shaped_of (can_nats ns) ?_
  show PyData.depthAll _ + 1 ≤ 64
  exact Nat.succ_le_succ (Nat.le_trans (depthAll_le (n := 0) fun _ _ => Nat.le_refl _) (by decide))
theorem any_eqv {α : Type} [DecidableEq α] [Datum α] (l : List α) (x : α) : ((l.map Datum.toD).any fun z => PyData.eqv z (Datum.toD x)) = decide (x ∈ l) := by
  induction l with
  | nil => rfl
  | cons y l ih =>
    rw [List.map_cons, List.any_cons, ih, Datum.eqv]
    by_cases h : y = x
    · subst h; simp
    · have h' : x ≠ y := fun z => h z.symm
      simp [h, h']
theorem any_eqvP (l : List (Str × Str)) (x : Str × Str) : ((l.map Datum.toD).any fun z => PyData.eqv z (Datum.toD x)) = decide (x ∈ l) := (any_eqv l x).trans (decide_eq_decide.mpr Iff.rfl)
theorem any_eqvS (l : List Str) (x : Str) : ((l.map Datum.toD).any fun z => PyData.eqv z (Datum.toD x)) = decide (x ∈ l) := (any_eqv l x).trans (decide_eq_decide.mpr Iff.rfl)
theorem eqv_nats (a b : List Nat) : PyData.eqv (natsD a) (natsD b) = decide (a = b) := by
  have h := Datum.eqv (α := List Int) (a.map Int.ofNat) (b.map Int.ofNat)
  have e : ∀ c : List Nat, (Datum.toD (c.map Int.ofNat) : PyData) = natsD c := fun c => by
    show PyData.list ((c.map Int.ofNat).map PyData.int) = _
    rw [List.map_map]; rfl
  rw [e, e] at h
  rw [h]
  refine decide_eq_decide.mpr ⟨fun q => ?_, fun q => by rw [q]⟩
  exact List.map_inj_right (f := Int.ofNat) (fun x y z => Int.ofNat.inj z) |>.mp q

/-! ### the order of two kinds -/
def leS (a b : Str) : Bool := !decide (b.cps.toList < a.cps.toList)
def inOrd (a b : Str) : Str × Str := if leS a b then (a, b) else (b, a)
theorem inOrd_mem {a b : Str} : inOrd a b = (a, b) ∨ inOrd a b = (b, a) := by
  unfold inOrd
  split
  · exact .inl rfl
  · exact .inr rfl
theorem inOrd_ok {a b : Str} (h1 : PyData.strOk a = true) (h2 : PyData.strOk b = true) : PyData.strOk (inOrd a b).1 = true ∧ PyData.strOk (inOrd a b).2 = true := by
  rcases inOrd_mem (a := a) (b := b) with h | h <;> rw [h]
  · exact ⟨h1, h2⟩
  · exact ⟨h2, h1⟩
theorem leS_total (a b : Str) : leS a b = true ∨ leS b a = true := by
  unfold leS
  rw [Bool.not_eq_true', Bool.not_eq_true', decide_eq_false_iff_not, decide_eq_false_iff_not]
  by_cases h : b.cps.toList < a.cps.toList
  · exact .inr fun q => absurd (List.lt_asymm h) (fun z => z q)
  · exact .inl h
theorem leS_anti {a b : Str} (h1 : leS a b = true) (h2 : leS b a = true) : a = b := by
  unfold leS at h1 h2
  rw [Bool.not_eq_true', decide_eq_false_iff_not] at h1 h2
  have e : a.cps.toList = b.cps.toList := List.le_antisymm h1 h2
  cases a; cases b
  exact congrArg _ (Array.toList_inj.mp e)
theorem inOrd_comm (a b : Str) : inOrd a b = inOrd b a := by
  unfold inOrd
  cases h1 : leS a b <;> cases h2 : leS b a
  · rcases leS_total a b with q | q
    · rw [h1] at q; cases q
    · rw [h2] at q; cases q
  · simp
  · simp
  · have := leS_anti h1 h2
    subst this
    rfl
theorem inOrd_eq {a b c d : Str} (h : inOrd a b = inOrd c d) : (a = c ∧ b = d) ∨ (a = d ∧ b = c) := by
  rcases inOrd_mem (a := a) (b := b) with h1 | h1 <;> rcases inOrd_mem (a := c) (b := d) with h2 | h2 <;> rw [h1, h2] at h <;> have e1 := congrArg Prod.fst h <;> have e2 := congrArg Prod.snd h <;> simp at e1 e2
  · exact .inl ⟨e1, e2⟩
  · exact .inr ⟨e1, e2⟩
  · exact .inr ⟨e2, e1⟩
  · exact .inl ⟨e2, e1⟩
theorem fit_ord (ps : List (Str × Str)) (x y : Str) : fitP ps x y = decide (inOrd x y ∈ ps.map fun p => inOrd p.1 p.2) := by
  unfold fitP
  rw [← Bool.decide_or]
  refine decide_eq_decide.mpr ?_
  rw [List.mem_map]
  constructor
  · rintro (h | h)
    · exact ⟨_, h, rfl⟩
    · exact ⟨_, h, inOrd_comm _ _⟩
  · rintro ⟨⟨c, d⟩, hp, e⟩
    rcases inOrd_eq e with ⟨rfl, rfl⟩ | ⟨rfl, rfl⟩
    · exact .inl hp
    · exact .inr hp
/-! ### a suits object -/
def mtS (sk : List Str) (sp : List (Str × Str)) (k : Str) : List Str := sk.filter fun o => decide (inOrd k o ∈ sp)
structure SuitsOk (sk : List Str) (sp : List (Str × Str)) : Prop where
  nd : sk.Nodup
  hi : sk.length ≤ 8
  ok : okS sk
  okp : okP sp
def SuitsAt (C : Addr) (H : Hp) (s : Addr) (sk : List Str) (sp : List (Str × Str)) : Prop :=
  ∃ (dx ka pa ma : Addr) (m : Str → Addr), H s = some (.ins C dx [("its_kinds", .ref ka), ("its_pairs", .ref pa), ("its_mates", .ref ma)]) ∧ LS H ka sk ∧ PairsAt H pa sp ∧
    H ma = some (.dK (sk.map fun k => ((.inr k : Key), V.ref (m k)))) ∧ ∀ k ∈ sk, LS H (m k) (mtS sk sp k)
theorem SuitsAt.mono {C : Addr} {H H' : Hp} {s : Addr} {sk : List Str} {sp : List (Str × Str)} (e : Sm H H') (h : SuitsAt C H s sk sp) : SuitsAt C H' s sk sp := by
  obtain ⟨dx, ka, pa, ma, m, h1, h2, h3, h4, h5⟩ := h
  exact ⟨dx, ka, pa, ma, m, e _ _ h1, e _ _ h2, h3.mono e, e _ _ h4, fun k hk => e _ _ (h5 k hk)⟩
theorem valV_map {m : Str → V} : ∀ {sk : List Str} {k : Str}, k ∈ sk → valV (sk.map fun k => ((.inr k : Key), m k)) (.inr k) = some (m k)
  | [], _, h => absurd h List.not_mem_nil
  | x :: sk, k, h => by
    rw [List.map_cons]
    by_cases e : x = k
    · subst e
      exact valV_pos rfl
    · rw [valV_neg (fun z => e (by injection z))]
      rcases List.mem_cons.mp h with q | q
      · exact absurd q.symm e
      · exact valV_map q
theorem mtS_len (sk : List Str) (sp : List (Str × Str)) (k : Str) : (mtS sk sp k).length ≤ sk.length := List.length_filter_le _ _
theorem hu65 {A : Around} {k : Nat} (hr : Room k A) : A.units + 65 < cLine := by
  have := hr.un
  omega
end K7

set_option Elab.async false
set_option linter.all false
set_option maxRecDepth 100000
set_option maxHeartbeats 1000000
namespace K7
open PySem PySem.Spec PyProof.Rows L2
open PySem.W (Datum)
open Evl (Ex Ev EvT EvL EvA ex_l ex_t sq_of st_of sz_of sz_lt fresh_back)
section
variable {X : Cx} {K : PySem.W.Frag}
/-! ### the rules whose readings name K, by K itself (a comprehension's block) -/
theorem k_in_seq (hK : X.K = K := by rfl) : OpR X (compareOp .In) (rIn K false) := by
  subst hK
  exact op_in_seq
theorem k_notIn_seq (hK : X.K = K := by rfl) : OpR X (compareOp .NotIn) (rIn K true) := by
  subst hK
  exact op_notIn_seq
theorem k_inD (hu : X.A.units + 65 < cLine) (hK : X.K = K := by rfl) : OpR X (compareOp .In) (rInD K) := by
  subst hK
  exact op_inD hu
theorem k_eqD (hu : X.A.units + 64 < cLine) (hK : X.K = K := by rfl) : OpR X (compareOp .Eq) (rEqD K) := by
  subst hK
  exact op_eqD hu
theorem k_neD (hu : X.A.units + 64 < cLine) (hK : X.K = K := by rfl) : OpR X (compareOp .NotEq) (rNeD K) := by
  subst hK
  exact op_neD hu
theorem k_ix_list (hK : X.K = K := by rfl) : IxR X (rIxL K) := by
  subst hK
  exact ix_list
theorem k_ix_tup (hK : X.K = K := by rfl) : IxR X (rIxT K) := by
  subst hK
  exact ix_tup
def rLenQ (K : PySem.W.Frag) : List V → Hp → VK → Prop := fun xs H Q => ∃ p ys, xs = [.ref p] ∧ (SqL K H p ys ∨ SqT K H p ys) ∧ Q (.int ys.length) H
theorem k_len_seq (hK : X.K = K := by rfl) : CallR X (.builtin "len") (rLenQ K) := by
  subst hK
  exact call_len_seq
theorem k_any (hc : X.calm = true) (hK : X.K = K := by rfl) : CallR X (.builtin "any") (rAny K) := by
  subst hK
  exact cr_any hc
theorem k_all (hc : X.calm = true) (hK : X.K = K := by rfl) : CallR X (.builtin "all") (rAll K) := by
  subst hK
  exact cr_all hc
theorem k_pi_list {l tg : Expr} {tl : TE} (hl : PE X l tl) (hK : X.K = K := by rfl) : PI X tg l (iList K tl) := by
  subst hK
  exact pi_list hl
theorem k_fld {e : Expr} {f : Str} {pos : Pos} {ta : TE} (he : PE X e ta) (hb : attributeBase e f X.env (eval e X.env) = eval e X.env) (hK : X.K = K := by rfl) : PE X (.Attribute e f pos) (tFld K ta f) := by
  subst hK
  exact pe_fld he hb
theorem k_sl_list (hK : X.K = K := by rfl) : SlR X (rSlL K) := by
  subst hK
  exact sl_list
def rListQ (K : PySem.W.Frag) : List V → Hp → VK → Prop := fun xs H Q => ∃ p ys, xs = [.ref p] ∧ (SqL K H p ys ∨ SqT K H p ys) ∧ ∀ l, H l = none → Q (.ref l) (upd H l (.lst ys))
theorem k_list_of (hK : X.K = K := by rfl) : CallR X (.type "list") (rListQ K) := by
  subst hK
  exact call_list_of
theorem k_pg_tup {es : List Expr} {k : Nat} {t : TGs} {n : Nat} {pos : Pos} (hc : X.calm = true) (h : PGs X es t)
    (hn : (assignEach es X.env).length = n := by rfl) (hst : (assignEach es X.env).findIdx? (·.1) = none := by rfl) (hK : X.K = K := by rfl) : PG X (.Tuple es k pos) (gTup K n t) := by
  subst hK
  exact pg_tup hc h hn hst
theorem k_pi_enum {e : Expr} {ta : TA} {p pos tpos : Pos} {elts : List Expr} {kk : Nat} (hg : Gl X "enumerate") (hm : X.mg "enumerate" = none) (ha : PA X [e] ta) (hs : starEach [e] X.env = [(false, eval e X.env)] := by rfl) (hK : X.K = K := by rfl) :
    PI X (.Tuple elts kk tpos) (.Call (.Name "enumerate" p) [e] [] pos) (iEnum K ta) := by
  subst hK
  exact pi_enum hg hm ha hs
theorem k_star {te : TE} {t : TA} {e : Expr} {es : List Expr} {p : Pos} (he : PE X e te) (hr : PA X es t) (hs : starEach (.Starred e p :: es) X.env = (true, eval e X.env) :: starEach es X.env := by rfl) (hK : X.K = K := by rfl) : PA X (.Starred e p :: es) (StX.tStar K te t) := by
  subst hK
  exact StX.pa_star he hr hs
theorem one_le : 1 ≤ sizeLine := by decide
theorem three_le : 3 ≤ sizeLine := by decide
theorem four_le : 4 ≤ sizeLine := by decide
theorem ten_le : 10 ≤ sizeLine := by decide
end
end K7

set_option Elab.async false
set_option linter.all false
set_option maxRecDepth 100000
set_option maxHeartbeats 1000000
namespace K7
open PySem PySem.Spec PyProof.Rows L2
open PySem.W (Datum)
open Evl (Ex Ev EvT EvL EvA ex_l ex_t sq_of st_of sz_of sz_lt fresh_back)
/-! ### lists of texts: remove, count -/
/-- the values one by one -/
theorem strs_vals : ∀ {us : List Value} {xs : List Str}, Vals (xs.map V.str) us → ∀ (i : Nat) (x : Str), xs[i]? = some x → ∃ t, us[i]? = some (.str x t) := fun {us xs} r i x h => by
  obtain ⟨u, hu, ru⟩ := r.get (i := i) (x := V.str x) (by rw [List.getElem?_map, h]; rfl)
  obtain ⟨t, rfl⟩ := ru
  exact ⟨t, hu⟩
def eqT (k : Str) (v : Value) : Bool := match v with
  | .str x _ => x.cps.toList == k.cps.toList
  | _ => false
theorem tl_beq (x k : Str) : (x.cps.toList == k.cps.toList) = decide (x = k) := by
  cases h : decide (x = k)
  · have h := of_decide_eq_false h
    refine beq_eq_false_iff_ne.mpr fun e => h ?_
    cases x; cases k
    exact congrArg _ (Array.toList_inj.mp e)
  · rw [of_decide_eq_true h]
    exact beq_self_eq_true _
theorem eqT_gives {k : Str} {t : Tok} : ∀ {us : List Value} {xs : List Str}, Vals (xs.map V.str) us → ∀ y ∈ us, MeetsSeq.EqGives y (.str k t) (eqT k y)
  | _, [], r, y, hy => by cases r; cases hy
  | _, x :: xs, r, y, hy => by
    cases r with
    | cons r1 r2 =>
      obtain ⟨tx, rfl⟩ := r1
      rcases List.mem_cons.mp hy with e | e
      · rw [e]
        exact SeqRoads2.EqGives.str x k tx t
      · exact eqT_gives r2 y e
theorem eqT_count {k : Str} : ∀ {us : List Value} {xs : List Str}, Vals (xs.map V.str) us → us.countP (eqT k) = xs.count k
  | _, [], r => by cases r; rfl
  | _, x :: xs, r => by
    cases r with
    | cons r1 r2 =>
      obtain ⟨tx, rfl⟩ := r1
      rw [List.countP_cons, List.count_cons, eqT_count r2]
      show _ + (if (x.cps.toList == k.cps.toList) = true then 1 else 0) = _
      rw [tl_beq]
      by_cases e : x = k
      · simp [e]
      · simp [e]
/-- the first place of a member -/
theorem first_str : ∀ {xs : List Str} {k : Str}, k ∈ xs → ∃ j, j < xs.length ∧ xs[j]? = some k ∧ (∀ i, i < j → xs[i]? ≠ some k) ∧ xs.eraseIdx j = xs.erase k
  | [], k, h => absurd h List.not_mem_nil
  | x :: xs, k, h => by
    by_cases e : x = k
    · subst e
      exact ⟨0, Nat.succ_pos _, rfl, fun i hi => absurd hi (Nat.not_lt_zero _), by simp⟩
    · obtain ⟨j, h1, h2, h3, h4⟩ := first_str (xs := xs) (k := k) ((List.mem_cons.mp h).resolve_left fun z => e z.symm)
      refine ⟨j + 1, Nat.succ_lt_succ h1, h2, fun i hi => ?_, ?_⟩
      · cases i with
        | zero => intro z; exact e (Option.some.inj z)
        | succ i => exact h3 i (Nat.lt_of_succ_lt_succ hi)
      · rw [List.eraseIdx_cons_succ, h4, List.erase_cons_tail (by rw [beq_iff_eq]; exact e)]
theorem map_eraseIdx {α β : Type} (f : α → β) : ∀ (l : List α) (j : Nat), (l.map f).eraseIdx j = (l.eraseIdx j).map f
  | [], j => by simp
  | a :: r, 0 => by simp
  | a :: r, j + 1 => by
    have ih := map_eraseIdx f r j
    simp [ih]
section
variable {X : Cx}
def rRemS : V → List V → Hp → VK → Prop := fun x xs H Q => ∃ (l : Addr) (ys : List Str) (k : Str), x = .ref l ∧ xs = [.str k] ∧ LS H l ys ∧ k ∈ ys ∧ Q .non (upd H l (.lst ((ys.erase k).map V.str)))
theorem mt_removeS : MtM X "list.remove" rRemS := by
  intro pins s σ H x xs v us Q I rx rxs h
  obtain ⟨l, ys, k, rfl, rfl, hH, hk, q⟩ := h
  cases rx
  obtain ⟨u, rfl, ru⟩ := rxs.one
  obtain ⟨t, rfl⟩ := ru
  obtain ⟨z, its, n, r, hl, e⟩ := I.lstM hH
  rw [List.length_map] at hl z
  obtain ⟨j, hj, hjk, hno, he⟩ := first_str hk
  have hjl : j < its.toArray.size := by rw [List.size_toArray]; omega
  have at_ : ∀ (i : Nat) (hi : i < its.toArray.size) (x : Str), ys[i]? = some x → eqT k its.toArray[i] = decide (x = k) := fun i hi x hx => by
    obtain ⟨tx, hu⟩ := strs_vals r i x hx
    obtain ⟨_, h2⟩ := List.getElem?_eq_some_iff.mp hu
    have e1 : its.toArray[i] = .str x tx := by simpa using h2
    rw [e1]
    exact tl_beq x k
  refine call_meets PySem.F.slot_list_remove ⟨_, e, rfl⟩ PySem.F.entry_list_remove (PySem.F.args_list_remove_2 _ _)
    (MeetsSeq.list_remove l its.toArray n (.str k t) (eqT k) (fun y hy => eqT_gives r y (by simpa using hy)) j hjl ?_ ?_ (by rw [List.size_toArray]; omega)) ⟨e, ?_⟩
  · rw [at_ j hjl k hjk]
    exact decide_eq_true rfl
  · intro m hm hmj
    have hmn : m < ys.length := by rw [List.size_toArray] at hm; omega
    rw [at_ m hm _ (List.getElem?_eq_getElem hmn)]
    exact decide_eq_false fun z => hno m hmj (by rw [List.getElem?_eq_getElem hmn, z])
  · have rr := r.eraseIdx j
    have em : (ys.map V.str).eraseIdx j = (ys.erase k).map V.str := by rw [← he, map_eraseIdx]
    rw [em] at rr
    refine ⟨.non, _, I.lset (its' := its.eraseIdx j) (t' := s.toks) hH e ?_ rr ?_, rfl, q⟩
    · show its.toArray.eraseIdxIfInBounds j = (its.eraseIdx j).toArray
      rw [List.eraseIdxIfInBounds_toArray]
    · have z2 := len_erase ys j
      rw [List.length_map, ← he]
      omega
def rCntS (K : PySem.W.Frag) : V → List V → Hp → VK → Prop := fun x xs H Q => ∃ (p : Addr) (ys : List Str) (k : Str), x = .ref p ∧ xs = [.str k] ∧ SqL K H p (ys.map V.str) ∧ Q (.int (ys.count k : Nat)) H
theorem mt_countS : MtR X "list.count" (rCntS X.K) := by
  intro pins s σ H x xs v us Q I rx rxs h
  obtain ⟨p, ys, k, rfl, rfl, hs, q⟩ := h
  cases rx
  obtain ⟨u, rfl, ru⟩ := rxs.one
  obtain ⟨t, rfl⟩ := ru
  obtain ⟨its, rv, ⟨⟨cls, dd, data, sl⟩, n, ho, hc, hdn, hd⟩, hlen⟩ := I.list hs
  simp only at hc hd
  subst hc hd
  refine call_meets PySem.F.slot_list_count ⟨_, ho, rfl⟩ PySem.F.entry_list_count (PySem.F.args_list_count_2 _ _)
    (SeqAt.list_countAt p its.toArray n dd sl (.str k t) (eqT k)) ⟨ho, fun y hy => (eqT_gives rv y (by simpa using hy)).at _ _, ?_⟩
  have ec : its.toArray.toList.countP (eqT k) = ys.count k := eqT_count rv
  refine ⟨.int (ys.count k : Nat), H, I.tok _, ⟨s.toks, ?_⟩, q⟩
  show Value.int ((its.toArray.toList.countP (eqT k) : Nat) : Int) s.toks = Value.int ((ys.count k : Nat) : Int) s.toks
  rw [ec]
end
end K7

set_option Elab.async false
set_option linter.all false
set_option maxRecDepth 100000
set_option maxHeartbeats 1000000
namespace K7
open PySem PySem.Spec PyProof.Rows L2
open PySem.W (Datum EachIs AllAlike Sortable dataLe)
open Evl (Ex Ev EvT EvL EvA ex_l ex_t sq_of st_of sz_of sz_lt fresh_back)
/-- sorted(xs), the items by what they stand for: one order for all time -/
def rSortedG (K : PySem.W.Frag) : List V → Hp → VK → Prop := fun vs H Q => ∃ (β : Type) (enc : β → PyData) (G : V → β → Prop) (a : Addr) (xs : List V) (bs : List β), vs = [.ref a] ∧ SqL K H a xs ∧ Paired G xs bs ∧ (∀ x b, G x b → b ∈ bs → Dp K H x (enc b)) ∧
  AllAlike (bs.map enc) ∧ Sortable (bs.map enc) ∧ (∀ b ∈ bs, (enc b).depth ≤ 8) ∧ ∀ ys p, Paired G ys (bs.mergeSort (dataLe false enc)) → H p = none → Q (.ref p) (upd H p (.lst ys))
theorem paired_each {β : Type} {G : V → β → Prop} : ∀ {xs : List V} {us : List Value} {bs : List β}, Vals xs us → Paired G xs bs → EachIs (fun v b => ∃ x, RelV x v ∧ G x b) us bs
  | [], _, _, r, p => by cases r; cases p; exact .nil
  | x :: xs, _, _, r, p => by
    cases r with
    | cons r1 r2 =>
      cases p with
      | cons p1 p2 => exact .cons ⟨x, r1, p1⟩ (paired_each r2 p2)
theorem each_paired {β : Type} {G : V → β → Prop} : ∀ {us : List Value} {bs : List β}, EachIs (fun v b => ∃ x, RelV x v ∧ G x b) us bs → ∃ xs, Vals xs us ∧ Paired G xs bs
  | _, _, .nil => ⟨[], .nil, .nil⟩
  | _, _, .cons ⟨x, h1, h2⟩ t => by
    obtain ⟨xs, q1, q2⟩ := each_paired t
    exact ⟨x :: xs, .cons h1 q1, .cons h2 q2⟩
theorem cr_sortedG {X : Cx} (hu : X.A.units + 64 < cLine) : CallR X (.builtin "sorted") (rSortedG X.K) := by
  intro pins s σ H vs us Q I r h
  obtain ⟨β, enc, G, a, xs, bs, rfl, hs, hp, hd, hal, hso, hdp, q⟩ := h
  obtain ⟨its, rv, hl, hz⟩ := I.list hs
  rw [Vals.ref1 r]
  have e := paired_each rv hp
  have el : bs.length = xs.length := (Paired.length hp).symm
  have er : EachIs (fun v b => ∃ as, Reads s.heap v (enc b) as) its bs := (PySem.W.each_mem e).mono fun v b ⟨⟨x, h1, h2⟩, hb⟩ => Dp.reads I (enc b) x v (hd x b h2 hb) h1
  refine PySem.W.sorted_data hl.isList e er hal hso (by rw [el]; exact hz) (fun b hb => by have := hdp b hb; omega) fun out ho hout => ?_
  obtain ⟨ys, k1, k2⟩ := each_paired hout
  obtain ⟨ep, he'⟩ := PyProof.Rows.sortedAll_at s.heap its out.toArray
  have hlen : ys.length ≤ sizeLine := by
    rw [k1.length, ho, el]
    exact hz
  exact ⟨.ref _, upd H (s.heap.objs.size + 1) (.lst ys), I.laid (t' := s.toks) (fun _ _ => PyProof.Rows.sortedAll_old) (Nat.le_succ _) ⟨hlen, out, ep, k1, he'⟩, rfl, q _ _ k2 (I.hok.fresh (Nat.le_succ _))⟩

/-! ### the sorted things of this claim -/
def sortK (ks : List Str) : List Str := ks.mergeSort (dataLe false PyData.str)
def sortP (ps : List (Str × Str)) : List (Str × Str) := ps.mergeSort (dataLe false Datum.toD)
def sortL (ls : List (List Str)) : List (List Str) := ls.mergeSort (dataLe false Datum.toD)
theorem sortK_perm (ks : List Str) : (sortK ks).Perm ks := List.mergeSort_perm ..
theorem sortP_perm (ks : List (Str × Str)) : (sortP ks).Perm ks := List.mergeSort_perm ..
theorem sortL_perm (ks : List (List Str)) : (sortL ks).Perm ks := List.mergeSort_perm ..
theorem paired_str : ∀ {ys : List V} {bs : List Str}, Paired (fun x b => x = V.str b) ys bs → ys = bs.map V.str
  | _, _, .nil => rfl
  | _, _, .cons h t => by rw [h, paired_str t]; rfl
theorem str_paired : ∀ (bs : List Str), Paired (fun x b => x = V.str b) (bs.map V.str) bs
  | [] => .nil
  | _ :: bs => .cons rfl (str_paired bs)
theorem paired_ref {α : Type} {R : Addr → α → Prop} : ∀ {ys : List V} {bs : List α}, Paired (fun x b => ∃ r, x = V.ref r ∧ R r b) ys bs → ∃ rs, ys = rs.map V.ref ∧ Paired R rs bs
  | _, _, .nil => ⟨[], rfl, .nil⟩
  | _, _, .cons ⟨r, h1, h2⟩ t => by
    obtain ⟨rs, q1, q2⟩ := paired_ref t
    exact ⟨r :: rs, by rw [h1, q1]; rfl, .cons h2 q2⟩
theorem ref_paired {α : Type} {R : Addr → α → Prop} : ∀ {rs : List Addr} {bs : List α}, Paired R rs bs → Paired (fun x b => ∃ r, x = V.ref r ∧ R r b) (rs.map V.ref) bs
  | _, _, .nil => .nil
  | _, _, .cons h t => .cons ⟨_, rfl, h⟩ (ref_paired t)
section
variable {K : PySem.W.Frag} {H : Hp} {Q : VK}
/-- sorted(texts) -/
theorem sortedK_go {a : Addr} {ks : List Str} (h : SqL K H a (ks.map V.str)) (q : ∀ p, H p = none → Q (.ref p) (upd H p (.lst ((sortK ks).map V.str)))) : rSortedG K [.ref a] H Q :=
  ⟨Str, PyData.str, fun x b => x = V.str b, a, _, ks, rfl, h, str_paired ks, fun x b e _ => by rw [e]; exact .str b, AllAlike.of (fun _ _ => by simp [PySem.W.alike]), Sortable.others fun b => ⟨nofun, nofun⟩, fun b _ => Nat.zero_le _,
    fun ys p hp hn => by rw [paired_str hp]; exact q p hn⟩
/-- sorted(pairs) -/
theorem sortedP_go {a : Addr} {ps : List (Str × Str)} (h : PairsAt H a ps) (q : ∀ p H', H p = none → Sm H H' → PairsAt H' p (sortP ps) → Q (.ref p) H') : rSortedG K [.ref a] H Q := by
  obtain ⟨rs, h1, h2⟩ := h
  refine ⟨Str × Str, Datum.toD, fun x b => ∃ r, x = V.ref r ∧ TwoAt H r b, a, _, ps, rfl, sq_of h1, ref_paired h2, fun x b e _ => ?_, AllAlike.of (fun p q => ?_), Sortable.tuples fun b => ⟨_, _, rfl⟩, fun b _ => Nat.le_trans (Datum.depth_le b) (by decide), fun ys p hp hn => ?_⟩
  · obtain ⟨r, rfl, hr⟩ := e
    exact dp_two hr
  · show PySem.W.alike (.tuple [.str p.1, .str p.2]) (.tuple [.str q.1, .str q.2]) = true
    simp [PySem.W.alike, PySem.W.alikeAll]
  · obtain ⟨rs', e1, e2⟩ := paired_ref hp
    exact q p _ hn (Ex.new hn) ⟨rs', by rw [upd_same, e1], Paired.mapP e2 fun _ _ z => z.mono (Ex.new hn)⟩
/-- sorted(lists of texts) -/
def ListsAt (H : Hp) (a : Addr) (ls : List (List Str)) : Prop := ∃ rs : List Addr, H a = some (.lst (rs.map V.ref)) ∧ Paired (fun r l => LS H r l) rs ls
theorem ListsAt.mono {H H' : Hp} {a : Addr} {ls : List (List Str)} (e : Sm H H') (h : ListsAt H a ls) : ListsAt H' a ls := by
  obtain ⟨rs, h1, h2⟩ := h
  exact ⟨rs, e _ _ h1, Paired.mapP h2 fun _ _ q => e _ _ q⟩
theorem alike_strs : ∀ xs ys : List Str, PySem.W.alikeAll (xs.map PyData.str) (ys.map PyData.str) = true
  | [], _ => by simp [PySem.W.alikeAll]
  | _ :: _, [] => by simp [PySem.W.alikeAll]
  | x :: xs, y :: ys => by
    show PySem.W.alikeAll (.str x :: xs.map .str) (.str y :: ys.map .str) = true
    rw [PySem.W.alikeAll, alike_strs xs ys]
    simp [PySem.W.alike]
theorem sortedL_go {a : Addr} {ls : List (List Str)} (h : ListsAt H a ls) (q : ∀ p H', H p = none → Sm H H' → ListsAt H' p (sortL ls) → Q (.ref p) H') : rSortedG K [.ref a] H Q := by
  obtain ⟨rs, h1, h2⟩ := h
  refine ⟨List Str, Datum.toD, fun x b => ∃ r, x = V.ref r ∧ LS H r b, a, _, ls, rfl, sq_of h1, ref_paired h2, fun x b e _ => ?_, AllAlike.of (fun p q => ?_), Sortable.others fun b => ⟨nofun, nofun⟩, fun b _ => Nat.le_trans (Datum.depth_le b) (by decide), fun ys p hp hn => ?_⟩
  · obtain ⟨r, rfl, hr⟩ := e
    exact dp_ls hr
  · show PySem.W.alike (.list (p.map .str)) (.list (q.map .str)) = true
    rw [PySem.W.alike]
    exact alike_strs p q
  · obtain ⟨rs', e1, e2⟩ := paired_ref hp
    exact q p _ hn (Ex.new hn) ⟨rs', by rw [upd_same, e1], Paired.mapP e2 fun _ _ z => Ex.new hn _ _ z⟩
end
end K7

set_option Elab.async false
set_option linter.all false
set_option maxRecDepth 100000
set_option maxHeartbeats 1000000
/-! sets of texts that are walked: set(list), len, sorted -/
namespace K7
open PySem PySem.Spec PyProof.Rows L2
open PySem.W (Datum EachIs AllAlike Sortable dataLe)
open Evl (Ex Ev EvT EvL EvA ex_l ex_t sq_of st_of sz_of sz_lt fresh_back)
/-- the text of an entry -/
def tx (v : Value) : Str := match v with
  | .str x _ => x
  | _ => Str.empty
abbrev ek (e : Int × Value) : Str := tx e.2
def TxE (w : World) (e : Int × Value) : Prop := ∃ k t, e.2 = .str k t ∧ e.1 = hashStr w k
section
variable {P : Program} {w : World}
theorem txe_elems {l : List (Int × Value)} (g : ∀ e ∈ l, TxE w e) : ElemsOf (PySem.strKind P w) l := fun e he => by
  obtain ⟨k, t, h1, h2⟩ := g e he
  exact ⟨⟨k, by rw [h1]; exact keyIs_str k t, h2⟩, by rw [h1]; rfl⟩
theorem txe_is {e : Int × Value} (g : TxE w e) (k : Str) : (PySem.strKind P w).is k e.2 = true ↔ ek e = k := by
  obtain ⟨k0, t, h1, _⟩ := g
  unfold ek tx
  rw [h1]
  constructor
  · intro h
    exact Value.isStrOf_inj (.str k0 t) k0 k (keyIs_str k0 t) h
  · rintro rfl
    exact keyIs_str k0 t
/-- a set of texts with us its members in some order: its table rises, it can be walked -/
def SetT (w : World) (h : Heap) (a : Addr) (us : List Str) : Prop :=
  ∃ o es ep t, h.get? a = some o ∧ o.ExactSet ∧ o.data = .set es ep t ∧ (∀ e ∈ es.toList, TxE w e) ∧ es.toList.map ek = us ∧ us.Nodup ∧ es.size < scanBound ∧ t.fits es.size = true ∧ Ris t.place.toList ∧ (w.params.followText "set-order" = true ∨ t.led = true)
theorem SetT.at {h h' : Heap} {a : Addr} {us : List Str} (R : SetT w h a us) (k : ∀ o, h.get? a = some o → h'.get? a = some o) : SetT w h' a us := by
  obtain ⟨o, es, ep, t, ho, r⟩ := R
  exact ⟨o, es, ep, t, k o ho, r⟩
variable {A : Around} {E : Value → Shared → Prop} {s : Shared} {a : Addr}
/-- the laid table is written, grown when it is too full -/
theorem lay_tail {g : Bool → Sem Unit} (hg : ∀ (b : Bool) (s₁ : Shared) (Q' : Unit → Shared → Prop), Q' () s₁ → wpAny (model P w) A (g b) Q' E s₁)
    {o : Obj} {es es1 : Array (Int × Value)} {ep : Nat} {t t2 : SetTable} (ho : s.heap.get? a = some o) (hex : o.ExactSet) (hd : o.data = .set es ep t)
    (g1 : ∀ e ∈ es1.toList, TxE w e) (nd1 : (es1.toList.map ek).Nodup) (hb1 : es1.size < scanBound) (hf2 : t2.fits es1.size = true) (hr : Ris t2.place.toList) (hl : w.params.followText "set-order" = true ∨ t2.led = true) {wasDummy : Bool} {R : Option Bool → Shared → Prop}
    (hR : ∀ h' vs, Heap.SameBut a s.heap h' → SetT w h' a vs → vs.Perm (es1.toList.map ek) → R (some true) { s with heap := h' }) :
    wpAny (model P w) A (do
        storeSet a es1 t2
        if (!wasDummy && t2.tooFull) = true then do
            g (relayAll t2 es1 (SetTable.grown es1.size)).2.2
            storeSet a (relayAll t2 es1 (SetTable.grown es1.size)).1 (relayAll t2 es1 (SetTable.grown es1.size)).2.1
            pure (some true)
          else pure (some true)) R E s := by
  refine wpAny_bind (wpAny_storeSet_of ho hd ?_ (fits_of_scanBound hb1))
  have ho1 := store_at (es' := es1) (t' := t2) ho hd
  have sb1 := Heap.SameBut.update s.heap a (Obj.putSet es1 t2)
  split
  · have pm := relayAll_perm t2 es1 (SetTable.grown es1.size)
    have hf3 := relayAll_fits t2 es1 (SetTable.grown es1.size)
    have hr3 := relayAll_ris t2 es1 (SetTable.grown es1.size)
    have hl3 := relayAll_led t2 es1 (SetTable.grown es1.size)
    revert pm hf3 hr3 hl3
    generalize relayAll t2 es1 (SetTable.grown es1.size) = Z
    obtain ⟨es2, t3, gave⟩ := Z
    dsimp only
    intro pm hf3 hr3 hl3
    have hb2 : es2.size < scanBound := by
      rw [← Array.length_toList, pm.length_eq, Array.length_toList]
      exact hb1
    refine wpAny_bind (hg _ _ _ ?_)
    refine wpAny_bind (wpAny_storeSet_of ho1 rfl ?_ (fits_of_scanBound hb2))
    refine wpAny_pure (hR _ (es2.toList.map ek) (sb1.trans (Heap.SameBut.update _ a _)) ?_ (pm.map ek))
    exact ⟨_, es2, _, t3, store_at (es' := es2) (t' := t3) ho1 rfl, hex, rfl, fun e he => g1 e (pm.mem_iff.mp he), rfl, (pm.map ek).nodup_iff.mpr nd1, hb2, hf3, hr3, hl.imp id fun z => hl3.trans z⟩
  · exact wpAny_pure (hR _ _ sb1 ⟨_, es1, _, t2, ho1, hex, rfl, g1, rfl, nd1, hb1, hf2, hr, hl⟩ (List.Perm.refl _))
/-- one text is added -/
theorem add_text {us : List Str} {k : Str} {tk : Tok} {Q : Bool → Shared → Prop} (R : SetT w s.heap a us) (room : us.length + 1 < scanBound)
    (hQ : ∀ b h' vs, Heap.SameBut a s.heap h' → SetT w h' a vs → vs.Perm (if k ∈ us then us else k :: us) → Q b { s with heap := h' }) :
    wpAny (model P w) A (setAddHashed a (.str k tk) ((PySem.strKind P w).hash k)) Q E s := by
  obtain ⟨o, es, ep, t, ho, hex, hd, g, hus, nd, hb, hf, hr, hl⟩ := R
  have hkey : (PySem.strKind P w).is k (.str k tk) = true := keyIs_str k tk
  have hsc : (Value.str k tk).scannable = true := rfl
  have hel : ElemsOf (PySem.strKind P w) es.toList := txe_elems g
  unfold setAddHashed setAddHashedIn
  refine wpAny_holding (wpAny_bind (wpAny_setState_of ho hd hf ?_))
  dsimp only
  rw [byScan_of hsc hb hel]
  simp only [↓reduceIte]
  unfold setAddByScan
  refine wpAny_bind (wpAny_bind (wpAny_rule (wpAny_bind (wpAny_setScan_of hkey ho hd hf hel ?_))))
  cases hfi : List.findIdx? (fun e => (PySem.strKind P w).is k e.2) es.toList with
  | some j =>
    dsimp only
    obtain ⟨hj, pj, _⟩ := List.findIdx?_eq_some_iff_getElem.mp hfi
    have hm : k ∈ us := by
      rw [← hus, ← (txe_is (g _ (List.getElem_mem hj)) k).mp pj]
      exact List.mem_map_of_mem (List.getElem_mem hj)
    refine wpAny_pure (wpAny_pure (hQ _ s.heap us (Heap.SameBut.refl a s.heap) ⟨o, es, ep, t, ho, hex, hd, g, hus, nd, hb, hf, hr, hl⟩ ?_))
    rw [if_pos hm]
  | none =>
    dsimp only
    have hm : k ∉ us := fun z => by
      rw [← hus] at z
      obtain ⟨e, he, q⟩ := List.mem_map.mp z
      have c := List.findIdx?_eq_none_iff.mp hfi e he
      rw [(txe_is (P := P) (g e he) k).mpr q] at c
      cases c
    have hgw : ∀ (b : Bool) {s₁ : Shared} {Q' : Unit → Shared → Prop}, Q' () s₁ → wpAny (model P w) A (match b with | true => rule "set.scan.the-table-gave-way" | false => pure ()) Q' E s₁ :=
      fun b s₁ Q' q => by
        cases b
        · exact wpAny_pure q
        · exact wpAny_rule q
    have pm := layNew_perm t es ((PySem.strKind P w).hash k) (.str k tk)
    have hf1 := layNew_fits t es ((PySem.strKind P w).hash k) (.str k tk)
    have hr1 := layNew_ris t es ((PySem.strKind P w).hash k) (.str k tk) hr
    have hl1 := layNew_led t es ((PySem.strKind P w).hash k) (.str k tk)
    revert pm hf1 hr1 hl1
    generalize layNew t es ((PySem.strKind P w).hash k) (.str k tk) = Z
    obtain ⟨es1, t1, wasDummy, gave⟩ := Z
    dsimp only
    intro pm hf1 hr1 hl1
    rw [Array.toList_push] at pm
    have pc : es1.toList.Perm (((PySem.strKind P w).hash k, Value.str k tk) :: es.toList) := pm.trans (List.perm_append_singleton _ _)
    have pk : (es1.toList.map ek).Perm (k :: us) := by
      have q := pc.map ek
      rw [List.map_cons, hus] at q
      exact q
    have g1 : ∀ e ∈ es1.toList, TxE w e := fun e he => by
      rcases List.mem_cons.mp (pc.mem_iff.mp he) with z | z
      · rw [z]; exact ⟨k, tk, rfl, rfl⟩
      · exact g e z
    have nd1 : (es1.toList.map ek).Nodup := pk.nodup_iff.mpr (List.nodup_cons.mpr ⟨hm, nd⟩)
    have hb1 : es1.size < scanBound := by
      have q := pk.length_eq
      rw [List.length_map, Array.length_toList, List.length_cons] at q
      omega
    have hled : w.params.followText "set-order" = true ∨ t1.led = true := hl.imp id fun z => hl1.trans z
    have fin : ∀ h' vs, Heap.SameBut a s.heap h' → SetT w h' a vs → vs.Perm (es1.toList.map ek) → Q true { s with heap := h' } := fun h' vs sb r p => hQ _ h' vs sb r (by rw [if_neg hm]; exact p.trans pk)
    refine wpAny_bind (hgw _ ?_)
    split
    · refine wpAny_bind ?_
      rw [hashByValue_scannable 8 hsc]
      refine wpAny_pure ?_
      refine lay_tail ?_ ho hex hd g1 nd1 hb1 ?_ ?_ ?_ ?_
      · intro b s₁ Q' q; cases b <;> first | exact wpAny_pure q | exact wpAny_rule q
      · first | (split <;> first | exact hf1 | exact SetTable.fits_plain_off hf1) | exact hf1
      · first | (split <;> exact hr1) | exact hr1
      · first | (split <;> exact hled) | exact hled
      · intro h' vs sb r p; dsimp only; exact wpAny_pure (fin h' vs sb r p)
    · refine wpAny_bind (wpAny_pure ?_)
      simp only [↓reduceIte]
      refine lay_tail ?_ ho hex hd g1 nd1 hb1 hf1 hr1 hled ?_
      · intro b s₁ Q' q; cases b <;> first | exact wpAny_pure q | exact wpAny_rule q
      · intro h' vs sb r p; dsimp only; exact wpAny_pure (fin h' vs sb r p)
/-- a list of distinct texts that are the texts of another -/
structure Distinct (us xs : List Str) : Prop where
  nd : us.Nodup
  mem : ∀ k, k ∈ us ↔ k ∈ xs
theorem nodup_le : ∀ {us xs : List Str}, us.Nodup → (∀ k ∈ us, k ∈ xs) → us.length ≤ xs.length
  | [], _, _, _ => Nat.zero_le _
  | k :: us, xs, nd, h => by
    obtain ⟨n1, n2⟩ := List.nodup_cons.mp nd
    have hk := h k List.mem_cons_self
    have ih := nodup_le (us := us) (xs := xs.erase k) n2 fun y hy => (List.mem_erase_of_ne (fun (z : y = k) => n1 (z ▸ hy))).mpr (h y (List.mem_cons_of_mem _ hy))
    have := List.length_erase_of_mem hk
    have := List.length_pos_of_mem hk
    rw [List.length_cons]
    omega
theorem Distinct.le {us xs : List Str} (d : Distinct us xs) : us.length ≤ xs.length := nodup_le d.nd fun k hk => (d.mem k).mp hk
theorem Distinct.snoc {us vs xs : List Str} {k : Str} (d : Distinct us xs) (p : vs.Perm (if k ∈ us then us else k :: us)) : Distinct vs (xs ++ [k]) := by
  by_cases h : k ∈ us
  · rw [if_pos h] at p
    refine ⟨p.nodup_iff.mpr d.nd, fun y => ?_⟩
    rw [p.mem_iff, List.mem_append, d.mem, List.mem_singleton]
    exact ⟨.inl, fun z => z.elim id fun z => z ▸ (d.mem k).mp h⟩
  · rw [if_neg h] at p
    refine ⟨p.nodup_iff.mpr (List.nodup_cons.mpr ⟨h, d.nd⟩), fun y => ?_⟩
    rw [p.mem_iff, List.mem_append, List.mem_cons, d.mem, List.mem_singleton]
    exact Or.comm
/-- the loop of set.update over texts -/
theorem update_texts {I : Addr} {fp wr : List Addr} {G : Array GenState → Array GenState → Prop} {n : Nat} {Pv : Nat → Value → Prop} {St : Nat → Shared → Prop} {R : Result → Shared → Prop}
    (W : WalksS P w A.in1 I fp wr G n Pv St) (S : Addr) (hSf : S ∉ fp) (xs : List Str) (hn : n = xs.length) (hb : xs.length + 1 < scanBound) (hval : ∀ i v, Pv i v → ∃ k t, xs[i]? = some k ∧ v = .str k t) :
    ∀ (m i : Nat) (s : Shared), i + m = n → St i s → (∃ us, SetT w s.heap S us ∧ Distinct us (xs.take i)) →
      (∀ s' us, Moved (S :: wr) G s s' → SetT w s'.heap S us → Distinct us xs → R (.ok (.ret .none)) s') →
      codeAny (model P w) A (.builtin "set.update.loop" ⟨[.ref S, .ref I], []⟩) R s := by
  have hSw : S ∉ wr := fun h => hSf (W.sub _ h)
  have hsub : ∀ b ∈ wr, b ∈ S :: wr := fun b hb => List.mem_cons_of_mem _ hb
  intro m
  induction m with
  | zero =>
    intro i s hi hst ⟨us, hS, hd⟩ hR
    have hin : i = n := by omega
    subst hin
    refine codeAny_builtin F.entry_set_update_loop ?_
    rw [Around.under_plainId F.plain_set_update_loop _]
    show wpAny _ A.in1 (pyNext (.ref I) >>= _) _ _ s
    refine wpAny_bind (W.done s _ _ hst fun s' hm => ?_)
    show wpAny _ A.in1 (ret Value.none) _ _ s'
    rw [List.take_of_length_le (by omega)] at hd
    exact wpAny_pure (hR s' us (hm.mono hsub) (hS.at fun o e => hm.heap S o hSw e) hd)
  | succ m ih =>
    intro i s hi hst ⟨us, hS, hd⟩ hR
    have hlt : i < n := by omega
    refine codeAny_builtin F.entry_set_update_loop ?_
    rw [Around.under_plainId F.plain_set_update_loop _]
    show wpAny _ A.in1 (pyNext (.ref I) >>= _) _ _ s
    refine wpAny_bind (W.item i s _ _ hlt hst fun v s' hP hst' hm => ?_)
    obtain ⟨z, t, hz, rfl⟩ := hval i v hP
    have hS' : SetT w s'.heap S us := hS.at fun o e => hm.heap S o hSw e
    show wpAny _ A.in1 (holding [Value.str z t] (setAdd S (.str z t)) >>= _) _ _ s'
    refine wpAny_bind (wpAny_holding ?_)
    unfold setAdd
    refine wpAny_holding ?_
    refine wpAny_bind ((PySem.strKind P w).pyHash (k := z) (keyIs_str z t) ?_)
    have hroom : us.length + 1 < scanBound := by
      have := hd.le
      have := List.length_take_le' i xs
      omega
    refine add_text (s := { s' with toks := s'.toks + 1 }) hS' hroom fun b h' vs hsb hS2 hp => ?_
    have hd2 : Distinct vs (xs.take (i + 1)) := by
      rw [take_succ' hz]
      exact hd.snoc hp
    refine wpAny_pure ⟨plainId_quiet F.plain_set_update_loop _, ih (i + 1) _ (by omega) (W.frame _ s' _ _ hst' (Nat.le_succ _) fun b hb o e => ?_) ⟨vs, hS2, hd2⟩ fun s'' us2 hm'' hS'' hd'' => ?_⟩
    · rw [hsb.2 b (fun h : b = S => hSf (by rw [← h]; exact hb))]; exact e
    · refine hR s'' us2 (Moved.trans W.gtrans ((hm.mono hsub).then_heap (Nat.le_succ _) fun b o hb e => ?_) hm'') hS'' hd''
      rw [hsb.2 b (fun h : b = S => hb (by rw [h]; exact List.mem_cons_self))]; exact e
theorem setT_new {h : Heap} {a : Addr} (ho : h.get? a = some { cls := .type "set", dict := none, data := .set #[] 0 (.fresh 0 0 (!w.params.followText "set-order")) }) : SetT w h a [] :=
  ⟨_, #[], 0, _, ho, ⟨rfl, rfl, rfl⟩, rfl, (fun e he => by simp at he), rfl, List.Pairwise.nil, (by decide), (by rfl), List.Pairwise.nil, by
    show _ ∨ (!w.params.followText "set-order") = true
    cases w.params.followText "set-order"
    · exact .inr rfl
    · exact .inl rfl⟩
set_option maxHeartbeats 3200000 in
/-- set(texts) -/
theorem set_texts {l : Addr} {items : Array Value} (xs : List Str) {Q : Value → Shared → Prop} (hh : A.handled = none) (hl : s.heap.IsList l items) (hit : Vals (xs.map V.str) items.toList) (hb : xs.length + 1 < scanBound)
    (h : ∀ (h' : Heap) (tk : Nat) (us : List Str), SetT w h' s.heap.objs.size us → Distinct us xs → (∀ b o, s.heap.get? b = some o → h'.get? b = some o) → Q (.ref s.heap.objs.size) { s with heap := h', toks := tk }) :
    wpAny (model P w) A (call (.type "set") [.ref l]) Q E s := by
  have hisz : items.size = xs.length := by
    have q := hit.length
    simpa using q.symm
  obtain ⟨c, tl, hmro⟩ := F.called_set.mro
  have hmade := F.called_set.made
  have hsub := F.called_set.sub
  refine wpAny_call (codeAny_of_tree ?_)
  show wpAny _ _ (callAny (.type "set") _) _ _ _
  refine wpAny_pure ⟨Code.quiet_builtin _ (by decide +kernel), codeAny_builtin F.entry_type_call ?_⟩
  rw [Around.under_plain (weight_type_call_type "set" [.ref l] []) rfl]
  have h1 := F.called_set.notType
  have h2 := F.called_set.canCreate
  have hct := F.typeCall_set_1 (.ref l)
  repeat (any_goals (first | assumption | wp_step))

  refine codeAny_mono (code_set_led1 (.ref l) (E := E) (Q₁ := fun obj s₁ => obj = .ref s.heap.objs.size ∧ s₁ = { s with heap := s.heap.push { cls := .type "set", dict := none, data := .set #[] 0 (.fresh 0 0 (!w.params.followText "set-order")) } }) ⟨rfl, rfl⟩) fun r s₁ hr => ?_
  cases r with
  | error e => exact hr
  | ok fl =>
    cases fl with
    | ret obj =>
      obtain ⟨rfl, rfl⟩ := hr
      have hS : (s.heap.push { cls := .type "set", dict := none, data := .set #[] 0 (.fresh 0 0 (!w.params.followText "set-order")) }).get? s.heap.objs.size = some { cls := .type "set", dict := none, data := .set #[] 0 (.fresh 0 0 (!w.params.followText "set-order")) } := Heap.get?_push_size _ rfl
      have hT : Shared.TypeIs { s with heap := s.heap.push { cls := .type "set", dict := none, data := .set #[] 0 (.fresh 0 0 (!w.params.followText "set-order")) } } (.ref s.heap.objs.size) "set" := ⟨_, hS, rfl⟩
      have hli := F.called_set.init.lookup
      have hbi := F.called_set.init.bind (.ref s.heap.objs.size)
      repeat (any_goals (first | assumption | wp_step))

      refine codeAny_mono (codeAny_call_builtin (R := wants (fun r s₂ => r = .none ∧ ∃ h' tk us, s₂ = { s with heap := h', toks := tk } ∧ SetT w h' s.heap.objs.size us ∧ Distinct us xs ∧
          (∀ b o, s.heap.get? b = some o → h'.get? b = some o)) E) F.called_set.init.plain F.entry_set_init (check_set_init_1 hT ?_)) fun r₂ s₂ hr₂ => ?_
      · obtain ⟨ol, hol, hcl, nl, hdl⟩ := hl
        obtain ⟨ocls, odict, odata, oslots⟩ := ol
        simp only at hcl hdl
        subst hcl; subst hdl
        have hol' : (s.heap.push { cls := .type "set", dict := none, data := .set #[] 0 (.fresh 0 0 (!w.params.followText "set-order")) }).get? l = some { cls := .type "list", dict := odict, data := .seq items nl, slots := oslots } := Heap.get?_push_of_some _ hol
        have hsls := F.sub_list_set
        have hslf := F.sub_list_frozenset
        have hne : (Value.type "list" == Value.type "dict") = false := by decide
        have hl1 : (s.heap.push { cls := .type "set", dict := none, data := .set #[] 0 (.fresh 0 0 (!w.params.followText "set-order")) }).IsList l items := ⟨_, hol', rfl, nl, rfl⟩
        unfold Builtin.«set.__init__» noKeywords Builtin.Frozenset.updateFrom
        generalize hPI : pyIter = PI
        wp_walk
        subst hPI

        refine wpAny_pyIter_list hl1 ?_
        refine wpAny_bind (wpAny_runValue ?_)
        have hlS : l < s.heap.objs.size := Heap.lt_size hol
        have hh3 : A.in1.in1.in1.handled = none := by simp [hh]
        have hneI : l ≠ (s.heap.push { cls := .type "set", dict := none, data := .set #[] 0 (.fresh 0 0 (!w.params.followText "set-order")) }).objs.size := by
          rw [Heap.size_push]; exact Nat.ne_of_lt (Nat.lt_succ_of_lt hlS)
        have hSf : s.heap.objs.size ∉ [(s.heap.push { cls := .type "set", dict := none, data := .set #[] 0 (.fresh 0 0 (!w.params.followText "set-order")) }).objs.size, l] := by
          rw [Heap.size_push]; simp only [List.mem_cons, List.mem_singleton, List.not_mem_nil, or_false, not_or]
          exact ⟨Nat.ne_of_lt (Nat.lt_succ_self _), Nat.ne_of_gt hlS⟩
        have hval : ∀ (i : Nat) (v : Value), items[i]? = some v → ∃ k t, xs[i]? = some k ∧ v = .str k t := fun i v hv => by
          have hi : i < xs.length := by rw [← hisz]; exact (Array.getElem?_eq_some_iff.mp hv).1
          obtain ⟨t, e⟩ := strs_vals hit i _ (List.getElem?_eq_getElem hi)
          rw [Array.getElem?_toList, hv] at e
          exact ⟨_, t, List.getElem?_eq_getElem hi, Option.some.inj e⟩
        refine update_texts ((Walks.list hh3 _ l hneI items).toS) s.heap.objs.size hSf xs hisz hb hval items.size 0 _ (Nat.zero_add _) ⟨⟨_, Heap.get?_push_size _ rfl, rfl, rfl⟩, (hl1.push _)⟩ ⟨[], setT_new ?_, List.Pairwise.nil, fun k => ⟨fun z => absurd z List.not_mem_nil, fun z => absurd z List.not_mem_nil⟩⟩ ?_
        · exact Heap.get?_push_of_some _ hS
        · intro s' us hm hS' hd'
          obtain ⟨h', g2, d', tk', os'⟩ := s'
          have eg : g2 = s.gens := hm.gens
          have ed : d' = s.drawn := hm.drawn
          have eo : os' = s.os := hm.os
          subst eg; subst ed; subst eo
          show wpAny _ _ _ _ _ _
          refine wpAny_pure ?_
          show wpAny _ _ (ret Value.none) _ _ _
          refine wpAny_pure ⟨rfl, h', tk', us, rfl, hS', hd', fun b o e => ?_⟩
          have hb0 : b < s.heap.objs.size := Heap.lt_size e
          have hb1 : b ≠ s.heap.objs.size := Nat.ne_of_lt hb0
          have hb2 : b ≠ (s.heap.push { cls := .type "set", dict := none, data := .set #[] 0 (.fresh 0 0 (!w.params.followText "set-order")) }).objs.size := by
            rw [Heap.size_push]; exact Nat.ne_of_lt (Nat.lt_succ_of_lt hb0)
          exact hm.heap b o (by simp only [List.mem_cons, List.mem_singleton, List.not_mem_nil, or_false, not_or]; exact ⟨hb1, hb2⟩) (Heap.get?_push_of_some _ (Heap.get?_push_of_some _ e))

      · cases r₂ with
        | error e => exact hr₂
        | ok fl₂ =>
          cases fl₂ with
          | ret r =>
            obtain ⟨rfl, h', tk, us, rfl, hS', hd', hk'⟩ := hr₂
            repeat (any_goals (first | assumption | wp_step))
            exact h _ _ _ hS' hd' hk'
          | _ => exact hr₂.elim
    | _ => exact hr.elim
/-- sorted(set) -/
theorem sorted_texts {us : List Str} {Q : Value → Shared → Prop} (R : SetT w s.heap a us) (hh : A.handled = none) (hu : A.units + 64 < cLine)
    (hQ : ∀ s' p (out : Array Value) (c : Nat) (vs : List Str), (∀ b o, s.heap.get? b = some o → s'.heap.get? b = some o) → s'.gens = s.gens → s'.os = s.os → s.heap.objs.size ≤ p →
      s'.heap.get? p = some (seqObj "list" out c) → Vals (vs.map V.str) out.toList → vs.Perm us → Q (.ref p) s') :
    wpAny (model P w) A (call (.builtin "sorted") [.ref a]) Q E s := by
  obtain ⟨o, es, ep, t, ho, hex, hd, g, hus, nd, hb, hf, hr, hl⟩ := R
  refine Calls.call_function_entry kind_sorted plain_sorted entry_sorted (args_sorted1 _) ?_
  unfold Builtin.«sorted»
  refine wpAny_bind (m := checkCount "sorted" 1 1 _) (wpAny_pure ?_)
  refine wpAny_bind (collect_set (A := A.in1) hh ⟨o, ho, hex.1, hd⟩ hf hb hr hl fun s1 vs k1 hz g1 o1 pm => ?_)
  have pt : (vs.map tx).Perm us := by
    have q := pm.map tx
    rw [List.map_map] at q
    rw [← hus]
    exact q
  have hvt : ∀ v ∈ vs, ∃ k t, v = Value.str k t := fun v hv => by
    obtain ⟨e, he, q⟩ := List.mem_map.mp (pm.mem_iff.mp hv)
    obtain ⟨k, tk, h1, _⟩ := g e he
    exact ⟨k, tk, by rw [← q]; exact h1⟩
  have hvl : vs.length = es.size := by rw [pm.length_eq, List.length_map, Array.length_toList]
  refine wpAny_bind (wpAny_newList ?_ (by rw [hvl]; exact fits_of_scanBound hb))
  have hoL : (s1.heap.push (seqObj "list" vs.toArray 0)).get? s1.heap.objs.size = some (seqObj "list" vs.toArray 0) := Heap.get?_push_size _ rfl
  have each : ∀ l : List Value, (∀ v ∈ l, ∃ k t, v = Value.str k t) → EachIs (fun v b => ∃ t, v = Value.str b t) l (l.map tx) := fun l => by
    induction l with
    | nil => exact fun _ => .nil
    | cons v l ih =>
      intro h
      obtain ⟨k, t, rfl⟩ := h v List.mem_cons_self
      exact .cons ⟨t, rfl⟩ (ih fun u hu => h u (List.mem_cons_of_mem _ hu))
  have e := each vs hvt
  refine wpAny_bind (wpAny_holding (PySem.W.list_sort_data (enc := PyData.str) hoL e (e.mono fun v b ⟨t, ht⟩ => ⟨[], by rw [ht]; exact .str b t, List.not_mem_nil⟩) (AllAlike.of fun _ _ => by simp [PySem.W.alike]) (Sortable.others fun b => ⟨nofun, nofun⟩) (by rw [List.length_map, hvl]; exact fits_of_scanBound hb) (fun b _ => ?_) fun out ho2 hout => ?_))
  · show A.in1.units + 1 + 0 < cLine
    show A.units + 1 + 1 + 0 < cLine
    omega
  obtain ⟨c, hc⟩ := sortedHeap_at (vs := vs) (out := out.toArray) hoL
  refine wpAny_pure ⟨_, rfl, hQ _ s1.heap.objs.size out.toArray c (sortK (vs.map tx)) (fun b u q0 => ?_) g1 o1 hz hc ?_ ((sortK_perm _).trans pt)⟩
  · have q := k1 b u q0
    have hlt := Heap.lt_size q
    show (sortedHeap (s1.heap.push (seqObj "list" vs.toArray 0)) s1.heap.objs.size vs out.toArray).get? b = some u
    rw [sortedHeap_old (Nat.ne_of_lt hlt) (by rw [size_push']; exact Nat.lt_succ_of_lt hlt)]
    exact Heap.get?_push_of_some _ q
  · have back : ∀ {l : List Value} {bs : List Str}, EachIs (fun v b => ∃ t, v = Value.str b t) l bs → Vals (bs.map V.str) l := fun {l bs} h => by
      induction h with
      | nil => exact .nil
      | cons h _ ih =>
        obtain ⟨t, rfl⟩ := h
        exact .cons ⟨t, rfl⟩ ih
    exact back hout
end
section
variable {X : Cx}
/-- the set of texts at a, its members us in some order -/
def SetTO (w : World) (a : Addr) (us : List Str) : HO := .ext fun h => SetT w h a us
theorem setTO_ok {P : Program} {w : World} {H : Hp} {h : Heap} {a : Addr} {us : List Str} (R : SetT w h a us) : ObjOk P w H h a (SetTO w a us) := by
  obtain ⟨o, es, ep, t, ho, r⟩ := id R
  exact ⟨R, ⟨o, ho⟩, fun h1 h2 q k => q.at k⟩
def rSetTx (K : PySem.W.Frag) (w : World) : List V → Hp → VK → Prop := fun vs H Q => ∃ (a : Addr) (xs : List Str), vs = [.ref a] ∧ SqL K H a (xs.map V.str) ∧ xs.length ≤ 2000 ∧ ∀ p us, H p = none → Distinct us xs → Q (.ref p) (upd H p (SetTO w p us))
theorem cr_setTx (hc : X.calm = true) : CallR X (.type "set") (rSetTx X.K X.w) := by
  intro pins s σ H vs us Q I r h
  obtain ⟨a, xs, rfl, hs, hz, q⟩ := h
  obtain ⟨its, rv, hl, _⟩ := I.list hs
  rw [Vals.ref1 r]
  refine set_texts xs (I.ok.hd hc) hl.isList (by simpa using rv) (by have : scanBound > 3000 := by decide
                                                                     omega) fun h' tk vs hS hd hk => ?_
  exact ⟨.ref _, upd H s.heap.objs.size (SetTO X.w s.heap.objs.size vs), I.laid (t' := tk) hk (Nat.le_refl _) (setTO_ok hS), rfl, q _ vs (I.hok.fresh (Nat.le_refl _)) hd⟩
def rLenTx (w : World) : List V → Hp → VK → Prop := fun vs H Q => ∃ (a : Addr) (us : List Str), vs = [.ref a] ∧ H a = some (SetTO w a us) ∧ Q (.int (us.length : Nat)) H
theorem cr_lenTx : CallR X (.builtin "len") (rLenTx X.w) := by
  intro pins s σ H vs us Q I r h
  obtain ⟨a, us, rfl, ha, q⟩ := h
  rw [Vals.ref1 r]
  obtain ⟨o, es, ep, t, ho, hex, hd, g, hus, nd, hb, hf, hr, hl⟩ := (show ObjOk X.prog X.w H s.heap a (SetTO X.w a us) from I.hok a _ ha).1
  have el : es.size = us.length := by rw [← hus, List.length_map, Array.length_toList]
  refine call_len_set ho hex hd hf ?_ ⟨.int (us.length : Nat), H, I.tok _, ⟨_, by rw [el]⟩, q⟩
  have := fits_of_scanBound hb
  have := line63
  omega
def rSortTx (w : World) : List V → Hp → VK → Prop := fun vs H Q => ∃ (a : Addr) (us : List Str), vs = [.ref a] ∧ H a = some (SetTO w a us) ∧ ∀ (p : Addr) (ys : List Str), H p = none → ys.Perm us → Q (.ref p) (upd H p (.lst (ys.map V.str)))
theorem cr_sortTx (hc : X.calm = true) (hu : X.A.units + 64 < cLine) : CallR X (.builtin "sorted") (rSortTx X.w) := by
  intro pins s σ H vs us Q I r h
  obtain ⟨a, us, rfl, ha, q⟩ := h
  rw [Vals.ref1 r]
  have R := (show ObjOk X.prog X.w H s.heap a (SetTO X.w a us) from I.hok a _ ha).1
  have hus : us.length ≤ sizeLine := by
    obtain ⟨o, es, ep, t, ho, hex, hd, g, hus, nd, hb, hf, hr, hl⟩ := id R
    rw [← hus, List.length_map, Array.length_toList]
    exact fits_of_scanBound hb
  refine sorted_texts R (I.ok.hd hc) hu fun s' p out c vs k g o hp hg hv hperm => ?_
  have hlen : (vs.map V.str).length ≤ sizeLine := by rw [List.length_map, hperm.length_eq]; exact hus
  have hn : H p = none := I.hok.fresh hp
  have J : Inv X pins σ (upd H p (.lst (vs.map V.str))) { s with heap := s'.heap, gens := s'.gens, drawn := s'.drawn, toks := s'.toks } :=
    I.call (ch := []) (Un.laid k hp hn) (I.hok.laid k hp ⟨hlen, out.toList, c, hv, hg⟩) (by rw [g]; exact I.bare) (fun _ z => nomatch z)
  have e : s' = { s with heap := s'.heap, gens := s'.gens, drawn := s'.drawn, toks := s'.toks } := by
    cases s'
    cases s
    cases o
    rfl
  rw [e]
  exact ⟨.ref p, _, J, rfl, q p vs hn hperm⟩
end
end K7

set_option Elab.async false
set_option linter.all false
set_option maxRecDepth 100000
set_option maxHeartbeats 1000000
namespace K7
open PySem PySem.Spec PyProof.Rows L2
theorem fold_rep (c : Nat) : ∀ (n : Nat) (acc : Array Nat), (List.replicate n #[c]).foldl (· ++ ·) acc = acc ++ (List.replicate n c).toArray
  | 0, acc => by simp
  | n + 1, acc => by
    rw [List.replicate_succ, List.foldl_cons, fold_rep c n, List.replicate_succ]
    apply Array.toList_inj.mp
    simp only [Array.toList_append, List.append_assoc]
    rfl
/-- one sign, n times -/
def rMulS : R2 := fun x y H Q => ∃ (c n : Nat), x = .str ⟨#[c]⟩ ∧ y = .int (n : Int) ∧ 1 ≤ n ∧ n ≤ 1000 ∧ Q (.str ⟨(List.replicate n c).toArray⟩) H
theorem op_mulS {X : Cx} : OpR X (binaryOp .Mult) rMulS := by
  intro pins s σ H x y v u Q I rx ry h
  obtain ⟨c, n, rfl, rfl, h1, h2, q⟩ := h
  obtain ⟨t, rfl⟩ := rx
  obtain ⟨t', rfl⟩ := ry
  have hl : Str.length ⟨#[c]⟩ = 1 := rfl
  refine P.mul_str ?_ ?_ ?_ ?_
  · rw [decide_eq_false (by omega), decide_eq_false (by omega)]
    rfl
  · intro _ _
    rw [hl]
    have : (1 : Int) ≤ (2 ^ 63 - 1) / (n : Int) := by
      rw [Int.le_ediv_iff_mul_le (by omega)]
      omega
    show ¬ (((1 : Nat) : Int) > _)
    omega
  · intro _ _
    rw [hl, Int.toNat_natCast]
    have h16 : 1000 ≤ sizeLine := by decide
    exact decide_eq_false (by omega)
  · rw [if_neg (by omega)]
    by_cases hn : n = 1
    · subst hn
      rw [if_pos (by simp)]
      exact ⟨.str ⟨#[c]⟩, H, I, ⟨t, rfl⟩, q⟩
    · rw [if_neg (by rw [hl]; simp; omega)]
      rw [Int.toNat_natCast, fold_rep]
      have e : (#[] : Array Nat) ++ (List.replicate n c).toArray = (List.replicate n c).toArray := by apply Array.toList_inj.mp; simp only [Array.toList_append]; rfl
      rw [e]
      refine ⟨?_, .str ⟨(List.replicate n c).toArray⟩, H, I.tok _, ⟨_, rfl⟩, q⟩
      show (List.replicate n c).toArray.size ≤ sizeLine
      have h16 : 1000 ≤ sizeLine := by decide
      rw [List.size_toArray, List.length_replicate]
      omega
end K7

set_option Elab.async false
set_option linter.all false
set_option maxRecDepth 100000
set_option maxHeartbeats 1000000
/-! list(enumerate(xs)) -/
namespace K7
open PySem PySem.Spec PyProof.Rows L2
theorem enum_nolen : typeLookup (.type "enumerate") "__len__" = pure none := by rw [typeLookup_type, builtinLookup_eq_fast]; kernel_rfl
theorem enum_nohint : typeLookup (.type "enumerate") "__length_hint__" = pure none := by rw [typeLookup_type, builtinLookup_eq_fast]; kernel_rfl
/-- the walker ahead of item i; T, the pair that it gave out first, lives on -/
def EnSt (h : Heap) (e it S : Nat) (i : Nat) : Prop :=
  (∃ old, IsEnum h e it (i : Int) old) ∨ ∃ old, ∃ T : Nat, ∃ f oT, IsEnumHeld h e it (i : Int) old T f ∧ h.get? T = some oT ∧ T ≠ e ∧ T ≠ it ∧ T ≠ S
/-- the pairs that were made -/
structure EnG (items : Array Value) (lo : Nat) (h : Heap) (as : List Nat) : Prop where
  nd : as.Nodup
  lo : ∀ a ∈ as, lo ≤ a ∧ a < h.objs.size
  at_ : ∀ (j : Nat) (a : Nat), as[j]? = some a → ∃ t x, items[j]? = some x ∧ h.get? a = some { cls := .type "tuple", data := .seq #[.int (j : Int) t, x] }
section
variable {prog : Program} {w : World} {A : Around} {s : Shared} {R : Result → Shared → Prop}
theorem enum_loop {S e it l lo : Nat} {items : Array Value} (hh : A.handled = none) (hSe : S ≠ e) (hSi : S ≠ it) (hlS : l ≠ S) (hei : e ≠ it) (hle : l ≠ e) (hli : l ≠ it) (bS : S < lo) (be : e < lo) (bi : it < lo) (hn : items.size ≤ sizeLine) (res : Value) {h₁ : Heap}
    (hR : ∀ h' tk acc c as, (∀ b o, b ≠ S → b ≠ e → b ≠ it → h₁.get? b = some o → h'.get? b = some o) → h'.get? S = some { cls := .type "list", dict := none, data := .seq acc c, slots := #[] } → as.length = items.size → EnG items lo h' as →
      acc.toList = as.map Value.ref → R (.ok (.ret res)) { s with heap := h', toks := tk }) :
    ∀ (m i : Nat) (h : Heap) (tk c : Nat) (acc : Array Value) (as : List Nat), i + m = items.size → EnSt h e it S i → h.IsListIter it l i → h.IsList l items → (∀ b o, b ≠ S → b ≠ e → b ≠ it → h₁.get? b = some o → h.get? b = some o) →
      h.get? S = some { cls := .type "list", dict := none, data := .seq acc c, slots := #[] } → acc.toList = as.map Value.ref → as.length = i → EnG items lo h as → lo ≤ h.objs.size →
      codeAny (model prog w) A (.builtin "list.extend.loop" ⟨[.ref S, .ref e, res], []⟩) R { s with heap := h, toks := tk } := by
  intro m
  induction m with
  | zero =>
    intro i h tk c acc as hi hst hit hl hk hS hacc hal hG hlo
    have hx : items[i]? = none := Array.getElem?_eq_none (by omega)
    refine codeAny_builtin PySem.F.entry_extend_loop ?_
    rw [Around.under_plainId PySem.F.plain_extend_loop _]
    show wpAny _ A.in1 (pyNext (.ref e) >>= _) _ _ _
    have fin : ∀ h', Heap.ExtBut it h h' → R (.ok (.ret res)) { s with heap := h', toks := tk } := fun h' he => by
      refine hR h' tk acc c as (fun b o h1 h2 h3 q => he b o h3 (hk b o h1 h2 h3 q)) (he S _ hSi hS) (by omega) ⟨hG.nd, fun a ha => ?_, fun j a hj => ?_⟩ hacc
      · obtain ⟨g1, g2⟩ := hG.lo a ha
        obtain ⟨j, hj⟩ := List.mem_iff_getElem?.mp ha
        obtain ⟨t, x, _, q⟩ := hG.at_ j a hj
        exact ⟨g1, Heap.lt_size (he a _ (Nat.ne_of_gt (Nat.lt_of_lt_of_le bi g1)) q)⟩
      · obtain ⟨t, x, g1, g2⟩ := hG.at_ j a hj
        exact ⟨t, x, g1, he a _ (Nat.ne_of_gt (Nat.lt_of_lt_of_le bi (hG.lo a (List.mem_of_getElem? hj)).1)) g2⟩
    refine wpAny_bind ?_
    rcases hst with ⟨old, he⟩ | ⟨old, T, f, oT, he, hT, r1, r2, r3⟩
    · exact wpAny_pyNext_enum_end (s := { s with heap := h, toks := tk }) (A := A.in1) hh he hit hl hx fun h' hx' => wpAny_pure (fin h' hx')
    · exact wpAny_pyNext_enum_end_held (s := { s with heap := h, toks := tk }) (A := A.in1) hh he hit hl hx fun h' hx' => wpAny_pure (fin h' hx')
  | succ m ih =>
    intro i h tk c acc as hi hst hit hl hk hS hacc hal hG hlo
    have hlt : i < items.size := by omega
    have hx : items[i]? = some items[i] := Array.getElem?_eq_getElem hlt
    have hsz : acc.size = i := by rw [← Array.length_toList, hacc, List.length_map, hal]
    refine codeAny_builtin PySem.F.entry_extend_loop ?_
    rw [Around.under_plainId PySem.F.plain_extend_loop _]
    show wpAny _ A.in1 (pyNext (.ref e) >>= _) _ _ _
    have ec : ((i + 1 : Nat) : Int) = (i : Int) + 1 := by omega
    have hSl : S < h.objs.size := by omega
    have more : ∀ h' t, EnSt h' e it S (i + 1) → h'.IsListIter it l (i + 1) → h'.get? h.objs.size = some { cls := .type "tuple", data := .seq #[.int (i : Int) t, items[i]] } → h'.objs.size = h.objs.size + 1 →
        (∀ b o, b ≠ e → b ≠ it → h.get? b = some o → h'.get? b = some o) →
        wpAny (model prog w) A.in1 (updateSeq S (·.push (Value.ref h.objs.size)) >>= fun _ => again (.builtin "list.extend.loop" ⟨[.ref S, .ref e, res], []⟩))
          (fun fin s' => match fin with | .done f => R (.ok f) s' | .again c' => c'.quiet = true ∧ codeAny (model prog w) A c' R s') (fun e s' => R (.error e) s') { s with heap := h', toks := tk + 1 } := fun h' t hst' hit' ht hz hkp => by
      have hS' := hkp S _ hSe hSi hS
      have up : ∀ b o, b ≠ S → h'.get? b = some o → (h'.update S (Obj.mapSeq (·.push (Value.ref h.objs.size)))).get? b = some o := fun b o hb q => (Heap.get?_update_other _ _ (Ne.symm hb)).trans q
      have hz2 : (h'.update S (Obj.mapSeq (·.push (Value.ref h.objs.size)))).objs.size = h'.objs.size := Heap.size_update _ _ _
      refine wpAny_bind (wpAny_updateSeq hS' rfl (wpAny_pure ⟨plainId_quiet PySem.F.plain_extend_loop _, ih (i + 1) _ (tk + 1) _ (acc.push (Value.ref h.objs.size)) (as ++ [h.objs.size]) (by omega) ?_ (hit'.at fun o q => up it o (Ne.symm hSi) q) ((hl.at fun o q => hkp l o hle hli q).at fun o q => up l o hlS q)
        (fun b o h1 h2 h3 q => up b o h1 (hkp b o h2 h3 (hk b o h1 h2 h3 q))) (Heap.get?_update_self _ hS' rfl) (by rw [Array.toList_push, hacc, List.map_append]; rfl) (by rw [List.length_append, hal]; rfl) ⟨?_, ?_, ?_⟩ (by rw [hz2, hz]; exact Nat.le_succ_of_le hlo)⟩) (by rw [hsz]; omega) (by show (acc.push (Value.ref h.objs.size)).size ≤ sizeLine + 1; rw [Array.size_push, hsz]; omega))
      · rcases hst' with ⟨old, q⟩ | ⟨old, T, f, oT, q, hT, r1, r2, r3⟩
        · exact .inl ⟨old, up e _ (Ne.symm hSe) q⟩
        · exact .inr ⟨old, T, f, oT, up e _ (Ne.symm hSe) q, up T _ r3 hT, r1, r2, r3⟩
      · refine List.nodup_append.mpr ⟨hG.nd, List.pairwise_singleton _ _, fun a ha b hb => ?_⟩
        rw [List.mem_singleton.mp hb]
        have := (hG.lo a ha).2
        omega
      · intro a ha
        rw [hz2, hz]
        rcases List.mem_append.mp ha with ha | ha
        · obtain ⟨g1, g2⟩ := hG.lo a ha
          exact ⟨g1, by omega⟩
        · rw [List.mem_singleton.mp ha]
          exact ⟨hlo, Nat.lt_succ_self _⟩
      · intro j b hj
        rcases Nat.lt_trichotomy j as.length with h1 | h1 | h1
        · rw [List.getElem?_append_left h1] at hj
          obtain ⟨t', x', e2, e3⟩ := hG.at_ j b hj
          have hb := (hG.lo b (List.mem_of_getElem? hj)).1
          exact ⟨t', x', e2, up b _ (by omega) (hkp b _ (by omega) (by omega) e3)⟩
        · subst h1
          have hb : h.objs.size = b := by simpa using hj
          subst hb
          exact ⟨t, _, by rw [hal]; exact hx, by rw [hal]; exact up _ _ (by omega) ht⟩
        · have hnone : (as ++ [h.objs.size])[j]? = none := List.getElem?_eq_none (by rw [List.length_append, List.length_singleton]; omega)
          rw [hnone] at hj
          cases hj
    refine wpAny_bind ?_
    rcases hst with ⟨old, he⟩ | ⟨old, T, f, oT, he, hT, r1, r2, r3⟩
    · refine wpAny_pyNext_enum_item (s := { s with heap := h, toks := tk }) (A := A.in1) he hit hl hx hei fun h' ho hit' hT hz hkp => ?_
      exact more h' _ (.inr ⟨_, h.objs.size, false, _, (by rw [ec]; exact ho), hT, by omega, by omega, by omega⟩) hit' hT hz hkp
    · refine wpAny_pyNext_enum_item_held (s := { s with heap := h, toks := tk }) (A := A.in1) he hT r1 r2 hit hl hx hei fun h' ho hit' hT' hz hkp => ?_
      exact more h' _ (.inr ⟨old, T, true, oT, (by rw [ec]; exact ho), hkp _ _ r1 r2 hT, r1, r2, r3⟩) hit' hT' hz hkp
theorem list_enum {e it l : Nat} {items : Array Value} {E : Value → Shared → Prop} {Q : Value → Shared → Prop} (hh : A.handled = none) (he : IsEnum s.heap e it 0 .none) (hit : s.heap.IsListIter it l 0) (hl : s.heap.IsList l items) (hei : e ≠ it) (hle : l ≠ e) (hli : l ≠ it) (hn : items.size ≤ sizeLine)
    (hQ : ∀ h' tk acc c as, (∀ b o, b ≠ e → b ≠ it → s.heap.get? b = some o → h'.get? b = some o) → h'.get? s.heap.objs.size = some { cls := .type "list", dict := none, data := .seq acc c, slots := #[] } → as.length = items.size → EnG items (s.heap.objs.size + 1) h' as →
      acc.toList = as.map Value.ref → Q (.ref s.heap.objs.size) { s with heap := h', toks := tk }) :
    wpAny (model prog w) A (call (.type "list") [.ref e]) Q E s := by
  have be : e < s.heap.objs.size := Heap.lt_size he
  have bi : it < s.heap.objs.size := let ⟨_, x, _⟩ := hit; Heap.lt_size x
  have bl : l < s.heap.objs.size := let ⟨_, x, _⟩ := hl; Heap.lt_size x
  refine callType_codes (Q₁ := fun obj s₁ => obj = .ref s.heap.objs.size ∧ s₁ = { s with heap := s.heap.push { cls := .type "list", data := .seq #[] } }) PySem.F.called_list (PySem.F.typeCall_list_1 _) PySem.F.entry_list_init
    (code_list_new _ ⟨rfl, rfl⟩) fun obj s₁ h₁ => ?_
  obtain ⟨rfl, rfl⟩ := h₁
  have hS : (s.heap.push { cls := .type "list", data := .seq #[] }).get? s.heap.objs.size = some { cls := .type "list", data := .seq #[] } := Heap.get?_push_size _ rfl
  have hz : (s.heap.push { cls := .type "list", data := .seq #[] }).objs.size = s.heap.objs.size + 1 := Heap.size_push ..
  refine ⟨⟨_, hS, rfl⟩, PySem.F.args_list_init_2 _ _, ?_⟩
  have ps : ∀ b o, s.heap.get? b = some o → (s.heap.push { cls := .type "list", data := .seq #[] }).get? b = some o := fun b o q => Heap.get?_push_of_some _ q
  revert hS hz ps
  generalize s.heap.push { cls := .type "list", data := .seq #[] } = h1
  intro hS hz ps
  show wpAny _ _ (do let old ← Builtin.List.listItems (.ref s.heap.objs.size); Builtin.List.listUpdate (.ref s.heap.objs.size) (fun _ => #[]); letGo old.toList.reverse; Builtin.List.listExtendWith (.ref s.heap.objs.size) (.ref e) .none) _ _ _
  refine wpAny_bind ?_
  unfold Builtin.List.listItems
  refine wpAny_bind (wpAny_seqItems hS rfl (wpAny_pure ?_))
  show wpAny _ _ (updateSeq s.heap.objs.size (fun _ => #[]) >>= fun _ => letGo (#[] : Array Value).toList.reverse >>= fun _ => Builtin.List.listExtendWith (.ref s.heap.objs.size) (.ref e) .none) _ _ _
  refine wpAny_bind (wpAny_updateSeq hS rfl ?_)
  have hS₂ := Heap.get?_update_self (Obj.mapSeq (fun _ => (#[] : Array Value))) hS rfl
  have oth : ∀ b o, b ≠ s.heap.objs.size → h1.get? b = some o → (h1.update s.heap.objs.size (Obj.mapSeq (fun _ => (#[] : Array Value)))).get? b = some o := fun b o hb q => (Heap.get?_update_other _ _ (Ne.symm hb)).trans q
  have hz2 : (h1.update s.heap.objs.size (Obj.mapSeq (fun _ => (#[] : Array Value)))).objs.size = s.heap.objs.size + 1 := (Heap.size_update _ _ _).trans hz
  revert hS₂ oth hz2
  generalize h1.update s.heap.objs.size (Obj.mapSeq (fun _ => (#[] : Array Value))) = h2
  intro hS₂ oth hz2
  refine wpAny_bind (wpAny_letGo ?_)
  have k2 : ∀ b o, s.heap.get? b = some o → h2.get? b = some o := fun b o q => oth b o (Nat.ne_of_lt (Heap.lt_size q)) (ps b o q)
  have he2 : IsEnum h2 e it 0 .none := k2 _ _ he
  have hT2 : Shared.TypeIs { s with heap := h2 } (.ref e) "enumerate" := ⟨_, he2, rfl⟩
  unfold Builtin.List.listExtendWith
  refine wpAny_bind (wpAny_typeOf (T := "enumerate") hT2 ?_)
  have g1 : Builtin.List.listSameRef (.ref s.heap.objs.size) (.ref e) = false := by simp [Builtin.List.listSameRef, Nat.ne_of_gt be]
  have g2 : (Value.type "enumerate" == Value.type "list") = false := by decide
  have g3 : (Value.type "enumerate" == Value.type "tuple") = false := by decide
  simp only [g1, g2, g3, Bool.or_false, Bool.false_eq_true, if_false]
  refine wpAny_bind (wpAny_pyIter_enum he2 ?_)
  refine wpAny_bind (wpAny_holding ?_)
  unfold Builtin.List.listLengthHint
  refine wpAny_bind (wpAny_specialOf hT2 enum_nolen ?_)
  show wpAny _ _ (specialOf (Value.ref e) (Str.ofString "__length_hint__") >>= _) _ _ _
  refine wpAny_bind (wpAny_specialOf hT2 enum_nohint ?_)
  refine wpAny_pure ?_
  show wpAny _ _ (rule "list.extend.makes-room" >>= fun _ => Builtin.List.listTouch (.ref s.heap.objs.size) >>= fun _ => again (.builtin "list.extend.loop" ⟨[.ref s.heap.objs.size, .ref e, .none], []⟩)) _ _ _
  refine wpAny_bind (wpAny_rule ?_)
  refine wpAny_bind ?_
  show wpAny _ _ (updateSeq s.heap.objs.size (·.push .none) >>= fun _ => updateSeq s.heap.objs.size (·.pop)) _ _ _
  refine wpAny_bind (wpAny_updateSeq hS₂ rfl ?_)
  have hS₃ := Heap.get?_update_self (Obj.mapSeq (·.push Value.none)) hS₂ rfl
  refine wpAny_updateSeq hS₃ rfl ?_
  have hS₄ := Heap.get?_update_self (Obj.mapSeq (·.pop)) hS₃ rfl
  have k4 : ∀ b o, s.heap.get? b = some o → ((h2.update s.heap.objs.size (Obj.mapSeq (·.push Value.none))).update s.heap.objs.size (Obj.mapSeq (·.pop))).get? b = some o :=
    fun b o q => (Heap.get?_update_other _ _ (Nat.ne_of_gt (Heap.lt_size q))).trans ((Heap.get?_update_other _ _ (Nat.ne_of_gt (Heap.lt_size q))).trans (k2 b o q))
  refine wpAny_pure ⟨plainId_quiet PySem.F.plain_extend_loop _, enum_loop (prog := prog) (w := w) (A := A.in1) (s := s) (lo := s.heap.objs.size + 1) (h₁ := s.heap) (items := items) (l := l) (it := it) hh (Nat.ne_of_gt be) (Nat.ne_of_gt bi) (Nat.ne_of_lt bl) hei hle hli (Nat.lt_succ_self _) (by omega) (by omega) hn .none (fun h' tk acc c as q1 q2 q3 q4 q5 => ?_) items.size 0 _ s.toks _ #[] [] (Nat.zero_add _) (.inl ⟨.none, k4 _ _ he⟩) (hit.at fun o q => k4 _ o q) (hl.at fun o q => k4 _ o q) (fun b o _ _ _ q => k4 b o q) hS₄ rfl rfl ⟨List.Pairwise.nil, fun a ha => absurd ha List.not_mem_nil, fun j a hj => by simp at hj⟩ ?_⟩
  · exact ⟨rfl, hQ h' tk acc c as (fun b o h1 h2 q => q1 b o (Nat.ne_of_lt (Heap.lt_size q)) h1 h2 q) q2 q3 q4 q5⟩
  · rw [Heap.size_update, Heap.size_update, hz2]
    exact Nat.le_refl _
end
end K7

set_option Elab.async false
set_option linter.all false
set_option maxRecDepth 100000
set_option maxHeartbeats 1000000
namespace K7
open PySem PySem.Spec PyProof.Rows L2
open Evl (Ex Ev EvT EvL EvA ex_l ex_t sq_of st_of sz_of sz_lt fresh_back)
section
variable {X : Cx}
def enH (H : Hp) (S : Addr) (as : List Addr) (xs : List V) : Hp := fun b => if b = S then some (.lst (as.map V.ref)) else if b ∈ as then some (.tup [.int ((as.idxOf b : Nat) : Int), xs.getD (as.idxOf b) .non]) else H b
theorem idx_of : ∀ {as : List Nat}, as.Nodup → ∀ {j : Nat} {a : Nat}, as[j]? = some a → as.idxOf a = j
  | [], _, j, a, h => by simp at h
  | x :: r, nd, 0, a, h => by
    have e : x = a := by simpa using h
    subst e
    exact List.idxOf_cons_self
  | x :: r, nd, j + 1, a, h => by
    obtain ⟨n1, n2⟩ := List.nodup_cons.mp nd
    have h' : r[j]? = some a := by simpa using h
    have ne : x ≠ a := fun z => n1 (z ▸ List.mem_of_getElem? h')
    have hb : (x == a) = false := beq_eq_false_iff_ne.mpr ne
    rw [List.idxOf_cons, hb, idx_of n2 h']
    rfl
theorem vals_ref : ∀ as : List Addr, Vals (as.map V.ref) (as.map Value.ref)
  | [] => .nil
  | _ :: as => .cons rfl (vals_ref as)
theorem enum_laid {pins : List (Addr × Obj)} {σ : L2.St} {H : Hp} {s : Shared} {h' : Heap} {tk : Nat} {xs : List V} {its : List Value} {acc : Array Value} {c : Nat} {S lo : Nat} {as : List Nat} (I : Inv X pins σ H s) (rv : Vals xs its) (hz : xs.length ≤ sizeLine)
    (hk : ∀ b o, s.heap.get? b = some o → h'.get? b = some o) (hS0 : s.heap.objs.size ≤ S) (hSlo : S < lo) (hS : h'.get? S = some { cls := .type "list", dict := none, data := .seq acc c, slots := #[] }) (hl : as.length = its.toArray.size) (hG : EnG its.toArray lo h' as) (hacc : acc.toList = as.map Value.ref) :
    ∃ H' : Hp, Sm H H' ∧ H S = none ∧ H' S = some (.lst (as.map V.ref)) ∧ (∀ (j : Nat) t x, as[j]? = some t → xs[j]? = some x → H' t = some (.tup [.int (j : Nat), x])) ∧ S ∉ as ∧ Inv X pins σ H' { s with heap := h', toks := tk } := by
  have hSn : S ∉ as := fun z => Nat.not_le_of_gt hSlo (hG.lo S z).1
  have new : ∀ t ∈ as, H t = none := fun t ht => I.hok.fresh (Nat.le_trans hS0 (Nat.le_trans (Nat.le_of_lt hSlo) (hG.lo t ht).1))
  have newS : H S = none := I.hok.fresh hS0
  have off : ∀ b, b ∉ as → b ≠ S → enH H S as xs b = H b := fun b h1 h2 => by
    unfold enH
    rw [if_neg h2, if_neg h1]
  have eS : enH H S as xs S = some (.lst (as.map V.ref)) := if_pos rfl
  have low : ∀ b o, s.heap.get? b = some o → b ∉ as ∧ b ≠ S := fun b o e => by
    have hb : b < s.heap.objs.size := Heap.lt_size e
    exact ⟨fun z => Nat.not_le_of_gt hb (Nat.le_trans hS0 (Nat.le_trans (Nat.le_of_lt hSlo) (hG.lo b z).1)), Nat.ne_of_lt (Nat.lt_of_lt_of_le hb hS0)⟩
  have kp : ∀ b u, H b = some u → enH H S as xs b = some u := fun b u e => by
    rw [off b (fun z => by rw [new b z] at e; cases e) (fun z => by rw [z, newS] at e; cases e)]
    exact e
  have atj : ∀ (j : Nat) t x, as[j]? = some t → xs[j]? = some x → enH H S as xs t = some (.tup [.int (j : Nat), x]) := fun j t x h1 h2 => by
    have m := List.mem_of_getElem? h1
    unfold enH
    rw [if_neg (fun (z : t = S) => hSn (z ▸ m)), if_pos m, idx_of hG.nd h1]
    simp [List.getD, h2]
  refine ⟨enH H S as xs, kp, newS, eS, atj, hSn, ?_⟩
  refine I.call' (ch := []) rfl ⟨fun b o q _ _ _ => hk b o q, fun b o q _ _ _ => ⟨o.slots, hk b o q⟩, fun b o q n _ => ?_, fun b o q _ => ⟨o, hk b o q⟩, fun b xs q => kp b _ q, fun b o u q => kp b _ q, fun b ps q => ⟨#[], by rw [kp b _ q]; simp⟩⟩ (fun b u q => ?_) I.bare fun b z => by simp at z
  · obtain ⟨z1, z2⟩ := low b o q
    rw [off b z1 z2]
    exact n
  · by_cases hb : b ∈ as
    · obtain ⟨j, hj⟩ := List.mem_iff_getElem?.mp hb
      obtain ⟨t, v, hv, ho⟩ := hG.at_ j b hj
      have hv' : its[j]? = some v := by simpa using hv
      have hjx : j < xs.length := by rw [rv.length]; exact (List.getElem?_eq_some_iff.mp hv').1
      obtain ⟨v2, e2, rx⟩ := rv.get (List.getElem?_eq_getElem hjx)
      rw [hv'] at e2
      cases e2
      rw [atj j b _ hj (List.getElem?_eq_getElem hjx)] at q
      cases q
      exact ⟨two_le, [.int (j : Int) t, v], .cons ⟨t, rfl⟩ (.cons rx .nil), ⟨_, ho, rfl, _, rfl⟩⟩
    · by_cases hb2 : b = S
      · rw [hb2] at q ⊢
        rw [eS] at q
        cases q
        refine ⟨?_, acc.toList, c, by rw [hacc]; exact vals_ref as, ?_⟩
        · rw [List.length_map, hl, List.size_toArray, ← rv.length]
          exact hz
        · rw [Array.toArray_toList]
          exact hS
      · rw [off b hb hb2] at q
        exact (I.hok b u q).stay (fun d v _ y => hk d v y) (fun d y => kp d _ y) fun d xs y => kp d _ y
/-- list(enumerate(xs)) -/
def tListEnum (K : PySem.W.Frag) (ta : TA) : TE := fun σ H Q => ta σ H fun vs H1 => ∃ (a : Addr) (xs : List V), vs = [.ref a] ∧ SqL K H1 a xs ∧
  ∀ p (ts : List Addr) H', Sm H1 H' → H1 p = none → H' p = some (.lst (ts.map V.ref)) → ts.length = xs.length → (∀ (j : Nat) t x, ts[j]? = some t → xs[j]? = some x → H' t = some (.tup [.int (j : Nat), x])) → p ∉ ts → Q (.ref p) H'
theorem pe_listEnum {a : Expr} {ta : TA} {p p2 pos pos2 : Pos} (hm : X.mg "list" = none) (hm2 : X.mg "enumerate" = none) (ha : PA X [a] ta) (hc : X.calm = true := by rfl) (hg : Gl X "list" := by rfl) (hg2 : Gl X "enumerate" := by rfl)
    (hs : starEach [a] X.env = [(false, eval a X.env)] := by rfl) (hs2 : starEach [.Call (.Name "enumerate" p2) [a] [] pos2] X.env = (false, eval (.Call (.Name "enumerate" p2) [a] [] pos2) X.env) :: starEach [] X.env := by rfl) :
    PE X (.Call (.Name "list" p) [.Call (.Name "enumerate" p2) [a] [] pos2] [] pos) (tListEnum X.K ta) := by
  refine ⟨fun pins s σ H Q I hq => ?_⟩
  refine wpAny_Call_Name_kw (ld_blt I hg hm (show bootBuiltins "list" = some (.type "list") by decide +kernel) ?_)
  refine PyProof.Rows.callWith_type1 ?_ hs2 rfl
  rw [hs2]
  show wpAny _ _ (spliced ((false, eval (.Call (.Name "enumerate" p2) [a] [] pos2) X.env) :: backTo pos (starEach [] X.env))) _ _ s
  refine Calls.spliced_cons ?_
  refine Call_ (ld_blt I hg2 hm2 boot_enumerate (PyProof.Rows.callWith_type1 (thn (ha.run pos2 pins s σ H _ I hq) fun us s1 ⟨vs, H1, I1, r1, q1⟩ => ?_) hs rfl))
  obtain ⟨l, xs, ex, hsq, q⟩ := q1
  subst ex
  rw [Vals.ref1 r1]
  obtain ⟨its, rv, p', hz⟩ := I1.list hsq
  refine call_enumerate_list p'.isList fun h' he hit hsz hk => ?_
  have bl : l < s1.heap.objs.size := let ⟨_, x, _⟩ := p'.isList; Heap.lt_size x
  refine Calls.spliced_nil ?_
  refine list_enum (s := { s1 with heap := h' }) (l := l) (items := its.toArray) (I1.ok.hd hc) he hit (p'.isList.at fun o q => hk _ o q) (Nat.succ_ne_self _) (Nat.ne_of_lt (Nat.lt_succ_of_lt bl)) (Nat.ne_of_lt bl) (by rw [List.size_toArray, ← rv.length]; exact hz) fun h2 tk acc c as k2 hS hl hG hacc => ?_
  have hsz' : h'.objs.size = s1.heap.objs.size + 2 := hsz
  obtain ⟨H', z1, z2, z3, z4, z5, J⟩ := enum_laid (S := h'.objs.size) (tk := tk) I1 rv hz (fun b o q => k2 b o (Nat.ne_of_lt (Nat.lt_succ_of_lt (Heap.lt_size q))) (Nat.ne_of_lt (Heap.lt_size q)) (hk b o q)) (by rw [hsz']; exact Nat.le_add_right _ _) (Nat.lt_succ_self _) hS hl hG hacc
  refine ⟨.ref _, H', J, rfl, q _ as H' z1 z2 z3 ?_ z4 z5⟩
  rw [hl, List.size_toArray, rv.length]
end
end K7

set_option Elab.async false
set_option linter.all false
set_option maxRecDepth 100000
set_option maxHeartbeats 1000000
namespace K7
open PySem PySem.Spec PyProof.Rows L2
open PySem.W (Datum)
open Evl (Ex Ev EvT EvL EvA ex_l ex_t sq_of st_of sz_of sz_lt fresh_back)
section
variable {P : Program} {w : World} {K : PySem.W.Frag} {mg : Str → Option Value} {base : Heap}
def sp_in_order : Sp := fun vs H Q _ => ∃ a b, vs = [.str a, .str b] ∧ ∀ r H', Sm H H' → H r = none → TwoAt H' r (inOrd a b) → Q (.ref r) H'
theorem c_in_order (T : Tx P w K mg base) : C8.Cal P w K mg base 1 "in_order" sp_in_order [] := by
  obtain ⟨f, fd, F, df⟩ := T.d "in_order" 20 (by decide +kernel)
  have sc : FnScope ["one", "other"] ["one", "other"] (C8.fnScope (top 20)) := C8.fnScope_by (by decide +kernel)
  have nd := sc.nd
  refine C8.cal0 F (F.fn.binds df (ps := ["one", "other"]) fun _ _ _ _ _ _ us hl => match us, hl with | [_, _], _ => rfl) .nil sc (fun vs H Q E h => by obtain ⟨_, _, rfl, _⟩ := h; rfl) fun cdv A outer s H vs Q E hr h => ?_
  refine ⟨_, PSs.nox (pss_one (ps_ret (pe_ifExp (pt_cmpR op_le_str (pv 0) (pv 1) (nomark _)) (pe_tup (pa_cons (pv 0) (pa_cons (pv 1) pa_nil))) (pe_tup (pa_cons (pv 1) (pa_cons (pv 0) pa_nil)))))), ?_⟩
  obtain ⟨a, b, rfl, hQ⟩ := h
  refine ⟨_, rfl, _, rfl, a, b, rfl, rfl, _, rfl, ?_⟩
  have e : inOrd a b = if (!decide (b.cps.toList < a.cps.toList)) = true then (a, b) else (b, a) := rfl
  cases hc : !decide (b.cps.toList < a.cps.toList)
  · rw [hc] at e
    refine ⟨_, rfl, _, rfl, two_le, fun p hp => hQ p _ (Ex.new hp) hp ?_⟩
    rw [e]
    exact upd_same
  · rw [hc] at e
    refine ⟨_, rfl, _, rfl, two_le, fun p hp => hQ p _ (Ex.new hp) hp ?_⟩
    rw [e]
    exact upd_same
def sp_mates_in (C : Addr) : Sp := fun vs H Q _ => ∃ (s pa : Addr) (k : Str) (dx ka : Addr) (fs : List (Str × V)) (sk : List Str) (fp : List (Str × Str)), vs = [.ref s, .ref pa, .str k] ∧ H s = some (.ins C dx fs) ∧ fs.lookup (Str.ofString "its_kinds") = some (V.ref ka) ∧ LS H ka sk ∧ sk.length ≤ 8 ∧
  PairsAt H pa fp ∧ okS sk ∧ okP fp ∧ PyData.strOk k = true ∧ ∀ r H', Sm H H' → H r = none → LS H' r (mtS sk fp k) → Q (.ref r) H'
theorem m_mates_in (T : Tx P w K mg base) : C8.Met P w K mg base 2 (CS K) "mates_in" (sp_mates_in (CS K)) [] := by
  obtain ⟨fd, F, df⟩ := T.m "mates_in" "Suits.mates_in" 1 (by decide +kernel)
  have sc : FnScope ["self", "pairs", "kind", "other"] ["self", "pairs", "kind"] (C8.fnScope (inClass (top 21) 1)) := C8.fnScope_by (by decide +kernel)
  have nd := sc.nd
  have c_in_order := c_in_order T
  refine C8.met0 T.cls (T.meth (by decide +kernel)) F (F.binds df (ps := ["self", "pairs", "kind"]) fun _ _ _ _ _ _ us hl => match us, hl with | [_, _, _], _ => rfl) sc (fun vs H Q E h => by obtain ⟨_, _, _, _, _, _, _, _, rfl, _⟩ := h; rfl) fun cdv A outer s H vs Q E hr h => ?_
  refine ⟨_, PSs.nox (pss_one (ps_ret (pe_lc (own := [("other", 3)]) (g := (gName 3)) rfl nd (k_pi_list (K := K) (k_fld (K := K) (pv 0) rfl)) (blkOk_by (by kernel_rfl)) (fun _ _ _ _ _ => (pg_name (i := 3) nd rfl (.inl rfl))) (fun _ _ _ _ _ => (pts_one (pt_cmpR (k_inD (K := K) (hu65 hr)) (C8.pe_c c_in_order hr (by decide) rfl (pa_cons (pv 2) (pa_cons (pv 3) pa_nil))) (pv 1) (by rfl)))) (fun _ _ _ _ _ => (pv 3))))), ?_⟩
  obtain ⟨s', pa, k, dx, ka, fs, sk, fp, rfl, hs, hk, hka, h8, hpa, h1, h2, h3, hQ⟩ := h
  refine ⟨_, rfl, _, _, _, _, _, rfl, hs, T.cls, T.noat (by decide +kernel), hk, ka, rfl, ⟨_, sq_of hka⟩, ?_⟩
  refine lcL (fun o => decide (inOrd k o ∈ fp)) V.str (sq_of hka) (Nat.le_trans h8 (by decide)) (fun y hy H1 e1 Q' q => ?_) (fun y hy _ H1 e1 Q' q => ⟨_, rfl, q H1 (Ex.refl H1)⟩) (fun D H' d e h => hQ D H' e d h)
  refine ⟨_, rfl, _, rfl, k, y, rfl, fun r H2 e2 hr2 htw => ⟨_, rfl, _, _, dp_two htw, dp_pairs (hpa.mono (e1.trans e2)), sh_two (inOrd_ok h3 (h1 y hy)), sh_pairs h2, _, rfl, ?_⟩⟩
  rw [any_eqvP]
  exact q H2 e2
def sp_kinds (C : Addr) : Sp := fun vs H Q _ => ∃ (s : Addr) (sk : List Str) (sp : List (Str × Str)), vs = [.ref s] ∧ SuitsAt C H s sk sp ∧ ∀ r H', Sm H H' → H r = none → LS H' r sk → Q (.ref r) H'
theorem m_kinds (T : Tx P w K mg base) : C8.Met P w K mg base 1 (CS K) "kinds" (sp_kinds (CS K)) [] := by
  obtain ⟨fd, F, df⟩ := T.m "kinds" "Suits.kinds" 5 (by decide +kernel)
  have sc : FnScope ["self"] ["self"] (C8.fnScope (inClass (top 21) 5)) := C8.fnScope_by (by decide +kernel)
  have nd := sc.nd
  refine C8.met0 T.cls (T.meth (by decide +kernel)) F (F.binds df (ps := ["self"]) fun _ _ _ _ _ _ us hl => match us, hl with | [_], _ => rfl) sc (fun vs H Q E h => by obtain ⟨_, _, _, rfl, _⟩ := h; rfl) fun cdv A outer s H vs Q E hr h => ?_
  refine ⟨_, PSs.nox (pss_one (ps_ret (pe_callTy (k_list_of (K := K)) (by rfl) T.b_list (by decide +kernel) (pa_cons (k_fld (K := K) (pv 0) rfl) pa_nil)))), ?_⟩
  obtain ⟨s', sk, sp, rfl, ⟨dx, ka, pa, ma, m, hs, hka, hpa, hma, hm⟩, hQ⟩ := h
  exact ⟨_, rfl, _, _, _, _, _, rfl, hs, T.cls, T.noat (by decide +kernel), rfl, ka, _, rfl, .inl (sq_of hka), fun l hl => hQ l _ (Ex.new hl) hl upd_same⟩
def sp_pairs (C : Addr) : Sp := fun vs H Q _ => ∃ (s : Addr) (sk : List Str) (sp : List (Str × Str)), vs = [.ref s] ∧ SuitsAt C H s sk sp ∧ ∀ r H', Sm H H' → H r = none → PairsAt H' r sp → Q (.ref r) H'
theorem m_pairs (T : Tx P w K mg base) : C8.Met P w K mg base 1 (CS K) "pairs" (sp_pairs (CS K)) [] := by
  obtain ⟨fd, F, df⟩ := T.m "pairs" "Suits.pairs" 6 (by decide +kernel)
  have sc : FnScope ["self"] ["self"] (C8.fnScope (inClass (top 21) 6)) := C8.fnScope_by (by decide +kernel)
  have nd := sc.nd
  refine C8.met0 T.cls (T.meth (by decide +kernel)) F (F.binds df (ps := ["self"]) fun _ _ _ _ _ _ us hl => match us, hl with | [_], _ => rfl) sc (fun vs H Q E h => by obtain ⟨_, _, _, rfl, _⟩ := h; rfl) fun cdv A outer s H vs Q E hr h => ?_
  refine ⟨_, PSs.nox (pss_one (ps_ret (pe_callTy (k_list_of (K := K)) (by rfl) T.b_list (by decide +kernel) (pa_cons (k_fld (K := K) (pv 0) rfl) pa_nil)))), ?_⟩
  obtain ⟨s', sk, sp, rfl, ⟨dx, ka, pa, ma, m, hs, hka, hpa, hma, hm⟩, hQ⟩ := h
  obtain ⟨rs, h1, h2⟩ := hpa
  exact ⟨_, rfl, _, _, _, _, _, rfl, hs, T.cls, T.noat (by decide +kernel), rfl, pa, _, rfl, .inl (sq_of h1), fun l hl => hQ l _ (Ex.new hl) hl ⟨rs, upd_same, Paired.mapP h2 fun _ _ q => q.mono (Ex.new hl)⟩⟩
def sp_lonely (C : Addr) : Sp := fun vs H Q _ => ∃ (s : Addr) (sk : List Str) (sp : List (Str × Str)), vs = [.ref s] ∧ SuitsAt C H s sk sp ∧ SuitsOk sk sp ∧ ∀ r H', Sm H H' → H r = none → LS H' r (sk.filter fun k => decide (mtS sk sp k = [])) → Q (.ref r) H'
theorem m_lonely (T : Tx P w K mg base) : C8.Met P w K mg base 1 (CS K) "lonely" (sp_lonely (CS K)) [] := by
  obtain ⟨fd, F, df⟩ := T.m "lonely" "Suits.lonely" 7 (by decide +kernel)
  have sc : FnScope ["self", "kind"] ["self"] (C8.fnScope (inClass (top 21) 7)) := C8.fnScope_by (by decide +kernel)
  have nd := sc.nd
  refine C8.met0 T.cls (T.meth (by decide +kernel)) F (F.binds df (ps := ["self"]) fun _ _ _ _ _ _ us hl => match us, hl with | [_], _ => rfl) sc (fun vs H Q E h => by obtain ⟨_, _, _, rfl, _⟩ := h; rfl) fun cdv A outer s H vs Q E hr h => ?_
  refine ⟨_, PSs.nox (pss_one (ps_ret (pe_lc (own := [("kind", 1)]) (g := (gName 1)) rfl nd (k_pi_list (K := K) (k_fld (K := K) (pv 0) rfl)) (blkOk_by (by kernel_rfl)) (fun _ _ _ _ _ => (pg_name (i := 1) nd rfl (.inl rfl))) (fun _ _ _ _ _ => (pts_one (pt_cmpR (k_eqD (K := K) hr.units) (pe_dget (hu_of hr) (k_fld (K := K) (pv 0) rfl) (pv 1) (fun _ _ => rfl)) (pe_lst pa_nil) (nomark _)))) (fun _ _ _ _ _ => (pv 1))))), ?_⟩
  obtain ⟨s', sk, sp, rfl, ⟨dx, ka, pa, ma, m, hs, hka, hpa, hma, hm⟩, ok, hQ⟩ := h
  refine ⟨_, rfl, _, _, _, _, _, rfl, hs, T.cls, T.noat (by decide +kernel), rfl, ka, rfl, ⟨_, sq_of hka⟩, ?_⟩
  refine lcL (fun k => decide (mtS sk sp k = [])) V.str (sq_of hka) (Nat.le_trans ok.hi (by decide)) (fun y hy H1 e1 Q' q => ?_) (fun y hy _ H1 e1 Q' q => ⟨_, rfl, q H1 (Ex.refl H1)⟩) (fun D H' d e h => hQ D H' e d h)
  refine ⟨_, rfl, _, _, _, _, _, rfl, e1 _ _ hs, T.cls, T.noat (by decide +kernel), rfl, _, rfl, ma, _, rfl, .inl ⟨_, .inr y, .inl (e1 _ _ hma), rfl, (valV_map (m := fun k => V.ref (m k)) hy).symm⟩, Nat.zero_le _, fun p hp => ?_⟩
  refine ⟨_, _, dp_ls (Ex.new hp _ _ (e1 _ _ (hm y hy))), dp_ls (xs := []) upd_same, sh_strs fun x hx => ok.ok x (List.mem_filter.mp hx).1, sh_strs (fun x hx => absurd hx List.not_mem_nil), _, rfl, ?_⟩
  rw [Datum.eqv]
  exact q _ (Ex.new hp)
def sp_mates (C : Addr) : Sp := fun vs H Q _ => ∃ (s ra : Addr) (sk : List Str) (sp : List (Str × Str)) (ks : List Str), vs = [.ref s, .ref ra] ∧ SuitsAt C H s sk sp ∧ SuitsOk sk sp ∧ LS H ra ks ∧ ∀ r H', Sm H H' → H r = none → LS H' r (sk.filter fun k => (mtS sk sp k).any fun o => decide (o ∈ ks)) → Q (.ref r) H'
theorem m_mates (T : Tx P w K mg base) : C8.Met P w K mg base 1 (CS K) "mates" (sp_mates (CS K)) [] := by
  obtain ⟨fd, F, df⟩ := T.m "mates" "Suits.mates" 8 (by decide +kernel)
  have sc : FnScope ["self", "kinds", "kind", "other"] ["self", "kinds"] (C8.fnScope (inClass (top 21) 8)) := C8.fnScope_by (by decide +kernel)
  have nd := sc.nd
  refine C8.met0 T.cls (T.meth (by decide +kernel)) F (F.binds df (ps := ["self", "kinds"]) fun _ _ _ _ _ _ us hl => match us, hl with | [_, _], _ => rfl) sc (fun vs H Q E h => by obtain ⟨_, _, _, _, _, rfl, _⟩ := h; rfl) fun cdv A outer s H vs Q E hr h => ?_
  refine ⟨_, PSs.nox (pss_one (ps_ret (pe_lc (own := [("kind", 2)]) (g := (gName 2)) rfl nd (k_pi_list (K := K) (k_fld (K := K) (pv 0) rfl)) (blkOk_by (by kernel_rfl)) (fun _ _ _ _ _ => (pg_name (i := 2) nd rfl (.inl rfl))) (fun _ _ _ _ _ => (pts_one (pt_val (pe_callB (k_any (K := K) rfl) (by rfl) T.b_any (by decide +kernel) (pa_cons (pe_lc (own := [("other", 3)]) (g := (gName 3)) (tt := tYes) rfl nd (k_pi_list (K := K) (pe_dget (hu_of hr) (k_fld (K := K) (pv 0) rfl) (pv 2) (fun _ _ => rfl))) (blkOk_by (by kernel_rfl)) (fun _ _ _ _ _ => (pg_name (i := 3) nd rfl (.inl rfl))) (fun _ _ _ _ _ => pts_nil) (fun _ _ _ _ _ => (pe_cmpR (k_in_seq (K := K)) (pv 3) (pv 1) (by rfl)))) pa_nil))))) (fun _ _ _ _ _ => (pv 2))))), ?_⟩
  obtain ⟨s', ra, sk, sp, ks, rfl, ⟨dx, ka, pa, ma, m, hs, hka, hpa, hma, hm⟩, ok, hra, hQ⟩ := h
  refine ⟨_, rfl, _, _, _, _, _, rfl, hs, T.cls, T.noat (by decide +kernel), rfl, ka, rfl, ⟨_, sq_of hka⟩, ?_⟩
  refine lcL (fun k => (mtS sk sp k).any fun o => decide (o ∈ ks)) V.str (sq_of hka) (Nat.le_trans ok.hi (by decide)) (fun y hy H1 e1 Q' q => ?_) (fun y hy _ H1 e1 Q' q => ⟨_, rfl, q H1 (Ex.refl H1)⟩) (fun D H' d e h => hQ D H' e d h)
  refine ⟨_, rfl, _, _, _, _, _, rfl, e1 _ _ hs, T.cls, T.noat (by decide +kernel), rfl, _, rfl, ma, _, rfl, .inl ⟨_, .inr y, .inl (e1 _ _ hma), rfl, (valV_map (m := fun k => V.ref (m k)) hy).symm⟩, m y, rfl, ⟨_, sq_of (e1 _ _ (hm y hy))⟩, ?_⟩
  refine lcLy (fun o => V.bl (decide (o ∈ ks))) (sq_of (e1 _ _ (hm y hy))) (Nat.le_trans (mtS_len _ _ _) (Nat.le_trans ok.hi (by decide))) (fun o ho H2 e2 Q2 q2 => ?_) (fun D H' d e h => ?_)
  · refine ⟨_, rfl, _, rfl, ra, _, rfl, .inl (sq_of (e2 _ _ (e1 _ _ hra))), rfl, flat_strs' ks, ?_⟩
    show Q2 (.bl (inV (.str o) (ks.map V.str))) H2
    rw [inV_strs]
    exact q2 H2 (Ex.refl H2)
  · rw [map_bl] at h
    refine ⟨D, _, rfl, sq_of h, _, rfl, ?_⟩
    rw [any_id]
    exact q H' e
def sp_is_calm (C : Addr) : Sp := fun vs H Q _ => ∃ (s ra : Addr) (sk : List Str) (sp : List (Str × Str)) (ks : List Str), vs = [.ref s, .ref ra] ∧ SuitsAt C H s sk sp ∧ SuitsOk sk sp ∧ LS H ra ks ∧ ks.length ≤ 1000 ∧
  ∀ H', Sm H H' → Q (.bl (!(sk.filter fun k => (mtS sk sp k).any fun o => decide (o ∈ ks)).any fun k => decide (k ∈ ks))) H'
theorem m_is_calm (T : Tx P w K mg base) : C8.Met P w K mg base 2 (CS K) "is_calm" (sp_is_calm (CS K)) [] := by
  obtain ⟨fd, F, df⟩ := T.m "is_calm" "Suits.is_calm" 9 (by decide +kernel)
  have sc : FnScope ["self", "kinds", "kind"] ["self", "kinds"] (C8.fnScope (inClass (top 21) 9)) := C8.fnScope_by (by decide +kernel)
  have nd := sc.nd
  have m_mates := m_mates T
  refine C8.met0 T.cls (T.meth (by decide +kernel)) F (F.binds df (ps := ["self", "kinds"]) fun _ _ _ _ _ _ us hl => match us, hl with | [_, _], _ => rfl) sc (fun vs H Q E h => by obtain ⟨_, _, _, _, _, rfl, _⟩ := h; rfl) fun cdv A outer s H vs Q E hr h => ?_
  refine ⟨_, PSs.nox (pss_one (ps_ret (pe_not (pe_callB (k_any (K := K) rfl) (by rfl) T.b_any (by decide +kernel) (pa_cons (pe_lc (own := [("kind", 2)]) (g := (gName 2)) (tt := tYes) rfl nd (k_pi_list (K := K) (C8.pe_mt m_mates hr (by decide) (pv 0) (pa_cons (pv 1) pa_nil))) (blkOk_by (by kernel_rfl)) (fun _ _ _ _ _ => (pg_name (i := 2) nd rfl (.inl rfl))) (fun _ _ _ _ _ => pts_nil) (fun _ _ _ _ _ => (pe_cmpR (k_in_seq (K := K)) (pv 2) (pv 1) (by rfl)))) pa_nil))))), ?_⟩
  obtain ⟨s', ra, sk, sp, ks, rfl, hS, ok, hra, hz, hQ⟩ := h
  obtain ⟨dx, ka, pa, ma, m, hs, _⟩ := id hS
  refine ⟨_, rfl, s', dx, _, rfl, hs, rfl, _, rfl, s', ra, sk, sp, ks, rfl, hS, ok, hra, fun r H1 e1 hr1 hl => ⟨r, rfl, ⟨_, sq_of hl⟩, ?_⟩⟩
  refine lcLy (fun k => V.bl (decide (k ∈ ks))) (sq_of hl) (Nat.le_trans (List.length_filter_le _ _) (Nat.le_trans ok.hi (by decide))) (fun o ho H2 e2 Q2 q2 => ?_) (fun D H' d e h => ?_)
  · refine ⟨_, rfl, _, rfl, ra, _, rfl, .inl (sq_of (e2 _ _ (e1 _ _ hra))), rfl, flat_strs' ks, ?_⟩
    show Q2 (.bl (inV (.str o) (ks.map V.str))) H2
    rw [inV_strs]
    exact q2 H2 (Ex.refl H2)
  · rw [map_bl] at h
    refine ⟨D, _, rfl, sq_of h, _, rfl, ?_⟩
    rw [any_id]
    exact hQ H' (e1.trans e)
end
end K7

set_option Elab.async false
set_option linter.all false
set_option maxRecDepth 100000
set_option maxHeartbeats 1000000
namespace K7
open PySem PySem.Spec PyProof.Rows L2
open PySem.W (Datum)
open Evl (Ex Ev EvT EvL EvA ex_l ex_t sq_of st_of sz_of sz_lt fresh_back)
section
variable {P : Program} {w : World} {K : PySem.W.Frag} {mg : Str → Option Value} {base : Heap}
/-- the mates of a kind, as suits.mates([kind]) tells them -/
def mtL (sk : List Str) (sp : List (Str × Str)) (x : Str) : List Str := sk.filter fun k => (mtS sk sp k).any fun o => decide (o ∈ [x])
theorem mtL_len (sk : List Str) (sp : List (Str × Str)) (x : Str) : (mtL sk sp x).length ≤ sk.length := List.length_filter_le _ _
theorem barred_len {mt : Str → List Str} {line : List Str} {K : List Nat} {b : Nat} (hb : ∀ x, (mt x).length ≤ b) : ∀ n, (K76.leaveTo mt line K n).2.2.length ≤ b * n
  | 0 => Nat.zero_le _
  | n + 1 => by
    have ih := barred_len (line := line) (K := K) hb n
    have hm : b * (n + 1) = b * n + b := Nat.mul_succ b n
    cases e : line[n]? with
    | none =>
      have : K76.leaveTo mt line K (n + 1) = K76.leaveTo mt line K n := by
        rw [K76.leaveTo.eq_2, e]
      rw [this]; omega
    | some x =>
      rw [K76.leaveTo_succ e]
      unfold K76.leaveStep
      have hf : ((mt x).filter fun m => decide (m ∉ (K76.leaveTo mt line K n).2.2)).length ≤ b := Nat.le_trans (List.length_filter_le _ _) (hb x)
      revert hf
      generalize ((mt x).filter fun m => decide (m ∉ (K76.leaveTo mt line K n).2.2)) = fr
      intro hf
      cases fr with
      | nil => dsimp only; (try split) <;> (try dsimp only) <;> first | omega | (rw [List.length_append]; omega)
      | cons m r =>
        dsimp only
        split
        · dsimp only; omega
        · dsimp only
          rw [List.length_append]
          omega
theorem free_ev {K : PySem.W.Frag} {C : Addr} {H : Hp} {s' ba : Addr} {sk : List Str} {sp : List (Str × Str)} {bs : List Str} {k : Str} {o1 o2 o3 o4 o6 o8 : Option V} (hS : SuitsAt C H s' sk sp) (ok : SuitsOk sk sp) (hb : LS H ba bs) :
    EvL (tLc (iList K (tMeth C "mates" (sp_mates C) [] C8.E0 (tVar 0) (tCons (tLst (tCons (tVar 7) tNil)) tNil))) (gName 9) (tTest (tOp (rIn K true) (tVar 9) (tVar 5))) (tVar 9) (List.map (fun x => x.snd) [(("mate" : Str), 9)]))
      [some (.ref s'), o1, o2, o3, o4, some (.ref ba), o6, some (.str k), o8, none] H (((mtL sk sp k).filter fun m => decide (m ∉ bs)).map V.str) := by
  intro H1 e1 Q hQ
  obtain ⟨dx, ka', pa, ma, m, hs, _⟩ := id hS
  refine ⟨_, rfl, s', dx, _, rfl, e1 _ _ hs, rfl, _, rfl, one_le, fun p hp => ⟨s', p, sk, sp, [k], rfl, hS.mono (e1.trans (Ex.new hp)), ok, upd_same, fun r H2 e2 hr2 hl2 => ⟨r, rfl, ⟨_, sq_of hl2⟩, ?_⟩⟩⟩
  have e3 : Sm H1 H2 := (Ex.new hp).trans e2
  refine lcL (fun m => decide (m ∉ bs)) V.str (sq_of hl2) (Nat.le_trans (List.length_filter_le _ _) (Nat.le_trans ok.hi (by decide))) (fun y hy H3 e4 Q' q => ?_) (fun y hy _ H3 e4 Q' q => ⟨_, rfl, q H3 (Ex.refl H3)⟩) (fun D H' hD e h => hQ D H' (fresh_back e3 hD) (e3.trans e) h)
  refine ⟨_, rfl, _, rfl, ba, _, rfl, .inl (sq_of (e4 _ _ (e3 _ _ (e1 _ _ hb)))), rfl, flat_strs' _, _, rfl, ?_⟩
  show Q' (!inV (.str y) (bs.map V.str)) H3
  rw [inV_strs, ← decide_not]
  exact q H3 (Ex.refl H3)
theorem row_le8 (mt : Str → List Str) (line : List Str) (kp : List Nat) (i : Nat) (h : i ≤ line.length) : (K76.leaveTo mt line kp i).1.length ≤ i ∧ (K76.leaveTo mt line kp i).2.1.length ≤ i := K76.row_le mt line kp i h
def sp_leave (C : Addr) : Sp := fun vs H Q _ => ∃ (s la ka : Addr) (sk : List Str) (sp : List (Str × Str)) (line : List Str) (kp : List Nat), vs = [.ref s, .ref la, .ref ka] ∧ SuitsAt C H s sk sp ∧ SuitsOk sk sp ∧ LS H la line ∧ LI H ka kp ∧ line.length ≤ 1000 ∧
  ∀ r x H', Sm H H' → H x = none → (K76.stuckM (mtL sk sp) line kp = [] → H' r = some (.tup [.str "row", .ref x]) ∧ LS H' x (K76.rowM (mtL sk sp) line kp)) →
    (K76.stuckM (mtL sk sp) line kp ≠ [] → H' r = some (.tup [.str "stuck", .ref x]) ∧ LI H' x (K76.stuckM (mtL sk sp) line kp)) → Q (.ref r) H'
theorem c_leave (T : Tx P w K mg base) : C8.Cal P w K mg base 2 "leave" (sp_leave (CS K)) [] := by
  obtain ⟨f, fd, F, df⟩ := T.d "leave" 7 (by decide +kernel)
  have sc : FnScope ["suits", "line", "kept", "row", "stuck", "barred", "place", "kind", "free", "mate"] ["suits", "line", "kept"] (C8.fnScope (top 7)) := C8.fnScope_by (by decide +kernel)
  have nd := sc.nd
  have m_mates := m_mates T
  refine C8.cal0 F (F.fn.binds df (ps := ["suits", "line", "kept"]) fun _ _ _ _ _ _ us hl => match us, hl with | [_, _, _], _ => rfl) .nil sc (fun vs H Q E h => by obtain ⟨_, _, _, _, _, _, _, rfl, _⟩ := h; rfl) fun cdv A outer s H vs Q E hr h => ?_
  refine ⟨_, PSs.nox (pss_cons (ps_asg (pe_tup (pa_cons (pe_lst pa_nil) (pa_cons (pe_lst pa_nil) (pa_cons (pe_lst pa_nil) pa_nil)))) (k_pg_tup (K := K) (n := 3) rfl (pgs_cons (pg_name (i := 3) nd rfl (.inl rfl)) (pgs_cons (pg_name (i := 4) nd rfl (.inl rfl)) (pgs_cons (pg_name (i := 5) nd rfl (.inr rfl)) pgs_nil)))))
    (pss_cons (ps_for PassesOwn.never rfl (k_pi_enum (K := K) (by rfl) T.b_enumerate (pa_cons (pv 1) pa_nil)) (k_pg_tup (K := K) (n := 2) rfl (pgs_cons (pg_name (i := 6) nd rfl (.inl rfl)) (pgs_cons (pg_name (i := 7) nd rfl (.inl rfl)) pgs_nil))) (pss_cons (ps_setLc (i := 8) (own := [("mate", 9)]) (g := (gName 9)) rfl nd rfl rfl (sw_true rfl rfl rfl (by decide +kernel)) (k_pi_list (K := K) (C8.pe_mt m_mates hr (by decide) (pv 0) (pa_cons (pe_lst (pa_cons (pv 7) pa_nil)) pa_nil))) (blkOk_by (by kernel_rfl)) (fun _ _ _ _ _ => (pg_name (i := 9) nd rfl (.inl rfl))) (fun _ _ _ _ _ => (pts_one (pt_cmpR (k_notIn_seq (K := K)) (pv 9) (pv 5) (by rfl)))) (fun _ _ _ _ _ => (pv 9)))
    (pss_one (ps_if (PW.pt (pw_and (pt_cmpR (k_notIn_seq (K := K)) (pv 6) (pv 2) (by rfl)) (pw_and1 (pt_cmpR (k_neD (K := K) hr.units) (pv 8) (pe_lst pa_nil) (nomark _))))) (pss_one (ps_expr (pe_bm PySem.F.plainAttrs_list PySem.F.slot_list_append PySem.F.type_list_append mt_append (pv 3) (pa_cons (pe_ix (k_ix_list (K := K)) (pv 8) pe_int (fun _ _ => rfl)) pa_nil)))) (pss_cons (ps_set (i := 5) nd rfl (.inr rfl) (pe_op op_cat (pv 5) (pe_lc (own := [("mate", 9)]) (g := (gName 9)) rfl nd (k_pi_list (K := K) (C8.pe_mt m_mates hr (by decide) (pv 0) (pa_cons (pe_lst (pa_cons (pv 7) pa_nil)) pa_nil))) (blkOk_by (by kernel_rfl)) (fun _ _ _ _ _ => (pg_name (i := 9) nd rfl (.inl rfl))) (fun _ _ _ _ _ => (pts_one (pt_cmpR (k_notIn_seq (K := K)) (pv 9) (pv 5) (by rfl)))) (fun _ _ _ _ _ => (pv 9)))))
    (pss_one (ps_if (pt_cmpR (k_notIn_seq (K := K)) (pv 6) (pv 2) (by rfl)) (pss_one (ps_expr (pe_bm PySem.F.plainAttrs_list PySem.F.slot_list_append PySem.F.type_list_append mt_append (pv 4) (pa_cons (pv 6) pa_nil)))) pss_nil)))))))
    (pss_one (ps_ret (pe_ifExp (pt_cmpR (k_eqD (K := K) hr.units) (pv 4) (pe_lst pa_nil) (nomark _)) (pe_tup (pa_cons pe_str (pa_cons (pv 3) pa_nil))) (pe_tup (pa_cons pe_str (pa_cons (pv 4) pa_nil)))))))), ?_⟩
  obtain ⟨s', la, ka, sk, sp, line, kp, rfl, hS, ok, hla, hka, hz, hQ⟩ := h
  obtain ⟨dx, ka', pa, ma, m, hs, _⟩ := id hS
  refine ⟨Nat.zero_le _, fun ra hra => ?_⟩
  generalize hE : L2.upd H ra (.lst []) = H1
  have e1 : Sm H H1 := hE ▸ Evl.Ex.new hra
  have hr1 : H1 ra = some (.lst []) := hE ▸ L2.upd_same
  clear hE
  refine ⟨Nat.zero_le _, fun sa hsa => ?_⟩
  generalize hE : L2.upd H1 sa (.lst []) = H2
  have e2 : Sm H1 H2 := hE ▸ Evl.Ex.new hsa
  have hs2 : H2 sa = some (.lst []) := hE ▸ L2.upd_same
  clear hE
  refine ⟨Nat.zero_le _, fun ba hba => ?_⟩
  generalize hE : L2.upd H2 ba (.lst []) = H3
  have e3 : Sm H2 H3 := hE ▸ Evl.Ex.new hba
  have hb3 : H3 ba = some (.lst []) := hE ▸ L2.upd_same
  clear hE
  refine ⟨three_le, fun Tt hT => ⟨Tt, _, rfl, st_of upd_same, rfl, _, _, rfl, _, _, rfl, _, _, rfl, rfl, ?_⟩⟩
  generalize hE : L2.upd H3 Tt (.tup [.ref ra, .ref sa, .ref ba]) = H4
  have e4 : Sm H3 H4 := hE ▸ Evl.Ex.new hT
  have hT4 : H4 Tt = some (.tup [.ref ra, .ref sa, .ref ba]) := hE ▸ L2.upd_same
  clear hE
  have e12 : Sm H H2 := e1.trans e2
  have e13 : Sm H H3 := e12.trans e3
  have e14 : Sm H H4 := e13.trans e4
  have hs0 : H sa = none := fresh_back e1 hsa
  have nrs : ra ≠ sa := ne_fr hsa hr1
  have nsb : sa ≠ ba := ne_fr hba hs2
  have nrb : ra ≠ ba := ne_fr hba (e2 _ _ hr1)
  refine ⟨_, rfl, la, _, rfl, sq_of (e14 _ _ hla), for_enum (xs := line.map V.str) (fun n σ' H' => ∃ (ba : Addr) (o6 o7 o8 : Option V), σ' = [some (.ref s'), some (.ref la), some (.ref ka), some (.ref ra), some (.ref sa), some (.ref ba), o6, o7, o8, none] ∧ Sm H H' ∧ ba ≠ ra ∧ ba ≠ sa ∧
    LS H' ra (K76.leaveTo (mtL sk sp) line kp n).1 ∧ LI H' sa (K76.leaveTo (mtL sk sp) line kp n).2.1 ∧ LS H' ba (K76.leaveTo (mtL sk sp) line kp n).2.2) ?_ (fun i σ' H' _ q => ?_) (fun i x σ' H' T' hx q hT' => ?_) (fun σ' H' q => ?_)⟩
  · exact ⟨ba, none, none, none, rfl, e14, nrb.symm, nsb.symm, e4 _ _ (e3 _ _ (e2 _ _ hr1)), e4 _ _ (e3 _ _ hs2), e4 _ _ hb3⟩
  · obtain ⟨_, _, _, _, rfl, q, _⟩ := q
    exact sq_of (q _ _ hla)
  · obtain ⟨k, hk, rfl⟩ := get?_map' hx
    obtain ⟨ba, o6, o7, o8, rfl, e, n1, n2, h1, h2, h3⟩ := q
    have eT : Sm H' (upd H' T' (.tup [.int (i : Nat), .str k])) := Ex.new hT'
    refine ⟨T', _, rfl, st_of upd_same, rfl, _, _, rfl, _, _, rfl, rfl, ?_⟩
    have hk' : line[i]? = some k := hk
    have hi : i < line.length := (List.getElem?_eq_some_iff.mp hk).1
    refine Evl.q_asgL (free_ev (hS.mono (e.trans eT)) ok (eT _ _ h3)) fun fa H2 hfa e2 hf => ?_
    have eA : Sm H' H2 := eT.trans e2
    have hfa' : H' fa = none := fresh_back eT hfa
    have step := K76.leaveTo_succ (mt := mtL sk sp) (K := kp) hk
    unfold K76.leaveStep at step
    have hb8 : (K76.leaveTo (mtL sk sp) line kp i).2.2.length ≤ 8 * i := barred_len (fun x => Nat.le_trans (mtL_len sk sp x) ok.hi) i
    revert hf step
    generalize hg : ((mtL sk sp k).filter fun m => decide (m ∉ (K76.leaveTo (mtL sk sp) line kp i).2.2)) = fr
    intro hf step
    have hfo : okS fr := fun x hx => ok.ok x (List.mem_filter.mp (List.mem_filter.mp (hg ▸ hx)).1).1
    have hfl : fr.length ≤ 8 := hg ▸ Nat.le_trans (List.length_filter_le _ _) (Nat.le_trans (mtL_len sk sp k) ok.hi)
    have hk2 := row_le8 (mtL sk sp) line kp i (Nat.le_of_lt hi)
    refine ⟨_, rfl, _, rfl, ka, _, rfl, .inl (sq_of (eA _ _ (e _ _ hka))), rfl, flat_nats kp, _, rfl, ?_⟩
    show if (!inV (.int (i : Int)) (kp.map fun n : Nat => V.int (n : Int))) = true then _ else _
    rw [inV_nats]
    have nfr : fa ≠ ra := (ne_new Sm.rfl' hfa' h1).symm
    have nfs : fa ≠ sa := (ne_new Sm.rfl' hfa' h2).symm
    -- barred = barred + [..], then what follows
    have other : ∀ (u : TS) (D : Ends) (H3 : Hp), Sm H2 H3 → (∀ ba2 H4, ba2 ≠ ra → ba2 ≠ sa → Sm H3 H4 → LS H4 ba2 ((K76.leaveTo (mtL sk sp) line kp i).2.2 ++ fr) →
        u D [some (.ref s'), some (.ref la), some (.ref ka), some (.ref ra), some (.ref sa), some (.ref ba2), some (.int (i : Nat)), some (.str k), some (.ref fa), none] H4) →
      tSeq (tAsg (tOp rCat (tVar 5) (tLc (iList K (tMeth (CS K) "mates" (sp_mates (CS K)) [] C8.E0 (tVar 0) (tCons (tLst (tCons (tVar 7) tNil)) tNil))) (gName 9) (tTest (tOp (rIn K true) (tVar 9) (tVar 5))) (tVar 9) (List.map (fun x => x.snd) [(("mate" : Str), 9)]))) (gName 5)) u D
        [some (.ref s'), some (.ref la), some (.ref ka), some (.ref ra), some (.ref sa), some (.ref ba), some (.int (i : Nat)), some (.str k), some (.ref fa), none] H3 := fun u D H3 e3 hu => by
      have h3' : LS H3 ba _ := e3 _ _ (eA _ _ h3)
      refine ⟨_, rfl, free_ev (hS.mono (e.trans (eA.trans e3))) ok h3' _ (Ex.refl _) _ fun f2 H4 hf2 e4 hf4 => ⟨ba, f2, _, _, rfl, rfl, e4 _ _ h3', hf4, ?_, fun p hp => ?_⟩⟩
      · refine Evl.sz_of ?_
        rw [List.length_map, List.length_map, hg]
        omega
      · refine hu p _ (ne_new (eA.trans (e3.trans e4)) hp h1).symm (ne_new (eA.trans (e3.trans e4)) hp h2).symm (e4.trans (Ex.new hp)) ?_
        rw [hg, ← List.map_append]
        exact upd_same
    by_cases hi2 : i ∈ kp
    · refine ifF (by rw [decide_eq_true hi2]; rfl) (ifF rfl ?_)
      refine other _ _ _ (Ex.refl _) fun ba2 H3 n3 n4 e3 h4 => ?_
      refine ⟨_, rfl, _, rfl, ka, _, rfl, .inl (sq_of (e3 _ _ (eA _ _ (e _ _ hka)))), rfl, flat_nats kp, _, rfl, ?_⟩
      show if (!inV (.int (i : Int)) (kp.map fun n : Nat => V.int (n : Int))) = true then _ else _
      rw [inV_nats]
      refine ifF (by rw [decide_eq_true hi2]; rfl) ?_
      refine ⟨ba2, _, _, _, rfl, e.trans (eA.trans e3), n3, n4, ?_, ?_, ?_⟩
      · rw [step]; cases fr <;> simp only [hi2, not_true_eq_false, if_false] <;> exact e3 _ _ (eA _ _ h1)
      · rw [step]; cases fr <;> simp only [hi2, not_true_eq_false, if_false] <;> exact e3 _ _ (eA _ _ h2)
      · rw [step]; cases fr <;> simp only [hi2, not_true_eq_false, if_false] <;> exact h4
    · refine ifT (by rw [decide_eq_false hi2]; rfl) ?_
      refine ⟨_, rfl, Nat.zero_le _, fun p hp => ⟨_, _, dp_ls (Ex.new hp _ _ hf), dp_ls (xs := []) upd_same, sh_strs hfo, sh_strs (fun x hx => absurd hx List.not_mem_nil), _, rfl, ?_⟩⟩
      rw [Datum.eqv]
      generalize hE : L2.upd H2 p (.lst []) = H3
      have e3 : Sm H2 H3 := hE ▸ Evl.Ex.new hp
      have h5 : H3 p = some (.lst []) := hE ▸ L2.upd_same
      clear hE
      cases fr with
      | nil =>
        refine ifF rfl ?_
        refine other _ _ _ e3 fun ba2 H4 n3 n4 e4 h4 => ?_
        have eB := e3.trans e4
        refine ⟨_, rfl, _, rfl, ka, _, rfl, .inl (sq_of (eB _ _ (eA _ _ (e _ _ hka)))), rfl, flat_nats kp, _, rfl, ?_⟩
        show if (!inV (.int (i : Int)) (kp.map fun n : Nat => V.int (n : Int))) = true then _ else _
        rw [inV_nats]
        refine ifT (by rw [decide_eq_false hi2]; rfl) ?_
        refine Evl.s_app (eB _ _ (eA _ _ h2)) (Evl.ev_var rfl) (Evl.ev_var rfl) (by rw [List.length_map]; omega) fun H5 e5 => ?_
        have eC := eA.trans (eB.trans e5)
        refine ⟨ba2, _, _, _, rfl, (e.trans eC).put hs0, n3, n4, ?_, ?_, ?_⟩
        · rw [step]; exact put_ne (eC _ _ h1) nrs
        · rw [step]; simp only [hi2, not_false_eq_true, if_true]; show _ = some (HO.lst _); rw [List.map_append]; exact upd_same
        · rw [step]; exact put_ne (e5 _ _ h4) n4
      | cons fm frr =>
        refine ifT rfl ?_
        refine Evl.s_app (e3 _ _ (eA _ _ h1)) (Evl.ev_var rfl) (Evl.ev_op (Evl.ev_var rfl) Evl.ev_c (Evl.rv_ixL (v := .str fm) (sq_of (e3 _ _ hf)) (atI_nat (i := 0) rfl))) (by rw [List.length_map]; omega) fun H5 e5 => ?_
        have eC := eA.trans (e3.trans e5)
        refine ⟨ba, _, _, _, rfl, (e.trans eC).put hra, n1, n2, ?_, ?_, ?_⟩
        · rw [step]; simp only [hi2, not_false_eq_true, if_true]; show _ = some (HO.lst _); rw [List.map_append]; exact upd_same
        · rw [step]; simp only [hi2, not_false_eq_true, if_true]; exact put_ne (eC _ _ h2) nrs.symm
        · rw [step]; simp only [hi2, not_false_eq_true, if_true]; exact put_ne (eC _ _ h3) n1
  · obtain ⟨ba, o6, o7, o8, rfl, e, n1, n2, h1, h2, h3⟩ := q
    rw [List.length_map] at h1 h2 h3
    refine ⟨_, rfl, Nat.zero_le _, fun p hp => ⟨_, _, dp_li (Ex.new hp _ _ h2), dp_li (xs := []) upd_same, sh_nats _, sh_nats [], _, rfl, ?_⟩⟩
    rw [eqv_nats]
    generalize hE : L2.upd H' p (.lst []) = H5
    have e5 : Sm H' H5 := hE ▸ Evl.Ex.new hp
    have h5 : H5 p = some (.lst []) := hE ▸ L2.upd_same
    clear hE
    cases hst : decide ((K76.leaveTo (mtL sk sp) line kp line.length).2.1 = []) with
    | true =>
      refine ifT rfl ⟨_, rfl, two_le, fun t ht => hQ t ra _ ((e.trans e5).add ht) hra (fun _ => ⟨upd_same, put_ne (e5 _ _ h1) (ne_fr ht (e5 _ _ h1))⟩) fun z => absurd (of_decide_eq_true hst) z⟩
    | false =>
      refine ifF rfl ⟨_, rfl, two_le, fun t ht => hQ t sa _ ((e.trans e5).add ht) hs0 (fun z => absurd z (of_decide_eq_false hst)) fun _ => ⟨upd_same, put_ne (e5 _ _ h2) (ne_fr ht (e5 _ _ h2))⟩⟩
end
end K7

set_option Elab.async false
set_option linter.all false
set_option maxRecDepth 100000
set_option maxHeartbeats 1000000
namespace K7
open PySem PySem.Spec PyProof.Rows L2
open PySem.W (Datum)
open Evl (Ex Ev EvT EvL EvA ex_l ex_t sq_of st_of sz_of sz_lt fresh_back)
section
variable {P : Program} {w : World} {K : PySem.W.Frag} {mg : Str → Option Value} {base : Heap}
/-- None, or a list of places -/
def KeptAt (H : Hp) (v : V) : Option (List Nat) → Prop
  | none => v = .non
  | some ks => ∃ p, v = .ref p ∧ LI H p ks
theorem keptTo_pick {line w : List Str} : ∀ t, (∀ p ∈ (K76.keptTo line w t).2, p < line.length) ∧ (K76.keptTo line w t).2.length ≤ t ∧ (K76.keptTo line w t).1.length ≤ w.length ∧ ∀ x ∈ (K76.keptTo line w t).1, x ∈ w
  | 0 => ⟨fun p h => absurd h List.not_mem_nil, Nat.le_refl _, Nat.le_refl _, fun x h => h⟩
  | t + 1 => by
    obtain ⟨h1, h2, h3, h4⟩ := keptTo_pick (line := line) (w := w) t
    show (∀ p ∈ (K76.keptStep line (K76.keptTo line w t) (line.length - 1 - t)).2, _) ∧ _
    have e : K76.keptTo line w (t + 1) = K76.keptStep line (K76.keptTo line w t) (line.length - 1 - t) := rfl
    rw [e]
    unfold K76.keptStep
    cases hx : line[line.length - 1 - t]? with
    | none => exact ⟨h1, Nat.le_succ_of_le h2, h3, h4⟩
    | some x =>
      dsimp only
      split
      · refine ⟨fun p hp => ?_, Nat.succ_le_succ h2, Nat.le_trans (List.length_erase_le ..) h3, fun y hy => h4 y (List.mem_of_mem_erase hy)⟩
        rcases List.mem_cons.mp hp with q | q
        · subst q
          exact (List.getElem?_eq_some_iff.mp hx).1
        · exact h1 p q
      · exact ⟨h1, Nat.le_succ_of_le h2, h3, h4⟩
theorem pick_map {line : List Str} : ∀ {ps : List Nat}, (∀ p ∈ ps, p < line.length) → K76.pick line ps = ps.map fun p => line.getD p Str.empty
  | [], _ => rfl
  | p :: ps, h => by
    rw [K76.pick_cons (List.getElem?_eq_getElem (h p List.mem_cons_self)), pick_map fun q hq => h q (List.mem_cons_of_mem _ hq), List.map_cons]
    simp [List.getD, List.getElem?_eq_getElem (h p List.mem_cons_self)]
def sp_kept : Sp := fun vs H Q _ => ∃ (la ga : Addr) (m : Nat) (line goal : List Str), vs = [.ref la, .ref ga, .int (m : Int)] ∧ LS H la line ∧ LS H ga goal ∧ line.length ≤ 1000 ∧ goal.length ≤ 1000 ∧ okS line ∧ okS goal ∧
  ∀ r H', Sm H H' → KeptAt H' r (K76.keptM line goal m) → Q r H'
theorem c_kept (T : Tx P w K mg base) : C8.Cal P w K mg base 1 "kept" sp_kept [] := by
  obtain ⟨f, fd, F, df⟩ := T.d "kept" 9 (by decide +kernel)
  have sc : FnScope ["line", "goal", "many", "wanted", "found", "place"] ["line", "goal", "many"] (C8.fnScope (top 9)) := C8.fnScope_by (by decide +kernel)
  have nd := sc.nd
  refine C8.cal0 F (F.fn.binds df (ps := ["line", "goal", "many"]) fun _ _ _ _ _ _ us hl => match us, hl with | [_, _, _], _ => rfl) .nil sc (fun vs H Q E h => by obtain ⟨_, _, _, _, _, rfl, _⟩ := h; rfl) fun cdv A outer s H vs Q E hr h => ?_
  refine ⟨_, PSs.nox (pss_cons (ps_par (i := 3) (j := 4) rfl nd rfl rfl (by decide) rfl rfl (pa_cons (pe_callTy (k_list_of (K := K)) (by rfl) T.b_list (by decide +kernel) (pa_cons (pe_slice (k_sl_list (K := K)) (pv 1) po_none (po_some (pv 2))) pa_nil)) (pa_cons (pe_lst pa_nil) pa_nil)) (by rfl))
    (pss_cons (ps_for PassesOwn.never rfl (pi_range3 (by rfl) T.b_range (pa_cons (pe_op op_sub (pe_callB (k_len_seq (K := K)) (by rfl) T.b_len (by decide +kernel) (pa_cons (pv 0) pa_nil)) pe_int) (pa_cons (pe_un un_neg pe_int) (pa_cons (pe_un un_neg pe_int) pa_nil)))) (pg_name (i := 5) nd rfl (.inl rfl)) (pss_one (ps_if (pt_cmpR (k_in_seq (K := K)) (pe_ix (k_ix_list (K := K)) (pv 0) (pv 5) (fun _ _ => rfl)) (pv 3) (by rfl)) (pss_cons (ps_expr (pe_bm PySem.F.plainAttrs_list PySem.F.slot_list_remove PySem.F.type_list_remove mt_removeS (pv 3) (pa_cons (pe_ix (k_ix_list (K := K)) (pv 0) (pv 5) (fun _ _ => rfl)) pa_nil)))
    (pss_one (ps_expr (pe_bm PySem.F.plainAttrs_list PySem.F.slot_list_insert PySem.F.type_list_insert mt_insert (pv 4) (pa_cons pe_int (pa_cons (pv 5) pa_nil)))))) pss_nil)))
    (pss_cons (ps_if (PW.pt (pw_or (pt_cmpR (k_neD (K := K) hr.units) (pv 3) (pe_lst pa_nil) (nomark _)) (pw_or1 (pt_cmpR (k_neD (K := K) hr.units) (pe_lc (own := [("place", 5)]) (g := (gName 5)) (tt := tYes) rfl nd (k_pi_list (K := K) (pv 4)) (blkOk_by (by kernel_rfl)) (fun _ _ _ _ _ => (pg_name (i := 5) nd rfl (.inl rfl))) (fun _ _ _ _ _ => pts_nil) (fun _ _ _ _ _ => (pe_ix (k_ix_list (K := K)) (pv 0) (pv 5) (fun _ _ => rfl)))) (pe_slice (k_sl_list (K := K)) (pv 1) po_none (po_some (pv 2))) (nomark _))))) (pss_one (ps_ret pe_non)) pss_nil)
    (pss_one (ps_ret (pv 4)))))), ?_⟩
  obtain ⟨la, ga, m, line, goal, rfl, hla, hga, hz, hgz, okl, okg, hQ⟩ := h
  refine ⟨_, rfl, _, rfl, _, rfl, ga, _, rfl, sq_of hga, fun s1 hs1 => ?_⟩
  rw [cutV_to, ← List.map_take]
  generalize hE : L2.upd H s1 (.lst ((goal.take m).map V.str)) = H1
  have e1 : Sm H H1 := hE ▸ Evl.Ex.new hs1
  have h1 : H1 s1 = some (.lst ((goal.take m).map V.str)) := hE ▸ L2.upd_same
  clear hE
  refine ⟨s1, _, rfl, .inl (sq_of h1), fun wa hwa => ?_⟩
  generalize hE : L2.upd H1 wa (.lst ((goal.take m).map V.str)) = H2
  have e2 : Sm H1 H2 := hE ▸ Evl.Ex.new hwa
  have hw2 : H2 wa = some (.lst ((goal.take m).map V.str)) := hE ▸ L2.upd_same
  clear hE
  refine ⟨Nat.zero_le _, fun fa hfa => ⟨_, _, rfl, ?_⟩⟩
  generalize hE : L2.upd H2 fa (.lst []) = H3
  have e3 : Sm H2 H3 := hE ▸ Evl.Ex.new hfa
  have hf3 : H3 fa = some (.lst []) := hE ▸ L2.upd_same
  clear hE
  have e13 : Sm H H3 := (e1.trans e2).trans e3
  have hw0 : H wa = none := fresh_back e1 hwa
  have hf0 : H fa = none := fresh_back (e1.trans e2) hfa
  have nwf : wa ≠ fa := ne_fr hfa hw2
  have lw : (goal.take m).length ≤ goal.length := List.length_take_le' ..
  refine ⟨_, rfl, la, _, rfl, .inl (sq_of (e13 _ _ hla)), _, _, rfl, rfl, _, rfl, _, rfl, _, _, _, _, rfl, RgC.neg (by rw [List.length_map]; omega) (by rw [List.length_map]; omega) (by omega) (by omega), ?_⟩
  rw [List.length_map]
  have en : (((line.length : Nat) : Int) - 1 - -1).toNat = line.length := by omega
  show ∃ W : Nat → Nat → L2.St → Hp → Prop, _
  rw [en]
  refine for_rangeC (fun t σ' H' => ∃ o5 : Option V, σ' = [some (.ref la), some (.ref ga), some (.int (m : Int)), some (.ref wa), some (.ref fa), o5] ∧ Sm H H' ∧ LS H' wa (K76.keptTo line (goal.take m) t).1 ∧ LI H' fa (K76.keptTo line (goal.take m) t).2)
    ⟨none, rfl, e13, e3 _ _ hw2, hf3⟩ (fun t σ' H' ht q => ?_) (fun σ' H' q => ?_)
  · obtain ⟨o5, rfl, e, hw, hf⟩ := q
    have ep : ((line.length : Nat) : Int) - 1 + ((t : Nat) : Int) * -1 = ((line.length - 1 - t : Nat) : Int) := by omega
    rw [ep]
    have hp : line.length - 1 - t < line.length := by omega
    have hx : line[line.length - 1 - t]? = some line[line.length - 1 - t] := List.getElem?_eq_getElem hp
    have hv : atI (line.map V.str) ((line.length - 1 - t : Nat) : Int) = some (.str line[line.length - 1 - t]) := atI_nat (by rw [List.getElem?_map, hx]; rfl)
    have step : K76.keptTo line (goal.take m) (t + 1) = K76.keptStep line (K76.keptTo line (goal.take m) t) (line.length - 1 - t) := rfl
    unfold K76.keptStep at step
    rw [hx] at step
    dsimp only at step
    obtain ⟨_, k2, k3, _⟩ := keptTo_pick (line := line) (w := goal.take m) t
    refine ⟨_, rfl, _, rfl, la, _, _, _, rfl, rfl, sq_of (e _ _ hla), hv, _, rfl, wa, _, rfl, .inl (sq_of hw), rfl, flat_strs' _, _, rfl, ?_⟩
    show if inV (.str line[line.length - 1 - t]) (((K76.keptTo line (goal.take m) t).1).map V.str) = true then _ else _
    rw [inV_strs]
    by_cases hm : line[line.length - 1 - t] ∈ (K76.keptTo line (goal.take m) t).1
    · rw [if_pos hm] at step
      refine ifT (decide_eq_true hm) ?_
      refine ⟨_, rfl, .inl ⟨rfl, _, sq_of hw⟩, _, rfl, _, rfl, la, _, _, _, rfl, rfl, sq_of (e _ _ hla), hv, wa, _, _, rfl, rfl, hw, hm, ?_⟩
      have hf' := put_ne (o := .lst (((K76.keptTo line (goal.take m) t).1.erase line[line.length - 1 - t]).map V.str)) hf nwf.symm
      refine ⟨_, rfl, .inl ⟨rfl, _, sq_of hf'⟩, _, rfl, fa, _, 0, _, rfl, rfl, hf', bigS _ (by rw [List.length_map]; omega), Int.le_refl _, by decide, ?_⟩
      refine ⟨_, rfl, (e.put hw0).put hf0, ?_, ?_⟩
      · rw [step]
        exact put_ne upd_same nwf
      · rw [step]
        exact upd_same
    · rw [if_neg hm] at step
      refine ifF (decide_eq_false hm) ⟨_, rfl, e, ?_, ?_⟩
      · rw [step]; exact hw
      · rw [step]; exact hf
  · obtain ⟨o5, rfl, e, hw, hf⟩ := q
    obtain ⟨k1, k2, k3, k4⟩ := keptTo_pick (line := line) (w := goal.take m) line.length
    have okT : okS (goal.take m) := fun x hx => okg x (List.mem_of_mem_take hx)
    refine ⟨_, rfl, Nat.zero_le _, fun p hp => ⟨_, _, dp_ls (Ex.new hp _ _ hw), dp_ls (xs := []) upd_same, sh_strs (fun x hx => okT x (k4 x hx)), sh_strs (fun x hx => absurd hx List.not_mem_nil), _, rfl, ?_⟩⟩
    rw [Datum.eqv]
    generalize hE : L2.upd H' p (.lst []) = H5
    have e5 : Sm H' H5 := hE ▸ Evl.Ex.new hp
    have h5 : H5 p = some (.lst []) := hE ▸ L2.upd_same
    clear hE
    by_cases hw0 : (K76.keptTo line (goal.take m) line.length).1 = []
    · refine ifF (by rw [decide_eq_true hw0]; rfl) ?_
      refine ⟨_, rfl, fa, rfl, ⟨_, sq_of (e5 _ _ hf)⟩, lcLy (enc := fun n : Nat => V.int (n : Int)) (fun p => V.str (line.getD p Str.empty)) (sq_of (e5 _ _ hf)) (Nat.le_trans k2 (by omega)) (fun y hy H6 e6 Q2 q2 => ?_) (fun D H6 hD e6 h6 => ?_)⟩
      · refine ⟨_, rfl, _, rfl, la, _, _, _, rfl, rfl, sq_of (e6 _ _ (e5 _ _ (e _ _ hla))), atI_nat (v := .str (line.getD y Str.empty)) ?_, q2 H6 (Ex.refl H6)⟩
        have hy' := k1 y hy
        rw [List.getElem?_map, List.getElem?_eq_getElem hy']
        simp [List.getD, List.getElem?_eq_getElem hy']
      · refine ⟨_, rfl, _, rfl, _, rfl, ga, _, rfl, sq_of (e6 _ _ (e5 _ _ (e _ _ hga))), fun s2 hs2 => ?_⟩
        rw [cutV_to, ← List.map_take]
        generalize hE : L2.upd H6 s2 (.lst ((goal.take m).map V.str)) = H7
        have e7 : Sm H6 H7 := hE ▸ Evl.Ex.new hs2
        have h7 : H7 s2 = some (.lst ((goal.take m).map V.str)) := hE ▸ L2.upd_same
        clear hE
        have h6' : LS H6 D (K76.pick line (K76.keptTo line (goal.take m) line.length).2) := by
          rw [pick_map k1]
          show _ = some (HO.lst _)
          rw [List.map_map]
          exact h6
        have okp : okS (K76.pick line (K76.keptTo line (goal.take m) line.length).2) := fun x hx => by
          unfold K76.pick at hx
          obtain ⟨i, _, hi⟩ := List.mem_filterMap.mp hx
          exact okl x (List.mem_of_getElem? hi)
        refine ⟨_, _, dp_ls (e7 _ _ h6'), dp_ls h7, sh_strs okp, sh_strs okT, _, rfl, ?_⟩
        rw [Datum.eqv]
        have eE : Sm H H7 := ((e.trans e5).trans e6).trans e7
        by_cases hpk : K76.pick line (K76.keptTo line (goal.take m) line.length).2 = goal.take m
        · refine ifF (by rw [decide_eq_true hpk]; rfl) ⟨_, rfl, hQ _ _ eE ?_⟩
          unfold K76.keptM
          rw [if_pos ⟨hw0, hpk⟩]
          exact ⟨fa, rfl, e7 _ _ (e6 _ _ (e5 _ _ hf))⟩
        · refine ifT (by rw [decide_eq_false hpk]; rfl) (hQ _ _ eE ?_)
          unfold K76.keptM
          rw [if_neg fun z => hpk z.2]
          rfl
    · refine ifT (by rw [decide_eq_false hw0]; rfl) (ifT rfl (hQ _ _ (e.trans e5) ?_))
      unfold K76.keptM
      rw [if_neg fun z => hw0 z.1]
      rfl
end
end K7

set_option Elab.async false
set_option linter.all false
set_option maxRecDepth 100000
set_option maxHeartbeats 1000000
namespace K7
open PySem PySem.Spec PyProof.Rows L2
open PySem.W (Datum)
open Evl (Ex Ev EvT EvL EvA ex_l ex_t sq_of st_of sz_of sz_lt fresh_back)
section
variable {P : Program} {w : World} {K : PySem.W.Frag} {mg : Str → Option Value} {base : Heap}
def FewAt (H : Hp) (x : Addr) : Sum (List Str) (List (Option (List Nat))) → Prop
  | .inl row => LS H x row
  | .inr ps => ∃ vs, H x = some (.lst vs) ∧ Paired (fun v o => KeptAt H v o) vs ps
theorem KeptAt.mono {H H' : Hp} (e : Sm H H') {v : V} : ∀ {o : Option (List Nat)}, KeptAt H v o → KeptAt H' v o
  | none, h => h
  | some ks, ⟨p, h1, h2⟩ => ⟨p, h1, e _ _ h2⟩
theorem KeptAt.put {H : Hp} {pa : Addr} {o : HO} {v : V} (n : v ≠ .ref pa) : ∀ {k : Option (List Nat)}, KeptAt H v k → KeptAt (upd H pa o) v k
  | none, h => h
  | some ks, ⟨p, h1, h2⟩ => ⟨p, h1, put_ne h2 fun z => n (by rw [h1, z])⟩
def fewWord : Sum (List Str) (List (Option (List Nat))) → Str
  | .inl _ => "row"
  | .inr _ => "never"
def sp_fewest (C : Addr) : Sp := fun vs H Q _ => ∃ (s la ga : Addr) (sk : List Str) (sp : List (Str × Str)) (line goal : List Str), vs = [.ref s, .ref la, .ref ga] ∧ SuitsAt C H s sk sp ∧ SuitsOk sk sp ∧ LS H la line ∧ LS H ga goal ∧ line.length ≤ 1000 ∧ goal.length ≤ 1000 ∧ okS line ∧ okS goal ∧
  ∀ r x res H', Sm H H' → H x = none → K76.FewM (mtL sk sp) line goal res → H' r = some (.tup [.str (fewWord res), .ref x]) → FewAt H' x res → Q (.ref r) H'
theorem c_fewest (T : Tx P w K mg base) : C8.Cal P w K mg base 3 "fewest" (sp_fewest (CS K)) [] := by
  obtain ⟨f, fd, F, df⟩ := T.d "fewest" 10 (by decide +kernel)
  have sc : FnScope ["suits", "line", "goal", "papers", "many", "staying", "word", "found"] ["suits", "line", "goal"] (C8.fnScope (top 10)) := C8.fnScope_by (by decide +kernel)
  have nd := sc.nd
  have c_kept := c_kept T
  have c_leave := c_leave T
  refine C8.cal0 F (F.fn.binds df (ps := ["suits", "line", "goal"]) fun _ _ _ _ _ _ us hl => match us, hl with | [_, _, _], _ => rfl) .nil sc (fun vs H Q E h => by obtain ⟨_, _, _, _, _, _, _, rfl, _⟩ := h; rfl) fun cdv A outer s H vs Q E hr h => ?_
  refine ⟨_, PSs.nox (pss_cons (ps_set (i := 3) nd rfl (.inl rfl) (pe_lst pa_nil))
    (pss_cons (ps_for PassesOwn.never rfl (pi_range3 (by rfl) T.b_range (pa_cons (pe_callB (k_len_seq (K := K)) (by rfl) T.b_len (by decide +kernel) (pa_cons (pv 2) pa_nil)) (pa_cons (pe_un un_neg pe_int) (pa_cons (pe_un un_neg pe_int) pa_nil)))) (pg_name (i := 4) nd rfl (.inl rfl)) (pss_cons (ps_set (i := 5) nd rfl (.inl rfl) (C8.pe_c c_kept hr (by decide) rfl (pa_cons (pv 1) (pa_cons (pv 2) (pa_cons (pv 4) pa_nil)))))
    (pss_one (ps_if (pt_cmpR op_isN (pv 5) pe_non (nomark _)) (pss_one (ps_expr (pe_bm PySem.F.plainAttrs_list PySem.F.slot_list_insert PySem.F.type_list_insert mt_insert (pv 3) (pa_cons pe_int (pa_cons pe_non pa_nil))))) (pss_cons (ps_asg (C8.pe_c c_leave hr (by decide) rfl (pa_cons (pv 0) (pa_cons (pv 1) (pa_cons (pv 5) pa_nil)))) (k_pg_tup (K := K) (n := 2) rfl (pgs_cons (pg_name (i := 6) nd rfl (.inl rfl)) (pgs_cons (pg_name (i := 7) nd rfl (.inl rfl)) pgs_nil))))
    (pss_cons (ps_if (pt_cmpR op_eq (pv 6) pe_str (nomark _)) (pss_one (ps_ret (pe_tup (pa_cons pe_str (pa_cons (pe_op op_cat (pv 7) (pe_slice (k_sl_list (K := K)) (pv 2) (po_some (pv 4)) po_none)) pa_nil))))) pss_nil)
    (pss_one (ps_expr (pe_bm PySem.F.plainAttrs_list PySem.F.slot_list_insert PySem.F.type_list_insert mt_insert (pv 3) (pa_cons pe_int (pa_cons (pv 7) pa_nil)))))))))))
    (pss_one (ps_ret (pe_tup (pa_cons pe_str (pa_cons (pv 3) pa_nil))))))), ?_⟩
  obtain ⟨s', la, ga, sk, sp, line, goal, rfl, hS, ok, hla, hga, hz, hgz, okl, okg, hQ⟩ := h
  refine ⟨Nat.zero_le _, fun pa hpa => ?_⟩
  generalize hE : L2.upd H pa (.lst []) = H1
  have e1 : Sm H H1 := hE ▸ Evl.Ex.new hpa
  have h1 : H1 pa = some (.lst []) := hE ▸ L2.upd_same
  clear hE
  refine ⟨_, rfl, ga, _, rfl, .inl (sq_of (e1 _ _ hga)), _, rfl, _, rfl, _, _, _, _, rfl, RgC.neg (by rw [List.length_map]; omega) (by rw [List.length_map]; omega) (by omega) (by omega), ?_⟩
  rw [List.length_map]
  have en : (((goal.length : Nat) : Int) - -1).toNat = goal.length + 1 := by omega
  show ∃ W : Nat → Nat → L2.St → Hp → Prop, _
  rw [en]
  refine for_rangeC (fun t σ' H' => ∃ (o4 o5 o6 o7 : Option V) (vs : List V), σ' = [some (.ref s'), some (.ref la), some (.ref ga), some (.ref pa), o4, o5, o6, o7] ∧ Sm H H' ∧ H' pa = some (.lst vs) ∧ Paired (fun v o => KeptAt H' v o ∧ v ≠ .ref pa) vs ((List.range' (goal.length + 1 - t) t).map (K76.paperM (mtL sk sp) line goal)) ∧ vs.length = t ∧
    ∀ m', goal.length + 1 - t ≤ m' → m' ≤ goal.length → ¬ K76.Good (mtL sk sp) line goal m')
    ⟨none, none, none, none, [], rfl, e1, h1, .nil, rfl, fun m' a b => absurd a (by omega)⟩ (fun t σ' H' ht q => ?_) (fun σ' H' q => ?_)
  · obtain ⟨o4, o5, o6, o7, vs, rfl, e, hp, hps, hvl, hno⟩ := q
    have ep : ((goal.length : Nat) : Int) + ((t : Nat) : Int) * -1 = ((goal.length - t : Nat) : Int) := by omega
    rw [ep]
    have rg : List.range' (goal.length + 1 - (t + 1)) (t + 1) = (goal.length - t) :: List.range' (goal.length + 1 - t) t := by
      rw [show goal.length + 1 - (t + 1) = goal.length - t by omega, List.range'_succ, show goal.length - t + 1 = goal.length + 1 - t by omega]
    refine ⟨_, rfl, _, rfl, _, rfl, la, ga, goal.length - t, line, goal, rfl, e _ _ hla, e _ _ hga, hz, hgz, okl, okg, fun r H2 e2 hr2 => ?_⟩
    have more : ∀ {o : Option (List Nat)} {u : V} {H3 : Hp}, Sm H' H3 → KeptAt H3 u o → u ≠ .ref pa → o = K76.paperM (mtL sk sp) line goal (goal.length - t) →
        Paired (fun v o => KeptAt (upd H3 pa (.lst (u :: vs))) v o ∧ v ≠ .ref pa) (u :: vs) ((List.range' (goal.length + 1 - (t + 1)) (t + 1)).map (K76.paperM (mtL sk sp) line goal)) := fun {o u H3} e3 hk hn ho => by
      rw [rg, List.map_cons]
      exact .cons ⟨ho ▸ hk.put hn, hn⟩ (Paired.mapP hps fun _ _ q => ⟨(q.1.mono e3).put q.2, q.2⟩)
    have nogood : ¬ K76.Good (mtL sk sp) line goal (goal.length - t) → ∀ m', goal.length + 1 - (t + 1) ≤ m' → m' ≤ goal.length → ¬ K76.Good (mtL sk sp) line goal m' := fun hg m' h1 h2 => by
      by_cases hm : m' = goal.length - t
      · rw [hm]; exact hg
      · exact hno m' (by omega) h2
    cases hk : K76.keptM line goal (goal.length - t) with
    | none =>
      rw [hk] at hr2
      have hr2 : r = .non := hr2
      subst hr2
      refine ⟨_, rfl, rfl, _, rfl, ifT rfl ?_⟩
      refine ⟨_, rfl, .inl ⟨rfl, _, sq_of (e2 _ _ hp)⟩, pa, _, 0, _, rfl, rfl, e2 _ _ hp, bigS _ (by omega), Int.le_refl _, by decide, ?_⟩
      rw [show vs.take (Int.toNat 0) ++ [V.non] ++ vs.drop (Int.toNat 0) = V.non :: vs from rfl]
      refine ⟨_, _, _, _, .non :: vs, rfl, (e.trans e2).put hpa, upd_same, more (o := none) e2 rfl (fun z => by cases z) (by unfold K76.paperM; rw [hk]; rfl), by rw [List.length_cons, hvl], nogood fun ⟨k, z, _⟩ => by rw [hk] at z; cases z⟩
    | some ks =>
      rw [hk] at hr2
      obtain ⟨p, rfl, hkp⟩ := hr2
      refine ⟨_, rfl, rfl, _, rfl, ifF rfl ?_⟩
      refine ⟨_, rfl, _, rfl, _, rfl, s', la, p, sk, sp, line, ks, rfl, hS.mono (e.trans e2), ok, e2 _ _ (e _ _ hla), hkp, hz, fun r x H3 e3 hx h5 h6 => ?_⟩
      by_cases hst : K76.stuckM (mtL sk sp) line ks = []
      · obtain ⟨h7, h8⟩ := h5 hst
        refine ⟨r, _, rfl, st_of h7, rfl, _, _, rfl, _, _, rfl, rfl, ?_⟩
        refine ⟨_, rfl, rfl, _, rfl, ifT rfl ?_⟩
        have eG : Sm H H3 := (e.trans e2).trans e3
        refine ⟨_, rfl, _, rfl, _, rfl, _, rfl, ga, _, rfl, sq_of (eG _ _ hga), fun s2 hs2 => ?_⟩
        rw [cutV_from, ← List.map_drop]
        generalize hE : L2.upd H3 s2 (.lst ((goal.drop (goal.length - t)).map V.str)) = H4
        have e4 : Sm H3 H4 := hE ▸ Evl.Ex.new hs2
        have h4 : H4 s2 = some (.lst ((goal.drop (goal.length - t)).map V.str)) := hE ▸ L2.upd_same
        clear hE
        have rl := (K76.row_le (mtL sk sp) line ks line.length (Nat.le_refl _)).1
        have dl : (goal.drop (goal.length - t)).length ≤ goal.length := by rw [List.length_drop]; omega
        refine ⟨x, s2, _, _, rfl, rfl, e4 _ _ h8, h4, Evl.sz_of ?_, fun y hy => ?_⟩
        · rw [List.length_map, List.length_map]
          show (K76.leaveTo _ _ _ _).1.length + _ ≤ _
          omega
        rw [← List.map_append]
        generalize hE : L2.upd H4 y (.lst ((K76.rowM (mtL sk sp) line ks ++ goal.drop (goal.length - t)).map V.str)) = H5
        have e5 : Sm H4 H5 := hE ▸ Evl.Ex.new hy
        have h9 : H5 y = some (.lst ((K76.rowM (mtL sk sp) line ks ++ goal.drop (goal.length - t)).map V.str)) := hE ▸ L2.upd_same
        clear hE
        refine ⟨two_le, fun z hz => ?_⟩
        refine hQ z y (.inl (K76.rowAt (mtL sk sp) line goal (goal.length - t))) _ (((eG.trans e4).trans e5).add hz) (fresh_back (eG.trans e4) hy) (.row ⟨Nat.sub_le _ _, ⟨ks, hk, hst⟩, fun m' h1 h2 => hno m' (by omega) h2⟩) upd_same ?_
        show LS _ _ _
        unfold K76.rowAt
        rw [hk]
        exact put_ne h9 (ne_fr hz h9)
      · obtain ⟨h7, h8⟩ := h6 hst
        refine ⟨r, _, rfl, st_of h7, rfl, _, _, rfl, _, _, rfl, rfl, ?_⟩
        refine ⟨_, rfl, rfl, _, rfl, ifF rfl ?_⟩
        have hp3 := e3 _ _ (e2 _ _ hp)
        refine ⟨_, rfl, .inl ⟨rfl, _, sq_of hp3⟩, _, rfl, pa, _, 0, _, rfl, rfl, hp3, bigS _ (by omega), Int.le_refl _, by decide, ?_⟩
        rw [show vs.take (Int.toNat 0) ++ [V.ref x] ++ vs.drop (Int.toNat 0) = V.ref x :: vs from rfl]
        refine ⟨_, _, _, _, .ref x :: vs, rfl, ((e.trans e2).trans e3).put hpa, upd_same, more (o := some (K76.stuckM (mtL sk sp) line ks)) (e2.trans e3) ⟨x, rfl, h8⟩ (fun z => ?_) (by unfold K76.paperM; rw [hk]; rfl), by rw [List.length_cons, hvl], nogood fun ⟨k, z, z2⟩ => ?_⟩
        · injection z with z
          subst z
          rw [e2 _ _ hp] at hx
          cases hx
        · rw [hk] at z
          cases z
          exact hst z2
  · obtain ⟨o4, o5, o6, o7, vs, rfl, e, hp, hps, hvl, hno⟩ := q
    refine ⟨_, rfl, two_le, fun r hr2 => hQ r pa (.inr ((List.range (goal.length + 1)).map (K76.paperM (mtL sk sp) line goal))) _ (e.add hr2) hpa (.never fun m' hm => hno m' (by omega) hm) upd_same ⟨vs, put_ne hp (ne_fr hr2 hp), ?_⟩⟩
    rw [Nat.sub_self, ← List.range_eq_range'] at hps
    exact Paired.mapP hps fun _ _ q => q.1.mono (Ex.new hr2)
end
end K7

set_option Elab.async false
set_option linter.all false
set_option maxRecDepth 100000
set_option maxHeartbeats 1000000
namespace K7
open PySem PySem.Spec PyProof.Rows L2
open PySem.W (Datum)
open Evl (Ex Ev EvT EvL EvA ex_l ex_t sq_of st_of sz_of sz_lt fresh_back)
section
variable {P : Program} {w : World} {K : PySem.W.Frag} {mg : Str → Option Value} {base : Heap}
def abc : Str := "abcdefghijklmnopqrstuvwxyz"
theorem abc_mem {c : Nat} (h : 97 ≤ c ∧ c ≤ 122) : c ∈ abc.cps.toList := by
  obtain ⟨h1, h2⟩ := h
  have e : ∀ k : Fin 26, 97 + k.val ∈ abc.cps.toList := by decide +kernel
  have q := e ⟨c - 97, by omega⟩
  rwa [show 97 + (c - 97) = c by omega] at q
theorem kit_self {K : PySem.W.Frag} {n : String} : PySem.W.kitOne K (.type n) (.type n) = some true := kit_ty (by unfold kitB; rw [if_pos (by simp)])
def sp_is_kind : Sp := fun vs H Q _ => ∃ z, vs = [.str z] ∧ Kd z ∧ ∀ H', Sm H H' → Q (.bl true) H'
theorem c_is_kind (T : Tx P w K mg base) : C8.Cal P w K mg base 1 "is_kind" sp_is_kind [] := by
  obtain ⟨f, fd, F, df⟩ := T.d "is_kind" 4 (by decide +kernel)
  have sc : FnScope ["thing", "letter"] ["thing"] (C8.fnScope (top 4)) := C8.fnScope_by (by decide +kernel)
  have nd := sc.nd
  refine C8.cal0 F (F.fn.binds df (ps := ["thing"]) fun _ _ _ _ _ _ us hl => match us, hl with | [_], _ => rfl) .nil sc (fun vs H Q E h => by obtain ⟨_, rfl, _⟩ := h; rfl) fun cdv A outer s H vs Q E hr h => ?_
  refine ⟨_, PSs.nox (pss_cons (ps_if (PW.pt (pw_or (pt_not (pt_val (pe_callB call_isi (by rfl) T.b_isinstance (by decide +kernel) (pa_cons (pv 0) (pa_cons (pe_bltn (v := .ty "str") (by rfl) T.b_str (by decide +kernel) rfl) pa_nil))))) (pw_or1 (pt_not (pt_chain op_le op_le pe_int (pe_callB call_len_str (by rfl) T.b_len (by decide +kernel) (pa_cons (pv 0) pa_nil)) (C8.pe_gc rfl T.c_MOST_LETTERS)))))) (pss_one (ps_ret pe_bl)) pss_nil)
    (pss_one (ps_ret (pe_callB (k_all (K := K) rfl) (by rfl) T.b_all (by decide +kernel) (pa_cons (pe_lc (own := [("letter", 1)]) (g := (gName 1)) (tt := tYes) rfl nd (pi_str (pv 0)) (blkOk_by (by kernel_rfl)) (fun _ _ _ _ _ => (pg_name (i := 1) nd rfl (.inl rfl))) (fun _ _ _ _ _ => pts_nil) (fun _ _ _ _ _ => (pe_cmpR op_in_sign (pv 1) (C8.pe_gc rfl T.c_LETTERS) (by rfl)))) pa_nil))))), ?_⟩
  obtain ⟨z, rfl, hk, hQ⟩ := h
  refine ⟨_, rfl, _, _, .type "str", .type "str", true, rfl, .ty _, .base (.str z), kit_self, _, rfl, ifF rfl ?_⟩
  have h1 : (1 : Int) ≤ (z.length : Nat) := by have := hk.lo; omega
  have h8 : ((z.length : Nat) : Int) ≤ 8 := by have := hk.hi; omega
  refine ⟨_, rfl, z, rfl, Evl.sz_of (by have := hk.hi; omega), _, _, rfl, rfl, _, rfl, ifT (decide_eq_true h1) ⟨_, _, rfl, rfl, _, rfl, ?_⟩⟩
  refine ifF (by rw [decide_eq_true h8]; rfl) ?_
  refine ⟨_, rfl, z, rfl, lcS (fun _ => V.bl true) (by have := hk.hi; omega) (fun c hc H1 e1 Q1 q1 => ?_) (fun D H1 hD e1 h1 => ?_)⟩
  · refine ⟨_, rfl, c, _, rfl, rfl, ?_⟩
    show Q1 (.bl (decide (c ∈ abc.cps.toList))) H1
    rw [decide_eq_true (abc_mem (hk.low c hc))]
    exact q1 H1 (Ex.refl H1)
  · refine ⟨D, z.cps.toList.map fun _ => true, rfl, sq_of (by rw [h1, List.map_map]; rfl), ?_⟩
    rw [show (z.cps.toList.map fun _ => true).all id = true by rw [List.all_map]; exact List.all_eq_true.mpr fun _ _ => rfl]
    exact hQ H1 e1
def sp_are_kinds : Sp := fun vs H Q _ => ∃ (a : Addr) (ks : List Str), vs = [.ref a] ∧ LS H a ks ∧ (∀ k ∈ ks, Kd k) ∧ ks.length ≤ 1000 ∧ ∀ H', Sm H H' → Q (.bl true) H'
theorem c_are_kinds (T : Tx P w K mg base) : C8.Cal P w K mg base 2 "are_kinds" sp_are_kinds [] := by
  obtain ⟨f, fd, F, df⟩ := T.d "are_kinds" 5 (by decide +kernel)
  have sc : FnScope ["thing", "item"] ["thing"] (C8.fnScope (top 5)) := C8.fnScope_by (by decide +kernel)
  have nd := sc.nd
  have c_is_kind := c_is_kind T
  refine C8.cal0 F (F.fn.binds df (ps := ["thing"]) fun _ _ _ _ _ _ us hl => match us, hl with | [_], _ => rfl) .nil sc (fun vs H Q E h => by obtain ⟨_, _, rfl, _⟩ := h; rfl) fun cdv A outer s H vs Q E hr h => ?_
  refine ⟨_, PSs.nox (pss_one (ps_ret (pe_and (pe_callB call_isi (by rfl) T.b_isinstance (by decide +kernel) (pa_cons (pv 0) (pa_cons (pe_bltn (v := .ty "list") (by rfl) T.b_list (by decide +kernel) rfl) pa_nil))) (pe_one (pe_callB (k_all (K := K) rfl) (by rfl) T.b_all (by decide +kernel) (pa_cons (pe_lc (own := [("item", 1)]) (g := (gName 1)) (tt := tYes) rfl nd (k_pi_list (K := K) (pv 0)) (blkOk_by (by kernel_rfl)) (fun _ _ _ _ _ => (pg_name (i := 1) nd rfl (.inl rfl))) (fun _ _ _ _ _ => pts_nil) (fun _ _ _ _ _ => (C8.pe_c c_is_kind hr (by decide) rfl (pa_cons (pv 1) pa_nil)))) pa_nil)))))), ?_⟩
  obtain ⟨a, ks, rfl, ha, hk, hz, hQ⟩ := h
  refine ⟨_, rfl, _, _, .type "list", .type "list", true, rfl, .ty _, .base (.lst ha), kit_self, _, rfl, ifT rfl ?_⟩
  refine ⟨_, rfl, a, rfl, ⟨_, sq_of ha⟩, lcLy (fun _ => V.bl true) (sq_of ha) (by omega) (fun k hm H1 e1 Q1 q1 => ⟨_, rfl, k, rfl, hk k hm, q1⟩) (fun D H1 hD e1 h1 => ?_)⟩
  refine ⟨D, ks.map fun _ => true, rfl, sq_of (by rw [h1, List.map_map]; rfl), ?_⟩
  rw [show (ks.map fun _ => true).all id = true by rw [List.all_map]; exact List.all_eq_true.mpr fun _ _ => rfl]
  exact hQ H1 e1
def sp_are_different : Sp := fun vs H Q _ => ∃ (a : Addr) (ks : List Str), vs = [.ref a] ∧ LS H a ks ∧ ks.Nodup ∧ ks.length ≤ 1000 ∧ ∀ H', Sm H H' → Q (.bl true) H'
theorem c_are_different (T : Tx P w K mg base) : C8.Cal P w K mg base 1 "are_different" sp_are_different [] := by
  obtain ⟨f, fd, F, df⟩ := T.d "are_different" 19 (by decide +kernel)
  have sc : FnScope ["items"] ["items"] (C8.fnScope (top 19)) := C8.fnScope_by (by decide +kernel)
  have nd := sc.nd
  refine C8.cal0 F (F.fn.binds df (ps := ["items"]) fun _ _ _ _ _ _ us hl => match us, hl with | [_], _ => rfl) .nil sc (fun vs H Q E h => by obtain ⟨_, _, rfl, _⟩ := h; rfl) fun cdv A outer s H vs Q E hr h => ?_
  refine ⟨_, PSs.nox (pss_one (ps_ret (pe_cmpR op_eq (pe_callB cr_lenTx (by rfl) T.b_len (by decide +kernel) (pa_cons (pe_callTy (cr_setTx rfl) (by rfl) T.b_set (by decide +kernel) (pa_cons (pv 0) pa_nil)) pa_nil)) (pe_callB (k_len_seq (K := K)) (by rfl) T.b_len (by decide +kernel) (pa_cons (pv 0) pa_nil)) (nomark _)))), ?_⟩
  obtain ⟨a, ks, rfl, ha, nd2, hz, hQ⟩ := h
  refine ⟨_, rfl, a, ks, rfl, sq_of ha, by omega, fun p us hp hd => ⟨p, us, rfl, upd_same, _, rfl, a, _, rfl, .inl (sq_of (Ex.new hp _ _ ha)), rfl, ?_⟩⟩
  have e : us.length = ks.length := by
    have h1 := hd.le
    have h2 := nodup_le nd2 fun k hk => (hd.mem k).mpr hk
    omega
  rw [List.length_map, e, decide_eq_true rfl]
  exact hQ _ (Ex.new hp)
/-- what is known of others than s -/
def SmB (s : Addr) (H H' : Hp) : Prop := ∀ a o, a ≠ s → H a = some o → H' a = some o
theorem sK1 {K : PySem.W.Frag} {H : Hp} {ks : List Str} : ∀ x b, x = V.str b → b ∈ ks → Dp K H x (PyData.str b) := fun x b e _ => by rw [e]; exact .str b
theorem sK2 {ks : List Str} : PySem.W.AllAlike (ks.map PyData.str) := PySem.W.AllAlike.of fun _ _ => by simp [PySem.W.alike]
theorem sK3 {ks : List Str} : PySem.W.Sortable (ks.map PyData.str) := PySem.W.Sortable.others fun b => ⟨nofun, nofun⟩
theorem sK4 {ks : List Str} : ∀ b ∈ ks, (PyData.str b).depth ≤ 8 := fun _ _ => Nat.zero_le _
theorem sP1 {K : PySem.W.Frag} {H : Hp} {ps : List (Str × Str)} : ∀ (x : V) b, (∃ r, x = V.ref r ∧ TwoAt H r b) → b ∈ ps → Dp K H x (Datum.toD b) := fun x b e _ => by
  obtain ⟨r, rfl, hr⟩ := e
  exact dp_two hr
theorem sP2 {ps : List (Str × Str)} : PySem.W.AllAlike (ps.map Datum.toD) := PySem.W.AllAlike.of fun p q => by
  show PySem.W.alike (.tuple [.str p.1, .str p.2]) (.tuple [.str q.1, .str q.2]) = true
  simp [PySem.W.alike, PySem.W.alikeAll]
theorem sP3 {ps : List (Str × Str)} : PySem.W.Sortable (ps.map Datum.toD) := PySem.W.Sortable.tuples fun b => ⟨_, _, rfl⟩
theorem sP4 {ps : List (Str × Str)} : ∀ b ∈ ps, (Datum.toD b).depth ≤ 8 := fun b _ => Nat.le_trans (Datum.depth_le b) (by decide)
theorem sL1 {K : PySem.W.Frag} {H : Hp} {ls : List (List Str)} : ∀ (x : V) b, (∃ r, x = V.ref r ∧ LS H r b) → b ∈ ls → Dp K H x (Datum.toD b) := fun x b e _ => by
  obtain ⟨r, rfl, hr⟩ := e
  exact dp_ls hr
theorem sL2 {ls : List (List Str)} : PySem.W.AllAlike (ls.map Datum.toD) := PySem.W.AllAlike.of fun p q => by
  show PySem.W.alike (.list (p.map .str)) (.list (q.map .str)) = true
  rw [PySem.W.alike]
  exact alike_strs p q
theorem sL3 {ls : List (List Str)} : PySem.W.Sortable (ls.map Datum.toD) := PySem.W.Sortable.others fun b => ⟨nofun, nofun⟩
theorem sL4 {ls : List (List Str)} : ∀ b ∈ ls, (Datum.toD b).depth ≤ 8 := fun b _ => Nat.le_trans (Datum.depth_le b) (by decide)
theorem paired_get {α β : Type} {F : α → β → Prop} : ∀ {xs : List α} {ys : List β} {i : Nat} {x : α}, Paired F xs ys → xs[i]? = some x → ∃ y, ys[i]? = some y ∧ F x y
  | _, _, _, _, .nil, e => by simp at e
  | _, _, 0, _, .cons h _, e => by simp at e; subst e; exact ⟨_, rfl, h⟩
  | _, _, i + 1, x, .cons _ t, e => by
    obtain ⟨y, h1, h2⟩ := paired_get (i := i) (x := x) t (by simpa using e)
    exact ⟨y, by simpa using h1, h2⟩
theorem putI {H : Hp} {s a C dx : Addr} {fs : List (Str × V)} {o : HO} {xs : List V} (hs : H s = some (.ins C dx fs)) (ha : H a = some (.lst xs)) : upd H s o a = some (.lst xs) := put_ne ha (ne_of ha hs nofun)
theorem PairsAt.putI {H : Hp} {s a C dx : Addr} {fs : List (Str × V)} {o : HO} {ps : List (Str × Str)} (hs : H s = some (.ins C dx fs)) (h : PairsAt H a ps) : PairsAt (upd H s o) a ps := by
  obtain ⟨rs, h1, h2⟩ := h
  exact ⟨rs, K7.putI hs h1, Paired.mapP h2 fun r p q => put_ne q (ne_of q hs nofun)⟩
theorem mtS_congr {sk : List Str} {sp fp : List (Str × Str)} (h : ∀ p, p ∈ sp ↔ p ∈ fp) (k : Str) : mtS sk sp k = mtS sk fp k := by
  unfold mtS
  congr 1
  funext o
  exact decide_eq_decide.mpr (h _)
theorem putK_new {kvs : List (Key × V)} {k : Key} {v : V} (h : ∀ kv ∈ kvs, kv.1 ≠ k) : putK kvs k v = kvs ++ [(k, v)] := by
  unfold putK
  rw [if_neg]
  rw [List.any_eq_true]
  rintro ⟨kv, h1, h2⟩
  exact h kv h1 (of_decide_eq_true h2)
theorem okP_of {ks : List Str} {ps : List (Str × Str)} (h : okS ks) (s : ∀ p ∈ ps, p.1 ∈ ks ∧ p.2 ∈ ks) : okP ps := fun p hp => ⟨h _ (s p hp).1, h _ (s p hp).2⟩
def ordP (ps : List (Str × Str)) : List (Str × Str) := ps.map fun p => inOrd p.1 p.2
theorem okP_ord {ps : List (Str × Str)} (h : okP ps) : okP (ordP ps) := fun p hp => by
  obtain ⟨q, hq, rfl⟩ := List.mem_map.mp hp
  exact inOrd_ok (h q hq).1 (h q hq).2
def sp___init__ (C : Addr) : Sp := fun vs H Q _ => ∃ (s dx ka pa : Addr) (ks : List Str) (ps : List (Str × Str)), vs = [.ref s, .ref ka, .ref pa] ∧ H s = some (.ins C dx []) ∧ LS H ka ks ∧ PairsAt H pa ps ∧ PlanOk ks ps ∧ (ordP ps).Nodup ∧
  ∀ H', SmB s H H' → SuitsAt C H' s (sortK ks) (sortP (ordP ps)) → Q .non H'
theorem c_Suits (T : Tx P w K mg base) : C8.Mak P w K mg base 3 "Suits" (CS K) (sp___init__ (CS K)) [] := by
  obtain ⟨fd, F, df⟩ := T.m "__init__" "Suits.__init__" 0 (by decide +kernel)
  have sc : FnScope ["self", "kinds", "pairs", "found", "at", "item", "pair", "kind"] ["self", "kinds", "pairs"] (C8.fnScope (inClass (top 21) 0)) := C8.fnScope_by (by decide +kernel)
  have nd := sc.nd
  have c_are_different := c_are_different T
  have c_are_kinds := c_are_kinds T
  have c_in_order := c_in_order T
  have m_mates_in := m_mates_in T
  refine C8.mak0 T.maker T.suits F (F.binds df (ps := ["self", "kinds", "pairs"]) fun _ _ _ _ _ _ us hl => match us, hl with | [_, _, _], _ => rfl) .nil sc (fun vs H Q E h => by obtain ⟨_, _, _, _, _, _, rfl, _⟩ := h; rfl) fun cdv A outer s H vs Q E hr h => ?_
  refine ⟨_, PSs.nox (pss_cons (ps_if (PW.pt (pw_or (pt_not (pt_val (C8.pe_c c_are_kinds hr (by decide) rfl (pa_cons (pv 1) pa_nil)))) (pw_or (pt_not (pt_chain op_le op_le pe_int (pe_callB (k_len_seq (K := K)) (by rfl) T.b_len (by decide +kernel) (pa_cons (pv 1) pa_nil)) (C8.pe_gc rfl T.c_MOST_KINDS))) (pw_or1 (pt_not (pt_val (C8.pe_c c_are_different hr (by decide) rfl (pa_cons (pv 1) pa_nil)))))))) (pss_one ps_never) pss_nil)
    (pss_cons (ps_if (PW.pt (pw_or (pt_not (pt_val (pe_callB call_isi (by rfl) T.b_isinstance (by decide +kernel) (pa_cons (pv 2) (pa_cons (pe_bltn (v := .ty "list") (by rfl) T.b_list (by decide +kernel) rfl) pa_nil))))) (pw_or1 (pt_cmpR op_gt (pe_callB (k_len_seq (K := K)) (by rfl) T.b_len (by decide +kernel) (pa_cons (pv 2) pa_nil)) (C8.pe_gc rfl T.c_MOST_PAIRS) (nomark _))))) (pss_one ps_never) pss_nil)
    (pss_cons (ps_set (i := 3) nd rfl (.inr rfl) (pe_lst pa_nil))
    (pss_cons (ps_for PassesOwn.never rfl (k_pi_enum (K := K) (by rfl) T.b_enumerate (pa_cons (pv 2) pa_nil)) (k_pg_tup (K := K) (n := 2) rfl (pgs_cons (pg_name (i := 4) nd rfl (.inl rfl)) (pgs_cons (pg_name (i := 5) nd rfl (.inl rfl)) pgs_nil))) (pss_cons (ps_if (PW.pt (pw_or (pt_not (pt_val (pe_callB call_isi (by rfl) T.b_isinstance (by decide +kernel) (pa_cons (pv 5) (pa_cons (pe_bltn (v := .ty "tuple") (by rfl) T.b_tuple (by decide +kernel) rfl) pa_nil))))) (pw_or (pt_cmpR op_ne (pe_callB (k_len_seq (K := K)) (by rfl) T.b_len (by decide +kernel) (pa_cons (pv 5) pa_nil)) pe_int (nomark _)) (pw_or (pt_cmpR (k_notIn_seq (K := K)) (pe_ix (k_ix_tup (K := K)) (pv 5) pe_int (fun _ _ => rfl)) (pv 1) (by rfl)) (pw_or1 (pt_cmpR (k_notIn_seq (K := K)) (pe_ix (k_ix_tup (K := K)) (pv 5) pe_int (fun _ _ => rfl)) (pv 1) (by rfl))))))) (pss_one ps_never) pss_nil)
    (pss_cons (ps_set (i := 6) nd rfl (.inl rfl) (C8.pe_c c_in_order hr (by decide) rfl (pa_cons (pe_ix (k_ix_tup (K := K)) (pv 5) pe_int (fun _ _ => rfl)) (pa_cons (pe_ix (k_ix_tup (K := K)) (pv 5) pe_int (fun _ _ => rfl)) pa_nil))))
    (pss_cons (ps_if (pt_cmpR (k_inD (K := K) (hu65 hr)) (pv 6) (pv 3) (by rfl)) (pss_one ps_never) pss_nil)
    (pss_one (ps_expr (pe_bm PySem.F.plainAttrs_list PySem.F.slot_list_append PySem.F.type_list_append mt_append (pv 3) (pa_cons (pv 6) pa_nil))))))))
    (pss_cons (ps_fld (pv 0) (pe_callB (cr_sortedG hr.units) (by rfl) T.b_sorted (by decide +kernel) (pa_cons (pv 1) pa_nil)) rfl)
    (pss_cons (ps_fld (pv 0) (pe_callB (cr_sortedG hr.units) (by rfl) T.b_sorted (by decide +kernel) (pa_cons (pv 3) pa_nil)) rfl)
    (pss_one (ps_fld (pv 0) (pe_dc (own := [("kind", 7)]) (g := (gName 7)) (tt := tYes) rfl nd (k_pi_list (K := K) (k_fld (K := K) (pv 0) rfl)) (blkOk_by (by kernel_rfl)) (fun _ _ _ _ _ => (pg_name (i := 7) nd rfl (.inl rfl))) (fun _ _ _ _ _ => pts_nil) (fun _ _ _ _ _ => (pv 7)) (fun _ _ _ _ _ => (C8.pe_mt m_mates_in hr (by decide) (pv 0) (pa_cons (pv 3) (pa_cons (pv 7) pa_nil))))) rfl)))))))), ?_⟩
  obtain ⟨s', dx, ka, pa, ks, ps, rfl, hs, hka, hpa, ok, nd2, hQ⟩ := h
  have kso : okS ks := fun k hk => (ok.kd k hk).strOk
  have pso : okP ps := okP_of kso ok.sub
  have k8 := ok.hi
  have k1 := ok.lo
  have p36 := ok.len
  refine ⟨_, rfl, ka, ks, rfl, hka, ok.kd, by omega, fun H1 e1 => ⟨_, rfl, ifF rfl ?_⟩⟩
  refine ⟨_, rfl, ka, _, rfl, .inl (sq_of (e1 _ _ hka)), _, _, rfl, rfl, _, rfl, ifT (decide_eq_true (by rw [List.length_map]; omega)) ⟨_, _, rfl, rfl, _, rfl, ifF (by rw [decide_eq_true (show ((ks.map V.str).length : Int) ≤ 8 by rw [List.length_map]; omega)]; rfl) ?_⟩⟩
  refine ⟨_, rfl, ka, ks, rfl, e1 _ _ hka, ok.nd, by omega, fun H2 e2 => ⟨_, rfl, ifF rfl ?_⟩⟩
  have e12 : Sm H H2 := e1.trans e2
  obtain ⟨rs, hp1, hp2⟩ := hpa
  have lr := Paired.length hp2
  refine ⟨_, rfl, _, _, .type "list", .type "list", true, rfl, .ty _, .base (.lst (e12 _ _ hp1)), kit_self, _, rfl, ifF rfl ⟨_, rfl, pa, _, rfl, .inl (sq_of (e12 _ _ hp1)), _, _, rfl, rfl, _, rfl, ifF (decide_eq_false (by rw [List.length_map, lr]; omega)) ?_⟩⟩
  refine ⟨Nat.zero_le _, fun fa hfa => ?_⟩
  generalize hE : L2.upd H2 fa (.lst []) = H3
  have e3 : Sm H2 H3 := hE ▸ Evl.Ex.new hfa
  have hf3 : H3 fa = some (.lst []) := hE ▸ L2.upd_same
  clear hE
  have e13 : Sm H H3 := e12.trans e3
  have hf0 : H fa = none := fresh_back e12 hfa
  refine ⟨_, rfl, pa, _, rfl, sq_of (e13 _ _ hp1), for_enum (xs := rs.map V.ref) (fun i σ' H' => ∃ (o4 o5 o6 : Option V), σ' = [some (.ref s'), some (.ref ka), some (.ref pa), some (.ref fa), o4, o5, o6, none] ∧ Sm H H' ∧ PairsAt H' fa (ordP (ps.take i)))
    ⟨none, none, none, rfl, e13, [], hf3, .nil⟩ (fun i σ' H' _ q => by
      obtain ⟨_, _, _, _, e, _⟩ := q
      exact sq_of (e _ _ hp1)) (fun i x σ' H' Tt hx q hT => ?_) (fun σ' H' q => ?_)⟩
  · obtain ⟨r, hr1, rfl⟩ := get?_map' hx
    obtain ⟨p, hpi, htw⟩ := paired_get hp2 hr1
    obtain ⟨o4, o5, o6, rfl, e, hf⟩ := q
    have hmem := ok.sub p (List.mem_of_getElem? hpi)
    generalize hE : L2.upd H' Tt (.tup [.int (i : Nat), .ref r]) = H4
    have e4 : Sm H' H4 := hE ▸ Evl.Ex.new hT
    have hT4 : H4 Tt = some (.tup [.int (i : Nat), .ref r]) := hE ▸ L2.upd_same
    clear hE
    refine ⟨Tt, _, rfl, st_of hT4, rfl, _, _, rfl, _, _, rfl, rfl, ?_⟩
    have e14 : Sm H H4 := e.trans e4
    have hr4 : H4 r = some (.tup [.str p.1, .str p.2]) := e14 _ _ htw
    have i0 : atI [V.str p.1, V.str p.2] 0 = some (.str p.1) := atI_nat (i := 0) rfl
    have i1 : atI [V.str p.1, V.str p.2] 1 = some (.str p.2) := atI_nat (i := 1) rfl
    refine ⟨_, rfl, _, _, .type "tuple", .type "tuple", true, rfl, .ty _, .base (.tup hr4), kit_self, _, rfl, ifF rfl ⟨_, rfl, r, _, rfl, .inr (st_of hr4), rfl, _, rfl, ifF (by show (!decide (V.int 2 = V.int 2)) = false; rw [decide_eq_true rfl]; rfl) ?_⟩⟩
    refine ⟨_, rfl, r, _, _, _, rfl, rfl, st_of hr4, i0, _, rfl, ka, _, rfl, .inl (sq_of (e14 _ _ hka)), rfl, flat_strs' _, _, rfl, ?_⟩
    show if (!inV (.str p.1) (ks.map V.str)) = true then _ else _
    rw [inV_strs]
    refine ifF (by rw [decide_eq_true hmem.1]; rfl) ?_
    refine ⟨_, rfl, r, _, _, _, rfl, rfl, st_of hr4, i1, _, rfl, ka, _, rfl, .inl (sq_of (e14 _ _ hka)), rfl, flat_strs' _, _, rfl, ?_⟩
    show if (!inV (.str p.2) (ks.map V.str)) = true then _ else _
    rw [inV_strs]
    refine ifF (by rw [decide_eq_true hmem.2]; rfl) ?_
    refine ⟨_, rfl, r, _, _, _, rfl, rfl, st_of hr4, i0, _, rfl, r, _, _, _, rfl, rfl, st_of hr4, i1, p.1, p.2, rfl, fun z H5 e5 hz5 htw5 => ?_⟩
    have hf5 : PairsAt H5 fa (ordP (ps.take i)) := hf.mono (e4.trans e5)
    have okz := inOrd_ok (kso _ hmem.1) (kso _ hmem.2)
    have okt : okP (ordP (ps.take i)) := okP_ord fun q hq => pso q (List.mem_of_mem_take hq)
    refine ⟨_, rfl, _, rfl, _, _, dp_two htw5, dp_pairs hf5, sh_two okz, sh_pairs okt, _, rfl, ?_⟩
    rw [any_eqvP]
    have tk : ordP (ps.take (i + 1)) = ordP (ps.take i) ++ [inOrd p.1 p.2] := by
      unfold ordP
      rw [take_succ' hpi, List.map_append]
      rfl
    have hnew : inOrd p.1 p.2 ∉ ordP (ps.take i) := fun hm => by
      have q := nd2.sublist (show (ordP (ps.take (i + 1))).Sublist (ordP ps) from (List.take_sublist _ _).map _)
      rw [tk] at q
      have := (List.nodup_append.mp q).2.2 _ hm _ (List.mem_singleton.mpr rfl)
      exact this rfl
    refine ifF (decide_eq_false hnew) ?_
    obtain ⟨rs5, g1, g2⟩ := hf5
    refine Evl.s_app g1 (Evl.ev_var rfl) (Evl.ev_var rfl) ?_ fun H6 e6 => ?_
    · have := Paired.length g2
      have := List.length_take_le i ps
      have := List.length_take_le' i ps
      have hl : (ordP (ps.take i)).length = (ps.take i).length := List.length_map _
      rw [List.length_map]
      omega
    · refine ⟨_, _, _, rfl, (((e14.trans e5).trans e6)).put hf0, rs5 ++ [z], ?_, ?_⟩
      · rw [List.map_append]; exact upd_same
      · rw [tk]
        have n6 : ∀ a xs, H6 a = some (.tup xs) → a ≠ fa := fun a xs h => ne_of h (e6 _ _ g1) nofun
        exact (Paired.mapP g2 fun a b q => put_ne (e6 _ _ q) (n6 _ _ (e6 _ _ q))).snoc (put_ne (e6 _ _ htw5) (n6 _ _ (e6 _ _ htw5)))
  · obtain ⟨o4, o5, o6, rfl, e, hf⟩ := q
    rw [List.length_map, lr, List.take_length] at hf
    have hs5 : H' s' = some (.ins (CS K) dx []) := e _ _ hs
    refine ⟨_, rfl, Str, PyData.str, fun x b => x = V.str b, ka, _, ks, rfl, sq_of (e _ _ hka), str_paired ks, sK1, sK2, sK3, sK4, fun ys p1 hys hp1' => ?_⟩
    have hys : ys = (sortK ks).map V.str := paired_str hys
    subst hys
    generalize hE : L2.upd H' p1 (.lst ((sortK ks).map V.str)) = H6
    have e6 : Sm H' H6 := hE ▸ Evl.Ex.new hp1'
    have h61 : H6 p1 = some (.lst ((sortK ks).map V.str)) := hE ▸ L2.upd_same
    clear hE
    have hs6 := e6 _ _ hs5
    refine ⟨_, rfl, s', CS K, dx, [], rfl, hs6, T.cls, T.noat (by decide +kernel), by decide, ?_⟩
    have hf7 : PairsAt (upd H6 s' (.ins (CS K) dx (putF "its_kinds" (.ref p1) []))) fa (ordP ps) := (hf.mono e6).putI hs6
    have h71 := putI (o := .ins (CS K) dx (putF "its_kinds" (.ref p1) [])) hs6 h61
    have sb7 : SmB s' H (upd H6 s' (.ins (CS K) dx (putF "its_kinds" (.ref p1) []))) := fun a o n h => put_ne (e6 _ _ (e _ _ h)) n
    have hs7 : upd H6 s' (.ins (CS K) dx (putF "its_kinds" (.ref p1) [])) s' = some (.ins (CS K) dx [("its_kinds", .ref p1)]) := upd_same
    revert hf7 h71 sb7 hs7
    generalize upd H6 s' (.ins (CS K) dx (putF "its_kinds" (.ref p1) [])) = H7
    intro hf7 h71 sb7 hs7
    obtain ⟨rs7, a71, a72⟩ := id hf7
    refine ⟨_, rfl, Str × Str, Datum.toD, fun x b => ∃ r, x = V.ref r ∧ TwoAt H7 r b, fa, _, ordP ps, rfl, sq_of a71, ref_paired a72, sP1, sP2, sP3, sP4, fun ys p2 hys hp2' => ?_⟩
    obtain ⟨rs8, b1, b2⟩ := paired_ref hys
    subst b1
    generalize hE : L2.upd H7 p2 (.lst (rs8.map V.ref)) = H8
    have e8 : Sm H7 H8 := hE ▸ Evl.Ex.new hp2'
    have hf80 : H8 p2 = some (.lst (rs8.map V.ref)) := hE ▸ L2.upd_same
    clear hE
    have hf8 : PairsAt H8 p2 (sortP (ordP ps)) := ⟨rs8, hf80, Paired.mapP b2 fun _ _ z => z.mono e8⟩
    have hs8 := e8 _ _ hs7
    refine ⟨_, rfl, s', CS K, dx, _, rfl, hs8, T.cls, T.noat (by decide +kernel), (show 1 < 1000 by decide), ?_⟩
    have hf9 : PairsAt (upd H8 s' (.ins (CS K) dx (putF "its_pairs" (.ref p2) [("its_kinds", .ref p1)]))) p2 (sortP (ordP ps)) := hf8.putI hs8
    have hg9 : PairsAt (upd H8 s' (.ins (CS K) dx (putF "its_pairs" (.ref p2) [("its_kinds", .ref p1)]))) fa (ordP ps) := (hf7.mono e8).putI hs8
    have h91 := putI (o := .ins (CS K) dx (putF "its_pairs" (.ref p2) [("its_kinds", .ref p1)])) hs8 (e8 _ _ h71)
    have sb9 : SmB s' H (upd H8 s' (.ins (CS K) dx (putF "its_pairs" (.ref p2) [("its_kinds", .ref p1)]))) := fun a o n h => put_ne (e8 _ _ (sb7 a o n h)) n
    have hs9 : upd H8 s' (.ins (CS K) dx (putF "its_pairs" (.ref p2) [("its_kinds", .ref p1)])) s' = some (.ins (CS K) dx [("its_kinds", .ref p1), ("its_pairs", .ref p2)]) := by
      rw [upd_same]
      rfl
    revert hf9 hg9 h91 sb9 hs9
    generalize upd H8 s' (.ins (CS K) dx (putF "its_pairs" (.ref p2) [("its_kinds", .ref p1)])) = H9
    intro hf9 hg9 h91 sb9 hs9
    have sko : okS (sortK ks) := fun k hk => kso k ((sortK_perm ks).mem_iff.mp hk)
    have skl : (sortK ks).length = ks.length := (sortK_perm ks).length_eq
    have sknd : (sortK ks).Nodup := (sortK_perm ks).nodup_iff.mpr ok.nd
    refine ⟨_, rfl, s', _, dx, _, _, rfl, hs9, T.cls, T.noat (by decide +kernel), rfl, p1, rfl, ⟨_, sq_of h91⟩, fun D hD => ?_⟩
    refine K7.dc_list (xs := (sortK ks).map V.str) (fun i H' => ∃ m : Str → Addr, Sm H9 H' ∧ H' D = some (.dK (((sortK ks).take i).map fun k => ((.inr k : Key), V.ref (m k)))) ∧ ∀ k ∈ (sortK ks).take i, LS H' (m k) (mtS (sortK ks) (ordP ps) k) ∧ m k ≠ D)
      ⟨fun _ => 0, Ex.new hD, upd_same, fun k hk => by rw [List.take_zero] at hk; exact absurd hk List.not_mem_nil⟩ (fun i H' _ q => sq_of (q.choose_spec.1 _ _ h91)) (fun i x H' hx q => ?_) (fun H' q => ?_)
    · obtain ⟨k, hk, rfl⟩ := get?_map' hx
      obtain ⟨m, em, hm1, hm2⟩ := q
      have km := List.mem_of_getElem? hk
      refine ⟨rfl, ?_⟩
      refine ⟨_, rfl, _, rfl, s', dx, _, rfl, em _ _ hs9, rfl, _, rfl, _, rfl, s', fa, k, dx, p1, _, sortK ks, ordP ps, rfl, em _ _ hs9, rfl, em _ _ h91, by rw [skl]; exact k8, hg9.mono em, sko, okP_ord pso, sko k km, fun r H2 e2 hr2 hl2 => ?_⟩
      obtain ⟨m', hm'k, hm'o⟩ : ∃ m' : Str → Addr, m' k = r ∧ ∀ y, y ≠ k → m' y = m y := ⟨fun x => if x = k then r else m x, if_pos rfl, fun y h => if_neg h⟩
      refine ⟨_, .inr k, rfl, e2 _ _ hm1, ?_, m', Ex.mut (em.trans e2) hD, ?_, fun y hy => ?_⟩
      · rw [List.length_map]
        have := List.length_take_le' i (sortK ks)
        exact bigS _ (by omega)
      · have hkn : k ∉ (sortK ks).take i := fun z => by
          have q := sknd.sublist (List.take_sublist (i + 1) (sortK ks))
          rw [take_succ' hk] at q
          exact (List.nodup_append.mp q).2.2 _ z _ (List.mem_singleton.mpr rfl) rfl
        rw [upd_same, putK_new, take_succ' hk, List.map_append]
        · congr 3
          · refine List.map_congr_left fun y hy => ?_
            rw [hm'o y (fun (z : y = k) => hkn (z ▸ hy))]
          · show [((.inr k : Key), V.ref r)] = [((.inr k : Key), V.ref (m' k))]
            rw [hm'k]
        · intro kv hkv
          obtain ⟨y, hy, rfl⟩ := List.mem_map.mp hkv
          intro z
          injection z with z
          exact hkn (z ▸ hy)
      · rw [take_succ' hk, List.mem_append, List.mem_singleton] at hy
        by_cases hyk : y = k
        · subst hyk
          rw [hm'k]
          have hrD : r ≠ D := (ne_fr hr2 hm1).symm
          exact ⟨put_ne hl2 hrD, hrD⟩
        · rw [hm'o y hyk]
          obtain ⟨g1, g2⟩ := hm2 y (hy.resolve_right hyk)
          exact ⟨put_ne (e2 _ _ g1) g2, g2⟩
    · obtain ⟨m, em, hm1, hm2⟩ := q
      rw [List.length_map, List.take_length] at hm1 hm2
      have hsA := em _ _ hs9
      refine ⟨_, rfl, s', CS K, dx, _, rfl, hsA, T.cls, T.noat (by decide +kernel), (show 2 < 1000 by decide), ?_⟩
      refine hQ _ (fun a o n h => put_ne (em _ _ (sb9 a o n h)) n) ⟨dx, p1, p2, D, m, ?_, putI hsA (em _ _ h91), (hf9.mono em).putI hsA, put_ne hm1 (ne_of hm1 hsA nofun), fun k hk => ?_⟩
      · rw [upd_same]; rfl
      · rw [mtS_congr (fp := ordP ps) fun p => (sortP_perm _).mem_iff]
        exact putI hsA (hm2 k hk).1
end
end K7

set_option Elab.async false
set_option linter.all false
set_option maxRecDepth 100000
set_option maxHeartbeats 1000000
namespace K7
open PySem PySem.Spec PyProof.Rows L2
open PySem.W (Datum)
open Evl (Ex Ev EvT EvL EvA ex_l ex_t sq_of st_of sz_of sz_lt fresh_back)
section
variable {P : Program} {w : World} {K : PySem.W.Frag} {mg : Str → Option Value} {base : Heap}
/-! ### the bag: its object, known by what it holds -/
def bagL (cs : Addr) (a d c : Int) : List V := [.int a, .int d, .int c, .ref cs]
def bagF (b cs : Addr) : Heap → Prop := fun h => ∃ (a d c : Int) (its : List Value) (n : Nat), Vals (bagL cs a d c) its ∧ h.get? b = some { cls := .type "list", data := .seq its.toArray n } ∧ 0 ≤ a ∧ 0 ≤ d ∧ d < 2147483647 ∧ 0 ≤ c
def BagO (b cs : Addr) : HO := .ext (bagF b cs)
def Bag (H : Hp) (b : Addr) : Prop := ∃ (cs : Addr) (ns : List Int), H b = some (BagO b cs) ∧ H cs = some (.lst (ns.map V.int)) ∧ (∀ n ∈ ns, 0 ≤ n) ∧ ns.length ≤ 63
theorem Bag.mono {H H' : Hp} {b : Addr} (e : Sm H H') (h : Bag H b) : Bag H' b := by
  obtain ⟨cs, ns, h1, h2, h3, h4⟩ := h
  exact ⟨cs, ns, e _ _ h1, e _ _ h2, h3, h4⟩
section
variable {X : Cx}
/-- the bag's object is looked into -/
def tIn (b : Addr) (t : TS) : TS := fun D σ H => ∃ cs, H b = some (BagO b cs) ∧ ∀ a d c : Int, 0 ≤ a → 0 ≤ d → d < 2147483647 → 0 ≤ c → t D σ (upd H b (.lst (bagL cs a d c)))
theorem pss_in {b : Addr} {body : List Stmt} {t : TS} (h : PSs X body t) : PSs X body (tIn b t) := by
  refine ⟨fun pins s σ H D I q => ?_⟩
  obtain ⟨cs, hb, q⟩ := q
  obtain ⟨⟨a, d, c, its, n, hv, ho, h1, h2, h3, h4⟩, _, _⟩ := (show ObjOk X.prog X.w H s.heap b (BagO b cs) from I.hok b _ hb)
  have I' : Inv X pins σ (upd H b (.lst (bagL cs a d c))) s :=
    I.write (o := .lst (bagL cs a d c)) (t' := s.toks) (by rw [hb]; exact trivial) (.inl rfl) (fun _ _ _ q => q) ⟨_, ho⟩ ⟨four_le, its, n, hv, ho⟩
  exact h.run pins s σ _ D I' (q a d c h1 h2 h3 h4)
/-- .. and closed again at the return -/
def tOut (t : TS) : TS := fun D σ H => t { nx := fun _ _ => False, rt := fun v H' => ∃ (b cs : Addr) (a d c : Int), H' b = some (.lst (bagL cs a d c)) ∧ 0 ≤ a ∧ 0 ≤ d ∧ d < 2147483647 ∧ 0 ≤ c ∧ D.rt v (upd H' b (BagO b cs)) } σ H
theorem pss_out {body : List Stmt} {t : TS} (h : PSs X body t) : PSs X body (tOut t) := by
  refine ⟨fun pins s σ H D I q => ?_⟩
  refine thn (h.run pins s σ H _ I q) fun f s1 q1 => ?_
  cases f with
  | next =>
    obtain ⟨_, _, _, q⟩ := q1
    exact q.elim
  | brk =>
    obtain ⟨_, _, _, q⟩ := q1
    exact q.elim
  | cont =>
    obtain ⟨_, _, _, q⟩ := q1
    exact q.elim
  | ret u =>
    obtain ⟨v, σ', H', I1, rv, b, cs, a, d, c, hb, h1, h2, h3, h4, q⟩ := q1
    obtain ⟨_, its, n, hv, ho⟩ := (show ObjOk X.prog X.w H' s1.heap b (.lst (bagL cs a d c)) from I1.hok b _ hb)
    refine ⟨v, σ', upd H' b (BagO b cs), I1.write (o := BagO b cs) (t' := s1.toks) (by rw [hb]; exact trivial) (.inl rfl) (fun _ _ _ q => q) ⟨_, ho⟩ ⟨⟨a, d, c, its, n, hv, ho, h1, h2, h3, h4⟩, ⟨_, ho⟩, ?_⟩, rv, q⟩
    rintro g1 g2 ⟨a, d, c, its, n, hv, ho, h⟩ k
    exact ⟨a, d, c, its, n, hv, k _ ho, h⟩
/-- xs[i], by values -/
def rGetL (K : PySem.W.Frag) : V → V → Hp → VK → Prop := fun x y H Q => ∃ p xs i v, x = .ref p ∧ y = .int (i : Nat) ∧ SqL K H p xs ∧ xs[i]? = some v ∧ Q v H
theorem get_list : PGet X (rGetL X.K) := by
  intro pins s σ H o i ov iv Q I ro ri h
  obtain ⟨p, xs, j, v, rfl, rfl, hs, hv, q⟩ := h
  cases ro
  obtain ⟨t, rfl⟩ := ri
  obtain ⟨its, r, pl, hz⟩ := I.list hs
  obtain ⟨u, hu, ru⟩ := r.get hv
  have hj := (List.getElem?_eq_some_iff.mp hv).1
  have hn := line63
  exact wpAny_getItem_list pl.isList (by omega) (by omega) (by rw [Int.toNat_natCast]; simpa using hu) ⟨v, H, I, ru, q⟩
end
def sp_law_take : Sp := fun vs H Q _ => ∃ (b : Addr) (m : Int), vs = [.ref b, .int m] ∧ Bag H b ∧ 1 ≤ m ∧ m ≤ 1000000 ∧ ∀ v : Int, 0 ≤ v → v < m → Q (.int v) H
theorem at0 {cs : Addr} {a d c : Int} : atI (bagL cs a d c) 0 = some (.int a) := atI_nat (i := 0) rfl
theorem at1 {cs : Addr} {a d c : Int} : atI (bagL cs a d c) 1 = some (.int d) := atI_nat (i := 1) rfl
theorem at2 {cs : Addr} {a d c : Int} : atI (bagL cs a d c) 2 = some (.int c) := atI_nat (i := 2) rfl
theorem at3 {cs : Addr} {a d c : Int} : atI (bagL cs a d c) 3 = some (.ref cs) := atI_nat (i := 3) rfl
theorem c_law_take (T : Tx P w K mg base) : C8.Cal P w K mg base 1 "_law_take" sp_law_take [] := by
  obtain ⟨f, fd, F, df⟩ := T.d "_law_take" 24 (by decide +kernel)
  have sc : FnScope ["_law_bag_here", "_law_many", "_law_cell", "_law_value", "_law_begin", "_law_second"] ["_law_bag_here", "_law_many"] (C8.fnScope (top 24)) := C8.fnScope_by (by decide +kernel)
  have nd := sc.nd
  refine C8.cal0 F (F.fn.binds df (ps := ["_law_bag_here", "_law_many"]) fun _ _ _ _ _ _ us hl => match us, hl with | [_, _], _ => rfl) .nil sc (fun vs H Q E h => by obtain ⟨_, _, rfl, _⟩ := h; rfl) fun cdv A outer s H vs Q E hr h => ?_
  obtain ⟨b, m, rfl, hB, h1, h6, hQ⟩ := h
  refine ⟨tIn b (tOut _), PSs.nox (pss_in (pss_out (C8.pss_cut (ps_if (pt_cmpR op_eq (pe_ix (k_ix_list (K := K)) (pv 0) pe_int (fun _ _ => rfl)) pe_int (nomark _)) (pss_cons (ps_set (i := 2) nd rfl (.inl rfl) pe_int)
    (C8.pss_cut (ps_if (pt_cmpR op_lt (pe_ix (k_ix_list (K := K)) (pv 0) pe_int (fun _ _ => rfl)) (pe_callB (k_len_seq (K := K)) (by rfl) T.b_len (by decide +kernel) (pa_cons (pe_ix (k_ix_list (K := K)) (pv 0) pe_int (fun _ _ => rfl)) pa_nil)) (nomark _)) (pss_one (ps_set (i := 2) nd rfl (.inl rfl) (pe_ix (k_ix_list (K := K)) (pe_ix (k_ix_list (K := K)) (pv 0) pe_int (fun _ _ => rfl)) (pe_ix (k_ix_list (K := K)) (pv 0) pe_int (fun _ _ => rfl)) (fun _ _ => rfl)))) pss_nil)
    (pss_cons (ps_augS (pv 0) pe_int get_list pe_int ip_add set_list)
    (C8.pss_cut (ps_if (pt_cmpR op_ge (pv 2) pe_int (nomark _)) (pss_one (ps_asg (pv 2) (pg_sub (pv 0) pe_int set_list))) pss_nil)
    (pss_one (ps_asg (pe_op op_mod (pe_op op_add (pe_op op_add (pe_op op_mul (pe_ix (k_ix_list (K := K)) (pv 0) pe_int (fun _ _ => rfl)) pe_int) (pe_op op_mod (pv 2) pe_int)) (pe_op op_mul pe_int (pe_ix (k_ix_list (K := K)) (pv 0) pe_int (fun _ _ => rfl)))) pe_int) (pg_sub (pv 0) pe_int set_list))))))) pss_nil)
    (pss_cons (ps_if (pt_cmpR op_gt (pe_ix (k_ix_list (K := K)) (pv 0) pe_int (fun _ _ => rfl)) pe_int (nomark _)) (pss_cons (ps_set (i := 3) nd rfl (.inl rfl) (pe_op op_mod (pe_ix (k_ix_list (K := K)) (pv 0) pe_int (fun _ _ => rfl)) (pv 1)))
    (pss_cons (ps_asg (pe_op op_fdiv (pe_ix (k_ix_list (K := K)) (pv 0) pe_int (fun _ _ => rfl)) (pv 1)) (pg_sub (pv 0) pe_int set_list))
    (pss_one (ps_ret (pv 3))))) pss_nil)
    (pss_cons (ps_set (i := 4) nd rfl (.inl rfl) (pe_op op_mod (pe_op op_mul (pe_op op_add (pe_ix (k_ix_list (K := K)) (pv 0) pe_int (fun _ _ => rfl)) pe_int) pe_int) pe_int))
    (pss_cons (ps_set (i := 5) nd rfl (.inl rfl) (pe_op op_mod (pe_op op_mul (pe_op op_mod (pe_op op_mul (pv 4) (pv 4)) pe_int) pe_int) pe_int))
    (pss_cons (ps_if (pt_cmpR op_gt (pv 1) pe_int (nomark _)) (pss_one (ps_ret (pe_op op_mod (pe_op op_add (pe_op op_mul (pv 5) pe_int) (pv 4)) (pv 1)))) pss_nil)
    (pss_one (ps_ret (pe_op op_mod (pe_op op_fdiv (pv 5) pe_int) (pv 1))))))))))), ?_⟩
  obtain ⟨cs, ns, hb, hc, hn, hnl⟩ := hB
  have hcb : cs ≠ b := fun z => by subst z; rw [hb] at hc; cases hc
  refine ⟨cs, hb, fun a d c p1 p2 p3 p4 => ?_⟩
  have HC : ∀ {o : HO}, upd H b o cs = some (.lst (ns.map V.int)) := fun {o} => put_ne hc hcb
  have fin : ∀ (v a d c : Int), 0 ≤ v → v < m → 0 ≤ a → 0 ≤ d → d < 2147483647 → 0 ≤ c → ∃ (b' cs' : Addr) (a' d' c' : Int), upd H b (.lst (bagL cs a d c)) b' = some (.lst (bagL cs' a' d' c')) ∧ 0 ≤ a' ∧ 0 ≤ d' ∧ d' < 2147483647 ∧ 0 ≤ c' ∧ Q (.int v) (upd (upd H b (.lst (bagL cs a d c))) b' (BagO b' cs')) := fun v a d c q1 q2 q3 q4 q5 q6 => by
    refine ⟨b, cs, a, d, c, upd_same, q3, q4, q5, q6, ?_⟩
    have e : upd (upd H b (.lst (bagL cs a d c))) b (BagO b cs) = H := by
      rw [upd_upd]
      funext z
      unfold upd
      split
      · rename_i z2; subst z2; exact hb.symm
      · rfl
    rw [e]
    exact hQ v q1 q2
  -- behind the first if: the bag as some bag
  refine ⟨fun σ' H' => ∃ (a d c : Int) (o2 o3 o4 o5 : Option V), σ' = [some (.ref b), some (.int m), o2, o3, o4, o5] ∧ H' = upd H b (.lst (bagL cs a d c)) ∧ 0 ≤ a ∧ 0 ≤ d ∧ d < 2147483647 ∧ 0 ≤ c, ?_, ?_⟩
  · refine ⟨_, rfl, b, _, _, _, rfl, rfl, sq_of upd_same, at0, rfl, _, rfl, ?_⟩
    by_cases ha : a = 0
    · refine ifT (by rw [ha]; exact decide_eq_true rfl) ?_
      refine ⟨fun σ' H' => ∃ (x : Int), σ' = [some (.ref b), some (.int m), some (.int x), none, none, none] ∧ H' = upd H b (.lst (bagL cs a d c)) ∧ 0 ≤ x, ?_, ?_⟩
      · refine ⟨_, rfl, b, _, _, _, rfl, rfl, sq_of upd_same, at2, _, rfl, b, _, _, _, rfl, rfl, sq_of upd_same, at3, cs, _, rfl, .inl (sq_of HC), _, _, rfl, rfl, _, rfl, ?_⟩
        rw [List.length_map]
        by_cases hl : c < (ns.length : Int)
        · refine ifT (decide_eq_true hl) ?_
          obtain ⟨k, rfl⟩ : ∃ k : Nat, c = (k : Int) := ⟨c.toNat, (Int.toNat_of_nonneg p4).symm⟩
          have hk : k < ns.length := by omega
          refine ⟨_, rfl, b, _, _, _, rfl, rfl, sq_of upd_same, at3, _, rfl, b, _, _, _, rfl, rfl, sq_of upd_same, at2, cs, _, _, .int ns[k], rfl, rfl, sq_of HC, atI_nat (by rw [List.getElem?_map, List.getElem?_eq_getElem hk]; rfl), ?_⟩
          exact ⟨ns[k], rfl, rfl, hn _ (List.getElem_mem hk)⟩
        · exact ifF (decide_eq_false hl) ⟨0, rfl, rfl, Int.le_refl _⟩
      · rintro σ' H' ⟨x, rfl, rfl, hx⟩
        refine ⟨_, rfl, b, _, 2, _, rfl, rfl, sq_of upd_same, rfl, _, _, rfl, rfl, b, _, _, 2, rfl, rfl, upd_same, rfl, ?_⟩
        rw [upd_upd]
        refine ⟨fun σ' H' => ∃ (a' : Int), σ' = [some (.ref b), some (.int m), some (.int x), none, none, none] ∧ H' = upd H b (.lst (bagL cs a' d (c + 1))) ∧ 0 ≤ a', ?_, ?_⟩
        · refine ⟨_, rfl, _, _, rfl, rfl, _, rfl, ?_⟩
          by_cases hbig : (1000000000000000000 : Int) ≤ x
          · refine ifT (decide_eq_true hbig) ⟨_, rfl, _, rfl, b, _, _, 0, rfl, rfl, upd_same, rfl, ?_⟩
            rw [upd_upd]
            exact ⟨x, rfl, rfl, hx⟩
          · exact ifF (decide_eq_false hbig) ⟨a, rfl, rfl, p1⟩
        · rintro σ' H' ⟨a', rfl, rfl, ha'⟩
          refine ⟨_, rfl, b, _, _, _, rfl, rfl, sq_of upd_same, at1, _, _, rfl, rfl, .inr (by decide), _, rfl, _, _, rfl, rfl, (show (0 : Int) < 2147483647 by decide), _, _, rfl, rfl, _, rfl, b, _, _, _, rfl, rfl, sq_of upd_same, at2, _, _, rfl, rfl, .inl (by decide), _, _, rfl, rfl, _, _, rfl, rfl, (show (0 : Int) < 2147483647 by decide), _, rfl, b, _, _, 1, rfl, rfl, upd_same, rfl, ?_⟩
          rw [upd_upd]
          refine ⟨a', _, c + 1, _, _, _, _, rfl, rfl, ha', Int.emod_nonneg _ (by decide), Int.emod_lt_of_pos _ (by decide), by omega⟩
    · exact ifF (decide_eq_false fun z => ha (by injection z)) ⟨a, d, c, _, _, _, _, rfl, rfl, p1, p2, p3, p4⟩
  · rintro σ' H' ⟨a, d, c, o2, o3, o4, o5, rfl, rfl, p1, p2, p3, p4⟩
    refine ⟨_, rfl, b, _, _, _, rfl, rfl, sq_of upd_same, at0, _, _, rfl, rfl, _, rfl, ?_⟩
    by_cases ha : (0 : Int) < a
    · refine ifT (decide_eq_true ha) ?_
      refine ⟨_, rfl, b, _, _, _, rfl, rfl, sq_of upd_same, at0, _, rfl, _, _, rfl, rfl, by omega, ?_⟩
      refine ⟨_, rfl, b, _, _, _, rfl, rfl, sq_of upd_same, at0, _, rfl, _, _, rfl, rfl, ⟨by omega, by omega⟩, _, rfl, b, _, _, 0, rfl, rfl, upd_same, rfl, ?_⟩
      rw [upd_upd]
      exact ⟨_, rfl, fin _ _ d c (Int.emod_nonneg _ (by omega)) (Int.emod_lt_of_pos _ (by omega)) (Int.ediv_nonneg p1 (by omega)) p2 p3 p4⟩
    · refine ifF (decide_eq_false ha) ?_
      refine ⟨_, rfl, b, _, _, _, rfl, rfl, sq_of upd_same, at1, _, _, rfl, rfl, _, _, rfl, rfl, .inr (by decide), _, _, rfl, rfl, (show (0 : Int) < 1000000007 by decide), ?_⟩
      have b1 := Int.emod_nonneg ((d + 1) * 39373) (show (1000000007 : Int) ≠ 0 by decide)
      have b2 := Int.emod_lt_of_pos ((d + 1) * 39373) (show (0 : Int) < 1000000007 by decide)
      revert b1 b2
      generalize (d + 1) * 39373 % 1000000007 = bg
      intro b1 b2
      have s1 := Int.emod_nonneg (bg * bg) (show (998244353 : Int) ≠ 0 by decide)
      have s2 := Int.emod_lt_of_pos (bg * bg) (show (0 : Int) < 998244353 by decide)
      refine ⟨_, rfl, _, rfl, _, _, rfl, rfl, .inl ⟨by omega, by omega⟩, _, _, rfl, rfl, (show (0 : Int) < 998244353 by decide), _, _, rfl, rfl, .inr (by decide), _, _, rfl, rfl, (show (0 : Int) < 998244353 by decide), ?_⟩
      have b3 := Int.emod_nonneg (bg * bg % 998244353 * 30011) (show (998244353 : Int) ≠ 0 by decide)
      revert b3
      generalize bg * bg % 998244353 * 30011 % 998244353 = sc
      intro b3
      refine ⟨_, rfl, _, _, rfl, rfl, _, rfl, ifF (decide_eq_false (by omega)) ?_⟩
      refine ⟨_, rfl, _, _, rfl, rfl, ⟨by decide, by decide⟩, _, rfl, _, _, rfl, rfl, by omega, ?_⟩
      exact fin _ _ d c (Int.emod_nonneg _ (by omega)) (Int.emod_lt_of_pos _ (by omega)) p1 p2 p3 p4
def sp_law_bag (K : PySem.W.Frag) : Sp := fun vs H Q _ => ∃ (l : Addr) (ns : List Int), vs = [.ref l] ∧ SqL K H l (ns.map V.int) ∧ ∀ r H', Sm H H' → Bag H' r → Q (.ref r) H'
theorem c_law_bag (T : Tx P w K mg base) : C8.Cal P w K mg base 1 "_law_bag" (sp_law_bag K) [] := by
  obtain ⟨f, fd, F, df⟩ := T.d "_law_bag" 23 (by decide +kernel)
  have sc : FnScope ["_law_script", "_law_cell"] ["_law_script"] (C8.fnScope (top 23)) := C8.fnScope_by (by decide +kernel)
  have nd := sc.nd
  refine C8.cal0 F (F.fn.binds df (ps := ["_law_script"]) fun _ _ _ _ _ _ us hl => match us, hl with | [_], _ => rfl) .nil sc (fun vs H Q E h => by obtain ⟨_, _, rfl, _⟩ := h; rfl) fun cdv A outer s H vs Q E hr h => ?_
  refine ⟨_, PSs.nox (pss_out (pss_one (ps_ret (pe_lst (pa_cons pe_int (pa_cons pe_int (pa_cons pe_int (pa_cons (pe_lc (own := [("_law_cell", 1)]) (g := (gName 1)) (tt := tYes) rfl nd (k_pi_list (K := K) (pe_slice (k_sl_list (K := K)) (pv 0) po_none (po_some pe_int))) (blkOk_by (by kernel_rfl)) (fun _ _ _ _ _ => (pg_name (i := 1) nd rfl (.inl rfl))) (fun _ _ _ _ _ => pts_nil) (fun _ _ _ _ _ => (pe_callB call_abs (by rfl) T.b_abs (by decide +kernel) (pa_cons (pv 1) pa_nil)))) pa_nil)))))))), ?_⟩
  obtain ⟨l, ns, rfl, hs, hQ⟩ := h
  refine ⟨_, rfl, _, rfl, l, _, rfl, hs, fun s1 h1 => ?_⟩
  rw [show cutV (ns.map V.int) none (some 63) = (ns.take 63).map V.int by rw [show (63 : Int) = ((63 : Nat) : Int) from rfl, cutV_to, List.map_take]]
  generalize hE : L2.upd H s1 (.lst ((ns.take 63).map V.int)) = H1
  have e1 : Sm H H1 := hE ▸ Evl.Ex.new h1
  have g1 : H1 s1 = some (.lst ((ns.take 63).map V.int)) := hE ▸ L2.upd_same
  clear hE
  have l63 : (ns.take 63).length ≤ 63 := List.length_take_le ..
  refine ⟨s1, rfl, ⟨_, sq_of g1⟩, lcLy (fun n : Int => V.int (if n < 0 then -n else n)) (sq_of g1) (by omega) (fun n hn H2 e2 Q2 q2 => ⟨_, rfl, _, rfl, q2 H2 (Ex.refl H2)⟩) (fun D H2 hD e2 h2 => ⟨four_le, fun p hp => ?_⟩)⟩
  refine ⟨p, D, 0, 1234567891, 0, upd_same, Int.le_refl _, by decide, by decide, Int.le_refl _, ?_⟩
  rw [upd_upd]
  refine hQ p _ ((e1.trans e2).add hp) ⟨D, (ns.take 63).map (fun n : Int => if n < 0 then -n else n), upd_same, ?_, ?_, by rw [List.length_map]; exact l63⟩
  · refine put_ne ?_ (ne_fr hp h2)
    rw [h2, List.map_map]
    rfl
  · intro n hn
    obtain ⟨z, _, rfl⟩ := List.mem_map.mp hn
    split <;> omega
end
end K7

set_option Elab.async false
set_option linter.all false
set_option maxRecDepth 100000
set_option maxHeartbeats 1000000
namespace K7
open PySem PySem.Spec PyProof.Rows L2
open PySem.W (Datum)
open Evl (Ex Ev EvT EvL EvA ex_l ex_t sq_of st_of sz_of sz_lt fresh_back)
section
variable {P : Program} {w : World} {K : PySem.W.Frag} {mg : Str → Option Value} {base : Heap}
theorem valKinds {ka pa : Addr} : valV [((.inr "kinds" : Key), V.ref ka), (.inr "pairs", .ref pa)] (.inr "kinds") = some (.ref ka) := valV_pos rfl
theorem valPairs {ka pa : Addr} : valV [((.inr "kinds" : Key), V.ref ka), (.inr "pairs", .ref pa)] (.inr "pairs") = some (.ref pa) := by
  rw [valV_neg (by intro z; injection z with z; exact absurd z (by decide +kernel))]
  exact valV_pos rfl
theorem dget_k {H : Hp} {pl ka pa : Addr} (h : H pl = some (.dK [(.inr "kinds", .ref ka), (.inr "pairs", .ref pa)])) : DGet H pl (.str "kinds") (some (.ref ka)) := .inl ⟨_, .inr "kinds", .inl h, rfl, valKinds.symm⟩
theorem dget_p {H : Hp} {pl ka pa : Addr} (h : H pl = some (.dK [(.inr "kinds", .ref ka), (.inr "pairs", .ref pa)])) : DGet H pl (.str "pairs") (some (.ref pa)) := .inl ⟨_, .inr "pairs", .inl h, rfl, valPairs.symm⟩
def sp_law_fit : Sp := fun vs H Q _ => ∃ (pl : Addr) (x y : Str) (ks : List Str) (ps : List (Str × Str)), vs = [.ref pl, .str x, .str y] ∧ PlanAt H pl ks ps ∧ okP ps ∧ PyData.strOk x = true ∧ PyData.strOk y = true ∧ ∀ H', Sm H H' → Q (.bl (fitP ps x y)) H'
theorem c_law_fit (T : Tx P w K mg base) : C8.Cal P w K mg base 1 "_law_fit" sp_law_fit [] := by
  obtain ⟨f, fd, F, df⟩ := T.d "_law_fit" 29 (by decide +kernel)
  have sc : FnScope ["_law_plan_here", "_law_one", "_law_other"] ["_law_plan_here", "_law_one", "_law_other"] (C8.fnScope (top 29)) := C8.fnScope_by (by decide +kernel)
  have nd := sc.nd
  refine C8.cal0 F (F.fn.binds df (ps := ["_law_plan_here", "_law_one", "_law_other"]) fun _ _ _ _ _ _ us hl => match us, hl with | [_, _, _], _ => rfl) .nil sc (fun vs H Q E h => by obtain ⟨_, _, _, _, _, rfl, _⟩ := h; rfl) fun cdv A outer s H vs Q E hr h => ?_
  refine ⟨_, PSs.nox (pss_one (ps_ret (pe_or (pe_cmpR (k_inD (K := K) (hu65 hr)) (pe_tup (pa_cons (pv 1) (pa_cons (pv 2) pa_nil))) (pe_dget (hu_of hr) (pv 0) pe_str (fun _ _ => rfl)) (by rfl)) (pe_one (pe_cmpR (k_inD (K := K) (hu65 hr)) (pe_tup (pa_cons (pv 2) (pa_cons (pv 1) pa_nil))) (pe_dget (hu_of hr) (pv 0) pe_str (fun _ _ => rfl)) (by rfl)))))), ?_⟩
  obtain ⟨pl, x, y, ks, ps, rfl, ⟨ka, pa, hd, hka, hpa⟩, okp, okx, oky, hQ⟩ := h
  refine ⟨_, rfl, _, rfl, two_le, fun t ht => ?_⟩
  generalize hE : L2.upd H t (.tup [.str x, .str y]) = H1
  have e1 : Sm H H1 := hE ▸ Evl.Ex.new ht
  have h1 : H1 t = some (.tup [.str x, .str y]) := hE ▸ L2.upd_same
  clear hE
  refine ⟨_, rfl, pl, _, rfl, dget_p (e1 _ _ hd), _, _, dp_two (p := (x, y)) h1, dp_pairs (hpa.mono e1), sh_two (p := (x, y)) ⟨okx, oky⟩, sh_pairs okp, _, rfl, ?_⟩
  rw [any_eqvP]
  have ef : fitP ps x y = (decide ((x, y) ∈ ps) || decide ((y, x) ∈ ps)) := rfl
  cases hc : decide ((x, y) ∈ ps)
  · refine ifF rfl ⟨_, rfl, _, rfl, two_le, fun t2 ht2 => ?_⟩
    generalize hE : L2.upd H1 t2 (.tup [.str y, .str x]) = H2
    have e2 : Sm H1 H2 := hE ▸ Evl.Ex.new ht2
    have h2 : H2 t2 = some (.tup [.str y, .str x]) := hE ▸ L2.upd_same
    clear hE
    refine ⟨_, rfl, pl, _, rfl, dget_p (e2 _ _ (e1 _ _ hd)), _, _, dp_two (p := (y, x)) h2, dp_pairs (hpa.mono (e1.trans e2)), sh_two (p := (y, x)) ⟨oky, okx⟩, sh_pairs okp, ?_⟩
    rw [any_eqvP]
    have q := hQ H2 (e1.trans e2)
    rw [ef, hc, Bool.false_or] at q
    exact q
  · refine ifT rfl ?_
    have q := hQ H1 e1
    rw [ef, hc, Bool.true_or] at q
    exact q
/-- any([_law_fit(plan, kind, one) for one in found]) -/
theorem any_fit {K : PySem.W.Frag} {σ : L2.St} {H : Hp} {tl ta tb tc : TE} {pl : Addr} {x : Str} {found ks : List Str} {ps : List (Str × Str)} {j : Nat} {vs : List Nat}
    (hl : ∀ H1, Sm H H1 → ∀ Q : VK, (∀ fa H2, Sm H1 H2 → LS H2 fa found → Q (.ref fa) H2) → tl σ H1 Q) (hp : PlanAt H pl ks ps) (okp : okP ps) (okx : PyData.strOk x = true) (okf : okS found) (hz : found.length ≤ 50000)
    (ha : ∀ (y : Str) H1, Ev ta ((wipe σ vs).set j (some (.str y))) H1 (.ref pl)) (hb : ∀ (y : Str) H1, Ev tb ((wipe σ vs).set j (some (.str y))) H1 (.str x)) (hc : ∀ (y : Str) H1, Ev tc ((wipe σ vs).set j (some (.str y))) H1 (.str y)) (hw : ∀ x, wipe ((wipe σ vs).set j (some x)) vs = wipe σ vs := by intro _; rfl) :
    Ev (tCB (rAny K) (tCons (tLc (iList K tl) (gName j) tYes (tCall sp_law_fit [] C8.E0 (tCons ta (tCons tb (tCons tc tNil)))) vs) tNil)) σ H (.bl (found.any fun y => fitP ps x y)) := fun H1 e1 Q q =>
  hl H1 e1 _ fun fa H2 e2 hf => ⟨fa, rfl, ⟨_, sq_of hf⟩, lcLy (fun y => V.bl (fitP ps x y)) (sq_of hf) hz
    (fun y hy H3 e3 Q3 q3 => ha y H3 H3 (Ex.refl H3) _ fun H4 e4 => hb y H4 H4 (Ex.refl H4) _ fun H5 e5 => hc y H5 H5 (Ex.refl H5) _ fun H6 e6 =>
      ⟨pl, x, y, ks, ps, rfl, hp.mono (e1.trans (e2.trans (e3.trans (e4.trans (e5.trans e6))))), okp, okx, okf y hy, fun H7 e7 => q3 H7 (e4.trans (e5.trans (e6.trans e7)))⟩)
    (fun D H3 hD e3 h3 => ⟨D, found.map fun y => fitP ps x y, rfl, sq_of (by rw [h3, map_bl]), by rw [any_id]; exact q H3 (e2.trans e3)⟩) hw⟩
theorem have_l {σ : L2.St} {H : Hp} {tl : TE} {fa : Addr} {found : List Str} (h : Ev tl σ H (.ref fa)) (hf : LS H fa found) : ∀ H1, Sm H H1 → ∀ Q : VK, (∀ fa H2, Sm H1 H2 → LS H2 fa found → Q (.ref fa) H2) → tl σ H1 Q := fun H1 e1 Q q =>
  h H1 e1 Q fun H2 e2 => q fa H2 e2 (e2 _ _ (e1 _ _ hf))
theorem PlanOk.okS {ks : List Str} {ps : List (Str × Str)} (h : PlanOk ks ps) : okS ks := fun k hk => (h.kd k hk).strOk
theorem PlanOk.okP {ks : List Str} {ps : List (Str × Str)} (h : PlanOk ks ps) : okP ps := okP_of h.okS h.sub
theorem snoc_line {ps : List (Str × Str)} {line : List Str} {k : Str} (h : K76.IsLine (fitP ps) line) (hc : (!line.any fun y => fitP ps k y) = true) : K76.IsLine (fitP ps) (line ++ [k]) := by
  rw [Bool.not_eq_true'] at hc
  refine h.snoc fun y hy => ?_
  have q := List.any_eq_false.mp hc y hy
  rw [fitP_comm]
  exact Bool.eq_false_iff.mpr q
def sp_law_line : Sp := fun vs H Q _ => ∃ (b pl : Addr) (most : Nat) (ks : List Str) (ps : List (Str × Str)), vs = [.ref b, .ref pl, .int (most : Int)] ∧ Bag H b ∧ PlanAt H pl ks ps ∧ PlanOk ks ps ∧ most ≤ 1000 ∧
  ∀ r H' line, Sm H H' → H r = none → LS H' r line → (∀ k ∈ line, k ∈ ks) → K76.IsLine (fitP ps) line → line.length ≤ most → Q (.ref r) H'
theorem c_law_line (T : Tx P w K mg base) : C8.Cal P w K mg base 2 "_law_line" sp_law_line [] := by
  obtain ⟨f, fd, F, df⟩ := T.d "_law_line" 30 (by decide +kernel)
  have sc : FnScope ["_law_bag_here", "_law_plan_here", "_law_most", "_law_found", "_law_k", "_law_kind", "_law_one"] ["_law_bag_here", "_law_plan_here", "_law_most"] (C8.fnScope (top 30)) := C8.fnScope_by (by decide +kernel)
  have nd := sc.nd
  have c_law_fit := c_law_fit T
  have c_law_take := c_law_take T
  refine C8.cal0 F (F.fn.binds df (ps := ["_law_bag_here", "_law_plan_here", "_law_most"]) fun _ _ _ _ _ _ us hl => match us, hl with | [_, _, _], _ => rfl) .nil sc (fun vs H Q E h => by obtain ⟨_, _, _, _, _, rfl, _⟩ := h; rfl) fun cdv A outer s H vs Q E hr h => ?_
  refine ⟨_, PSs.nox (pss_cons (ps_set (i := 3) nd rfl (.inl rfl) (pe_lst pa_nil))
    (pss_cons (ps_for PassesOwn.never rfl (pi_range1 (by rfl) T.b_range (pa_cons (C8.pe_c c_law_take hr (by decide) rfl (pa_cons (pv 0) (pa_cons (pe_op op_add (pv 2) pe_int) pa_nil))) pa_nil)) (pg_name (i := 4) nd rfl (.inl rfl)) (pss_cons (ps_set (i := 5) nd rfl (.inr rfl) (pe_ix (k_ix_list (K := K)) (pe_dget (hu_of hr) (pv 1) pe_str (fun _ _ => rfl)) (C8.pe_c c_law_take hr (by decide) rfl (pa_cons (pv 0) (pa_cons (pe_callB (k_len_seq (K := K)) (by rfl) T.b_len (by decide +kernel) (pa_cons (pe_dget (hu_of hr) (pv 1) pe_str (fun _ _ => rfl)) pa_nil)) pa_nil))) (fun _ _ => rfl)))
    (pss_one (ps_if (pt_not (pt_val (pe_callB (k_any (K := K) rfl) (by rfl) T.b_any (by decide +kernel) (pa_cons (pe_lc (own := [("_law_one", 6)]) (g := (gName 6)) (tt := tYes) rfl nd (k_pi_list (K := K) (pv 3)) (blkOk_by (by kernel_rfl)) (fun _ _ _ _ _ => (pg_name (i := 6) nd rfl (.inl rfl))) (fun _ _ _ _ _ => pts_nil) (fun _ _ _ _ _ => (C8.pe_c c_law_fit hr (by decide) rfl (pa_cons (pv 1) (pa_cons (pv 5) (pa_cons (pv 6) pa_nil)))))) pa_nil)))) (pss_one (ps_expr (pe_bm PySem.F.plainAttrs_list PySem.F.slot_list_append PySem.F.type_list_append mt_append (pv 3) (pa_cons (pv 5) pa_nil)))) pss_nil))))
    (pss_one (ps_ret (pv 3))))), ?_⟩
  obtain ⟨b, pl, most, ks, ps, rfl, hB, hP, ok, hz, hQ⟩ := h
  obtain ⟨ka, pa, hd, hka, hpa⟩ := id hP
  have k8 := ok.hi
  have k1 := ok.lo
  refine ⟨Nat.zero_le _, fun fa hfa => ?_⟩
  generalize hE : L2.upd H fa (.lst []) = H1
  have e1 : Sm H H1 := hE ▸ Evl.Ex.new hfa
  have h1 : H1 fa = some (.lst []) := hE ▸ L2.upd_same
  clear hE
  refine ⟨_, rfl, _, rfl, _, _, rfl, rfl, b, (most : Int) + 1, rfl, hB.mono e1, by omega, by omega, fun n hn0 hn1 => ⟨n, rfl, by omega, by omega, ?_⟩⟩
  refine for_range (fun i σ' H' => ∃ (o4 o5 : Option V) (line : List Str), σ' = [some (.ref b), some (.ref pl), some (.int (most : Int)), some (.ref fa), o4, o5, none] ∧ Sm H H' ∧ LS H' fa line ∧ (∀ k ∈ line, k ∈ ks) ∧ K76.IsLine (fitP ps) line ∧ line.length ≤ i)
    ⟨none, none, [], rfl, e1, h1, fun k hk => absurd hk List.not_mem_nil, K76.IsLine.nil, Nat.le_refl _⟩ (fun i σ' H' hi q => ?_) (fun σ' H' q => ?_)
  · obtain ⟨o4, o5, line, rfl, e, hf, hsub, hil, hll⟩ := q
    refine ⟨_, rfl, pl, _, rfl, dget_k (e _ _ hd), _, rfl, _, rfl, pl, _, rfl, dget_k (e _ _ hd), ka, _, rfl, .inl (sq_of (e _ _ hka)), ?_⟩
    rw [List.length_map]
    refine ⟨b, (ks.length : Nat), rfl, hB.mono e, by omega, by omega, fun v hv0 hv1 => ?_⟩
    obtain ⟨j, rfl⟩ : ∃ j : Nat, v = (j : Int) := ⟨v.toNat, (Int.toNat_of_nonneg hv0).symm⟩
    have hj : j < ks.length := by omega
    refine ⟨ka, _, _, .str ks[j], rfl, rfl, sq_of (e _ _ hka), atI_nat (by rw [List.getElem?_map, List.getElem?_eq_getElem hj]; rfl), ?_⟩
    have hm := List.getElem_mem hj
    revert hm
    generalize ks[j] = k
    intro hm
    refine Evl.s_when (Evl.et_not (Evl.et_B (any_fit (ks := ks) (found := line) (x := k) (have_l (Evl.ev_var rfl) hf) (hP.mono e) ok.okP (ok.okS k hm) (fun y hy => ok.okS y (hsub y hy)) (by omega) (fun _ _ => Evl.ev_var rfl) (fun _ _ => Evl.ev_var rfl) (fun _ _ => Evl.ev_var rfl)))) (fun hc H2 e2 => ?_) (fun hc H2 e2 => ?_)
    · refine Evl.s_app (e2 _ _ hf) (Evl.ev_var rfl) (Evl.ev_var rfl) (by rw [List.length_map]; omega) fun H3 e3 => ?_
      refine ⟨_, _, line ++ [k], rfl, (e.trans (e2.trans e3)).put hfa, ?_, ?_, ?_, ?_⟩
      · show _ = some (HO.lst _)
        rw [List.map_append]
        exact upd_same
      · intro y hy
        rcases List.mem_append.mp hy with q | q
        · exact hsub y q
        · rw [List.mem_singleton.mp q]; exact hm
      · exact snoc_line hil hc
      · rw [List.length_append, List.length_singleton]; omega
    · exact ⟨_, _, line, rfl, e.trans e2, e2 _ _ hf, hsub, hil, by omega⟩
  · obtain ⟨o4, o5, line, rfl, e, hf, hsub, hil, hll⟩ := q
    exact ⟨_, rfl, hQ fa H' line e hfa hf hsub hil (by omega)⟩
end
end K7

set_option Elab.async false
set_option linter.all false
set_option maxRecDepth 100000
set_option maxHeartbeats 1000000
namespace K7
open PySem PySem.Spec PyProof.Rows L2
open PySem.W (Datum)
open Evl (Ex Ev EvT EvL EvA ex_l ex_t sq_of st_of sz_of sz_lt fresh_back)
section
variable {P : Program} {w : World} {K : PySem.W.Frag} {mg : Str → Option Value} {base : Heap}
def sp_law_row : Sp := fun vs H Q _ => ∃ (b pl : Addr) (most : Nat) (ks : List Str) (ps : List (Str × Str)), vs = [.ref b, .ref pl, .int (most : Int)] ∧ Bag H b ∧ PlanAt H pl ks ps ∧ PlanOk ks ps ∧ most ≤ 1000 ∧
  ∀ r H' row, Sm H H' → H r = none → LS H' r row → (∀ k ∈ row, k ∈ ks) → row.length ≤ most → Q (.ref r) H'
theorem c_law_row (T : Tx P w K mg base) : C8.Cal P w K mg base 2 "_law_row" sp_law_row [] := by
  obtain ⟨f, fd, F, df⟩ := T.d "_law_row" 31 (by decide +kernel)
  have sc : FnScope ["_law_bag_here", "_law_plan_here", "_law_most", "_law_k"] ["_law_bag_here", "_law_plan_here", "_law_most"] (C8.fnScope (top 31)) := C8.fnScope_by (by decide +kernel)
  have nd := sc.nd
  have c_law_take := c_law_take T
  refine C8.cal0 F (F.fn.binds df (ps := ["_law_bag_here", "_law_plan_here", "_law_most"]) fun _ _ _ _ _ _ us hl => match us, hl with | [_, _, _], _ => rfl) .nil sc (fun vs H Q E h => by obtain ⟨_, _, _, _, _, rfl, _⟩ := h; rfl) fun cdv A outer s H vs Q E hr h => ?_
  refine ⟨_, PSs.nox (pss_one (ps_ret (pe_lc (own := [("_law_k", 3)]) (g := (gName 3)) (tt := tYes) rfl nd (pi_range1 (by rfl) T.b_range (pa_cons (C8.pe_c c_law_take hr (by decide) rfl (pa_cons (pv 0) (pa_cons (pe_op op_add (pv 2) pe_int) pa_nil))) pa_nil)) (blkOk_by (by kernel_rfl)) (fun _ _ _ _ _ => (pg_name (i := 3) nd rfl (.inl rfl))) (fun _ _ _ _ _ => pts_nil) (fun _ _ _ _ _ => (pe_ix (k_ix_list (K := K)) (pe_dget (hu_of hr) (pv 1) pe_str (fun _ _ => rfl)) (C8.pe_c c_law_take hr (by decide) rfl (pa_cons (pv 0) (pa_cons (pe_callB (k_len_seq (K := K)) (by rfl) T.b_len (by decide +kernel) (pa_cons (pe_dget (hu_of hr) (pv 1) pe_str (fun _ _ => rfl)) pa_nil)) pa_nil))) (fun _ _ => rfl)))))), ?_⟩
  obtain ⟨b, pl, most, ks, ps, rfl, hB, hP, ok, hz, hQ⟩ := h
  obtain ⟨ka, pa, hd, hka, hpa⟩ := id hP
  have k8 := ok.hi
  have k1 := ok.lo
  refine ⟨_, rfl, _, rfl, _, _, rfl, rfl, b, (most : Int) + 1, rfl, hB, by omega, by omega, fun n hn0 hn1 => ⟨n, rfl, by omega, by omega, fun D hD => ?_⟩⟩
  refine lc_range (lo := 0) (n := n.toNat) (fun i H' => ∃ row : List Str, Sm H H' ∧ LS H' D row ∧ row.length = i ∧ ∀ k ∈ row, k ∈ ks) ⟨[], Ex.new hD, upd_same, rfl, fun k hk => absurd hk List.not_mem_nil⟩ (fun i H' hi q => ?_) (fun H' q => ?_)
  · obtain ⟨row, e, hr', hl, hsub⟩ := q
    refine ⟨rfl, ?_⟩
    refine ⟨_, rfl, pl, _, rfl, dget_k (e _ _ hd), _, rfl, _, rfl, pl, _, rfl, dget_k (e _ _ hd), ka, _, rfl, .inl (sq_of (e _ _ hka)), ?_⟩
    rw [List.length_map]
    refine ⟨b, (ks.length : Nat), rfl, hB.mono e, by omega, by omega, fun v hv0 hv1 => ?_⟩
    obtain ⟨j, rfl⟩ : ∃ j : Nat, v = (j : Int) := ⟨v.toNat, (Int.toNat_of_nonneg hv0).symm⟩
    have hj : j < ks.length := by omega
    refine ⟨ka, _, _, .str ks[j], rfl, rfl, sq_of (e _ _ hka), atI_nat (by rw [List.getElem?_map, List.getElem?_eq_getElem hj]; rfl), ?_⟩
    refine ⟨_, hr', bigS _ (by rw [List.length_map]; omega), row ++ [ks[j]], e.put hD, ?_, by rw [List.length_append, hl]; rfl, fun y hy => ?_⟩
    · show _ = some (HO.lst _)
      rw [List.map_append]
      exact upd_same
    · rcases List.mem_append.mp hy with q | q
      · exact hsub y q
      · rw [List.mem_singleton.mp q]; exact List.getElem_mem hj
  · obtain ⟨row, e, hr', hl, hsub⟩ := q
    exact hQ D H' row e hD hr' hsub (by omega)
theorem pick_int {xs : List Int} {v : Int} (h0 : 0 ≤ v) (h1 : v < (xs.length : Int)) : ∃ o, atI (xs.map V.int) v = some (.int o) ∧ o ∈ xs := by
  obtain ⟨j, rfl⟩ : ∃ j : Nat, v = (j : Int) := ⟨v.toNat, (Int.toNat_of_nonneg h0).symm⟩
  have hj : j < xs.length := by omega
  exact ⟨xs[j], atI_nat (by rw [List.getElem?_map, List.getElem?_eq_getElem hj]; rfl), List.getElem_mem hj⟩
def sp_law_some : Sp := fun vs H Q _ => ∃ (b : Addr) (m : Nat), vs = [.ref b, .int (m : Int)] ∧ Bag H b ∧ m ≤ 1000 ∧ ∀ r H' ps, Sm H H' → H r = none → LI H' r ps → ps.Pairwise (· < ·) → (∀ p ∈ ps, p < m) → Q (.ref r) H'
theorem c_law_some (T : Tx P w K mg base) : C8.Cal P w K mg base 2 "_law_some" sp_law_some [] := by
  obtain ⟨f, fd, F, df⟩ := T.d "_law_some" 34 (by decide +kernel)
  have sc : FnScope ["_law_bag_here", "_law_many", "_law_odds", "_law_place"] ["_law_bag_here", "_law_many"] (C8.fnScope (top 34)) := C8.fnScope_by (by decide +kernel)
  have nd := sc.nd
  have c_law_take := c_law_take T
  refine C8.cal0 F (F.fn.binds df (ps := ["_law_bag_here", "_law_many"]) fun _ _ _ _ _ _ us hl => match us, hl with | [_, _], _ => rfl) .nil sc (fun vs H Q E h => by obtain ⟨_, _, rfl, _⟩ := h; rfl) fun cdv A outer s H vs Q E hr h => ?_
  refine ⟨_, PSs.nox (pss_cons (ps_set (i := 2) nd rfl (.inr rfl) (pe_ix (k_ix_list (K := K)) (pe_lst (pa_cons pe_int (pa_cons pe_int (pa_cons pe_int (pa_cons pe_int pa_nil))))) (C8.pe_c c_law_take hr (by decide) rfl (pa_cons (pv 0) (pa_cons pe_int pa_nil))) (fun _ _ => rfl)))
    (pss_one (ps_ret (pe_lc (own := [("_law_place", 3)]) (g := (gName 3)) rfl nd (pi_range1 (by rfl) T.b_range (pa_cons (pv 1) pa_nil)) (blkOk_by (by kernel_rfl)) (fun _ _ _ _ _ => (pg_name (i := 3) nd rfl (.inl rfl))) (fun _ _ _ _ _ => (pts_one (pt_cmpR op_lt (C8.pe_c c_law_take hr (by decide) rfl (pa_cons (pv 0) (pa_cons pe_int pa_nil))) (pv 2) (nomark _)))) (fun _ _ _ _ _ => (pv 3)))))), ?_⟩
  obtain ⟨b, m, rfl, hB, hz, hQ⟩ := h
  refine ⟨four_le, fun t ht => ?_⟩
  generalize hE : L2.upd H t (.lst [.int 0, .int 1, .int 2, .int 3]) = H1
  have e1 : Sm H H1 := hE ▸ Evl.Ex.new ht
  have h1 : H1 t = some (.lst [.int 0, .int 1, .int 2, .int 3]) := hE ▸ L2.upd_same
  clear hE
  refine ⟨_, rfl, b, 4, rfl, hB.mono e1, by decide, by decide, fun v v0 v1 => ?_⟩
  obtain ⟨o, ho, _⟩ := pick_int (xs := [0, 1, 2, 3]) v0 v1
  refine ⟨t, _, _, .int o, rfl, rfl, sq_of h1, ho, ?_⟩
  refine ⟨_, rfl, (m : Int), rfl, by omega, by omega, fun D hD => ?_⟩
  rw [Int.toNat_natCast]
  refine lc_range (lo := 0) (n := m) (fun i H' => ∃ ps : List Nat, Sm H1 H' ∧ LI H' D ps ∧ ps.Pairwise (· < ·) ∧ (∀ p ∈ ps, p < i) ∧ ps.length ≤ i) ⟨[], Ex.new hD, upd_same, List.Pairwise.nil, fun k hk => absurd hk List.not_mem_nil, Nat.le_refl _⟩ (fun i H' hi q => ?_) (fun H' q => ?_)
  · obtain ⟨ps, e, hp, hs, hl, hlen⟩ := q
    refine ⟨rfl, ?_⟩
    refine ⟨_, rfl, b, 4, rfl, hB.mono (e1.trans e), by decide, by decide, fun v2 v20 v21 => ⟨_, rfl, _, _, rfl, rfl, _, rfl, ?_⟩⟩
    cases decide (v2 < o)
    · exact ifF rfl ⟨ps, e, hp, hs, fun p h => Nat.lt_succ_of_lt (hl p h), by omega⟩
    · refine ifT rfl ⟨_, rfl, _, hp, bigS _ (by rw [List.length_map]; omega), ps ++ [i], e.put hD, ?_, ?_, ?_, by rw [List.length_append]; show _ + 1 ≤ _; omega⟩
      · show _ = some (HO.lst _)
        rw [List.map_append, Int.zero_add]
        exact upd_same
      · exact List.pairwise_append.mpr ⟨hs, List.pairwise_singleton _ _, fun a ha c hc => by rw [List.mem_singleton.mp hc]; exact hl a ha⟩
      · intro p hp2
        rcases List.mem_append.mp hp2 with q | q
        · exact Nat.lt_succ_of_lt (hl p q)
        · rw [List.mem_singleton.mp q]; exact Nat.lt_succ_self _
  · obtain ⟨ps, e, hp, hs, hl, hlen⟩ := q
    exact hQ D H' ps (e1.trans e) (fresh_back e1 hD) hp hs hl
def sp_law_mates : Sp := fun vs H Q _ => ∃ (pl ra : Addr) (ks xs : List Str) (ps : List (Str × Str)), vs = [.ref pl, .ref ra] ∧ PlanAt H pl ks ps ∧ PlanOk ks ps ∧ LS H ra xs ∧ okS xs ∧ xs.length ≤ 1000 ∧
  ∀ r H', Sm H H' → H r = none → LS H' r (sortK (ks.filter fun k => xs.any fun y => fitP ps k y)) → Q (.ref r) H'
theorem c_law_mates (T : Tx P w K mg base) : C8.Cal P w K mg base 2 "_law_mates" sp_law_mates [] := by
  obtain ⟨f, fd, F, df⟩ := T.d "_law_mates" 37 (by decide +kernel)
  have sc : FnScope ["_law_plan_here", "_law_kinds", "_law_kind", "_law_one"] ["_law_plan_here", "_law_kinds"] (C8.fnScope (top 37)) := C8.fnScope_by (by decide +kernel)
  have nd := sc.nd
  have c_law_fit := c_law_fit T
  refine C8.cal0 F (F.fn.binds df (ps := ["_law_plan_here", "_law_kinds"]) fun _ _ _ _ _ _ us hl => match us, hl with | [_, _], _ => rfl) .nil sc (fun vs H Q E h => by obtain ⟨_, _, _, _, _, rfl, _⟩ := h; rfl) fun cdv A outer s H vs Q E hr h => ?_
  refine ⟨_, PSs.nox (pss_one (ps_ret (pe_callB (cr_sortedG hr.units) (by rfl) T.b_sorted (by decide +kernel) (pa_cons (pe_lc (own := [("_law_kind", 2)]) (g := (gName 2)) rfl nd (k_pi_list (K := K) (pe_dget (hu_of hr) (pv 0) pe_str (fun _ _ => rfl))) (blkOk_by (by kernel_rfl)) (fun _ _ _ _ _ => (pg_name (i := 2) nd rfl (.inr rfl))) (fun _ _ _ _ _ => (pts_one (pt_val (pe_callB (k_any (K := K) rfl) (by rfl) T.b_any (by decide +kernel) (pa_cons (pe_lc (own := [("_law_one", 3)]) (g := (gName 3)) (tt := tYes) rfl nd (k_pi_list (K := K) (pv 1)) (blkOk_by (by kernel_rfl)) (fun _ _ _ _ _ => (pg_name (i := 3) nd rfl (.inl rfl))) (fun _ _ _ _ _ => pts_nil) (fun _ _ _ _ _ => (C8.pe_c c_law_fit hr (by decide) rfl (pa_cons (pv 0) (pa_cons (pv 2) (pa_cons (pv 3) pa_nil)))))) pa_nil))))) (fun _ _ _ _ _ => (pv 2))) pa_nil)))), ?_⟩
  obtain ⟨pl, ra, ks, xs, ps, rfl, hP, ok, hra, okx, hz, hQ⟩ := h
  obtain ⟨ka, pa, hd, hka, hpa⟩ := id hP
  have k8 := ok.hi
  refine ⟨_, rfl, pl, _, rfl, dget_k hd, ka, rfl, ⟨_, sq_of hka⟩, ?_⟩
  refine lcL (fun k => xs.any fun y => fitP ps k y) V.str (sq_of hka) (by omega) (fun k hk => ?_) (fun k hk _ => Evl.ev_var rfl) (fun D H1 hD e1 h1 => ?_)
  · exact Evl.et_B (any_fit (ks := ks) (found := xs) (x := k) (have_l (Evl.ev_var rfl) hra) hP ok.okP (ok.okS k hk) okx (by omega) (fun _ _ => Evl.ev_var rfl) (fun _ _ => Evl.ev_var rfl) (fun _ _ => Evl.ev_var rfl))
  · refine ⟨Str, PyData.str, fun x b => x = V.str b, D, _, ks.filter fun k => xs.any fun y => fitP ps k y, rfl, sq_of h1, str_paired _, sK1, sK2, sK3, sK4, fun ys p1 hys hp1 => ?_⟩
    have hys : ys = (sortK (ks.filter fun k => xs.any fun y => fitP ps k y)).map V.str := paired_str hys
    subst hys
    exact hQ p1 _ (e1.add hp1) (fresh_back e1 hp1) upd_same
end
end K7

set_option Elab.async false
set_option linter.all false
set_option maxRecDepth 100000
set_option maxHeartbeats 1000000
namespace K7
open PySem PySem.Spec PyProof.Rows L2
open PySem.W (Datum)
open Evl (Ex Ev EvT EvL EvA ex_l ex_t sq_of st_of sz_of sz_lt fresh_back)
section
variable {P : Program} {w : World} {K : PySem.W.Frag} {mg : Str → Option Value} {base : Heap}
theorem atom_line {ps : List (Str × Str)} {pool line : List Str} (hp : ∀ x ∈ pool, ∀ y ∈ pool, fitP ps x y = false) (hl : ∀ k ∈ line, k ∈ pool) : K76.IsLine (fitP ps) line := by
  unfold K76.IsLine
  induction line with
  | nil => exact List.Pairwise.nil
  | cons x l ih => exact List.pairwise_cons.mpr ⟨fun y hy => hp x (hl x List.mem_cons_self) y (hl y (List.mem_cons_of_mem _ hy)), ih fun k hk => hl k (List.mem_cons_of_mem _ hk)⟩
def sp_law_great_line : Sp := fun vs H Q _ => ∃ (b pl : Addr) (ks : List Str) (ps : List (Str × Str)), vs = [.ref b, .ref pl] ∧ Bag H b ∧ PlanAt H pl ks ps ∧ PlanOk ks ps ∧
  ∀ r H' line, Sm H H' → H r = none → LS H' r line → (∀ k ∈ line, k ∈ ks) → K76.IsLine (fitP ps) line → line.length ≤ 200 → Q (.ref r) H'
theorem c_law_great_line (T : Tx P w K mg base) : C8.Cal P w K mg base 2 "_law_great_line" sp_law_great_line [] := by
  obtain ⟨f, fd, F, df⟩ := T.d "_law_great_line" 41 (by decide +kernel)
  have sc : FnScope ["_law_bag_here", "_law_plan_here", "_law_pool", "_law_start", "_law_kind", "_law_k", "_law_one"] ["_law_bag_here", "_law_plan_here"] (C8.fnScope (top 41)) := C8.fnScope_by (by decide +kernel)
  have nd := sc.nd
  have c_law_fit := c_law_fit T
  have c_law_take := c_law_take T
  refine C8.cal0 F (F.fn.binds df (ps := ["_law_bag_here", "_law_plan_here"]) fun _ _ _ _ _ _ us hl => match us, hl with | [_, _], _ => rfl) .nil sc (fun vs H Q E h => by obtain ⟨_, _, _, _, rfl, _⟩ := h; rfl) fun cdv A outer s H vs Q E hr h => ?_
  refine ⟨_, PSs.nox (pss_cons (ps_asg (pe_tup (pa_cons (pe_lst pa_nil) (pa_cons (C8.pe_c c_law_take hr (by decide) rfl (pa_cons (pv 0) (pa_cons (pe_callB (k_len_seq (K := K)) (by rfl) T.b_len (by decide +kernel) (pa_cons (pe_dget (hu_of hr) (pv 1) pe_str (fun _ _ => rfl)) pa_nil)) pa_nil))) pa_nil))) (k_pg_tup (K := K) (n := 2) rfl (pgs_cons (pg_name (i := 2) nd rfl (.inr rfl)) (pgs_cons (pg_name (i := 3) nd rfl (.inl rfl)) pgs_nil))))
    (pss_cons (ps_for PassesOwn.never rfl (k_pi_list (K := K) (pe_op op_cat (pe_slice (k_sl_list (K := K)) (pe_dget (hu_of hr) (pv 1) pe_str (fun _ _ => rfl)) (po_some (pv 3)) po_none) (pe_slice (k_sl_list (K := K)) (pe_dget (hu_of hr) (pv 1) pe_str (fun _ _ => rfl)) po_none (po_some (pv 3))))) (pg_name (i := 4) nd rfl (.inr rfl)) (pss_one (ps_if (pt_not (pt_val (pe_callB (k_any (K := K) rfl) (by rfl) T.b_any (by decide +kernel) (pa_cons (pe_lc (own := [("_law_one", 6)]) (g := (gName 6)) (tt := tYes) rfl nd (k_pi_list (K := K) (pe_op op_cat (pv 2) (pe_lst (pa_cons (pv 4) pa_nil)))) (blkOk_by (by kernel_rfl)) (fun _ _ _ _ _ => (pg_name (i := 6) nd rfl (.inl rfl))) (fun _ _ _ _ _ => pts_nil) (fun _ _ _ _ _ => (C8.pe_c c_law_fit hr (by decide) rfl (pa_cons (pv 1) (pa_cons (pv 4) (pa_cons (pv 6) pa_nil)))))) pa_nil)))) (pss_one (ps_expr (pe_bm PySem.F.plainAttrs_list PySem.F.slot_list_append PySem.F.type_list_append mt_append (pv 2) (pa_cons (pv 4) pa_nil)))) pss_nil)))
    (pss_cons (ps_if (pt_cmpR (k_eqD (K := K) hr.units) (pv 2) (pe_lst pa_nil) (nomark _)) (pss_one (ps_ret (pe_lst pa_nil))) pss_nil)
    (pss_one (ps_ret (pe_lc (own := [("_law_k", 5)]) (g := (gName 5)) (tt := tYes) rfl nd (pi_range1 (by rfl) T.b_range (pa_cons (pe_op op_add pe_int (C8.pe_c c_law_take hr (by decide) rfl (pa_cons (pv 0) (pa_cons pe_int pa_nil)))) pa_nil)) (blkOk_by (by kernel_rfl)) (fun _ _ _ _ _ => (pg_name (i := 5) nd rfl (.inl rfl))) (fun _ _ _ _ _ => pts_nil) (fun _ _ _ _ _ => (pe_ix (k_ix_list (K := K)) (pv 2) (C8.pe_c c_law_take hr (by decide) rfl (pa_cons (pv 0) (pa_cons (pe_callB (k_len_seq (K := K)) (by rfl) T.b_len (by decide +kernel) (pa_cons (pv 2) pa_nil)) pa_nil))) (fun _ _ => rfl))))))))), ?_⟩
  obtain ⟨b, pl, ks, ps, rfl, hB, hP, ok, hQ⟩ := h
  obtain ⟨ka, pa, hd, hka, hpa⟩ := id hP
  have k8 := ok.hi
  have k1 := ok.lo
  refine ⟨Nat.zero_le _, fun fa hfa => ?_⟩
  generalize hE : L2.upd H fa (.lst []) = H1
  have e1 : Sm H H1 := hE ▸ Evl.Ex.new hfa
  have h1 : H1 fa = some (.lst []) := hE ▸ L2.upd_same
  clear hE
  refine ⟨_, rfl, _, rfl, pl, _, rfl, dget_k (e1 _ _ hd), ka, _, rfl, .inl (sq_of (e1 _ _ hka)), ?_⟩
  rw [List.length_map]
  refine ⟨b, (ks.length : Nat), rfl, hB.mono e1, by omega, by omega, fun v hv0 hv1 => ⟨two_le, fun t ht => ⟨t, _, rfl, st_of upd_same, rfl, _, _, rfl, _, _, rfl, rfl, ?_⟩⟩⟩
  obtain ⟨j, rfl⟩ : ∃ j : Nat, v = (j : Int) := ⟨v.toNat, (Int.toNat_of_nonneg hv0).symm⟩
  generalize hE : L2.upd H1 t (.tup [.ref fa, .int (j : Int)]) = H2
  have e2 : Sm H1 H2 := hE ▸ Evl.Ex.new ht
  have h2 : H2 t = some (.tup [.ref fa, .int (j : Int)]) := hE ▸ L2.upd_same
  clear hE
  have e12 : Sm H H2 := e1.trans e2
  refine ⟨_, rfl, pl, _, rfl, dget_k (e12 _ _ hd), _, rfl, (j : Int), rfl, ka, _, rfl, sq_of (e12 _ _ hka), fun a1 ha1 => ?_⟩
  rw [cutV_from, ← List.map_drop]
  generalize hE : L2.upd H2 a1 (.lst ((ks.drop j).map V.str)) = H3
  have e3 : Sm H2 H3 := hE ▸ Evl.Ex.new ha1
  have h3 : H3 a1 = some (.lst ((ks.drop j).map V.str)) := hE ▸ L2.upd_same
  clear hE
  have e13 : Sm H H3 := e12.trans e3
  refine ⟨_, rfl, pl, _, rfl, dget_k (e13 _ _ hd), _, rfl, (j : Int), rfl, ka, _, rfl, sq_of (e13 _ _ hka), fun a2 ha2 => ?_⟩
  rw [cutV_to, ← List.map_take]
  generalize hE : L2.upd H3 a2 (.lst ((ks.take j).map V.str)) = H4
  have e4 : Sm H3 H4 := hE ▸ Evl.Ex.new ha2
  have h4 : H4 a2 = some (.lst ((ks.take j).map V.str)) := hE ▸ L2.upd_same
  clear hE
  have l1 : (ks.drop j).length ≤ ks.length := by rw [List.length_drop]; omega
  have l2 : (ks.take j).length ≤ ks.length := List.length_take_le' ..
  refine ⟨a1, a2, _, _, rfl, rfl, e4 _ _ h3, h4, Evl.sz_of (by rw [List.length_map, List.length_map]; omega), fun a3 ha3 => ?_⟩
  rw [← List.map_append]
  generalize hE : L2.upd H4 a3 (.lst ((ks.drop j ++ ks.take j).map V.str)) = H5
  have e5 : Sm H4 H5 := hE ▸ Evl.Ex.new ha3
  have h5 : H5 a3 = some (.lst ((ks.drop j ++ ks.take j).map V.str)) := hE ▸ L2.upd_same
  clear hE
  have e15 : Sm H H5 := (e13.trans e4).trans e5
  have hsubk : ∀ k ∈ ks.drop j ++ ks.take j, k ∈ ks := fun k hk => by
    rcases List.mem_append.mp hk with q | q
    · exact List.mem_of_mem_drop q
    · exact List.mem_of_mem_take q
  refine ⟨a3, rfl, ⟨_, sq_of h5⟩, for_list (xs := (ks.drop j ++ ks.take j).map V.str) (fun i σ' H' => ∃ (o4 : Option V) (pool : List Str), σ' = [some (.ref b), some (.ref pl), some (.ref fa), some (.int (j : Int)), o4, none, none] ∧ Sm H H' ∧ LS H' a3 (ks.drop j ++ ks.take j) ∧ LS H' fa pool ∧ fa ≠ a3 ∧ (∀ k ∈ pool, k ∈ ks) ∧ (∀ x ∈ pool, ∀ y ∈ pool, fitP ps x y = false) ∧ pool.length ≤ i)
    ⟨none, [], rfl, e15, h5, e5 _ _ (e4 _ _ (e3 _ _ (e2 _ _ h1))), ne_fr ha3 (e4 _ _ (e3 _ _ (e2 _ _ h1))), fun k hk => absurd hk List.not_mem_nil, fun k hk => absurd hk List.not_mem_nil, Nat.le_refl _⟩ (fun i σ' H' _ q => ?_) (fun i x σ' H' hx q => ?_) (fun σ' H' q => ?_)⟩
  · obtain ⟨_, _, _, _, q, _⟩ := q
    exact sq_of q
  · obtain ⟨k, hk, rfl⟩ := get?_map' hx
    obtain ⟨o4, pool, rfl, e, h3a, hf, n3, hsub, hno, hl⟩ := q
    have hm := hsubk k (List.mem_of_getElem? hk)
    have hi : i < (ks.drop j ++ ks.take j).length := (List.getElem?_eq_some_iff.mp hk).1
    rw [List.length_append] at hi
    refine Evl.s_when (Evl.et_not (Evl.et_B (any_fit (ks := ks) (found := pool ++ [k]) (x := k) (fun H6 e6 Q6 q6 => ?_) (hP.mono e) ok.okP (ok.okS k hm) (fun y hy => ?_) (by rw [List.length_append, List.length_singleton]; omega) (fun _ _ => Evl.ev_var rfl) (fun _ _ => Evl.ev_var rfl) (fun _ _ => Evl.ev_var rfl)))) (fun hc H6 e6 => ?_) (fun hc H6 e6 => ?_)
    · refine ⟨_, rfl, _, rfl, one_le, fun a4 ha4 => ?_⟩
      generalize hE : L2.upd H6 a4 (.lst [.str k]) = H7
      have e7 : Sm H6 H7 := hE ▸ Evl.Ex.new ha4
      have h7 : H7 a4 = some (.lst [.str k]) := hE ▸ L2.upd_same
      clear hE
      refine ⟨fa, a4, _, _, rfl, rfl, e7 _ _ (e6 _ _ hf), h7, Evl.sz_of (by rw [List.length_map]; show _ + 1 ≤ _; omega), fun a5 ha5 => q6 a5 _ (e7.add ha5) ?_⟩
      show _ = some (HO.lst _)
      rw [List.map_append]
      exact upd_same
    · rcases List.mem_append.mp hy with q | q
      · exact ok.okS y (hsub y q)
      · rw [List.mem_singleton.mp q]; exact ok.okS k hm
    · rw [Bool.not_eq_true'] at hc
      have hc' : ∀ y ∈ pool ++ [k], fitP ps k y = false := fun y hy => Bool.eq_false_iff.mpr (List.any_eq_false.mp hc y hy)
      refine Evl.s_app (e6 _ _ hf) (Evl.ev_var rfl) (Evl.ev_var rfl) (by rw [List.length_map]; omega) fun H7 e7 => ?_
      refine ⟨_, pool ++ [k], rfl, (e.trans (e6.trans e7)).put hfa, put_ne (e7 _ _ (e6 _ _ h3a)) n3.symm, ?_, n3, fun y hy => ?_, fun x hx y hy => ?_, by rw [List.length_append]; show _ + 1 ≤ _; omega⟩
      · show _ = some (HO.lst _)
        rw [List.map_append]
        exact upd_same
      · rcases List.mem_append.mp hy with q | q
        · exact hsub y q
        · rw [List.mem_singleton.mp q]; exact hm
      · rcases List.mem_append.mp hx with q | q
        · rcases List.mem_append.mp hy with q2 | q2
          · exact hno x q y q2
          · rw [List.mem_singleton.mp q2, fitP_comm]; exact hc' x hx
        · rw [List.mem_singleton.mp q]; exact hc' y hy
    · exact ⟨_, pool, rfl, e.trans e6, e6 _ _ h3a, e6 _ _ hf, n3, hsub, hno, by omega⟩
  · obtain ⟨o4, pool, rfl, e, h3a, hf, n3, hsub, hno, hl⟩ := q
    have lp : pool.length ≤ 16 := by rw [List.length_map, List.length_append] at hl; omega
    refine ⟨_, rfl, Nat.zero_le _, fun p hp => ⟨_, _, dp_ls (Ex.new hp _ _ hf), dp_ls (xs := []) upd_same, sh_strs (fun x hx => ok.okS x (hsub x hx)), sh_strs (fun x hx => absurd hx List.not_mem_nil), _, rfl, ?_⟩⟩
    rw [Datum.eqv]
    generalize hE : L2.upd H' p (.lst []) = H6
    have e6 : Sm H' H6 := hE ▸ Evl.Ex.new hp
    have h6 : H6 p = some (.lst []) := hE ▸ L2.upd_same
    clear hE
    by_cases hn : pool = []
    · refine ifT (decide_eq_true hn) ⟨Nat.zero_le _, fun z hz => hQ z _ [] ((e.trans e6).add hz) (fresh_back (e.trans e6) hz) upd_same (fun k hk => absurd hk List.not_mem_nil) K76.IsLine.nil (Nat.zero_le _)⟩
    · have pp : 0 < pool.length := List.length_pos_iff.mpr hn
      refine ifF (decide_eq_false hn) ⟨_, rfl, b, 81, rfl, hB.mono (e.trans e6), by decide, by decide, fun v v0 v1 => ⟨_, _, rfl, rfl, _, rfl, by omega, by omega, fun D hD => ?_⟩⟩
      refine lc_range (lo := 0) (n := (120 + v).toNat) (fun i H' => ∃ line : List Str, Sm H6 H' ∧ LS H' D line ∧ line.length = i ∧ ∀ k ∈ line, k ∈ pool) ⟨[], Ex.new hD, upd_same, rfl, fun k hk => absurd hk List.not_mem_nil⟩ (fun i H7 hi q => ?_) (fun H7 q => ?_)
      · obtain ⟨line, e7, hr', hl7, hs7⟩ := q
        refine ⟨rfl, ?_⟩
        have hf7 := e7 _ _ (e6 _ _ hf)
        refine ⟨_, rfl, _, rfl, _, rfl, fa, _, rfl, .inl (sq_of hf7), ?_⟩
        rw [List.length_map]
        refine ⟨b, (pool.length : Nat), rfl, hB.mono ((e.trans e6).trans e7), by omega, by omega, fun v2 v20 v21 => ?_⟩
        obtain ⟨j2, rfl⟩ : ∃ j : Nat, v2 = (j : Int) := ⟨v2.toNat, (Int.toNat_of_nonneg v20).symm⟩
        have hj : j2 < pool.length := by omega
        refine ⟨fa, _, _, .str pool[j2], rfl, rfl, sq_of hf7, atI_nat (by rw [List.getElem?_map, List.getElem?_eq_getElem hj]; rfl), ?_⟩
        refine ⟨_, hr', bigS _ (by rw [List.length_map]; omega), line ++ [pool[j2]], e7.put hD, ?_, by rw [List.length_append, hl7]; rfl, fun y hy => ?_⟩
        · show _ = some (HO.lst _)
          rw [List.map_append]
          exact upd_same
        · rcases List.mem_append.mp hy with q | q
          · exact hs7 y q
          · rw [List.mem_singleton.mp q]; exact List.getElem_mem hj
      · obtain ⟨line, e7, hr', hl7, hs7⟩ := q
        have eF : Sm H H7 := (e.trans e6).trans e7
        exact hQ D H7 line eF (fresh_back (e.trans e6) hD) hr' (fun k hk => hsub k (hs7 k hk)) (atom_line hno hs7) (by omega)
def sp_law_suits (C : Addr) : Sp := fun vs H Q _ => ∃ (pl : Addr) (ks : List Str) (ps : List (Str × Str)), vs = [.ref pl] ∧ PlanAt H pl ks ps ∧ PlanOk ks ps ∧ (ordP ps).Nodup ∧ ∀ r H', Sm H H' → H r = none → SuitsAt C H' r (sortK ks) (sortP (ordP ps)) → Q (.ref r) H'
theorem c_law_suits (T : Tx P w K mg base) : C8.Cal P w K mg base 5 "_law_suits" (sp_law_suits (CS K)) [] := by
  obtain ⟨f, fd, F, df⟩ := T.d "_law_suits" 27 (by decide +kernel)
  have sc : FnScope ["_law_plan_here"] ["_law_plan_here"] (C8.fnScope (top 27)) := C8.fnScope_by (by decide +kernel)
  have nd := sc.nd
  have c_Suits := c_Suits T
  refine C8.cal0 F (F.fn.binds df (ps := ["_law_plan_here"]) fun _ _ _ _ _ _ us hl => match us, hl with | [_], _ => rfl) .nil sc (fun vs H Q E h => by obtain ⟨_, _, _, rfl, _⟩ := h; rfl) fun cdv A outer s H vs Q E hr h => ?_
  refine ⟨_, PSs.nox (pss_one (ps_ret (C8.pe_mk c_Suits hr (by decide) rfl (pa_cons (pe_callTy (k_list_of (K := K)) (by rfl) T.b_list (by decide +kernel) (pa_cons (pe_dget (hu_of hr) (pv 0) pe_str (fun _ _ => rfl)) pa_nil)) (pa_cons (pe_callTy (k_list_of (K := K)) (by rfl) T.b_list (by decide +kernel) (pa_cons (pe_dget (hu_of hr) (pv 0) pe_str (fun _ _ => rfl)) pa_nil)) pa_nil))))), ?_⟩
  obtain ⟨pl, ks, ps, rfl, ⟨ka, pa, hd, hka, hpa⟩, ok, nd2, hQ⟩ := h
  refine ⟨_, rfl, pl, _, rfl, dget_k hd, ka, _, rfl, .inl (sq_of hka), fun a1 h1 => ?_⟩
  generalize hE : L2.upd H a1 (.lst (ks.map V.str)) = H1
  have e1 : Sm H H1 := hE ▸ Evl.Ex.new h1
  have g1 : H1 a1 = some (.lst (ks.map V.str)) := hE ▸ L2.upd_same
  clear hE
  obtain ⟨rs, p1, p2⟩ := hpa
  refine ⟨_, rfl, pl, _, rfl, dget_p (e1 _ _ hd), pa, _, rfl, .inl (sq_of (e1 _ _ p1)), fun a2 h2 => ?_⟩
  generalize hE : L2.upd H1 a2 (.lst (rs.map V.ref)) = H2
  have e2 : Sm H1 H2 := hE ▸ Evl.Ex.new h2
  have g2 : H2 a2 = some (.lst (rs.map V.ref)) := hE ▸ L2.upd_same
  clear hE
  have e12 : Sm H H2 := e1.trans e2
  refine fun x dx hx hdx hne => ?_
  have hx' : upd H2 dx (.own x) x = none := by rw [upd_ne hne.symm]; exact hx
  have e3 : Sm H2 (upd (upd H2 dx (.own x)) x (.ins (CS K) dx [])) := (Ex.new hdx).add hx'
  refine ⟨x, dx, a1, a2, ks, ps, rfl, upd_same, e3 _ _ (e2 _ _ g1), ⟨rs, e3 _ _ g2, Paired.mapP p2 fun _ _ q => q.mono (e12.trans e3)⟩, ok, nd2, fun H' sb hS => ⟨rfl, hQ x H' (fun a o ha => ?_) (fresh_back e12 hx) hS⟩⟩
  have ha2 := e12 _ _ ha
  exact sb a o (fun z => by subst z; rw [hx] at ha2; cases ha2) (e3 _ _ ha2)
end
end K7

set_option Elab.async false
set_option linter.all false
set_option maxRecDepth 100000
set_option maxHeartbeats 1000000
namespace K7
open PySem PySem.Spec PyProof.Rows L2
open PySem.W (Datum)
open Evl (Ex Ev EvT EvL EvA ex_l ex_t sq_of st_of sz_of sz_lt fresh_back)
section
variable {P : Program} {w : World} {K : PySem.W.Frag} {mg : Str → Option Value} {base : Heap}
theorem k_setTx {X : Cx} {K : PySem.W.Frag} {w : World} (hc : X.calm = true) (hK : X.K = K := by rfl) (hw : X.w = w := by rfl) : CallR X (.type "set") (rSetTx K w) := by
  subst hK; subst hw
  exact cr_setTx hc
theorem k_sortTx {X : Cx} {w : World} (hc : X.calm = true) (hu : X.A.units + 64 < cLine) (hw : X.w = w := by rfl) : CallR X (.builtin "sorted") (rSortTx w) := by
  subst hw
  exact cr_sortTx hc hu
theorem asc_len {n : Nat} : ∀ {l : List Nat} {b : Nat}, l.Pairwise (· < ·) → (∀ q ∈ l, b ≤ q ∧ q < n) → l.length + b ≤ n ∨ l = []
  | [], _, _, _ => .inr rfl
  | x :: l, b, h, hl => by
    obtain ⟨h1, h2⟩ := List.pairwise_cons.mp h
    obtain ⟨x1, x2⟩ := hl x List.mem_cons_self
    rcases asc_len (b := x + 1) h2 (fun q hq => ⟨h1 q hq, (hl q (List.mem_cons_of_mem _ hq)).2⟩) with q | q
    · exact .inl (by rw [List.length_cons]; omega)
    · subst q
      exact .inl (by show 1 + b ≤ n; omega)
theorem asc_le {n : Nat} {l : List Nat} (h : l.Pairwise (· < ·)) (hl : ∀ q ∈ l, q < n) : l.length ≤ n := by
  rcases asc_len (b := 0) h (fun q hq => ⟨Nat.zero_le _, hl q hq⟩) with q | q
  · omega
  · subst q; exact Nat.zero_le _
theorem lastOf_len (line : List Str) (k : Str) (n : Nat) : (K76.lastOf line k n).length ≤ line.length := by
  unfold K76.lastOf
  rw [List.length_drop]
  have : (K76.placesOf line k).length ≤ line.length := by
    rw [K76.placesOf_length]
    exact List.count_le_length
  omega
theorem flat_len (line w : List Str) : ∀ us : List Str, (us.flatMap fun k => K76.lastOf line k (w.count k)).length ≤ us.length * line.length
  | [] => Nat.zero_le _
  | k :: us => by
    rw [List.flatMap_cons, List.length_append, List.length_cons, Nat.succ_mul]
    have := lastOf_len line k (w.count k)
    have := flat_len line w us
    omega
theorem nats_back {ns : List Nat} {xs : List Int} (h : xs.Perm (ns.map fun n : Nat => (n : Int))) : ∃ ms : List Nat, xs = ms.map (fun n : Nat => (n : Int)) ∧ ms.Perm ns := by
  refine ⟨xs.map Int.toNat, ?_, ?_⟩
  · rw [List.map_map]
    have : ∀ x ∈ xs, ((fun n : Nat => (n : Int)) ∘ Int.toNat) x = x := fun x hx => by
      obtain ⟨n, _, rfl⟩ := List.mem_map.mp (h.mem_iff.mp hx)
      rfl
    rw [List.map_congr_left this, List.map_id']
  · have q := h.map Int.toNat
    rw [List.map_map] at q
    have : (Int.toNat ∘ fun n : Nat => (n : Int)) = id := funext fun n => rfl
    rw [this, List.map_id] at q
    exact q
def sp_law_kept : Sp := fun vs H Q _ => ∃ (la ga : Addr) (m : Nat) (line goal : List Str), vs = [.ref la, .ref ga, .int (m : Int)] ∧ LS H la line ∧ LS H ga goal ∧ line.length ≤ 1000 ∧ goal.length ≤ 1000 ∧ okS line ∧ okS goal ∧
  ∀ r H', Sm H H' → KeptAt H' r (K76.keptM line goal m) → Q r H'
theorem c_law_kept (T : Tx P w K mg base) : C8.Cal P w K mg base 1 "_law_kept" sp_law_kept [] := by
  obtain ⟨f, fd, F, df⟩ := T.d "_law_kept" 36 (by decide +kernel)
  have sc : FnScope ["_law_line_here", "_law_goal_here", "_law_many", "_law_found", "_law_kind", "_law_places", "_law_size", "_law_place"] ["_law_line_here", "_law_goal_here", "_law_many"] (C8.fnScope (top 36)) := C8.fnScope_by (by decide +kernel)
  have nd := sc.nd
  refine C8.cal0 F (F.fn.binds df (ps := ["_law_line_here", "_law_goal_here", "_law_many"]) fun _ _ _ _ _ _ us hl => match us, hl with | [_, _, _], _ => rfl) .nil sc (fun vs H Q E h => by obtain ⟨_, _, _, _, _, rfl, _⟩ := h; rfl) fun cdv A outer s H vs Q E hr h => ?_
  refine ⟨_, PSs.nox (pss_cons (ps_set (i := 3) nd rfl (.inl rfl) (pe_lst pa_nil))
    (pss_cons (ps_for PassesOwn.never rfl (k_pi_list (K := K) (pe_callB (k_sortTx (w := w) rfl hr.units) (by rfl) T.b_sorted (by decide +kernel) (pa_cons (pe_callTy (k_setTx (K := K) (w := w) rfl) (by rfl) T.b_set (by decide +kernel) (pa_cons (pe_slice (k_sl_list (K := K)) (pv 1) po_none (po_some (pv 2))) pa_nil)) pa_nil))) (pg_name (i := 4) nd rfl (.inr rfl)) (pss_cons (ps_setLc (i := 5) (own := [("_law_place", 7)]) (g := (gName 7)) rfl nd rfl rfl (sw_true rfl rfl rfl (by decide +kernel)) (pi_range1 (by rfl) T.b_range (pa_cons (pe_callB (k_len_seq (K := K)) (by rfl) T.b_len (by decide +kernel) (pa_cons (pv 0) pa_nil)) pa_nil)) (blkOk_by (by kernel_rfl)) (fun _ _ _ _ _ => (pg_name (i := 7) nd rfl (.inl rfl))) (fun _ _ _ _ _ => (pts_one (pt_cmpR op_eq (pe_ix (k_ix_list (K := K)) (pv 0) (pv 7) (fun _ _ => rfl)) (pv 4) (nomark _)))) (fun _ _ _ _ _ => (pv 7)))
    (pss_cons (ps_set (i := 6) nd rfl (.inl rfl) (pe_bm PySem.F.plainAttrs_list PySem.F.slot_list_count PySem.F.type_list_count mt_countS (pe_slice (k_sl_list (K := K)) (pv 1) po_none (po_some (pv 2))) (pa_cons (pv 4) pa_nil)))
    (pss_cons (ps_if (pt_cmpR op_lt (pe_callB (k_len_seq (K := K)) (by rfl) T.b_len (by decide +kernel) (pa_cons (pv 5) pa_nil)) (pv 6) (nomark _)) (pss_one (ps_ret pe_non)) pss_nil)
    (pss_one (ps_expr (pe_bm PySem.F.plainAttrs_list PySem.F.slot_list_extend PySem.F.type_list_extend mt_extend (pv 3) (pa_cons (pe_slice (k_sl_list (K := K)) (pv 5) (po_some (pe_op op_sub (pe_callB (k_len_seq (K := K)) (by rfl) T.b_len (by decide +kernel) (pa_cons (pv 5) pa_nil)) (pv 6))) po_none) pa_nil))))))))
    (pss_cons (ps_set (i := 3) nd rfl (.inl rfl) (pe_callB cr_sortedI (by rfl) T.b_sorted (by decide +kernel) (pa_cons (pv 3) pa_nil)))
    (pss_one (ps_ret (pe_ifExp (pt_cmpR (k_eqD (K := K) hr.units) (pe_lc (own := [("_law_place", 7)]) (g := (gName 7)) (tt := tYes) rfl nd (k_pi_list (K := K) (pv 3)) (blkOk_by (by kernel_rfl)) (fun _ _ _ _ _ => (pg_name (i := 7) nd rfl (.inl rfl))) (fun _ _ _ _ _ => pts_nil) (fun _ _ _ _ _ => (pe_ix (k_ix_list (K := K)) (pv 0) (pv 7) (fun _ _ => rfl)))) (pe_slice (k_sl_list (K := K)) (pv 1) po_none (po_some (pv 2))) (nomark _)) (pv 3) pe_non)))))), ?_⟩
  obtain ⟨la, ga, m, line, goal, rfl, hla, hga, hz, hgz, okl, okg, hQ⟩ := h
  refine ⟨Nat.zero_le _, fun fa hfa => ?_⟩
  generalize hE : L2.upd H fa (.lst []) = H1
  have e1 : Sm H H1 := hE ▸ Evl.Ex.new hfa
  have h1 : H1 fa = some (.lst []) := hE ▸ L2.upd_same
  clear hE
  refine ⟨_, rfl, _, rfl, _, rfl, ga, _, rfl, sq_of (e1 _ _ hga), fun s1 hs1 => ?_⟩
  rw [cutV_to, ← List.map_take]
  generalize hE : L2.upd H1 s1 (.lst ((goal.take m).map V.str)) = H2
  have e2 : Sm H1 H2 := hE ▸ Evl.Ex.new hs1
  have h2 : H2 s1 = some (.lst ((goal.take m).map V.str)) := hE ▸ L2.upd_same
  clear hE
  have lw : (goal.take m).length ≤ goal.length := List.length_take_le' ..
  refine ⟨s1, goal.take m, rfl, sq_of h2, by omega, fun p us hp hd => ?_⟩
  generalize hE : L2.upd H2 p (SetTO w p us) = H3
  have e3 : Sm H2 H3 := hE ▸ Evl.Ex.new hp
  have h3 : H3 p = some (SetTO w p us) := hE ▸ L2.upd_same
  clear hE
  refine ⟨p, us, rfl, h3, fun ya ys hya hys => ?_⟩
  generalize hE : L2.upd H3 ya (.lst (ys.map V.str)) = H4
  have e4 : Sm H3 H4 := hE ▸ Evl.Ex.new hya
  have h4 : H4 ya = some (.lst (ys.map V.str)) := hE ▸ L2.upd_same
  clear hE
  have e14 : Sm H H4 := ((e1.trans e2).trans e3).trans e4
  have ynd : ys.Nodup := hys.nodup_iff.mpr hd.nd
  have ymem : ∀ k, k ∈ ys ↔ k ∈ goal.take m := fun k => hys.mem_iff.trans (hd.mem k)
  have yl : ys.length ≤ 1000 := by
    have := hys.length_eq
    have := hd.le
    omega
  refine ⟨ya, rfl, ⟨_, sq_of h4⟩, for_list (xs := ys.map V.str) (fun i σ' H' => ∃ (o4 o5 o6 : Option V), σ' = [some (.ref la), some (.ref ga), some (.int (m : Int)), some (.ref fa), o4, o5, o6, none] ∧ Sm H H' ∧ LS H' ya ys ∧ LI H' fa ((ys.take i).flatMap fun k => K76.lastOf line k ((goal.take m).count k)) ∧ fa ≠ ya ∧ ∀ k ∈ ys.take i, (goal.take m).count k ≤ line.count k)
    ⟨none, none, none, rfl, e14, h4, e4 _ _ (e3 _ _ (e2 _ _ h1)), ne_fr hya (e3 _ _ (e2 _ _ h1)), fun k hk => absurd hk List.not_mem_nil⟩ (fun i σ' H' _ q => ?_) (fun i x σ' H' hx q => ?_) (fun σ' H' q => ?_)⟩
  · obtain ⟨_, _, _, _, _, q, _⟩ := q
    exact sq_of q
  · obtain ⟨k, hk, rfl⟩ := get?_map' hx
    obtain ⟨o4, o5, o6, rfl, e, hy, hf, nfy, hcov⟩ := q
    refine ⟨_, rfl, la, _, rfl, .inl (sq_of (e _ _ hla)), ?_⟩
    rw [List.length_map]
    refine ⟨(line.length : Nat), rfl, by omega, by omega, ?_⟩
    rw [Int.toNat_natCast]
    refine lcR (fun p => decide (line[p]? = some k)) (fun p => V.int (p : Int)) (by omega) (fun p hp H5 e5 Q5 q5 => ?_) (fun p hp _ => Evl.ev_var rfl) (fun D H5 hD e5 h5 => ?_)
    · refine ⟨_, rfl, _, rfl, la, _, _, .str line[p], rfl, rfl, sq_of (e5 _ _ (e _ _ hla)), atI_nat (by rw [List.getElem?_map, List.getElem?_eq_getElem hp]; rfl), _, rfl, rfl, _, rfl, ?_⟩
      have ed : decide (V.str line[p] = V.str k) = decide (line[p]? = some k) := decide_eq_decide.mpr (by rw [List.getElem?_eq_getElem hp, V.str.injEq, Option.some.injEq])
      rw [ed]
      exact q5 H5 (Ex.refl H5)
    · have h5' : LI H5 D (K76.placesOf line k) := h5
      refine ⟨_, rfl, _, rfl, _, rfl, ga, _, rfl, sq_of (e5 _ _ (e _ _ hga)), fun s2 hs2 => ?_⟩
      rw [cutV_to, ← List.map_take]
      generalize hE : L2.upd H5 s2 (.lst ((goal.take m).map V.str)) = H6
      have e6 : Sm H5 H6 := hE ▸ Evl.Ex.new hs2
      have h6 : H6 s2 = some (.lst ((goal.take m).map V.str)) := hE ▸ L2.upd_same
      clear hE
      refine ⟨.inl ⟨rfl, _, sq_of h6⟩, _, rfl, s2, goal.take m, k, rfl, rfl, sq_of h6, ?_⟩
      have h6' : LI H6 D (K76.placesOf line k) := e6 _ _ h5'
      refine ⟨_, rfl, D, _, rfl, .inl (sq_of h6'), _, rfl, _, _, rfl, rfl, _, rfl, ?_⟩
      rw [List.length_map, K76.placesOf_length]
      by_cases hc : line.count k < (goal.take m).count k
      · refine ifT (decide_eq_true (by omega)) (hQ _ _ ((e.trans e5).trans e6) ?_)
        rw [K76.keptM_no1 hc]
        rfl
      · refine ifF (decide_eq_false (by omega)) ?_
        refine ⟨_, rfl, .inl ⟨rfl, _, sq_of (e6 _ _ (e5 _ _ hf))⟩, _, rfl, _, rfl, D, _, rfl, .inl (sq_of h6'), _, rfl, _, _, rfl, rfl, _, rfl, D, _, rfl, sq_of h6', fun s3 hs3 => ?_⟩
        have ei : (((K76.placesOf line k).map fun n : Nat => V.int (n : Int)).length : Int) - ((goal.take m).count k : Nat) = (((K76.placesOf line k).length - (goal.take m).count k : Nat) : Int) := by
          have := K76.placesOf_length line k
          rw [List.length_map]
          omega
        rw [ei, cutV_from, ← List.map_drop]
        generalize hE : L2.upd H6 s3 (.lst (((K76.placesOf line k).drop ((K76.placesOf line k).length - (goal.take m).count k)).map fun n : Nat => V.int (n : Int))) = H7
        have e7 : Sm H6 H7 := hE ▸ Evl.Ex.new hs3
        have h7 : H7 s3 = some (.lst (((K76.placesOf line k).drop ((K76.placesOf line k).length - (goal.take m).count k)).map fun n : Nat => V.int (n : Int))) := hE ▸ L2.upd_same
        clear hE
        have eA : Sm H' H7 := (e5.trans e6).trans e7
        have hf7 := eA _ _ hf
        have fl := flat_len line (goal.take m) (ys.take i)
        have tl := List.length_take_le' i ys
        have ll := lastOf_len line k ((goal.take m).count k)
        refine ⟨fa, s3, _, _, rfl, rfl, hf7, h7, ?_, ?_⟩
        · rw [List.length_map, List.length_map]
          show _ + (K76.lastOf line k ((goal.take m).count k)).length ≤ sizeLine
          have b1 : (ys.take i).length * line.length ≤ 1000 * 1000 := Nat.mul_le_mul (by omega) hz
          have b2 : 1001000 ≤ sizeLine := by decide
          omega
        · refine ⟨_, _, _, rfl, (e.trans eA).put hfa, put_ne (eA _ _ hy) nfy.symm, ?_, nfy, fun y hy2 => ?_⟩
          · rw [take_succ' hk, List.flatMap_append, ← List.map_append]
            show upd _ _ _ _ = _
            rw [upd_same]
            have : ([k].flatMap fun k => K76.lastOf line k ((goal.take m).count k)) = K76.lastOf line k ((goal.take m).count k) := by simp
            rw [this]
            rfl
          · rw [take_succ' hk] at hy2
            rcases List.mem_append.mp hy2 with q | q
            · exact hcov y q
            · rw [List.mem_singleton.mp q]; omega
  · obtain ⟨o4, o5, o6, rfl, e, hy, hf, nfy, hcov⟩ := q
    rw [List.length_map, List.take_length] at hf hcov
    have hf2 : H' fa = some (.lst (((ys.flatMap fun k => K76.lastOf line k ((goal.take m).count k)).map fun n : Nat => (n : Int)).map V.int)) := by
      rw [List.map_map]
      exact hf
    refine ⟨_, rfl, fa, _, rfl, sq_of hf2, fun ns' p hperm hsorted hp => ?_⟩
    obtain ⟨ms, rfl, mp⟩ := nats_back hperm
    generalize hE : L2.upd H' p (.lst ((ms.map fun n : Nat => (n : Int)).map V.int)) = H5
    have e5 : Sm H' H5 := hE ▸ Evl.Ex.new hp
    have h5 : H5 p = some (.lst ((ms.map fun n : Nat => (n : Int)).map V.int)) := hE ▸ L2.upd_same
    clear hE
    have h5' : LI H5 p ms := by
      rw [List.map_map] at h5
      exact h5
    have ms_s : ms.Pairwise (· ≤ ·) := (List.pairwise_map.mp hsorted).imp fun h => Int.ofNat_le.mp h
    have key : ms = K76.sel (goal.take m) 0 line := K76.law_kept ynd (fun k hk => (ymem k).mpr hk) mp ms_s
    have cov : ∀ y, (goal.take m).count y ≤ line.count y := fun y => by
      by_cases hy : y ∈ goal.take m
      · exact hcov y ((ymem y).mpr hy)
      · rw [List.count_eq_zero.mpr hy]; exact Nat.zero_le _
    have lt : ∀ q ∈ ms, q < line.length := fun q hq => by
      rw [key] at hq
      have := K76.sel_ge hq
      omega
    have ml : ms.length ≤ 1000000 := by
      have := mp.length_eq
      have := flat_len line (goal.take m) ys
      have b1 : ys.length * line.length ≤ 1000 * 1000 := Nat.mul_le_mul yl hz
      omega
    have ml2 : ms.length ≤ 1000 := by
      have q := (asc_le (key ▸ K76.sel_sorted : ms.Pairwise (· < ·)) lt)
      omega
    have okT : okS (goal.take m) := fun x hx => okg x (List.mem_of_mem_take hx)
    refine ⟨_, rfl, p, rfl, ⟨_, sq_of h5'⟩, lcLy (enc := fun n : Nat => V.int (n : Int)) (fun q => V.str (line.getD q Str.empty)) (sq_of h5') (by omega) (fun y hy H6 e6 Q2 q2 => ?_) (fun D H6 hD e6 h6 => ?_)⟩
    · refine ⟨_, rfl, _, rfl, la, _, _, _, rfl, rfl, sq_of (e6 _ _ (e5 _ _ (e _ _ hla))), atI_nat (v := .str (line.getD y Str.empty)) ?_, q2 H6 (Ex.refl H6)⟩
      have hy' := lt y hy
      rw [List.getElem?_map, List.getElem?_eq_getElem hy']
      simp [List.getD, List.getElem?_eq_getElem hy']
    · refine ⟨_, rfl, _, rfl, _, rfl, ga, _, rfl, sq_of (e6 _ _ (e5 _ _ (e _ _ hga))), fun s2 hs2 => ?_⟩
      rw [cutV_to, ← List.map_take]
      generalize hE : L2.upd H6 s2 (.lst ((goal.take m).map V.str)) = H7
      have e7 : Sm H6 H7 := hE ▸ Evl.Ex.new hs2
      have h7 : H7 s2 = some (.lst ((goal.take m).map V.str)) := hE ▸ L2.upd_same
      clear hE
      have h6' : LS H6 D (K76.pick line ms) := by
        rw [pick_map lt]
        show _ = some (HO.lst _)
        rw [List.map_map]
        exact h6
      have okp : okS (K76.pick line ms) := fun x hx => by
        unfold K76.pick at hx
        obtain ⟨i, _, hi⟩ := List.mem_filterMap.mp hx
        exact okl x (List.mem_of_getElem? hi)
      refine ⟨_, _, dp_ls (e7 _ _ h6'), dp_ls h7, sh_strs okp, sh_strs okT, _, rfl, ?_⟩
      rw [Datum.eqv]
      have eE : Sm H H7 := ((e.trans e5).trans e6).trans e7
      by_cases hpk : K76.pick line ms = goal.take m
      · refine ifT (decide_eq_true hpk) ⟨_, rfl, hQ _ _ eE ?_⟩
        rw [K76.keptM_yes cov (key ▸ hpk)]
        exact ⟨p, rfl, key ▸ e7 _ _ (e6 _ _ h5')⟩
      · refine ifF (decide_eq_false hpk) (hQ _ _ eE ?_)
        rw [K76.keptM_no2 (key ▸ hpk)]
        rfl
end
end K7

set_option Elab.async false
set_option linter.all false
set_option maxRecDepth 100000
set_option maxHeartbeats 1000000
namespace K7
open PySem PySem.Spec PyProof.Rows L2
open PySem.W (Datum)
open Evl (Ex Ev EvT EvL EvA ex_l ex_t sq_of st_of sz_of sz_lt fresh_back)
section
variable {P : Program} {w : World} {K : PySem.W.Frag} {mg : Str → Option Value} {base : Heap}
/-- the mates of a kind: what the object built from the plan tells -/
def mtQ (ks : List Str) (ps : List (Str × Str)) : Str → List Str := mtL (sortK ks) (sortP (ordP ps))
theorem mtQ_mem {ks : List Str} {ps : List (Str × Str)} {x m : Str} (hx : x ∈ ks) : m ∈ mtQ ks ps x ↔ m ∈ ks ∧ fitP ps m x = true := by
  unfold mtQ mtL mtS
  rw [List.mem_filter, List.any_eq_true, (sortK_perm ks).mem_iff, fit_ord, decide_eq_true_eq]
  constructor
  · rintro ⟨h1, o, h2, h3⟩
    have := List.mem_singleton.mp (of_decide_eq_true h3)
    subst this
    exact ⟨h1, (sortP_perm _).mem_iff.mp (of_decide_eq_true (List.mem_filter.mp h2).2)⟩
  · rintro ⟨h1, h2⟩
    exact ⟨h1, x, List.mem_filter.mpr ⟨(sortK_perm ks).mem_iff.mpr hx, decide_eq_true ((sortP_perm _).mem_iff.mpr h2)⟩, decide_eq_true (List.mem_singleton.mpr rfl)⟩
/-- the law's own list of the mates -/
def lmQ (ks : List Str) (ps : List (Str × Str)) (k : Str) : List Str := sortK (ks.filter fun y => [k].any fun o => fitP ps y o)
theorem lmQ_mem {ks : List Str} {ps : List (Str × Str)} {x m : Str} (hx : x ∈ ks) : m ∈ lmQ ks ps x ↔ m ∈ mtQ ks ps x := by
  rw [mtQ_mem hx]
  unfold lmQ
  rw [(sortK_perm _).mem_iff, List.mem_filter]
  simp
theorem lmQ_len (ks : List Str) (ps : List (Str × Str)) (k : Str) : (lmQ ks ps k).length ≤ ks.length := by
  unfold lmQ
  rw [(sortK_perm _).length_eq]
  exact List.length_filter_le _ _
theorem merge_new : ∀ {more acc : List (Key × V)}, ((acc ++ more).map (·.1)).Nodup → mergeK acc more = acc ++ more
  | [], acc, _ => by rw [List.append_nil]; rfl
  | kv :: more, acc, h => by
    have hn : ∀ x ∈ acc, x.1 ≠ kv.1 := fun x hx z => by
      rw [List.map_append, List.map_cons] at h
      exact (List.nodup_append.mp h).2.2 x.1 (List.mem_map_of_mem hx) kv.1 List.mem_cons_self z
    have e : acc ++ kv :: more = (acc ++ [kv]) ++ more := by rw [List.append_assoc]; rfl
    show mergeK (putK acc kv.1 kv.2) more = _
    rw [putK_new hn, e]
    exact merge_new (by rw [← e]; exact h)
theorem paired_mapM {α β : Type} {F G : α → β → Prop} : ∀ {xs : List α} {ys : List β}, Paired F xs ys → (∀ a b, b ∈ ys → F a b → G a b) → Paired G xs ys
  | _, _, .nil, _ => .nil
  | _, _, .cons h t, k => .cons (k _ _ List.mem_cons_self h) (paired_mapM t fun a b hb => k a b (List.mem_cons_of_mem _ hb))
theorem map_fst {m : Str → V} (ks : List Str) : (ks.map fun k => ((.inr k : Key), m k)).map (·.1) = ks.map Sum.inr := by rw [List.map_map]; rfl
theorem nodup_inr {ks : List Str} (h : ks.Nodup) : (ks.map (Sum.inr : Str → Key)).Nodup := by
  unfold List.Nodup
  rw [List.pairwise_map]
  exact h.imp fun h z => h (by injection z)
theorem ev_eqNs {K : PySem.W.Frag} {σ : L2.St} {H : Hp} {ta : TE} {a : Addr} {xs : List Str} (h : Ev ta σ H (.ref a)) (hx : LS H a xs) (ok : okS xs) : Ev (tOp (rEqD K) ta (tLst tNil)) σ H (.bl (decide (xs = []))) := fun H1 e1 Q q =>
  h H1 e1 _ fun H2 e2 => ⟨Nat.zero_le _, fun p hp => ⟨_, _, dp_ls (Ex.new hp _ _ (e2 _ _ (e1 _ _ hx))), dp_ls (xs := []) upd_same, sh_strs ok, sh_strs (fun x hx => absurd hx List.not_mem_nil), by rw [Datum.eqv]; exact q _ (e2.trans (Ex.new hp))⟩⟩
theorem ev_neNs {K : PySem.W.Frag} {σ : L2.St} {H : Hp} {ta : TE} {a : Addr} {xs : List Str} (h : Ev ta σ H (.ref a)) (hx : LS H a xs) (ok : okS xs) : Ev (tOp (rNeD K) ta (tLst tNil)) σ H (.bl (!decide (xs = []))) := fun H1 e1 Q q =>
  h H1 e1 _ fun H2 e2 => ⟨Nat.zero_le _, fun p hp => ⟨_, _, dp_ls (Ex.new hp _ _ (e2 _ _ (e1 _ _ hx))), dp_ls (xs := []) upd_same, sh_strs ok, sh_strs (fun x hx => absurd hx List.not_mem_nil), by rw [Datum.eqv]; exact q _ (e2.trans (Ex.new hp))⟩⟩
theorem ev_eqNn {K : PySem.W.Frag} {σ : L2.St} {H : Hp} {ta : TE} {a : Addr} {xs : List Nat} (h : Ev ta σ H (.ref a)) (hx : LI H a xs) : Ev (tOp (rEqD K) ta (tLst tNil)) σ H (.bl (decide (xs = []))) := fun H1 e1 Q q =>
  h H1 e1 _ fun H2 e2 => ⟨Nat.zero_le _, fun p hp => ⟨_, _, dp_li (Ex.new hp _ _ (e2 _ _ (e1 _ _ hx))), dp_li (xs := []) upd_same, sh_nats _, sh_nats _, by rw [eqv_nats]; exact q _ (e2.trans (Ex.new hp))⟩⟩
theorem ev_inN {K : PySem.W.Frag} {σ : L2.St} {H : Hp} {ta tb : TE} {a : Addr} {i : Nat} {xs : List Nat} (h1 : Ev ta σ H (.int (i : Int))) (h2 : Ev tb σ H (.ref a)) (hx : LI H a xs) : Ev (tOp (rIn K false) ta tb) σ H (.bl (decide (i ∈ xs))) :=
  Evl.ev_is (Evl.ev_op h1 h2 (Evl.rv_inL (neg := false) (sq_of hx) rfl (flat_nats xs))) (by show V.bl (inV _ _) = _; rw [inV_nats])
theorem ev_niN {K : PySem.W.Frag} {σ : L2.St} {H : Hp} {ta tb : TE} {a : Addr} {i : Nat} {xs : List Nat} (h1 : Ev ta σ H (.int (i : Int))) (h2 : Ev tb σ H (.ref a)) (hx : LI H a xs) : Ev (tOp (rIn K true) ta tb) σ H (.bl (!decide (i ∈ xs))) :=
  Evl.ev_is (Evl.ev_op h1 h2 (Evl.rv_inL (neg := true) (sq_of hx) rfl (flat_nats xs))) (by show V.bl (!inV _ _) = _; rw [inV_nats])
def sp_law_left : Sp := fun vs H Q _ => ∃ (pl la fx : Addr) (ks : List Str) (ps : List (Str × Str)) (line : List Str) (fixed : List Nat), vs = [.ref pl, .ref la, .ref fx] ∧ PlanAt H pl ks ps ∧ PlanOk ks ps ∧ LS H la line ∧ LI H fx fixed ∧ line.length ≤ 1000 ∧ (∀ k ∈ line, k ∈ ks) ∧
  ∀ r H' left, Sm H H' → H r = none → LI H' r left → (left = [] ↔ K76.stuckM (mtQ ks ps) line fixed = []) → Q (.ref r) H'
theorem c_law_left (T : Tx P w K mg base) : C8.Cal P w K mg base 3 "_law_left" sp_law_left [] := by
  obtain ⟨f, fd, F, df⟩ := T.d "_law_left" 38 (by decide +kernel)
  have sc : FnScope ["_law_plan_here", "_law_line_here", "_law_fixed", "_law_mates_here", "_law_found", "_law_barred", "_law_place", "_law_free", "_law_kind"] ["_law_plan_here", "_law_line_here", "_law_fixed"] (C8.fnScope (top 38)) := C8.fnScope_by (by decide +kernel)
  have nd := sc.nd
  have c_law_mates := c_law_mates T
  refine C8.cal0 F (F.fn.binds df (ps := ["_law_plan_here", "_law_line_here", "_law_fixed"]) fun _ _ _ _ _ _ us hl => match us, hl with | [_, _, _], _ => rfl) .nil sc (fun vs H Q E h => by obtain ⟨_, _, _, _, _, _, _, rfl, _⟩ := h; rfl) fun cdv A outer s H vs Q E hr h => ?_
  refine ⟨_, PSs.nox (pss_cons (ps_set (i := 3) nd rfl (.inl rfl) (pe_callTy (call_dictP rfl) (by rfl) T.b_dict (by decide +kernel) (pa_cons (pe_lc (own := [("_law_kind", 8)]) (g := (gName 8)) (tt := tYes) rfl nd (k_pi_list (K := K) (pe_dget (hu_of hr) (pv 0) pe_str (fun _ _ => rfl))) (blkOk_by (by kernel_rfl)) (fun _ _ _ _ _ => (pg_name (i := 8) nd rfl (.inl rfl))) (fun _ _ _ _ _ => pts_nil) (fun _ _ _ _ _ => (pe_tup (pa_cons (pv 8) (pa_cons (C8.pe_c c_law_mates hr (by decide) rfl (pa_cons (pv 0) (pa_cons (pe_lst (pa_cons (pv 8) pa_nil)) pa_nil))) pa_nil))))) pa_nil)))
    (pss_cons (ps_asg (pe_tup (pa_cons (pe_lst pa_nil) (pa_cons (pe_lst pa_nil) pa_nil))) (k_pg_tup (K := K) (n := 2) rfl (pgs_cons (pg_name (i := 4) nd rfl (.inl rfl)) (pgs_cons (pg_name (i := 5) nd rfl (.inr rfl)) pgs_nil))))
    (pss_cons (ps_for PassesOwn.never rfl (pi_range1 (by rfl) T.b_range (pa_cons (pe_callB (k_len_seq (K := K)) (by rfl) T.b_len (by decide +kernel) (pa_cons (pv 1) pa_nil)) pa_nil)) (pg_name (i := 6) nd rfl (.inl rfl)) (pss_cons (ps_setLc (i := 7) (own := [("_law_kind", 8)]) (g := (gName 8)) rfl nd rfl rfl (sw_true rfl rfl rfl (by decide +kernel)) (k_pi_list (K := K) (pe_dget (hu_of hr) (pv 3) (pe_ix (k_ix_list (K := K)) (pv 1) (pv 6) (fun _ _ => rfl)) (fun _ _ => rfl))) (blkOk_by (by kernel_rfl)) (fun _ _ _ _ _ => (pg_name (i := 8) nd rfl (.inl rfl))) (fun _ _ _ _ _ => (pts_one (pt_cmpR (k_notIn_seq (K := K)) (pv 8) (pv 5) (by rfl)))) (fun _ _ _ _ _ => (pv 8)))
    (pss_cons (ps_if (PW.pt (pw_and (pt_cmpR (k_notIn_seq (K := K)) (pv 6) (pv 2) (by rfl)) (pw_and1 (pt_cmpR (k_eqD (K := K) hr.units) (pv 7) (pe_lst pa_nil) (nomark _))))) (pss_one (ps_expr (pe_bm PySem.F.plainAttrs_list PySem.F.slot_list_append PySem.F.type_list_append mt_append (pv 4) (pa_cons (pv 6) pa_nil)))) pss_nil)
    (pss_one (ps_if (PW.pt (pw_or (pt_cmpR (k_in_seq (K := K)) (pv 6) (pv 2) (by rfl)) (pw_or1 (pt_cmpR (k_eqD (K := K) hr.units) (pv 7) (pe_lst pa_nil) (nomark _))))) (pss_one (ps_set (i := 5) nd rfl (.inr rfl) (pe_callB (k_sortTx (w := w) rfl hr.units) (by rfl) T.b_sorted (by decide +kernel) (pa_cons (pe_callTy (k_setTx (K := K) (w := w) rfl) (by rfl) T.b_set (by decide +kernel) (pa_cons (pe_op op_cat (pv 5) (pe_dget (hu_of hr) (pv 3) (pe_ix (k_ix_list (K := K)) (pv 1) (pv 6) (fun _ _ => rfl)) (fun _ _ => rfl))) pa_nil)) pa_nil)))) pss_nil)))))
    (pss_one (ps_ret (pv 4)))))), ?_⟩
  obtain ⟨pl, la, fx, ks, ps, line, fixed, rfl, hP, ok, hla, hfx, hz, hsub, hQ⟩ := h
  obtain ⟨ka, pa, hd, hka, hpa⟩ := id hP
  have k8 := ok.hi
  refine ⟨_, rfl, pl, _, rfl, dget_k hd, ka, rfl, ⟨_, sq_of hka⟩, fun D hD => ?_⟩
  refine lc_list (xs := ks.map V.str) (fun i H' => ∃ (rs : List Addr) (m : Str → Addr), Sm H H' ∧ H' D = some (.lst (rs.map V.ref)) ∧ Paired (fun r k => H' r = some (.tup [.str k, .ref (m k)])) rs (ks.take i) ∧ ∀ k ∈ ks.take i, m k ≠ D ∧ LS H' (m k) (lmQ ks ps k))
    ⟨[], fun _ => 0, Ex.new hD, upd_same, .nil, fun k hk => absurd hk List.not_mem_nil⟩ (fun i H' _ q => sq_of (q.choose_spec.choose_spec.1 _ _ hka)) (fun i x H' hx q => ?_) (fun H' q => ?_)
  · obtain ⟨k, hk, rfl⟩ := get?_map' hx
    obtain ⟨rs, m, e, hD1, hprs, hm⟩ := q
    have km := List.mem_of_getElem? hk
    refine ⟨rfl, ?_⟩
    refine ⟨_, rfl, _, rfl, _, rfl, one_le, fun t ht => ?_⟩
    generalize hE : L2.upd H' t (.lst [.str k]) = H1
    have e1 : Sm H' H1 := hE ▸ Evl.Ex.new ht
    have h1 : H1 t = some (.lst [.str k]) := hE ▸ L2.upd_same
    clear hE
    refine ⟨pl, t, ks, [k], ps, rfl, hP.mono (e.trans e1), ok, h1, fun z hz2 => by rw [List.mem_singleton.mp hz2]; exact ok.okS k km, (show 1 ≤ 1000 by decide), fun r H2 e2 hr2 hl2 => ⟨two_le, fun u hu => ?_⟩⟩
    have e12 : Sm H' H2 := e1.trans e2
    generalize hE : L2.upd H2 u (.tup [.str k, .ref r]) = H3
    have e3 : Sm H2 H3 := hE ▸ Evl.Ex.new hu
    have h3 : H3 u = some (.tup [.str k, .ref r]) := hE ▸ L2.upd_same
    clear hE
    have e13 := e12.trans e3
    have hkn : k ∉ ks.take i := fun z => by
      have q := ok.nd.sublist (List.take_sublist (i + 1) ks)
      rw [take_succ' hk] at q
      exact (List.nodup_append.mp q).2.2 _ z _ (List.mem_singleton.mpr rfl) rfl
    obtain ⟨m', hm'k, hm'o⟩ : ∃ m' : Str → Addr, m' k = r ∧ ∀ y, y ≠ k → m' y = m y := ⟨fun x => if x = k then r else m x, if_pos rfl, fun y h => if_neg h⟩
    have nD : ∀ a xs, H3 a = some (.tup xs) → a ≠ D := fun a xs h => ne_of h (e13 _ _ hD1) nofun
    refine ⟨_, e13 _ _ hD1, bigS _ ?_, rs ++ [u], m', (e.trans e13).put hD, ?_, ?_, fun y hy => ?_⟩
    · rw [List.length_map, Paired.length hprs]
      have := List.length_take_le' i ks
      omega
    · rw [List.map_append]; exact upd_same
    · rw [take_succ' hk]
      refine (paired_mapM hprs fun a b hb q => ?_).snoc ?_
      · rw [hm'o b (fun z => hkn (z ▸ hb))]
        exact put_ne (e13 _ _ q) (nD _ _ (e13 _ _ q))
      · rw [hm'k]
        refine put_ne h3 (nD _ _ h3)
    · rw [take_succ' hk] at hy
      rcases List.mem_append.mp hy with q | q
      · have nk : y ≠ k := fun z => hkn (z ▸ q)
        rw [hm'o y nk]
        obtain ⟨g1, g2⟩ := hm y q
        exact ⟨g1, put_ne (e13 _ _ g2) g1⟩
      · rw [List.mem_singleton.mp q, hm'k]
        have hrD : r ≠ D := (ne_fr hr2 (e1 _ _ hD1)).symm
        exact ⟨hrD, put_ne (e3 _ _ hl2) hrD⟩
  · obtain ⟨rs, m, e, hD1, hprs, hm⟩ := q
    rw [List.length_map, List.take_length] at hprs hm
    refine ⟨D, rs, ks.map fun k => ((.inr k : Key), V.ref (m k)), rfl, sq_of hD1, ?_, fun da hda => ?_⟩
    · have go : ∀ {rs : List Addr} {kk : List Str}, Paired (fun r k => H' r = some (.tup [.str k, .ref (m k)])) rs kk → Paired (fun p (kv : Key × V) => SqT K H' p [kV kv.1, kv.2]) rs (kk.map fun k => ((.inr k : Key), V.ref (m k))) := fun {rs kk} h => by
        induction h with
        | nil => exact .nil
        | cons h _ ih => exact .cons (st_of h) ih
      exact go hprs
    rw [merge_new (acc := []) (by rw [List.nil_append, map_fst]; exact nodup_inr ok.nd), List.nil_append]
    generalize hE : L2.upd H' da (.dK (ks.map fun k => ((.inr k : Key), V.ref (m k)))) = H1
    have e1 : Sm H' H1 := hE ▸ Evl.Ex.new hda
    have h1 : H1 da = some (.dK (ks.map fun k => ((.inr k : Key), V.ref (m k)))) := hE ▸ L2.upd_same
    clear hE
    refine ⟨Nat.zero_le _, fun fa hfa => ?_⟩
    generalize hE : L2.upd H1 fa (.lst []) = H2
    have e2 : Sm H1 H2 := hE ▸ Evl.Ex.new hfa
    have h2 : H2 fa = some (.lst []) := hE ▸ L2.upd_same
    clear hE
    refine ⟨Nat.zero_le _, fun ba hba => ?_⟩
    generalize hE : L2.upd H2 ba (.lst []) = H3
    have e3 : Sm H2 H3 := hE ▸ Evl.Ex.new hba
    have h3 : H3 ba = some (.lst []) := hE ▸ L2.upd_same
    clear hE
    refine ⟨two_le, fun t ht => ⟨t, _, rfl, st_of upd_same, rfl, _, _, rfl, _, _, rfl, rfl, ?_⟩⟩
    generalize hE : L2.upd H3 t (.tup [.ref fa, .ref ba]) = H4
    have e4 : Sm H3 H4 := hE ▸ Evl.Ex.new ht
    have h4 : H4 t = some (.tup [.ref fa, .ref ba]) := hE ▸ L2.upd_same
    clear hE
    have e01 : Sm H H1 := e.trans e1
    have e04 : Sm H H4 := ((e01.trans e2).trans e3).trans e4
    have nfb : fa ≠ ba := ne_fr hba h2
    have hf0 : H fa = none := fresh_back e01 hfa
    have gm : ∀ k ∈ ks, ∀ {H5 : Hp}, Sm H4 H5 → LS H5 (m k) (lmQ ks ps k) := fun k hk H5 e5 => e5 _ _ (e4 _ _ (e3 _ _ (e2 _ _ (e1 _ _ (hm k hk).2))))
    have gmf : ∀ k ∈ ks, m k ≠ fa := fun k hk => ne_fr hfa (e1 _ _ (hm k hk).2)
    refine ⟨_, rfl, la, _, rfl, .inl (sq_of (e04 _ _ hla)), ?_⟩
    rw [List.length_map]
    refine ⟨(line.length : Nat), rfl, by omega, by omega, ?_⟩
    rw [Int.toNat_natCast]
    refine for_range (lo := 0) (fun i σ' H' => ∃ (ba : Addr) (o6 o7 : Option V) (stuck : List Nat) (barred : List Str), σ' = [some (.ref pl), some (.ref la), some (.ref fx), some (.ref da), some (.ref fa), some (.ref ba), o6, o7, none] ∧ Sm H H' ∧ H' da = some (.dK (ks.map fun k => ((.inr k : Key), V.ref (m k)))) ∧ (∀ k ∈ ks, LS H' (m k) (lmQ ks ps k)) ∧ (∀ k ∈ ks, m k ≠ fa) ∧ LI H' fa stuck ∧ LS H' ba barred ∧ ba ≠ fa ∧ stuck.length ≤ i ∧ barred.Nodup ∧ (∀ k ∈ barred, k ∈ ks) ∧ K76.Scan (mtQ ks ps) line fixed i stuck barred)
      ⟨ba, none, none, [], [], rfl, e04, e4 _ _ (e3 _ _ (e2 _ _ h1)), fun k hk => gm k hk (Ex.refl _), gmf, e4 _ _ (e3 _ _ h2), e4 _ _ h3, nfb.symm, Nat.zero_le _, List.Pairwise.nil, fun k hk => absurd hk List.not_mem_nil, K76.Scan.zero⟩ (fun i σ' H5 hi q => ?_) (fun σ' H5 q => ?_)
    · obtain ⟨ba, o6, o7, stuck, barred, rfl, e, hda, hms, hmf, hf, hb, nbf, hl, hbn, hbs, hS⟩ := q
      rw [Int.zero_add]
      have hx : line[i]? = some line[i] := List.getElem?_eq_getElem hi
      have hxk : line[i] ∈ ks := hsub _ (List.getElem_mem hi)
      revert hx hxk
      generalize line[i] = x
      intro hx hxk
      have hix : atI (line.map V.str) (i : Int) = some (.str x) := atI_nat (by rw [List.getElem?_map, hx]; rfl)
      have hget : ∀ {H6 : Hp}, H6 da = some (.dK (ks.map fun k => ((.inr k : Key), V.ref (m k)))) → DGet H6 da (.str x) (some (.ref (m x))) := fun h => .inl ⟨_, .inr x, .inl h, rfl, (valV_map (m := fun k => V.ref (m k)) hxk).symm⟩
      refine ⟨_, rfl, _, rfl, _, rfl, la, _, _, _, rfl, rfl, sq_of (e _ _ hla), hix, da, _, rfl, hget hda, m x, rfl, ⟨_, sq_of (hms x hxk)⟩, ?_⟩
      refine lcL (fun y => decide (y ∉ barred)) V.str (sq_of (hms x hxk)) (Nat.le_trans (lmQ_len ks ps x) (by omega)) (fun y hy H6 e6 Q6 q6 => ?_) (fun y hy _ => Evl.ev_var rfl) (fun va H6 hva e6 h6 => ?_)
      · refine ⟨_, rfl, _, rfl, ba, _, rfl, .inl (sq_of (e6 _ _ hb)), rfl, flat_strs' _, _, rfl, ?_⟩
        show Q6 (!inV (.str y) (barred.map V.str)) H6
        rw [inV_strs, ← decide_not]
        exact q6 H6 (Ex.refl H6)
      have hfree : ((lmQ ks ps x).filter fun y => decide (y ∉ barred)) = [] ↔ ¬ ∃ m, m ∈ mtQ ks ps x ∧ m ∉ barred := by
        rw [List.filter_eq_nil_iff]
        constructor
        · rintro h ⟨y, h1, h2⟩
          exact h y ((lmQ_mem hxk).mpr h1) (decide_eq_true h2)
        · intro h y h1 h2
          exact h ⟨y, (lmQ_mem hxk).mp h1, of_decide_eq_true h2⟩
      have hfo : okS ((lmQ ks ps x).filter fun y => decide (y ∉ barred)) := fun y hy => ok.okS y ((mtQ_mem hxk).mp ((lmQ_mem hxk).mp (List.mem_filter.mp hy).1)).1
      revert h6 hfree hfo
      generalize ((lmQ ks ps x).filter fun y => decide (y ∉ barred)) = fr
      intro h6 hfree hfo
      -- the second if: barred grows where need be
      have second : ∀ (D : Ends) (stuck' : List Nat) (H7 : Hp), (∀ (ba2 : Addr) (barred' : List Str) (H8 : Hp), Sm H H8 → H8 da = some (.dK (ks.map fun k => ((.inr k : Key), V.ref (m k)))) → (∀ k ∈ ks, LS H8 (m k) (lmQ ks ps k)) → LI H8 fa stuck' → LS H8 ba2 barred' → ba2 ≠ fa → barred'.Nodup → (∀ k ∈ barred', k ∈ ks) → K76.Scan (mtQ ks ps) line fixed (i + 1) stuck' barred' →
            D.nx [some (.ref pl), some (.ref la), some (.ref fx), some (.ref da), some (.ref fa), some (.ref ba2), some (.int (i : Int)), some (.ref va), none] H8) →
          Sm H H7 → H7 da = some (.dK (ks.map fun k => ((.inr k : Key), V.ref (m k)))) → (∀ k ∈ ks, LS H7 (m k) (lmQ ks ps k)) → LI H7 fa stuck' → LS H7 ba barred → LS H7 va fr →
          ((i ∈ fixed ∨ fr = []) → ∀ barred', (∀ y, y ∈ barred' ↔ y ∈ barred ∨ y ∈ mtQ ks ps x) → K76.Scan (mtQ ks ps) line fixed (i + 1) stuck' barred') → (¬ (i ∈ fixed ∨ fr = []) → K76.Scan (mtQ ks ps) line fixed (i + 1) stuck' barred) →
          tIfS (tOr (tTest (tOp (rIn K false) (tVar 6) (tVar 2))) (tTest (tOp (rEqD K) (tVar 7) (tLst tNil))))
            (tAsg (tCB (rSortTx w) (tCons (tCB (rSetTx K w) (tCons (tOp rCat (tVar 5) (tDGet (tVar 3) (tOp (rIxL K) (tVar 1) (tVar 6)))) tNil)) tNil)) (gName 5)) tNext D
            [some (.ref pl), some (.ref la), some (.ref fx), some (.ref da), some (.ref fa), some (.ref ba), some (.int (i : Int)), some (.ref va), none] H7 := fun D stuck' H7 hN f1 f2 f3 f4 f5 f6 s1 s2 => by
        refine Evl.s_when (Evl.et_or (Evl.et_test (ev_inN (Evl.ev_var rfl) (Evl.ev_var rfl) (f1 _ _ hfx))) (fun _ => Evl.et_test (ev_eqNs (Evl.ev_var rfl) f6 hfo))) (fun hc H8 e8 => ?_) (fun hc H8 e8 => ?_)
        · rw [Bool.or_eq_true, decide_eq_true_eq, decide_eq_true_eq] at hc
          refine ⟨_, rfl, _, rfl, _, rfl, _, rfl, la, _, _, _, rfl, rfl, sq_of (e8 _ _ (f1 _ _ hla)), hix, da, _, rfl, hget (e8 _ _ f2), ba, m x, _, _, rfl, rfl, e8 _ _ f5, e8 _ _ (f3 x hxk), Evl.sz_of ?_, fun p hp => ?_⟩
          · rw [List.length_map, List.length_map]
            have := nodup_le hbn hbs
            have := lmQ_len ks ps x
            omega
          rw [← List.map_append]
          generalize hE : L2.upd H8 p (.lst ((barred ++ lmQ ks ps x).map V.str)) = H9
          have e9 : Sm H8 H9 := hE ▸ Evl.Ex.new hp
          have g9 : H9 p = some (.lst ((barred ++ lmQ ks ps x).map V.str)) := hE ▸ L2.upd_same
          clear hE
          refine ⟨p, _, rfl, sq_of g9, ?_, fun sa us hsa hdu => ?_⟩
          · rw [List.length_append]
            have := nodup_le hbn hbs
            have := lmQ_len ks ps x
            omega
          generalize hE : L2.upd H9 sa (SetTO w sa us) = HA
          have eA : Sm H9 HA := hE ▸ Evl.Ex.new hsa
          have gA : HA sa = some (SetTO w sa us) := hE ▸ L2.upd_same
          clear hE
          refine ⟨sa, us, rfl, gA, fun q ys hq hys => ?_⟩
          have e8A : Sm H7 HA := (e8.trans e9).trans eA
          generalize hE : L2.upd HA q (.lst (ys.map V.str)) = HB
          have eB : Sm HA HB := hE ▸ Evl.Ex.new hq
          have gB : HB q = some (.lst (ys.map V.str)) := hE ▸ L2.upd_same
          clear hE
          have e8B : Sm H7 HB := e8A.trans eB
          have mem : ∀ y, y ∈ ys ↔ y ∈ barred ∨ y ∈ mtQ ks ps x := fun y => by
            rw [hys.mem_iff, hdu.mem, List.mem_append, lmQ_mem hxk]
          refine hN q ys HB (f1.trans e8B) (e8B _ _ f2) (fun k hk => e8B _ _ (f3 k hk)) (e8B _ _ f4) gB (ne_fr hq (e8A _ _ f4)).symm (hys.nodup_iff.mpr hdu.nd) (fun y hy => ?_) (s1 hc ys mem)
          rcases (mem y).mp hy with z | z
          · exact hbs y z
          · exact ((mtQ_mem hxk).mp z).1
        · have hc' : ¬ (i ∈ fixed ∨ fr = []) := by
            rw [Bool.or_eq_false_iff, decide_eq_false_iff_not, decide_eq_false_iff_not] at hc
            exact fun z => z.elim hc.1 hc.2
          exact hN ba barred H8 (f1.trans e8) (e8 _ _ f2) (fun k hk => e8 _ _ (f3 k hk)) (e8 _ _ f4) (e8 _ _ f5) nbf hbn hbs (s2 hc')
      have e56 := e.trans e6
      refine Evl.q_when (Evl.et_and (Evl.et_test (ev_niN (Evl.ev_var rfl) (Evl.ev_var rfl) (e56 _ _ hfx))) (fun _ => Evl.et_test (ev_eqNs (Evl.ev_var rfl) h6 hfo))) (fun hc H7 e7 => ?_) (fun hc H7 e7 => ?_)
      · rw [Bool.and_eq_true, Bool.not_eq_true', decide_eq_false_iff_not, decide_eq_true_eq] at hc
        refine Evl.s_app (e7 _ _ (e6 _ _ hf)) (Evl.ev_var rfl) (Evl.ev_var rfl) (by rw [List.length_map]; omega) fun H8 e8 => ?_
        have e68 := e6.trans (e7.trans e8)
        refine second _ (stuck ++ [i]) _ (fun ba2 barred' H9 g1 g2 g3 g4 g5 g6 g7 g8 g9 => ⟨ba2, _, _, stuck ++ [i], barred', rfl, g1, g2, g3, hmf, g4, g5, g6, by rw [List.length_append]; show _ + 1 ≤ _; omega, g7, g8, g9⟩) ((e.trans e68).put hf0) (put_ne (e68 _ _ hda) (ne_of (e68 _ _ hda) (e68 _ _ hf) nofun)) (fun k hk => ?_) ?_ (put_ne (e68 _ _ hb) nbf) (put_ne (e8 _ _ (e7 _ _ h6)) (ne_fr hva hf).symm) (fun _ barred' _ => hS.stuck' hx hc.1 (hfree.mp hc.2)) (fun z => absurd (.inr hc.2) z)
        · refine put_ne (e68 _ _ (hms k hk)) (hmf k hk)
        · show _ = some (HO.lst _)
          rw [List.map_append]
          exact upd_same
      · have hc' : i ∈ fixed ∨ fr ≠ [] := by
          rw [Bool.and_eq_false_iff, Bool.not_eq_false', decide_eq_true_eq, decide_eq_false_iff_not] at hc
          exact hc
        have e67 := e6.trans e7
        refine second _ stuck H7 (fun ba2 barred' H9 g1 g2 g3 g4 g5 g6 g7 g8 g9 => ⟨ba2, _, _, stuck, barred', rfl, g1, g2, g3, hmf, g4, g5, g6, by omega, g7, g8, g9⟩) (e.trans e67) (e67 _ _ hda) (fun k hk => e67 _ _ (hms k hk)) (e67 _ _ hf) (e67 _ _ hb) (e7 _ _ h6) (fun z barred' hb' => ?_) (fun z => ?_)
        · rcases hc' with w1 | w1
          · exact hS.kept hx w1 hb'
          · rcases z with z | z
            · exact hS.kept hx z hb'
            · exact absurd z w1
        · have z1 : i ∉ fixed := fun q => z (.inl q)
          have z2 : fr ≠ [] := fun q => z (.inr q)
          exact hS.free hx z1 (Classical.byContradiction fun q => z2 (hfree.mpr q))
    · obtain ⟨ba, o6, o7, stuck, barred, rfl, e, hda, hms, hmf, hf, hb, nbf, hl, hbn, hbs, hS⟩ := q
      refine ⟨_, rfl, hQ fa H5 stuck e hf0 hf ?_⟩
      rw [hS.iff, K76.stuckM_iff]
end
end K7

set_option Elab.async false
set_option linter.all false
set_option maxRecDepth 100000
set_option maxHeartbeats 1000000
namespace K7
open PySem PySem.Spec PyProof.Rows L2
open PySem.W (Datum)
open Evl (Ex Ev EvT EvL EvA ex_l ex_t sq_of st_of sz_of sz_lt fresh_back)
section
variable {P : Program} {w : World} {K : PySem.W.Frag} {mg : Str → Option Value} {base : Heap}
def sp_law_stuck : Sp := fun vs H Q _ => ∃ (pl la fx : Addr) (ks : List Str) (ps : List (Str × Str)) (line : List Str) (fixed : List Nat), vs = [.ref pl, .ref la, .ref fx] ∧ PlanAt H pl ks ps ∧ PlanOk ks ps ∧ LS H la line ∧ LI H fx fixed ∧ line.length ≤ 1000 ∧ (∀ k ∈ line, k ∈ ks) ∧
  ∀ r H' left, Sm H H' → LI H' r left → (left = [] ↔ K76.stuckM (mtQ ks ps) line fixed = []) → Q (.ref r) H'
theorem c_law_stuck (T : Tx P w K mg base) : C8.Cal P w K mg base 4 "_law_stuck" sp_law_stuck [] := by
  obtain ⟨f, fd, F, df⟩ := T.d "_law_stuck" 39 (by decide +kernel)
  have sc : FnScope ["_law_plan_here", "_law_line_here", "_law_fixed", "_law_place", "_law_left_here", "_law_gone", "_law_ahead", "_law_free", "_law_k", "_law_kind", "_law_one"] ["_law_plan_here", "_law_line_here", "_law_fixed"] (C8.fnScope (top 39)) := C8.fnScope_by (by decide +kernel)
  have nd := sc.nd
  have c_law_fit := c_law_fit T
  have c_law_left := c_law_left T
  refine C8.cal0 F (F.fn.binds df (ps := ["_law_plan_here", "_law_line_here", "_law_fixed"]) fun _ _ _ _ _ _ us hl => match us, hl with | [_, _, _], _ => rfl) .nil sc (fun vs H Q E h => by obtain ⟨_, _, _, _, _, _, _, rfl, _⟩ := h; rfl) fun cdv A outer s H vs Q E hr h => ?_
  refine ⟨_, PSs.nox (pss_cons (ps_if (pt_cmpR op_gt (pe_callB (k_len_seq (K := K)) (by rfl) T.b_len (by decide +kernel) (pa_cons (pv 1) pa_nil)) pe_int (nomark _)) (pss_one (ps_ret (C8.pe_c c_law_left hr (by decide) rfl (pa_cons (pv 0) (pa_cons (pv 1) (pa_cons (pv 2) pa_nil)))))) pss_nil)
    (pss_cons (ps_set (i := 4) nd rfl (.inr rfl) (pe_lc (own := [("_law_place", 3)]) (g := (gName 3)) rfl nd (pi_range1 (by rfl) T.b_range (pa_cons (pe_callB (k_len_seq (K := K)) (by rfl) T.b_len (by decide +kernel) (pa_cons (pv 1) pa_nil)) pa_nil)) (blkOk_by (by kernel_rfl)) (fun _ _ _ _ _ => (pg_name (i := 3) nd rfl (.inl rfl))) (fun _ _ _ _ _ => (pts_one (pt_cmpR (k_notIn_seq (K := K)) (pv 3) (pv 2) (by rfl)))) (fun _ _ _ _ _ => (pv 3))))
    (pss_one (ps_while PassesOwn.never (pt_val pe_bl) (pss_cons (ps_set (i := 5) nd rfl (.inr rfl) (pe_lst pa_nil))
    (pss_cons (ps_for PassesOwn.never rfl (k_pi_list (K := K) (pv 4)) (pg_name (i := 3) nd rfl (.inr rfl)) (pss_cons (ps_set (i := 6) nd rfl (.inr rfl) (pe_lc (own := [("_law_k", 8)]) (g := (gName 8)) rfl nd (pi_range1 (by rfl) T.b_range (pa_cons (pv 3) pa_nil)) (blkOk_by (by kernel_rfl)) (fun _ _ _ _ _ => (pg_name (i := 8) nd rfl (.inl rfl))) (fun _ _ _ _ _ => (pts_one (PW.pt (pw_or (pt_cmpR (k_in_seq (K := K)) (pv 8) (pv 2) (by rfl)) (pw_or1 (pt_cmpR (k_in_seq (K := K)) (pv 8) (pv 4) (by rfl))))))) (fun _ _ _ _ _ => (pe_ix (k_ix_list (K := K)) (pv 1) (pv 8) (fun _ _ => rfl)))))
    (pss_cons (ps_setLc (i := 7) (own := [("_law_kind", 9)]) (g := (gName 9)) rfl nd rfl rfl (sw_true rfl rfl rfl (by decide +kernel)) (k_pi_list (K := K) (pe_dget (hu_of hr) (pv 0) pe_str (fun _ _ => rfl))) (blkOk_by (by kernel_rfl)) (fun _ _ _ _ _ => (pg_name (i := 9) nd rfl (.inl rfl))) (fun _ _ _ _ _ => (pts_one (pt_val (C8.pe_c c_law_fit hr (by decide) rfl (pa_cons (pv 0) (pa_cons (pv 9) (pa_cons (pe_ix (k_ix_list (K := K)) (pv 1) (pv 3) (fun _ _ => rfl)) pa_nil))))))) (fun _ _ _ _ _ => (pv 9)))
    (pss_one (ps_if (pt_cmpR (k_neD (K := K) hr.units) (pe_lc (own := [("_law_kind", 9)]) (g := (gName 9)) rfl nd (k_pi_list (K := K) (pv 7)) (blkOk_by (by kernel_rfl)) (fun _ _ _ _ _ => (pg_name (i := 9) nd rfl (.inr rfl))) (fun _ _ _ _ _ => (pts_one (pt_not (pt_val (pe_callB (k_any (K := K) rfl) (by rfl) T.b_any (by decide +kernel) (pa_cons (pe_lc (own := [("_law_one", 10)]) (g := (gName 10)) (tt := tYes) rfl nd (k_pi_list (K := K) (pv 6)) (blkOk_by (by kernel_rfl)) (fun _ _ _ _ _ => (pg_name (i := 10) nd rfl (.inl rfl))) (fun _ _ _ _ _ => pts_nil) (fun _ _ _ _ _ => (C8.pe_c c_law_fit hr (by decide) rfl (pa_cons (pv 0) (pa_cons (pv 9) (pa_cons (pv 10) pa_nil)))))) pa_nil)))))) (fun _ _ _ _ _ => (pv 9))) (pe_lst pa_nil) (nomark _)) (pss_one (ps_expr (pe_bm PySem.F.plainAttrs_list PySem.F.slot_list_append PySem.F.type_list_append mt_append (pv 5) (pa_cons (pv 3) pa_nil)))) pss_nil)))))
    (pss_cons (ps_if (pt_cmpR (k_eqD (K := K) hr.units) (pv 5) (pe_lst pa_nil) (nomark _)) (pss_one (ps_ret (pv 4))) pss_nil)
    (pss_one (ps_set (i := 4) nd rfl (.inr rfl) (pe_lc (own := [("_law_place", 3)]) (g := (gName 3)) rfl nd (k_pi_list (K := K) (pv 4)) (blkOk_by (by kernel_rfl)) (fun _ _ _ _ _ => (pg_name (i := 3) nd rfl (.inl rfl))) (fun _ _ _ _ _ => (pts_one (pt_cmpR op_ne (pv 3) (pe_ix (k_ix_list (K := K)) (pv 5) pe_int (fun _ _ => rfl)) (nomark _)))) (fun _ _ _ _ _ => (pv 3)))))))))))), ?_⟩
  obtain ⟨pl, la, fx, ks, ps, line, fixed, rfl, hP, ok, hla, hfx, hz, hsub, hQ⟩ := h
  obtain ⟨ka, pa, hd, hka, hpa⟩ := id hP
  have k8 := ok.hi
  have lineOk : okS line := fun x hx => ok.okS x (hsub x hx)
  refine ⟨_, rfl, la, _, rfl, .inl (sq_of hla), _, _, rfl, rfl, _, rfl, ?_⟩
  by_cases h20 : (20 : Int) < ((line.map V.str).length : Int)
  · refine ifT (decide_eq_true h20) ⟨_, rfl, _, rfl, _, rfl, pl, la, fx, ks, ps, line, fixed, rfl, hP, ok, hla, hfx, hz, hsub, fun r H' left e _ hr hl => hQ r H' left e hr hl⟩
  refine ifF (decide_eq_false h20) ?_
  refine ⟨_, rfl, la, _, rfl, .inl (sq_of hla), ?_⟩
  rw [List.length_map]
  refine ⟨(line.length : Nat), rfl, by omega, by omega, ?_⟩
  rw [Int.toNat_natCast]
  refine lcR (fun p => decide (p ∉ fixed)) (fun p => V.int (p : Int)) (by omega) (fun p hp => ?_) (fun p hp _ => Evl.ev_var rfl) (fun lf H1 hlf e1 h1 => ?_)
  · exact Evl.et_is (Evl.et_test (ev_niN (Evl.ev_var rfl) (Evl.ev_var rfl) hfx)) decide_not.symm
  refine Evl.s_while (fun m σ' H' => ∃ (lf : Addr) (o3 o5 o6 o7 : Option V) (left : List Nat), σ' = [some (.ref pl), some (.ref la), some (.ref fx), o3, some (.ref lf), o5, o6, o7, none, none, none] ∧ Sm H H' ∧ LI H' lf left ∧ K76.Left (mtQ ks ps) line fixed left ∧ left.length = m) _
    ⟨lf, none, none, none, none, _, rfl, e1, h1, K76.Left.init, rfl⟩ (fun m σ' H2 q => ⟨true, Evl.et_B Evl.ev_c, fun _ H3 e23 => ?_, fun z => by cases z⟩)
  obtain ⟨lf, o3, o5, o6, o7, left, rfl, e, hl, L, hlen⟩ := q
  refine ⟨fun σ' H' => ∃ (lf : Addr) (o3 o5 o6 o7 : Option V) (left' : List Nat), σ' = [some (.ref pl), some (.ref la), some (.ref fx), o3, some (.ref lf), o5, o6, o7, none, none, none] ∧ Sm H H' ∧ LI H' lf left' ∧ K76.Left (mtQ ks ps) line fixed left' ∧ left'.length < m, fun σ' H' ⟨lf, o3, o5, o6, o7, left', a, b, c, d, f⟩ => ⟨_, f, lf, o3, o5, o6, o7, left', a, b, c, d, rfl⟩, ?_⟩
  have ll : left.length ≤ line.length := asc_le L.asc L.lt
  have e3 : Sm H H3 := e.trans e23
  have hl3 := e23 _ _ hl
  refine ⟨Nat.zero_le _, fun ga hga => ?_⟩
  generalize hE : L2.upd H3 ga (.lst []) = H4
  have e4 : Sm H3 H4 := hE ▸ Evl.Ex.new hga
  have h4 : H4 ga = some (.lst []) := hE ▸ L2.upd_same
  clear hE
  have hg0 : H ga = none := fresh_back e3 hga
  refine ⟨_, rfl, lf, rfl, ⟨_, sq_of (e4 _ _ hl3)⟩, for_list (xs := left.map fun n : Nat => V.int (n : Int)) (fun i σ' H' => ∃ (o3 o6 o7 : Option V) (gone : List Nat), σ' = [some (.ref pl), some (.ref la), some (.ref fx), o3, some (.ref lf), some (.ref ga), o6, o7, none, none, none] ∧ Sm H H' ∧ LI H' lf left ∧ LI H' ga gone ∧ lf ≠ ga ∧ gone.length ≤ i ∧ ∀ p, p ∈ gone ↔ p ∈ left.take i ∧ K76.CanL (mtQ ks ps) line fixed left p)
    ⟨_, _, _, [], rfl, e3.trans e4, e4 _ _ hl3, h4, ne_fr hga hl3, Nat.zero_le _, fun p => ⟨fun z => absurd z List.not_mem_nil, fun z => absurd z.1 List.not_mem_nil⟩⟩ (fun i σ' H' _ q => ?_) (fun i x σ' H5 hx q => ?_) (fun σ' H5 q => ?_)⟩
  · obtain ⟨_, _, _, _, _, _, q, _⟩ := q
    exact sq_of q
  · obtain ⟨p, hp, rfl⟩ := get?_map' hx
    obtain ⟨o3, o6, o7, gone, rfl, e5, hl5, hg5, nlg, hgl, hgone⟩ := q
    have hpl := List.mem_of_getElem? hp
    have hpn : p < line.length := L.lt p hpl
    have hi : i < left.length := (List.getElem?_eq_some_iff.mp hp).1
    have hx : line[p]? = some line[p] := List.getElem?_eq_getElem hpn
    have hxk : line[p] ∈ ks := hsub _ (List.getElem_mem hpn)
    revert hx hxk
    generalize line[p] = x
    intro hx hxk
    have hix : atI (line.map V.str) (p : Int) = some (.str x) := atI_nat (by rw [List.getElem?_map, hx]; rfl)
    refine ⟨_, rfl, (p : Int), rfl, by omega, by omega, ?_⟩
    rw [Int.toNat_natCast]
    refine lcR (fun k => decide (k ∈ fixed) || decide (k ∈ left)) (fun k => V.str (line.getD k Str.empty)) (by omega) (fun k hk => ?_) (fun k hk _ => ?_) (fun aa H6 haa e6 h6 => ?_)
    · exact Evl.et_or (Evl.et_test (ev_inN (Evl.ev_var rfl) (Evl.ev_var rfl) (e5 _ _ hfx))) (fun _ => Evl.et_test (ev_inN (Evl.ev_var rfl) (Evl.ev_var rfl) hl5))
    · refine Evl.ev_op (Evl.ev_var rfl) (Evl.ev_var rfl) (Evl.rv_ixL (sq_of (e5 _ _ hla)) (atI_nat ?_))
      have hkn : k < line.length := by omega
      rw [List.getElem?_map, List.getElem?_eq_getElem hkn]
      simp [List.getD, List.getElem?_eq_getElem hkn]
    have hah : ∀ y, y ∈ (((List.range p).filter fun k => decide (k ∈ fixed) || decide (k ∈ left)).map fun k => line.getD k Str.empty) ↔ ∃ j, j < p ∧ (j ∈ fixed ∨ j ∈ left) ∧ line[j]? = some y := fun y => by
      rw [List.mem_map]
      constructor
      · rintro ⟨j, hj, rfl⟩
        obtain ⟨h1, h2⟩ := List.mem_filter.mp hj
        rw [List.mem_range] at h1
        rw [Bool.or_eq_true, decide_eq_true_eq, decide_eq_true_eq] at h2
        have hjn : j < line.length := by omega
        exact ⟨j, h1, h2, by simp [List.getD, List.getElem?_eq_getElem hjn]⟩
      · rintro ⟨j, h1, h2, h3⟩
        exact ⟨j, List.mem_filter.mpr ⟨List.mem_range.mpr h1, by rw [Bool.or_eq_true, decide_eq_true_eq, decide_eq_true_eq]; exact h2⟩, by simp [List.getD, h3]⟩
    have h6' : LS H6 aa (((List.range p).filter fun k => decide (k ∈ fixed) || decide (k ∈ left)).map fun k => line.getD k Str.empty) := by
      show _ = some (HO.lst _)
      rw [List.map_map]
      exact h6
    have hal : (((List.range p).filter fun k => decide (k ∈ fixed) || decide (k ∈ left)).map fun k => line.getD k Str.empty).length ≤ p := by
      rw [List.length_map]
      have := List.length_filter_le (fun k => decide (k ∈ fixed) || decide (k ∈ left)) (List.range p)
      rw [List.length_range] at this
      exact this
    clear h6
    revert h6' hah hal
    generalize (((List.range p).filter fun k => decide (k ∈ fixed) || decide (k ∈ left)).map fun k => line.getD k Str.empty) = ahead
    intro hah h6 hal
    have hao : okS ahead := fun y hy => by
      obtain ⟨j, _, _, hj⟩ := (hah y).mp hy
      exact lineOk y (List.mem_of_getElem? hj)
    have e06 := e5.trans e6
    refine ⟨_, rfl, pl, _, rfl, dget_k (e06 _ _ hd), ka, rfl, ⟨_, sq_of (e06 _ _ hka)⟩, ?_⟩
    refine lcL (fun m => fitP ps m x) V.str (sq_of (e06 _ _ hka)) (by omega) (fun m hm H7 e7 Q7 q7 => ?_) (fun m hm _ => Evl.ev_var rfl) (fun va H7 hva e7 h7 => ?_)
    · exact ⟨_, rfl, _, rfl, _, rfl, _, rfl, la, _, _, _, rfl, rfl, sq_of (e7 _ _ (e06 _ _ hla)), hix, pl, m, x, ks, ps, rfl, hP.mono (e06.trans e7), ok.okP, ok.okS m hm, ok.okS x hxk, fun H8 e8 => ⟨_, rfl, q7 H8 e8⟩⟩
    have e07 := e06.trans e7
    have hvk : ∀ m, m ∈ ks.filter (fun m => fitP ps m x) ↔ m ∈ mtQ ks ps x := fun m => by rw [mtQ_mem hxk, List.mem_filter]
    have hvl : (ks.filter (fun m => fitP ps m x)).length ≤ ks.length := List.length_filter_le _ _
    revert h7 hvk hvl
    generalize ks.filter (fun m => fitP ps m x) = fr
    intro h7 hvk hvl
    have hfk : ∀ m ∈ fr, m ∈ ks := fun m hm => ((mtQ_mem hxk).mp ((hvk m).mp hm)).1
    refine ⟨_, rfl, va, rfl, ⟨_, sq_of h7⟩, ?_⟩
    refine lcL (fun m => !ahead.any fun y => fitP ps m y) V.str (sq_of h7) (by omega) (fun m hm => ?_) (fun m hm _ => Evl.ev_var rfl) (fun wa H8 hwa e8 h8 => ?_)
    · exact Evl.et_not (Evl.et_B (any_fit (ks := ks) (found := ahead) (x := m) (have_l (Evl.ev_var rfl) (e7 _ _ h6)) (hP.mono e07) ok.okP (ok.okS m (hfk m hm)) hao (by omega) (fun _ _ => Evl.ev_var rfl) (fun _ _ => Evl.ev_var rfl) (fun _ _ => Evl.ev_var rfl)))
    have hcan : (fr.filter fun m => !ahead.any fun y => fitP ps m y) ≠ [] ↔ K76.CanL (mtQ ks ps) line fixed left p := by
      rw [Ne, List.filter_eq_nil_iff]
      constructor
      · intro h
        refine Classical.byContradiction fun hn => h fun m hm hb => hn ⟨x, m, hx, (hvk m).mp hm, fun j y hj hor hy hmy => ?_⟩
        rw [Bool.not_eq_true'] at hb
        exact List.any_eq_false.mp hb y ((hah y).mpr ⟨j, hj, hor, hy⟩) ((mtQ_mem (hsub y (List.mem_of_getElem? hy))).mp hmy).2
      · rintro ⟨x', m, hx', hm, hall⟩ h
        rw [hx] at hx'
        cases hx'
        refine h m ((hvk m).mpr hm) ?_
        rw [Bool.not_eq_true']
        refine List.any_eq_false.mpr fun y hy hf => ?_
        obtain ⟨j, hj, hor, hjy⟩ := (hah y).mp hy
        exact hall j y hj hor hjy ((mtQ_mem (hsub y (List.mem_of_getElem? hjy))).mpr ⟨hfk m ((hvk m).mpr hm), hf⟩)
    have hwo : okS (fr.filter fun m => !ahead.any fun y => fitP ps m y) := fun m hm => ok.okS m (hfk m (List.mem_filter.mp hm).1)
    revert h8 hcan hwo
    generalize (fr.filter fun m => !ahead.any fun y => fitP ps m y) = wl
    intro h8 hcan hwo
    refine ⟨Nat.zero_le _, fun z hz2 => ⟨_, _, dp_ls (Ex.new hz2 _ _ h8), dp_ls (xs := []) upd_same, sh_strs hwo, sh_strs (fun x hx => absurd hx List.not_mem_nil), _, rfl, ?_⟩⟩
    rw [Datum.eqv]
    generalize hE : L2.upd H8 z (.lst []) = H9
    have e9 : Sm H8 H9 := hE ▸ Evl.Ex.new hz2
    have h9 : H9 z = some (.lst []) := hE ▸ L2.upd_same
    clear hE
    have e59 : Sm H5 H9 := ((e6.trans e7).trans e8).trans e9
    by_cases hw : wl = []
    · refine ifF (by rw [decide_eq_true hw]; rfl) ⟨_, _, _, gone, rfl, e5.trans e59, e59 _ _ hl5, e59 _ _ hg5, nlg, by omega, fun y => ?_⟩
      rw [hgone y, take_succ' hp, List.mem_append, List.mem_singleton]
      constructor
      · rintro ⟨h1, h2⟩; exact ⟨.inl h1, h2⟩
      · rintro ⟨h1 | h1, h2⟩
        · exact ⟨h1, h2⟩
        · subst h1
          exact absurd hw (hcan.mpr h2)
    · refine ifT (by rw [decide_eq_false hw]; rfl) ?_
      refine Evl.s_app (e59 _ _ hg5) (Evl.ev_var rfl) (Evl.ev_var rfl) (by rw [List.length_map]; omega) fun HA eA => ?_
      have e5A := e59.trans eA
      refine ⟨_, _, _, gone ++ [p], rfl, (e5.trans e5A).put hg0, put_ne (e5A _ _ hl5) nlg, ?_, nlg, by rw [List.length_append]; show _ + 1 ≤ _; omega, fun y => ?_⟩
      · show _ = some (HO.lst _)
        rw [List.map_append]
        exact upd_same
      · rw [take_succ' hp, List.mem_append, List.mem_append, hgone y, List.mem_singleton]
        constructor
        · rintro (⟨h1, h2⟩ | h1)
          · exact ⟨.inl h1, h2⟩
          · subst h1
            exact ⟨.inr rfl, hcan.mp hw⟩
        · rintro ⟨h1 | h1, h2⟩
          · exact .inl ⟨h1, h2⟩
          · exact .inr h1
  · obtain ⟨o3, o6, o7, gone, rfl, e5, hl5, hg5, nlg, hgl, hgone⟩ := q
    rw [List.length_map, List.take_length] at hgone
    refine ⟨_, rfl, Nat.zero_le _, fun z hz2 => ⟨_, _, dp_li (Ex.new hz2 _ _ hg5), dp_li (xs := []) upd_same, sh_nats _, sh_nats _, _, rfl, ?_⟩⟩
    rw [eqv_nats]
    generalize hE : L2.upd H5 z (.lst []) = H6
    have e6 : Sm H5 H6 := hE ▸ Evl.Ex.new hz2
    have h6 : H6 z = some (.lst []) := hE ▸ L2.upd_same
    clear hE
    cases gone with
    | nil =>
      refine ifT rfl ⟨_, rfl, hQ lf H6 left (e5.trans e6) (e6 _ _ hl5) (L.done fun i hi hc => ?_)⟩
      exact absurd ((hgone i).mpr ⟨hi, hc⟩) List.not_mem_nil
    | cons g gr =>
      refine ifF rfl ?_
      obtain ⟨hgm, hgc⟩ := (hgone g).mp List.mem_cons_self
      refine ⟨_, rfl, lf, rfl, ⟨_, sq_of (e6 _ _ hl5)⟩, ?_⟩
      refine lcL (enc := fun n : Nat => V.int (n : Int)) (fun p => decide (p ≠ g)) (fun n : Nat => V.int (n : Int)) (sq_of (e6 _ _ hl5)) (by omega) (fun p hp H7 e7 Q7 q7 => ?_) (fun p hp _ => Evl.ev_var rfl) (fun lf2 H7 hlf2 e7 h7 => ?_)
      · refine ⟨_, rfl, _, rfl, ga, _, _, .int (g : Int), rfl, rfl, sq_of (e7 _ _ (e6 _ _ hg5)), atI_nat (i := 0) rfl, rfl, _, rfl, ?_⟩
        have ed : (!decide (V.int (p : Int) = V.int (g : Int))) = decide (p ≠ g) := by
          rw [← decide_not]
          exact decide_eq_decide.mpr (by rw [Ne, V.int.injEq]; omega)
        rw [ed]
        exact q7 H7 (Ex.refl H7)
      · exact ⟨lf2, _, _, _, _, _, rfl, (e5.trans e6).trans e7, h7, L.next hgc, by rw [← hlen]; exact K76.Left.shorter hgm⟩
end
end K7

set_option Elab.async false
set_option linter.all false
set_option maxRecDepth 100000
set_option maxHeartbeats 1000000
namespace K7
open PySem PySem.Spec PyProof.Rows L2
open PySem.W (Datum)
open Evl (Ex Ev EvT EvL EvA ex_l ex_t sq_of st_of sz_of sz_lt fresh_back)
section
variable {P : Program} {w : World} {K : PySem.W.Frag} {mg : Str → Option Value} {base : Heap}
def OptV : Option Nat → V
  | none => .non
  | some m => .int (m : Int)
def sp_law_best : Sp := fun vs H Q _ => ∃ (pl la ga : Addr) (ks : List Str) (ps : List (Str × Str)) (line goal : List Str), vs = [.ref pl, .ref la, .ref ga] ∧ PlanAt H pl ks ps ∧ PlanOk ks ps ∧ LS H la line ∧ LS H ga goal ∧ line.length ≤ 1000 ∧ goal.length ≤ 1000 ∧ (∀ k ∈ line, k ∈ ks) ∧ (∀ k ∈ goal, k ∈ ks) ∧
  ∀ o H', Sm H H' → K76.BestIs (mtQ ks ps) line goal o → Q (OptV o) H'
theorem c_law_best (T : Tx P w K mg base) : C8.Cal P w K mg base 5 "_law_best" sp_law_best [] := by
  obtain ⟨f, fd, F, df⟩ := T.d "_law_best" 40 (by decide +kernel)
  have sc : FnScope ["_law_plan_here", "_law_line_here", "_law_goal_here", "_law_many", "_law_staying"] ["_law_plan_here", "_law_line_here", "_law_goal_here"] (C8.fnScope (top 40)) := C8.fnScope_by (by decide +kernel)
  have nd := sc.nd
  have c_law_kept := c_law_kept T
  have c_law_stuck := c_law_stuck T
  refine C8.cal0 F (F.fn.binds df (ps := ["_law_plan_here", "_law_line_here", "_law_goal_here"]) fun _ _ _ _ _ _ us hl => match us, hl with | [_, _, _], _ => rfl) .nil sc (fun vs H Q E h => by obtain ⟨_, _, _, _, _, _, _, rfl, _⟩ := h; rfl) fun cdv A outer s H vs Q E hr h => ?_
  refine ⟨_, PSs.nox (pss_cons (ps_for PassesOwn.never rfl (pi_range3 (by rfl) T.b_range (pa_cons (pe_callB (k_len_seq (K := K)) (by rfl) T.b_len (by decide +kernel) (pa_cons (pv 2) pa_nil)) (pa_cons (pe_un un_neg pe_int) (pa_cons (pe_un un_neg pe_int) pa_nil)))) (pg_name (i := 3) nd rfl (.inl rfl)) (pss_cons (ps_set (i := 4) nd rfl (.inl rfl) (C8.pe_c c_law_kept hr (by decide) rfl (pa_cons (pv 1) (pa_cons (pv 2) (pa_cons (pv 3) pa_nil)))))
    (pss_one (ps_if (PW.pt (pw_and (pt_cmpR op_notN (pv 4) pe_non (nomark _)) (pw_and1 (pt_cmpR (k_eqD (K := K) hr.units) (C8.pe_c c_law_stuck hr (by decide) rfl (pa_cons (pv 0) (pa_cons (pv 1) (pa_cons (pv 4) pa_nil)))) (pe_lst pa_nil) (nomark _))))) (pss_one (ps_ret (pv 3))) pss_nil))))
    (pss_one (ps_ret pe_non))), ?_⟩
  obtain ⟨pl, la, ga, ks, ps, line, goal, rfl, hP, ok, hla, hga, hz, hgz, hsub, hgsub, hQ⟩ := h
  have okl : okS line := fun x hx => ok.okS x (hsub x hx)
  have okg : okS goal := fun x hx => ok.okS x (hgsub x hx)
  refine ⟨_, rfl, ga, _, rfl, .inl (sq_of hga), _, rfl, _, rfl, _, _, _, _, rfl, RgC.neg (by rw [List.length_map]; omega) (by rw [List.length_map]; omega) (by omega) (by omega), ?_⟩
  rw [List.length_map]
  have en : (((goal.length : Nat) : Int) - -1).toNat = goal.length + 1 := by omega
  show ∃ W : Nat → Nat → L2.St → Hp → Prop, _
  rw [en]
  refine for_rangeC (fun t σ' H' => ∃ (o3 o4 : Option V), σ' = [some (.ref pl), some (.ref la), some (.ref ga), o3, o4] ∧ Sm H H' ∧ ∀ m', goal.length + 1 - t ≤ m' → m' ≤ goal.length → ¬ K76.Good (mtQ ks ps) line goal m')
    ⟨none, none, rfl, Ex.refl _, fun m' a b => absurd a (by omega)⟩ (fun t σ' H' ht q => ?_) (fun σ' H' q => ?_)
  · obtain ⟨o3, o4, rfl, e, hno⟩ := q
    have ep : ((goal.length : Nat) : Int) + ((t : Nat) : Int) * -1 = ((goal.length - t : Nat) : Int) := by omega
    rw [ep]
    have nogood : ¬ K76.Good (mtQ ks ps) line goal (goal.length - t) → ∀ m', goal.length + 1 - (t + 1) ≤ m' → m' ≤ goal.length → ¬ K76.Good (mtQ ks ps) line goal m' := fun hg m' h1 h2 => by
      by_cases hm : m' = goal.length - t
      · rw [hm]; exact hg
      · exact hno m' (by omega) h2
    refine ⟨_, rfl, _, rfl, _, rfl, la, ga, goal.length - t, line, goal, rfl, e _ _ hla, e _ _ hga, hz, hgz, okl, okg, fun r H2 e2 hr2 => ?_⟩
    cases hk : K76.keptM line goal (goal.length - t) with
    | none =>
      rw [hk] at hr2
      have hr2 : r = .non := hr2
      subst hr2
      refine ⟨_, rfl, rfl, _, rfl, ifF rfl (ifF rfl ⟨_, _, rfl, e.trans e2, nogood fun ⟨k, z, _⟩ => ?_⟩)⟩
      rw [hk] at z
      cases z
    | some kp =>
      rw [hk] at hr2
      obtain ⟨p, rfl, hkp⟩ := hr2
      refine ⟨_, rfl, rfl, _, rfl, ifT rfl ?_⟩
      refine ⟨_, rfl, _, rfl, _, rfl, pl, la, p, ks, ps, line, kp, rfl, hP.mono (e.trans e2), ok, e2 _ _ (e _ _ hla), hkp, hz, hsub, fun r H3 left e3 hl hiff => ?_⟩
      refine ⟨Nat.zero_le _, fun z hz2 => ⟨_, _, dp_li (Ex.new hz2 _ _ hl), dp_li (xs := []) upd_same, sh_nats _, sh_nats _, _, rfl, ?_⟩⟩
      rw [eqv_nats]
      generalize hE : L2.upd H3 z (.lst []) = H4
      have e4 : Sm H3 H4 := hE ▸ Evl.Ex.new hz2
      have h4 : H4 z = some (.lst []) := hE ▸ L2.upd_same
      clear hE
      have eF : Sm H H4 := ((e.trans e2).trans e3).trans e4
      by_cases hn : left = []
      · exact ifT (decide_eq_true hn) ⟨_, rfl, hQ (some (goal.length - t)) H4 eF ⟨Nat.sub_le _ _, ⟨kp, hk, hiff.mp hn⟩, fun m' h1 h2 => hno m' (by omega) h2⟩⟩
      · refine ifF (decide_eq_false hn) ⟨_, _, rfl, eF, nogood fun ⟨k, z1, z2⟩ => ?_⟩
        rw [hk] at z1
        cases z1
        exact hn (hiff.mpr z2)
  · obtain ⟨o3, o4, rfl, e, hno⟩ := q
    exact hQ none H' e fun m' hm => hno m' (by omega) hm
end
end K7

set_option Elab.async false
set_option linter.all false
set_option maxRecDepth 100000
set_option maxHeartbeats 1000000
namespace K7
open PySem PySem.Spec PyProof.Rows L2
open PySem.W (Datum)
open Evl (Ex Ev EvT EvL EvA ex_l ex_t sq_of st_of sz_of sz_lt fresh_back)
section
variable {P : Program} {w : World} {K : PySem.W.Frag} {mg : Str → Option Value} {base : Heap}
/-- the line as it stands: numbers and kinds -/
def ThereAt (H : Hp) (a : Addr) (ts : List (Nat × Str)) : Prop := ∃ rs : List Addr, H a = some (.lst (rs.map V.ref)) ∧ Paired (fun r (t : Nat × Str) => H r = some (.tup [.int (t.1 : Int), .str t.2])) rs ts
theorem ThereAt.mono {H H' : Hp} {a : Addr} {ts : List (Nat × Str)} (e : Sm H H') (h : ThereAt H a ts) : ThereAt H' a ts := by
  obtain ⟨rs, h1, h2⟩ := h
  exact ⟨rs, e _ _ h1, Paired.mapP h2 fun _ _ q => e _ _ q⟩
/-- a list is changed, not the line's -/
theorem ThereAt.put {H : Hp} {a b : Addr} {ts : List (Nat × Str)} {xs ys : List V} (hb : H b = some (.lst xs)) (n : a ≠ b) (h : ThereAt H a ts) : ThereAt (upd H b (.lst ys)) a ts := by
  obtain ⟨rs, h1, h2⟩ := h
  exact ⟨rs, put_ne h1 n, Paired.mapP h2 fun r t q => put_ne q (ne_of q hb nofun)⟩
theorem paired_of {α β : Type} {F : α → β → Prop} : ∀ {xs : List α} {ys : List β}, xs.length = ys.length → (∀ (j : Nat) x y, xs[j]? = some x → ys[j]? = some y → F x y) → Paired F xs ys
  | [], [], _, _ => .nil
  | [], _ :: _, h, _ => by cases h
  | _ :: _, [], h, _ => by cases h
  | x :: xs, y :: ys, h, k => .cons (k 0 x y rfl rfl) (paired_of (Nat.succ.inj h) fun j a b h1 h2 => k (j + 1) a b (by simpa using h1) (by simpa using h2))
theorem paired_erase {α β : Type} {F : α → β → Prop} : ∀ {xs : List α} {ys : List β}, Paired F xs ys → ∀ j, Paired F (xs.eraseIdx j) (ys.eraseIdx j)
  | _, _, .nil, j => by simp; exact .nil
  | _, _, .cons h t, 0 => t
  | _, _, .cons h t, j + 1 => .cons h (paired_erase t j)
/-- the first place of those that fit -/
theorem places_first {l : List Str} {p : Str → Bool} : match (List.range l.length).filter (fun j => p (l.getD j Str.empty)) with
    | [] => l.findIdx? p = none
    | j :: _ => l.findIdx? p = some j := by
  have mem : ∀ j, j ∈ (List.range l.length).filter (fun j => p (l.getD j Str.empty)) ↔ ∃ h : j < l.length, p l[j] = true := fun j => by
    rw [List.mem_filter, List.mem_range]
    constructor
    · rintro ⟨h, q⟩
      refine ⟨h, ?_⟩
      simpa [List.getD, List.getElem?_eq_getElem h] using q
    · rintro ⟨h, q⟩
      refine ⟨h, ?_⟩
      simpa [List.getD, List.getElem?_eq_getElem h] using q
  have srt : ((List.range l.length).filter (fun j => p (l.getD j Str.empty))).Pairwise (· < ·) := List.pairwise_lt_range.sublist List.filter_sublist
  revert mem srt
  generalize (List.range l.length).filter (fun j => p (l.getD j Str.empty)) = ps
  intro mem srt
  cases ps with
  | nil =>
    show l.findIdx? p = none
    rw [List.findIdx?_eq_none_iff]
    intro x hx
    obtain ⟨j, hj, rfl⟩ := List.mem_iff_getElem.mp hx
    cases q : p l[j] with
    | false => rfl
    | true => exact absurd ((mem j).mpr ⟨hj, q⟩) List.not_mem_nil
  | cons j r =>
    show l.findIdx? p = some j
    rw [List.findIdx?_eq_some_iff_getElem]
    obtain ⟨h, q⟩ := (mem j).mp List.mem_cons_self
    refine ⟨h, q, fun i hi hp => ?_⟩
    have hm := (mem i).mpr ⟨Nat.lt_trans hi h, hp⟩
    rcases List.mem_cons.mp hm with z | z
    · omega
    · have := (List.pairwise_cons.mp srt).1 i z
      omega
def sp_law_run : Sp := fun vs H Q _ => ∃ (pl la ra : Addr) (ks : List Str) (ps : List (Str × Str)) (line row : List Str), vs = [.ref pl, .ref la, .ref ra] ∧ PlanAt H pl ks ps ∧ PlanOk ks ps ∧ LS H la line ∧ LS H ra row ∧ line.length ≤ 2000 ∧ row.length ≤ 2000 ∧ okS line ∧ okS row ∧
  ∀ r th mo H' ts, Sm H H' → H' r = some (.tup [.ref th, .ref mo]) → ThereAt H' th ts → ts.map (·.2) = K76.afterM (fitP ps) line row → Q (.ref r) H'
theorem c_law_run (T : Tx P w K mg base) : C8.Cal P w K mg base 2 "_law_run" sp_law_run [] := by
  obtain ⟨f, fd, F, df⟩ := T.d "_law_run" 32 (by decide +kernel)
  have sc : FnScope ["_law_plan_here", "_law_line_here", "_law_row_here", "_law_there", "_law_mate_of", "_law_kind", "_law_number", "_law_places", "_law_earlier", "_law_k"] ["_law_plan_here", "_law_line_here", "_law_row_here"] (C8.fnScope (top 32)) := C8.fnScope_by (by decide +kernel)
  have nd := sc.nd
  have c_law_fit := c_law_fit T
  refine C8.cal0 F (F.fn.binds df (ps := ["_law_plan_here", "_law_line_here", "_law_row_here"]) fun _ _ _ _ _ _ us hl => match us, hl with | [_, _, _], _ => rfl) .nil sc (fun vs H Q E h => by obtain ⟨_, _, _, _, _, _, _, rfl, _⟩ := h; rfl) fun cdv A outer s H vs Q E hr h => ?_
  refine ⟨_, PSs.nox (pss_cons (ps_asg (pe_tup (pa_cons (pe_listEnum T.b_list T.b_enumerate (pa_cons (pv 1) pa_nil)) (pa_cons (pe_op op_rep (pe_lst (pa_cons pe_non pa_nil)) (pe_callB (k_len_seq (K := K)) (by rfl) T.b_len (by decide +kernel) (pa_cons (pv 1) pa_nil))) pa_nil))) (k_pg_tup (K := K) (n := 2) rfl (pgs_cons (pg_name (i := 3) nd rfl (.inr rfl)) (pgs_cons (pg_name (i := 4) nd rfl (.inl rfl)) pgs_nil))))
    (pss_cons (ps_for PassesOwn.never rfl (k_pi_list (K := K) (pv 2)) (pg_name (i := 5) nd rfl (.inr rfl)) (pss_cons (ps_set (i := 6) nd rfl (.inl rfl) (pe_callB (k_len_seq (K := K)) (by rfl) T.b_len (by decide +kernel) (pa_cons (pv 4) pa_nil)))
    (pss_cons (ps_expr (pe_bm PySem.F.plainAttrs_list PySem.F.slot_list_append PySem.F.type_list_append mt_append (pv 4) (pa_cons pe_non pa_nil)))
    (pss_cons (ps_setLc (i := 7) (own := [("_law_k", 9)]) (g := (gName 9)) rfl nd rfl rfl (sw_true rfl rfl rfl (by decide +kernel)) (pi_range1 (by rfl) T.b_range (pa_cons (pe_callB (k_len_seq (K := K)) (by rfl) T.b_len (by decide +kernel) (pa_cons (pv 3) pa_nil)) pa_nil)) (blkOk_by (by kernel_rfl)) (fun _ _ _ _ _ => (pg_name (i := 9) nd rfl (.inl rfl))) (fun _ _ _ _ _ => (pts_one (pt_val (C8.pe_c c_law_fit hr (by decide) rfl (pa_cons (pv 0) (pa_cons (pe_ix (k_ix_tup (K := K)) (pe_ix (k_ix_list (K := K)) (pv 3) (pv 9) (fun _ _ => rfl)) pe_int (fun _ _ => rfl)) (pa_cons (pv 5) pa_nil))))))) (fun _ _ _ _ _ => (pv 9)))
    (pss_one (ps_if (pt_cmpR (k_eqD (K := K) hr.units) (pv 7) (pe_lst pa_nil) (nomark _)) (pss_one (ps_expr (pe_bm PySem.F.plainAttrs_list PySem.F.slot_list_append PySem.F.type_list_append mt_append (pv 3) (pa_cons (pe_tup (pa_cons (pv 6) (pa_cons (pv 5) pa_nil))) pa_nil)))) (pss_cons (ps_set (i := 8) nd rfl (.inl rfl) (pe_ix (k_ix_tup (K := K)) (pe_bm PySem.F.plainAttrs_list PySem.F.slot_list_pop PySem.F.type_list_pop mt_popAt (pv 3) (pa_cons (pe_ix (k_ix_list (K := K)) (pv 7) pe_int (fun _ _ => rfl)) pa_nil)) pe_int (fun _ _ => rfl)))
    (pss_one (ps_asg (pe_tup (pa_cons (pv 6) (pa_cons (pv 8) pa_nil))) (k_pg_tup (K := K) (n := 2) rfl (pgs_cons (pg_sub (pv 4) (pv 8) set_list) (pgs_cons (pg_sub (pv 4) (pv 6) set_list) pgs_nil))))))))))))
    (pss_one (ps_ret (pe_tup (pa_cons (pv 3) (pa_cons (pv 4) pa_nil))))))), ?_⟩
  obtain ⟨pl, la, ra, ks, ps, line, row, rfl, hP, ok, hla, hra, hz, hrz, okl, okr, hQ⟩ := h
  refine ⟨_, rfl, la, _, rfl, sq_of hla, fun th ts H1 e1 hth h1 hlen hat hnin => ⟨one_le, fun z hz0 => ?_⟩⟩
  rw [List.length_map] at hlen
  generalize hE : L2.upd H1 z (.lst [.non]) = H2
  have e2 : Sm H1 H2 := hE ▸ Evl.Ex.new hz0
  have h2 : H2 z = some (.lst [.non]) := hE ▸ L2.upd_same
  clear hE
  have e12 : Sm H H2 := e1.trans e2
  refine ⟨_, rfl, la, _, rfl, .inl (sq_of (e12 _ _ hla)), z, _, _, rfl, rfl, h2, by omega, by rw [List.length_map]; omega, ?_, fun mo hmo => ?_⟩
  · rw [List.length_map, Int.toNat_natCast]
    exact Evl.sz_of (by show 1 * line.length ≤ _; omega)
  rw [List.length_map, Int.toNat_natCast]
  have lrep : (List.replicate line.length [V.non]).flatten.length = line.length := by simp
  revert lrep hmo
  generalize (List.replicate line.length [V.non]).flatten = ms0
  intro hmo lrep
  generalize hE : L2.upd H2 mo (.lst ms0) = H3
  have e3 : Sm H2 H3 := hE ▸ Evl.Ex.new hmo
  have h3 : H3 mo = some (.lst ms0) := hE ▸ L2.upd_same
  clear hE
  refine ⟨two_le, fun t ht => ⟨t, _, rfl, st_of upd_same, rfl, _, _, rfl, _, _, rfl, rfl, ?_⟩⟩
  generalize hE : L2.upd H3 t (.tup [.ref th, .ref mo]) = H4
  have e4 : Sm H3 H4 := hE ▸ Evl.Ex.new ht
  have h4 : H4 t = some (.tup [.ref th, .ref mo]) := hE ▸ L2.upd_same
  clear hE
  have e14 : Sm H H4 := (e12.trans e3).trans e4
  have e1_4 : Sm H1 H4 := (e2.trans e3).trans e4
  have ntm : th ≠ mo := ne_fr hmo (e2 _ _ h1)
  have hm0 : H mo = none := fresh_back e12 hmo
  have zl : ((List.range line.length).zip line).map (·.2) = line := List.map_snd_zip (by rw [List.length_range]; exact Nat.le_refl _)
  refine ⟨_, rfl, ra, rfl, ⟨_, sq_of (e14 _ _ hra)⟩, for_list (xs := row.map V.str) (fun i σ' H' => ∃ (o5 o6 o7 o8 : Option V) (tl : List (Nat × Str)) (ms : List V), σ' = [some (.ref pl), some (.ref la), some (.ref ra), some (.ref th), some (.ref mo), o5, o6, o7, o8, none] ∧ Sm H H' ∧ ThereAt H' th tl ∧ H' mo = some (.lst ms) ∧ ms.length = line.length + i ∧ (∀ t ∈ tl, t.1 < ms.length) ∧ okS (tl.map (·.2)) ∧ tl.length ≤ line.length + i ∧
      tl.map (·.2) = K76.afterM (fitP ps) line (row.take i))
    ⟨none, none, none, none, (List.range line.length).zip line, ms0, rfl, e14, ⟨ts, e1_4 _ _ h1, paired_of ?_ ?_⟩, e4 _ _ h3, lrep, ?_, by rw [zl]; exact okl, by rw [List.length_zip, List.length_range]; omega, zl⟩ (fun i σ' H' _ q => ?_) (fun i x σ' H' hx q => ?_) (fun σ' H' q => ?_)⟩
  · rw [List.length_zip, List.length_range, hlen]; omega
  · intro j x y hx hy
    obtain ⟨q1, q2⟩ := List.getElem?_zip_eq_some.mp hy
    have q1' : j = y.1 := by
      have := (List.getElem?_eq_some_iff.mp q1)
      obtain ⟨_, q⟩ := this
      simpa using q
    have q := hat j x (.str y.2) hx (by rw [List.getElem?_map, q2]; rfl)
    rw [← q1']
    exact e1_4 _ _ q
  · intro t ht
    have := List.mem_range.mp (List.of_mem_zip ht).1
    omega
  · obtain ⟨_, _, _, _, _, _, _, e, _⟩ := q
    exact sq_of (e _ _ hra)
  · obtain ⟨k, hk, rfl⟩ := get?_map' hx
    obtain ⟨o5, o6, o7, o8, tl, ms, rfl, e, hT, hm, hml, hlt, hok, htl, haf⟩ := q
    have okk := okr k (List.mem_of_getElem? hk)
    have hi : i < row.length := (List.getElem?_eq_some_iff.mp hk).1
    refine ⟨_, rfl, mo, _, rfl, .inl (sq_of hm), ?_⟩
    refine Evl.q_app hm (Evl.ev_var rfl) Evl.ev_c (by omega) fun H5 e5 => ?_
    have hm5 := e5 _ _ hm
    have hT6 : ThereAt (upd H5 mo (.lst (ms ++ [.non]))) th tl := (hT.mono e5).put hm5 ntm
    have e6 : Sm H (upd H5 mo (.lst (ms ++ [.non]))) := (e.trans e5).put hm0
    have hm6 : upd H5 mo (.lst (ms ++ [.non])) mo = some (.lst (ms ++ [.non])) := upd_same
    revert hT6 e6 hm6
    generalize upd H5 mo (.lst (ms ++ [.non])) = H6
    intro hT6 e6 hm6
    obtain ⟨rs, r1, r2⟩ := id hT6
    have lrs := Paired.length r2
    have hgetD : ∀ j, j < tl.length → ∃ r t, rs[j]? = some r ∧ tl[j]? = some t ∧ H6 r = some (.tup [.int (t.1 : Int), .str t.2]) := fun j hj => by
      have hjr : j < rs.length := by omega
      obtain ⟨t, h1, h2⟩ := paired_get r2 (List.getElem?_eq_getElem hjr)
      exact ⟨_, t, List.getElem?_eq_getElem hjr, h1, h2⟩
    refine ⟨_, rfl, th, _, rfl, .inl (sq_of r1), ?_⟩
    rw [List.length_map, lrs]
    refine ⟨(tl.length : Nat), rfl, by omega, by omega, ?_⟩
    rw [Int.toNat_natCast]
    refine lcR (fun j => fitP ps ((tl.map (·.2)).getD j Str.empty) k) (fun j => V.int (j : Int)) (by omega) (fun j hj H7 e7 Q7 q7 => ?_) (fun j hj _ => Evl.ev_var rfl) (fun va H7 hva e7 h7 => ?_)
    · obtain ⟨r, t, g1, g2, g3⟩ := hgetD j hj
      have gd : (tl.map (·.2)).getD j Str.empty = t.2 := by simp [List.getD, g2]
      refine ⟨_, rfl, _, rfl, _, rfl, th, _, _, .ref r, rfl, rfl, sq_of (e7 _ _ r1), atI_nat (by rw [List.getElem?_map, g1]; rfl), r, _, _, .str t.2, rfl, rfl, st_of (e7 _ _ g3), atI_nat (i := 1) rfl, _, rfl, pl, t.2, k, ks, ps, rfl, hP.mono (e6.trans e7), ok.okP, hok _ (List.mem_map_of_mem (List.mem_of_getElem? g2)), okk, fun H8 e8 => ⟨_, rfl, ?_⟩⟩
      rw [gd] at q7
      exact q7 H8 e8
    have h7' : LI H7 va ((List.range (tl.map (·.2)).length).filter fun j => fitP ps ((tl.map (·.2)).getD j Str.empty) k) := by
      rw [List.length_map]
      exact h7
    have pf := places_first (l := tl.map (·.2)) (p := fun x => fitP ps x k)
    clear h7
    have lenf : ∀ j ∈ ((List.range (tl.map (·.2)).length).filter fun j => fitP ps ((tl.map (·.2)).getD j Str.empty) k), j < tl.length := fun j hj => by
      have := List.mem_range.mp (List.mem_filter.mp hj).1
      rw [List.length_map] at this
      exact this
    revert h7' pf lenf
    generalize ((List.range (tl.map (·.2)).length).filter fun j => fitP ps ((tl.map (·.2)).getD j Str.empty) k) = pl0
    intro h7 pf lenf
    refine ⟨_, rfl, Nat.zero_le _, fun y hy => ⟨_, _, dp_li (Ex.new hy _ _ h7), dp_li (xs := []) upd_same, sh_nats _, sh_nats _, _, rfl, ?_⟩⟩
    rw [eqv_nats]
    generalize hE : L2.upd H7 y (.lst []) = H8
    have e8 : Sm H7 H8 := hE ▸ Evl.Ex.new hy
    have h8 : H8 y = some (.lst []) := hE ▸ L2.upd_same
    clear hE
    have e68 : Sm H6 H8 := e7.trans e8
    have e08 : Sm H H8 := e6.trans e68
    have tk : row.take (i + 1) = row.take i ++ [k] := take_succ' hk
    have hnew : K76.afterM (fitP ps) line (row.take (i + 1)) = K76.come (fitP ps) (tl.map (·.2)) k := by
      rw [tk, K76.afterM_append, ← haf]
      rfl
    have hmr : ∀ (r : Addr) (n : Nat) (z : Str), H8 r = some (.tup [.int (n : Int), .str z]) → r ≠ th := fun r n z q => ne_of q (e68 _ _ r1) nofun
    cases pl0 with
    | nil =>
      have pf : (tl.map (·.2)).findIdx? (fun x => fitP ps x k) = none := pf
      refine ifT rfl ?_
      refine ⟨_, rfl, .inl ⟨rfl, _, sq_of (e68 _ _ r1)⟩, _, rfl, _, rfl, two_le, fun w hw => ?_⟩
      generalize hE : L2.upd H8 w (.tup [.int (ms.length : Int), .str k]) = H9
      have e9 : Sm H8 H9 := hE ▸ Evl.Ex.new hw
      have h9 : H9 w = some (.tup [.int (ms.length : Int), .str k]) := hE ▸ L2.upd_same
      clear hE
      refine ⟨th, _, _, rfl, rfl, e9 _ _ (e68 _ _ r1), bigS _ (by rw [List.length_map]; omega), ?_⟩
      refine ⟨_, _, _, _, tl ++ [(ms.length, k)], ms ++ [.non], rfl, (e08.trans e9).put (fresh_back Sm.rfl' hth), ⟨rs ++ [w], ?_, ?_⟩, put_ne (e9 _ _ (e68 _ _ hm6)) ntm.symm, by rw [List.length_append, hml]; rfl, fun t ht => ?_, ?_, by rw [List.length_append]; show _ + 1 ≤ _; omega, ?_⟩
      · rw [List.map_append]; exact upd_same
      · exact (Paired.mapP r2 fun r t q => put_ne (e9 _ _ (e68 _ _ q)) (hmr r _ _ (e68 _ _ q))).snoc (put_ne h9 (ne_of h9 (e9 _ _ (e68 _ _ r1)) nofun))
      · rw [List.length_append]
        rcases List.mem_append.mp ht with q | q
        · have := hlt t q
          show _ < _ + 1
          omega
        · rw [List.mem_singleton.mp q]; exact Nat.lt_succ_self _
      · rw [List.map_append]
        intro x hx
        rcases List.mem_append.mp hx with q | q
        · exact hok x q
        · rw [List.mem_singleton.mp q]; exact okk
      · rw [hnew, List.map_append]
        unfold K76.come
        rw [pf]
        rfl
    | cons j pr =>
      have pf : (tl.map (·.2)).findIdx? (fun x => fitP ps x k) = some j := pf
      have hj := lenf j List.mem_cons_self
      obtain ⟨r, t, g1, g2, g3⟩ := hgetD j hj
      have tm := List.mem_of_getElem? g2
      refine ifF rfl ?_
      refine ⟨_, rfl, .inl ⟨rfl, _, sq_of (e68 _ _ r1)⟩, _, rfl, va, _, _, .int (j : Int), rfl, rfl, sq_of (e8 _ _ h7), atI_nat (i := 0) rfl, th, _, (j : Int), j, .ref r, rfl, rfl, e68 _ _ r1, by omega, by omega, ?_, by rw [List.getElem?_map, g1]; rfl, ?_⟩
      · rw [List.length_map, lrs]
        exact seqIndex_of (by omega) (by omega)
      have g3' : upd H8 th (.lst ((rs.map V.ref).eraseIdx j)) r = some (.tup [.int (t.1 : Int), .str t.2]) := put_ne (e68 _ _ g3) (hmr r _ _ (e68 _ _ g3))
      have hm8 : upd H8 th (.lst ((rs.map V.ref).eraseIdx j)) mo = some (.lst (ms ++ [.non])) := put_ne (e68 _ _ hm6) ntm.symm
      have hT8 : ThereAt (upd H8 th (.lst ((rs.map V.ref).eraseIdx j))) th (tl.eraseIdx j) := ⟨rs.eraseIdx j, by rw [upd_same, map_eraseIdx], paired_erase (Paired.mapP r2 fun r t q => put_ne (e68 _ _ q) (hmr r _ _ (e68 _ _ q))) j⟩
      have e8' : Sm H (upd H8 th (.lst ((rs.map V.ref).eraseIdx j))) := e08.put (fresh_back Sm.rfl' hth)
      revert g3' hm8 hT8 e8'
      generalize upd H8 th (.lst ((rs.map V.ref).eraseIdx j)) = H9
      intro g3' hm9 hT9 e9
      refine ⟨r, _, _, .int (t.1 : Int), rfl, rfl, st_of g3', atI_nat (i := 0) rfl, ?_⟩
      refine ⟨_, rfl, _, rfl, two_le, fun w hw => ?_⟩
      generalize hE : L2.upd H9 w (.tup [.int (ms.length : Int), .int (t.1 : Int)]) = HA
      have eA : Sm H9 HA := hE ▸ Evl.Ex.new hw
      have hA : HA w = some (.tup [.int (ms.length : Int), .int (t.1 : Int)]) := hE ▸ L2.upd_same
      clear hE
      have hmA := eA _ _ hm9
      have tlt : t.1 < (ms ++ [V.non]).length := by rw [List.length_append]; have := hlt t tm; show _ < _ + 1; omega
      refine ⟨w, _, rfl, st_of hA, rfl, _, _, rfl, _, rfl, _, rfl, mo, _, (t.1 : Int), t.1, rfl, rfl, hmA, Evl.ixN_nat tlt, ?_⟩
      refine ⟨_, _, rfl, _, rfl, _, rfl, mo, _, (ms.length : Int), ms.length, rfl, rfl, upd_same, Evl.ixN_nat (by rw [List.length_set, List.length_append]; exact Nat.lt_succ_self _), rfl, ?_⟩
      rw [upd_upd]
      refine ⟨_, _, _, _, tl.eraseIdx j, ((ms ++ [V.non]).set t.1 (.int (ms.length : Int))).set ms.length (.int (t.1 : Int)), rfl, (e9.trans eA).put hm0, (hT9.mono eA).put hmA ntm, upd_same, ?_, fun t2 ht2 => ?_, fun x hx => ?_, ?_, ?_⟩
      · rw [List.length_set, List.length_set, List.length_append, hml]; rfl
      · rw [List.length_set, List.length_set, List.length_append]
        have := hlt t2 (List.mem_of_mem_eraseIdx ht2)
        show _ < _ + 1
        omega
      · obtain ⟨t2, ht2, rfl⟩ := List.mem_map.mp hx
        exact hok _ (List.mem_map_of_mem (List.mem_of_mem_eraseIdx ht2))
      · have := List.length_eraseIdx_le tl j
        omega
      · rw [hnew]
        unfold K76.come
        rw [pf]
        exact (map_eraseIdx _ _ _).symm
  · obtain ⟨o5, o6, o7, o8, tl, ms, rfl, e, hT, hm, hml, hlt, hok, htl, haf⟩ := q
    rw [List.length_map, List.take_length] at haf
    refine ⟨_, rfl, _, rfl, two_le, fun r hr2 => ?_⟩
    exact hQ r th mo _ tl (e.add hr2) upd_same (hT.mono (Ex.new hr2)) haf
theorem come_sub {fit : Str → Str → Bool} {there : List Str} {k x : Str} (h : x ∈ K76.come fit there k) : x ∈ there ∨ x = k := by
  unfold K76.come at h
  split at h
  · exact .inl (List.mem_of_mem_eraseIdx h)
  · rcases List.mem_append.mp h with q | q
    · exact .inl q
    · exact .inr (List.mem_singleton.mp q)
theorem after_sub {fit : Str → Str → Bool} : ∀ {row there : List Str} {x : Str}, x ∈ K76.afterM fit there row → x ∈ there ∨ x ∈ row
  | [], there, x, h => .inl h
  | k :: r, there, x, h => by
    rcases after_sub (row := r) (there := K76.come fit there k) h with q | q
    · rcases come_sub q with z | z
      · exact .inl z
      · exact .inr (z ▸ List.mem_cons_self)
    · exact .inr (List.mem_cons_of_mem _ q)
theorem come_len {fit : Str → Str → Bool} {there : List Str} {k : Str} : (K76.come fit there k).length ≤ there.length + 1 := by
  unfold K76.come
  split
  · have := List.length_eraseIdx_le there
    exact Nat.le_succ_of_le (List.length_eraseIdx_le ..)
  · rw [List.length_append]; exact Nat.le_refl _
theorem after_len {fit : Str → Str → Bool} : ∀ (row there : List Str), (K76.afterM fit there row).length ≤ there.length + row.length
  | [], there => Nat.le_refl _
  | k :: r, there => by
    have := after_len (fit := fit) r (K76.come fit there k)
    have := come_len (fit := fit) (there := there) (k := k)
    show (K76.afterM fit (K76.come fit there k) r).length ≤ _
    rw [List.length_cons]
    omega
def sp_law_after : Sp := fun vs H Q _ => ∃ (pl la ra : Addr) (ks : List Str) (ps : List (Str × Str)) (line row : List Str), vs = [.ref pl, .ref la, .ref ra] ∧ PlanAt H pl ks ps ∧ PlanOk ks ps ∧ LS H la line ∧ LS H ra row ∧ line.length ≤ 2000 ∧ row.length ≤ 2000 ∧ okS line ∧ okS row ∧
  ∀ r H', Sm H H' → H r = none → LS H' r (K76.afterM (fitP ps) line row) → Q (.ref r) H'
theorem c_law_after (T : Tx P w K mg base) : C8.Cal P w K mg base 3 "_law_after" sp_law_after [] := by
  obtain ⟨f, fd, F, df⟩ := T.d "_law_after" 33 (by decide +kernel)
  have sc : FnScope ["_law_plan_here", "_law_line_here", "_law_row_here", "_law_number", "_law_kind"] ["_law_plan_here", "_law_line_here", "_law_row_here"] (C8.fnScope (top 33)) := C8.fnScope_by (by decide +kernel)
  have nd := sc.nd
  have c_law_run := c_law_run T
  refine C8.cal0 F (F.fn.binds df (ps := ["_law_plan_here", "_law_line_here", "_law_row_here"]) fun _ _ _ _ _ _ us hl => match us, hl with | [_, _, _], _ => rfl) .nil sc (fun vs H Q E h => by obtain ⟨_, _, _, _, _, _, _, rfl, _⟩ := h; rfl) fun cdv A outer s H vs Q E hr h => ?_
  refine ⟨_, PSs.nox (pss_one (ps_ret (pe_lc (own := [("_law_number", 3), ("_law_kind", 4)]) (tt := tYes) rfl nd (k_pi_list (K := K) (pe_ix (k_ix_tup (K := K)) (C8.pe_c c_law_run hr (by decide) rfl (pa_cons (pv 0) (pa_cons (pv 1) (pa_cons (pv 2) pa_nil)))) pe_int (fun _ _ => rfl))) (blkOk_by (by kernel_rfl)) (fun _ _ _ _ _ => (k_pg_tup (K := K) (n := 2) rfl (pgs_cons (pg_name (i := 3) nd rfl (.inl rfl)) (pgs_cons (pg_name (i := 4) nd rfl (.inl rfl)) pgs_nil)))) (fun _ _ _ _ _ => pts_nil) (fun _ _ _ _ _ => (pv 4))))), ?_⟩
  obtain ⟨pl, la, ra, ks, ps, line, row, rfl, hP, ok, hla, hra, hz, hrz, okl, okr, hQ⟩ := h
  refine ⟨_, rfl, _, rfl, _, rfl, pl, la, ra, ks, ps, line, row, rfl, hP, ok, hla, hra, hz, hrz, okl, okr, fun r th mo H1 ts e1 h1 hT haf => ?_⟩
  refine ⟨r, _, _, .ref th, rfl, rfl, st_of h1, atI_nat (i := 0) rfl, th, rfl, ?_⟩
  obtain ⟨rs, r1, r2⟩ := hT
  have lrs := Paired.length r2
  have al := after_len (fit := fitP ps) row line
  have tl : ts.length = (K76.afterM (fitP ps) line row).length := by rw [← haf, List.length_map]
  refine ⟨⟨_, sq_of r1⟩, fun D hD => ?_⟩
  refine lc_list (xs := rs.map V.ref) (fun i H' => Sm H1 H' ∧ LS H' D ((ts.take i).map (·.2))) ⟨Ex.new hD, upd_same⟩ (fun i H' _ q => sq_of (q.1 _ _ r1)) (fun i x H' hx q => ?_) (fun H' q => ?_)
  · obtain ⟨a, ha, rfl⟩ := get?_map' hx
    obtain ⟨t, ht, htw⟩ := paired_get r2 ha
    obtain ⟨e, hd⟩ := q
    refine ⟨a, _, rfl, st_of (e _ _ htw), rfl, _, _, rfl, _, _, rfl, rfl, rfl, ?_⟩
    refine ⟨_, rfl, _, hd, bigS _ ?_, e.put hD, ?_⟩
    · rw [List.length_map, List.length_map]
      have := List.length_take_le' i ts
      omega
    · show _ = some (HO.lst _)
      rw [take_succ' ht, List.map_append, List.map_append]
      exact upd_same
  · obtain ⟨e, hd⟩ := q
    rw [List.length_map, lrs, List.take_length, haf] at hd
    exact hQ D H' (e1.trans e) (fresh_back e1 hD) hd
end
end K7

set_option Elab.async false
set_option linter.all false
set_option maxRecDepth 100000
set_option maxHeartbeats 1000000
namespace K7
open PySem PySem.Spec PyProof.Rows L2
open PySem.W (Datum)
open Evl (Ex Ev EvT EvL EvA ex_l ex_t sq_of st_of sz_of sz_lt fresh_back)
section
variable {P : Program} {w : World} {K : PySem.W.Frag} {mg : Str → Option Value} {base : Heap}
theorem asc_len' {n : Nat} : ∀ {l : List Nat} {b : Nat}, l.Pairwise (· < ·) → (∀ q ∈ l, b ≤ q ∧ q < n) → l.length + b ≤ n ∨ l = []
  | [], _, _, _ => .inr rfl
  | x :: l, b, h, hl => by
    obtain ⟨h1, h2⟩ := List.pairwise_cons.mp h
    obtain ⟨x1, x2⟩ := hl x List.mem_cons_self
    rcases asc_len' (b := x + 1) h2 (fun q hq => ⟨h1 q hq, (hl q (List.mem_cons_of_mem _ hq)).2⟩) with q | q
    · exact .inl (by rw [List.length_cons]; omega)
    · subst q
      exact .inl (by show 1 + b ≤ n; omega)
theorem asc_le' {n : Nat} {l : List Nat} (h : l.Pairwise (· < ·)) (hl : ∀ q ∈ l, q < n) : l.length ≤ n := by
  rcases asc_len' (b := 0) h (fun q hq => ⟨Nat.zero_le _, hl q hq⟩) with q | q
  · omega
  · subst q; exact Nat.zero_le _
theorem sub_line {ps : List (Str × Str)} {line : List Str} {ix : List Nat} (h : K76.IsLine (fitP ps) line) (hs : ix.Pairwise (· < ·)) (hl : ∀ p ∈ ix, p < line.length) : K76.IsLine (fitP ps) (ix.map fun p => line.getD p Str.empty) := by
  unfold K76.IsLine at h ⊢
  rw [List.pairwise_map]
  refine hs.imp_of_mem fun {a b} ha hb hab => ?_
  have h1 := hl a ha
  have h2 := hl b hb
  have q := (List.pairwise_iff_getElem.mp h) a b h1 h2 hab
  simpa [List.getD, List.getElem?_eq_getElem h1, List.getElem?_eq_getElem h2] using q
def sp_law_goal : Sp := fun vs H Q _ => ∃ (b pl la : Addr) (ks : List Str) (ps : List (Str × Str)) (line : List Str), vs = [.ref b, .ref pl, .ref la] ∧ Bag H b ∧ PlanAt H pl ks ps ∧ PlanOk ks ps ∧ LS H la line ∧ (∀ k ∈ line, k ∈ ks) ∧ K76.IsLine (fitP ps) line ∧ line.length ≤ 200 ∧
  ∀ r H' goal, Sm H H' → H r = none → LS H' r goal → (∀ k ∈ goal, k ∈ ks) → K76.IsLine (fitP ps) goal → goal.length ≤ 300 → Q (.ref r) H'
theorem c_law_goal (T : Tx P w K mg base) : C8.Cal P w K mg base 4 "_law_goal" sp_law_goal [] := by
  obtain ⟨f, fd, F, df⟩ := T.d "_law_goal" 35 (by decide +kernel)
  have sc : FnScope ["_law_bag_here", "_law_plan_here", "_law_line_here", "_law_way", "_law_found", "_law_kind", "_law_place", "_law_one"] ["_law_bag_here", "_law_plan_here", "_law_line_here"] (C8.fnScope (top 35)) := C8.fnScope_by (by decide +kernel)
  have nd := sc.nd
  have c_law_after := c_law_after T
  have c_law_fit := c_law_fit T
  have c_law_line := c_law_line T
  have c_law_row := c_law_row T
  have c_law_some := c_law_some T
  have c_law_take := c_law_take T
  refine C8.cal0 F (F.fn.binds df (ps := ["_law_bag_here", "_law_plan_here", "_law_line_here"]) fun _ _ _ _ _ _ us hl => match us, hl with | [_, _, _], _ => rfl) .nil sc (fun vs H Q E h => by obtain ⟨_, _, _, _, _, _, rfl, _⟩ := h; rfl) fun cdv A outer s H vs Q E hr h => ?_
  refine ⟨_, PSs.nox (pss_cons (ps_set (i := 3) nd rfl (.inl rfl) (C8.pe_c c_law_take hr (by decide) rfl (pa_cons (pv 0) (pa_cons pe_int pa_nil))))
    (pss_cons (ps_if (pt_cmpR op_eq (pv 3) pe_int (nomark _)) (pss_one (ps_ret (C8.pe_c c_law_line hr (by decide) rfl (pa_cons (pv 0) (pa_cons (pv 1) (pa_cons pe_int pa_nil)))))) pss_nil)
    (pss_cons (ps_if (pt_cmpR op_eq (pv 3) pe_int (nomark _)) (pss_one (ps_ret (C8.pe_c c_law_after hr (by decide) rfl (pa_cons (pv 1) (pa_cons (pv 2) (pa_cons (C8.pe_c c_law_row hr (by decide) rfl (pa_cons (pv 0) (pa_cons (pv 1) (pa_cons pe_int pa_nil)))) pa_nil)))))) pss_nil)
    (pss_cons (ps_setLc (i := 4) (own := [("_law_place", 6)]) (g := (gName 6)) (tt := tYes) rfl nd rfl rfl (sw_true rfl rfl rfl (by decide +kernel)) (k_pi_list (K := K) (C8.pe_c c_law_some hr (by decide) rfl (pa_cons (pv 0) (pa_cons (pe_callB (k_len_seq (K := K)) (by rfl) T.b_len (by decide +kernel) (pa_cons (pv 2) pa_nil)) pa_nil)))) (blkOk_by (by kernel_rfl)) (fun _ _ _ _ _ => (pg_name (i := 6) nd rfl (.inl rfl))) (fun _ _ _ _ _ => pts_nil) (fun _ _ _ _ _ => (pe_ix (k_ix_list (K := K)) (pv 2) (pv 6) (fun _ _ => rfl))))
    (pss_cons (ps_for PassesOwn.never rfl (k_pi_list (K := K) (C8.pe_c c_law_line hr (by decide) rfl (pa_cons (pv 0) (pa_cons (pv 1) (pa_cons pe_int pa_nil))))) (pg_name (i := 5) nd rfl (.inr rfl)) (pss_one (ps_if (pt_not (pt_val (pe_callB (k_any (K := K) rfl) (by rfl) T.b_any (by decide +kernel) (pa_cons (pe_lc (own := [("_law_one", 7)]) (g := (gName 7)) (tt := tYes) rfl nd (k_pi_list (K := K) (pv 4)) (blkOk_by (by kernel_rfl)) (fun _ _ _ _ _ => (pg_name (i := 7) nd rfl (.inl rfl))) (fun _ _ _ _ _ => pts_nil) (fun _ _ _ _ _ => (C8.pe_c c_law_fit hr (by decide) rfl (pa_cons (pv 1) (pa_cons (pv 5) (pa_cons (pv 7) pa_nil)))))) pa_nil)))) (pss_one (ps_expr (pe_bm PySem.F.plainAttrs_list PySem.F.slot_list_append PySem.F.type_list_append mt_append (pv 4) (pa_cons (pv 5) pa_nil)))) pss_nil)))
    (pss_one (ps_ret (pv 4)))))))), ?_⟩
  obtain ⟨b, pl, la, ks, ps, line, rfl, hB, hP, ok, hla, hsub, hil, hz, hQ⟩ := h
  have okl : okS line := fun x hx => ok.okS x (hsub x hx)
  refine ⟨_, rfl, b, 4, rfl, hB, by decide, by decide, fun w0 hw0 hw1 => ?_⟩
  refine ⟨_, rfl, rfl, _, rfl, ?_⟩
  by_cases h0 : V.int w0 = V.int 0
  · refine ifT (decide_eq_true h0) ⟨_, rfl, _, rfl, b, pl, 8, ks, ps, rfl, hB, hP, ok, by decide, fun r H1 line e1 hr1 h1 h2 h3 h4 => hQ r H1 line e1 hr1 h1 h2 h3 (by omega)⟩
  refine ifF (decide_eq_false h0) ⟨_, rfl, rfl, _, rfl, ?_⟩
  by_cases h1 : V.int w0 = V.int 1
  · refine ifT (decide_eq_true h1) ⟨_, rfl, _, rfl, _, rfl, _, rfl, b, pl, 8, ks, ps, rfl, hB, hP, ok, by decide, fun r H1 row e1 hr1 g1 g2 g3 => ?_⟩
    refine ⟨pl, la, r, ks, ps, line, row, rfl, hP.mono e1, ok, e1 _ _ hla, g1, by omega, by omega, okl, fun x hx => ok.okS x (g2 x hx), fun r2 H2 e2 hr2 g4 => ?_⟩
    refine hQ r2 H2 _ (e1.trans e2) (fresh_back e1 hr2) g4 (fun k hk => ?_) (K76.IsLine.after row hil) ?_
    · rcases after_sub hk with q | q
      · exact hsub k q
      · exact g2 k q
    · have := after_len (fit := fitP ps) row line
      omega
  refine ifF (decide_eq_false h1) ?_
  refine ⟨_, rfl, _, rfl, la, _, rfl, .inl (sq_of hla), ?_⟩
  rw [List.length_map]
  refine ⟨b, line.length, rfl, hB, by omega, fun r H1 ix e1 hr1 g1 g2 g3 => ?_⟩
  have ixl := asc_le' g2 g3
  refine ⟨r, rfl, ⟨_, sq_of g1⟩, ?_⟩
  refine lcLy (enc := fun n : Nat => V.int (n : Int)) (fun p => V.str (line.getD p Str.empty)) (sq_of g1) (by omega) (fun p hp => ?_) (fun fa H2 hfa e2 h2 => ?_)
  · refine Evl.ev_op (Evl.ev_var rfl) (Evl.ev_var rfl) (Evl.rv_ixL (sq_of (e1 _ _ hla)) (atI_nat ?_))
    have hp' := g3 p hp
    rw [List.getElem?_map, List.getElem?_eq_getElem hp']
    simp [List.getD, List.getElem?_eq_getElem hp']
  have h2' : LS H2 fa (ix.map fun p => line.getD p Str.empty) := by
    show _ = some (HO.lst _)
    rw [List.map_map]
    exact h2
  have f1 : K76.IsLine (fitP ps) (ix.map fun p => line.getD p Str.empty) := sub_line hil g2 g3
  have f2 : ∀ k ∈ (ix.map fun p => line.getD p Str.empty), k ∈ ks := fun k hk => by
    obtain ⟨p, hp, rfl⟩ := List.mem_map.mp hk
    have hp' := g3 p hp
    have : line.getD p Str.empty = line[p] := by simp [List.getD, List.getElem?_eq_getElem hp']
    rw [this]
    exact hsub _ (List.getElem_mem hp')
  have f3 : (ix.map fun p => line.getD p Str.empty).length ≤ 200 := by rw [List.length_map]; omega
  clear h2
  revert h2' f1 f2 f3
  generalize (ix.map fun p => line.getD p Str.empty) = found0
  intro h2 f1 f2 f3
  have e12 : Sm H H2 := e1.trans e2
  have hf0 : H fa = none := fresh_back e1 hfa
  refine ⟨_, rfl, _, rfl, b, pl, 6, ks, ps, rfl, hB.mono e12, hP.mono e12, ok, by decide, fun l2 H3 line2 e3 hl2 h3 s3 _ z3 => ⟨l2, rfl, ⟨_, sq_of h3⟩, ?_⟩⟩
  have n2 : fa ≠ l2 := ne_fr hl2 h2
  refine for_list (xs := line2.map V.str) (fun i σ' H' => ∃ (o5 : Option V) (found : List Str), σ' = [some (.ref b), some (.ref pl), some (.ref la), some (.int w0), some (.ref fa), o5, none, none] ∧ Sm H H' ∧ LS H' l2 line2 ∧ LS H' fa found ∧ (∀ k ∈ found, k ∈ ks) ∧ K76.IsLine (fitP ps) found ∧ found.length ≤ 200 + i)
    ⟨none, found0, rfl, e12.trans e3, h3, e3 _ _ h2, f2, f1, f3⟩ (fun i σ' H' _ q => ?_) (fun i x σ' H' hx q => ?_) (fun σ' H' q => ?_)
  · obtain ⟨_, _, _, _, q, _⟩ := q
    exact sq_of q
  · obtain ⟨k, hk, rfl⟩ := get?_map' hx
    obtain ⟨o5, found, rfl, e, hl2', hf, hs, hi, hl⟩ := q
    have hm := s3 k (List.mem_of_getElem? hk)
    have hi6 : i < line2.length := (List.getElem?_eq_some_iff.mp hk).1
    refine Evl.s_when (Evl.et_not (Evl.et_B (any_fit (ks := ks) (found := found) (x := k) (have_l (Evl.ev_var rfl) hf) (hP.mono e) ok.okP (ok.okS k hm) (fun y hy => ok.okS y (hs y hy)) (by omega) (fun _ _ => Evl.ev_var rfl) (fun _ _ => Evl.ev_var rfl) (fun _ _ => Evl.ev_var rfl)))) (fun hc H6 e6 => ?_) (fun hc H6 e6 => ?_)
    · refine Evl.s_app (e6 _ _ hf) (Evl.ev_var rfl) (Evl.ev_var rfl) (by rw [List.length_map]; omega) fun H7 e7 => ?_
      refine ⟨_, found ++ [k], rfl, (e.trans (e6.trans e7)).put hf0, put_ne (e7 _ _ (e6 _ _ hl2')) n2.symm, ?_, fun y hy => ?_, snoc_line hi hc, by rw [List.length_append]; show _ + 1 ≤ _; omega⟩
      · show _ = some (HO.lst _)
        rw [List.map_append]
        exact upd_same
      · rcases List.mem_append.mp hy with q | q
        · exact hs y q
        · rw [List.mem_singleton.mp q]; exact hm
    · exact ⟨_, found, rfl, e.trans e6, e6 _ _ hl2', e6 _ _ hf, hs, hi, by omega⟩
  · obtain ⟨o5, found, rfl, e, hl2', hf, hs, hi, hl⟩ := q
    rw [List.length_map] at hl
    exact ⟨_, rfl, hQ fa H' found e hf0 hf hs hi (by omega)⟩
end
end K7

set_option Elab.async false
set_option linter.all false
set_option maxRecDepth 100000
set_option maxHeartbeats 1000000
namespace K7
open PySem PySem.Spec PyProof.Rows L2
open PySem.W (Datum)
open Evl (Ex Ev EvT EvL EvA ex_l ex_t sq_of st_of sz_of sz_lt fresh_back)
section
variable {P : Program} {w : World} {K : PySem.W.Frag} {mg : Str → Option Value} {base : Heap}
open SX
abbrev T1 (c : Nat) : Str := ⟨#[c]⟩
theorem abc_at {i : Int} (h0 : 0 ≤ i) (h1 : i < 26) : atI abc.cps.toList i = some (97 + i.toNat) := by
  obtain ⟨j, rfl⟩ : ∃ j : Nat, i = (j : Int) := ⟨i.toNat, (Int.toNat_of_nonneg h0).symm⟩
  have hj : j < 26 := by omega
  have e : ∀ k : Fin 26, abc.cps.toList[k.val]? = some (97 + k.val) := by decide +kernel
  have q := e ⟨j, hj⟩
  unfold atI
  rw [Evl.ixN_nat (List.getElem?_eq_some_iff.mp q).1]
  rw [Int.toNat_natCast]
  exact q
theorem kdS {l : List Nat} (h1 : 1 ≤ l.length) (h2 : l.length ≤ 8) (h3 : ∀ c ∈ l, 97 ≤ c ∧ c ≤ 122) : Kd ⟨l.toArray⟩ := ⟨by rw [show Str.length ⟨l.toArray⟩ = l.length from rfl]; exact h1, by rw [show Str.length ⟨l.toArray⟩ = l.length from rfl]; exact h2, fun c hc => h3 c (by simpa using hc)⟩
def kdB (z : Str) : Bool := decide (1 ≤ z.length) && decide (z.length ≤ 8) && z.cps.toList.all fun c => decide (97 ≤ c) && decide (c ≤ 122)
theorem kd_of {z : Str} (h : kdB z = true) : Kd z := by
  unfold kdB at h
  simp only [Bool.and_eq_true, decide_eq_true_eq, List.all_eq_true] at h
  exact ⟨h.1.1, h.1.2, h.2⟩
theorem mkS_inj {a b : List Nat} (h : (⟨a.toArray⟩ : Str) = ⟨b.toArray⟩) : a = b := SX.S_inj h
theorem joinL_one : ∀ cs : List Nat, TL.joinL [] (cs.map fun c => [c]) = cs
  | [] => rfl
  | [c] => rfl
  | c :: d :: r => by
    have ih := joinL_one (d :: r)
    show [c] ++ ([] ++ TL.joinL [] ((d :: r).map fun c => [c])) = _
    rw [ih]
    rfl
def words8 : List Str := ["come", "go", "late", "cut", "back", "line", "more", "alike"]
theorem nodup_map_lt {f : Nat → Str} {n : Nat} (h : ∀ a b, a < b → b < n → f a ≠ f b) : ((List.range n).map f).Nodup := by
  unfold List.Nodup
  rw [List.pairwise_map]
  exact List.pairwise_lt_range.imp_of_mem fun {a b} _ hb hab => h a b hab (List.mem_range.mp hb)
def sp_law_names : Sp := fun vs H Q _ => ∃ (b : Addr) (n : Nat), vs = [.ref b, .int (n : Int)] ∧ Bag H b ∧ 1 ≤ n ∧ n ≤ 8 ∧ ∀ r H' ks, Sm H H' → H r = none → LS H' r ks → ks.Nodup → ks.length = n → (∀ k ∈ ks, Kd k) → Q (.ref r) H'
theorem c_law_names (T : Tx P w K mg base) : C8.Cal P w K mg base 2 "_law_names" sp_law_names [] := by
  obtain ⟨f, fd, F, df⟩ := T.d "_law_names" 25 (by decide +kernel)
  have sc : FnScope ["_law_bag_here", "_law_many", "_law_letters", "_law_way", "_law_turn", "_law_words", "_law_base", "_law_at", "_law_k"] ["_law_bag_here", "_law_many"] (C8.fnScope (top 25)) := C8.fnScope_by (by decide +kernel)
  have nd := sc.nd
  have c_law_take := c_law_take T
  refine C8.cal0 F (F.fn.binds df (ps := ["_law_bag_here", "_law_many"]) fun _ _ _ _ _ _ us hl => match us, hl with | [_, _], _ => rfl) .nil sc (fun vs H Q E h => by obtain ⟨_, _, rfl, _⟩ := h; rfl) fun cdv A outer s H vs Q E hr h => ?_
  refine ⟨_, PSs.nox (pss_cons (ps_set (i := 2) nd rfl (.inr rfl) pe_str)
    (pss_cons (ps_asg (pe_tup (pa_cons (C8.pe_c c_law_take hr (by decide) rfl (pa_cons (pv 0) (pa_cons pe_int pa_nil))) (pa_cons (C8.pe_c c_law_take hr (by decide) rfl (pa_cons (pv 0) (pa_cons pe_int pa_nil))) pa_nil))) (k_pg_tup (K := K) (n := 2) rfl (pgs_cons (pg_name (i := 3) nd rfl (.inl rfl)) (pgs_cons (pg_name (i := 4) nd rfl (.inr rfl)) pgs_nil))))
    (pss_cons (ps_if (pt_cmpR op_eq (pv 3) pe_int (nomark _)) (pss_cons (ps_set (i := 5) nd rfl (.inl rfl) (pe_lst (pa_cons pe_str (pa_cons pe_str (pa_cons pe_str (pa_cons pe_str (pa_cons pe_str (pa_cons pe_str (pa_cons pe_str (pa_cons pe_str pa_nil))))))))))
    (pss_one (ps_ret (pe_slice (k_sl_list (K := K)) (pe_op op_cat (pe_slice (k_sl_list (K := K)) (pv 5) (po_some (pe_op op_mod (pv 4) pe_int)) po_none) (pe_slice (k_sl_list (K := K)) (pv 5) po_none (po_some (pe_op op_mod (pv 4) pe_int)))) po_none (po_some (pv 1)))))) pss_nil)
    (pss_cons (ps_if (pt_cmpR op_eq (pv 3) pe_int (nomark _)) (pss_one (ps_ret (pe_lc (own := [("_law_k", 8)]) (g := (gName 8)) (tt := tYes) rfl nd (pi_range1 (by rfl) T.b_range (pa_cons (pv 1) pa_nil)) (blkOk_by (by kernel_rfl)) (fun _ _ _ _ _ => (pg_name (i := 8) nd rfl (.inl rfl))) (fun _ _ _ _ _ => pts_nil) (fun _ _ _ _ _ => (pe_ix ix_str (pv 2) (pe_op op_mod (pe_op op_add (pv 4) (pe_op op_mul pe_int (pv 8))) pe_int) (fun _ _ => rfl)))))) pss_nil)
    (pss_cons (ps_if (pt_cmpR op_eq (pv 3) pe_int (nomark _)) (pss_one (ps_ret (pe_lc (own := [("_law_k", 8)]) (g := (gName 8)) (tt := tYes) rfl nd (pi_range1 (by rfl) T.b_range (pa_cons (pv 1) pa_nil)) (blkOk_by (by kernel_rfl)) (fun _ _ _ _ _ => (pg_name (i := 8) nd rfl (.inl rfl))) (fun _ _ _ _ _ => pts_nil) (fun _ _ _ _ _ => (pe_op op_mulS (pe_ix ix_str (pv 2) (pv 4) (fun _ _ => rfl)) (pe_op op_add (pv 8) pe_int)))))) pss_nil)
    (pss_cons (ps_set (i := 6) nd rfl (.inr rfl) (pe_join pe_str (pe_lc (own := [("_law_k", 8)]) (g := (gName 8)) (tt := tYes) rfl nd (pi_range1 (by rfl) T.b_range (pa_cons (pe_op op_add pe_int (C8.pe_c c_law_take hr (by decide) rfl (pa_cons (pv 0) (pa_cons pe_int pa_nil)))) pa_nil)) (blkOk_by (by kernel_rfl)) (fun _ _ _ _ _ => (pg_name (i := 8) nd rfl (.inl rfl))) (fun _ _ _ _ _ => pts_nil) (fun _ _ _ _ _ => (pe_ix ix_str (pv 2) (C8.pe_c c_law_take hr (by decide) rfl (pa_cons (pv 0) (pa_cons pe_int pa_nil))) (fun _ _ => rfl))))))
    (pss_cons (ps_set (i := 7) nd rfl (.inr rfl) (C8.pe_c c_law_take hr (by decide) rfl (pa_cons (pv 0) (pa_cons (pe_callB call_len_str (by rfl) T.b_len (by decide +kernel) (pa_cons (pv 6) pa_nil)) pa_nil))))
    (pss_one (ps_ret (pe_lc (own := [("_law_k", 8)]) (g := (gName 8)) (tt := tYes) rfl nd (pi_range1 (by rfl) T.b_range (pa_cons (pv 1) pa_nil)) (blkOk_by (by kernel_rfl)) (fun _ _ _ _ _ => (pg_name (i := 8) nd rfl (.inl rfl))) (fun _ _ _ _ _ => pts_nil) (fun _ _ _ _ _ => (pe_op op_add_str (pe_op op_add_str (pe_slice sl_str (pv 6) po_none (po_some (pv 7))) (pe_ix ix_str (pv 2) (pe_op op_mod (pe_op op_add (pv 4) (pe_op op_mul pe_int (pv 8))) pe_int) (fun _ _ => rfl))) (pe_slice sl_str (pv 6) (po_some (pe_op op_add (pv 7) pe_int)) po_none))))))))))))), ?_⟩
  obtain ⟨b, n, rfl, hB, n1, n8, hQ⟩ := h
  refine ⟨_, rfl, b, 5, rfl, hB, by decide, by decide, fun way w0 w1 => ⟨_, rfl, b, 26, rfl, hB, by decide, by decide, fun tu t0 t1 => ⟨two_le, fun t ht => ?_⟩⟩⟩
  obtain ⟨tn, rfl⟩ : ∃ j : Nat, tu = (j : Int) := ⟨tu.toNat, (Int.toNat_of_nonneg t0).symm⟩
  have tn26 : tn < 26 := by omega
  generalize hE : L2.upd H t (.tup [.int way, .int (tn : Int)]) = H1
  have e1 : Sm H H1 := hE ▸ Evl.Ex.new ht
  have h1 : H1 t = some (.tup [.int way, .int (tn : Int)]) := hE ▸ L2.upd_same
  clear hE
  refine ⟨t, _, rfl, st_of h1, rfl, _, _, rfl, _, _, rfl, rfl, ?_⟩
  have abcl : Str.length (Str.ofString "abcdefghijklmnopqrstuvwxyz") ≤ sizeLine := Evl.sz_of (show abc.length ≤ 100000 by decide +kernel)
  refine ⟨_, rfl, rfl, _, rfl, ?_⟩
  by_cases c0 : V.int way = V.int 0
  · refine ifT (decide_eq_true c0) ⟨Evl.sz_of (show 8 ≤ 100000 by decide), fun wa hwa => ?_⟩
    rw [show [V.str (Str.ofString "come"), V.str (Str.ofString "go"), V.str (Str.ofString "late"), V.str (Str.ofString "cut"), V.str (Str.ofString "back"), V.str (Str.ofString "line"), V.str (Str.ofString "more"), V.str (Str.ofString "alike")] = words8.map V.str from rfl]
    generalize hE : L2.upd H1 wa (.lst (words8.map V.str)) = H2
    have e2 : Sm H1 H2 := hE ▸ Evl.Ex.new hwa
    have h2 : H2 wa = some (.lst (words8.map V.str)) := hE ▸ L2.upd_same
    clear hE
    have em : (tn : Int) % 8 = ((tn % 8 : Nat) : Int) := by omega
    refine ⟨_, rfl, _, rfl, _, _, rfl, rfl, (show (0 : Int) < 8 by decide), _, rfl, wa, _, rfl, sq_of h2, fun a1 ha1 => ?_⟩
    rw [em, cutV_from, ← List.map_drop]
    generalize hE : L2.upd H2 a1 (.lst ((words8.drop (tn % 8)).map V.str)) = H3
    have e3 : Sm H2 H3 := hE ▸ Evl.Ex.new ha1
    have h3 : H3 a1 = some (.lst ((words8.drop (tn % 8)).map V.str)) := hE ▸ L2.upd_same
    clear hE
    refine ⟨_, rfl, _, rfl, _, _, rfl, rfl, (show (0 : Int) < 8 by decide), _, rfl, wa, _, rfl, sq_of (e3 _ _ h2), fun a2 ha2 => ?_⟩
    rw [em, cutV_to, ← List.map_take]
    generalize hE : L2.upd H3 a2 (.lst ((words8.take (tn % 8)).map V.str)) = H4
    have e4 : Sm H3 H4 := hE ▸ Evl.Ex.new ha2
    have h4 : H4 a2 = some (.lst ((words8.take (tn % 8)).map V.str)) := hE ▸ L2.upd_same
    clear hE
    have l1 : (words8.drop (tn % 8)).length ≤ 8 := by rw [List.length_drop]; show 8 - _ ≤ 8; omega
    have l2 : (words8.take (tn % 8)).length ≤ 8 := List.length_take_le' ..
    refine ⟨a1, a2, _, _, rfl, rfl, e4 _ _ h3, h4, Evl.sz_of (by rw [List.length_map, List.length_map]; omega), fun a3 ha3 => ?_⟩
    rw [← List.map_append]
    generalize hE : L2.upd H4 a3 (.lst ((words8.drop (tn % 8) ++ words8.take (tn % 8)).map V.str)) = H5
    have e5 : Sm H4 H5 := hE ▸ Evl.Ex.new ha3
    have h5 : H5 a3 = some (.lst ((words8.drop (tn % 8) ++ words8.take (tn % 8)).map V.str)) := hE ▸ L2.upd_same
    clear hE
    refine ⟨_, rfl, _, rfl, a3, _, rfl, sq_of h5, fun r hr2 => ?_⟩
    rw [cutV_to, ← List.map_take]
    have pm : (words8.drop (tn % 8) ++ words8.take (tn % 8)).Perm words8 := List.perm_append_comm.trans (List.Perm.of_eq (List.take_append_drop _ _))
    have e15 := (((e1.trans e2).trans e3).trans e4).trans e5
    refine hQ r _ _ (e15.add hr2) (fresh_back e15 hr2) upd_same ((pm.nodup_iff.mpr (by decide +kernel)).sublist (List.take_sublist _ _)) ?_ fun k hk => ?_
    · rw [List.length_take, pm.length_eq]
      show min n 8 = n
      omega
    · have e : ∀ k ∈ words8, kdB k = true := by decide +kernel
      exact kd_of (e k (pm.mem_iff.mp (List.mem_of_mem_take hk)))
  refine ifF (decide_eq_false c0) ⟨_, rfl, rfl, _, rfl, ?_⟩
  by_cases c1 : V.int way = V.int 1
  · refine ifT (decide_eq_true c1) ⟨_, rfl, (n : Int), rfl, by omega, by omega, ?_⟩
    rw [Int.toNat_natCast]
    refine lcRy (fun k => V.str (T1 (97 + (tn + 3 * k) % 26))) (by omega) (fun k hk H2 e2 Q2 q2 => ?_) (fun D H2 hD e2 h2 => ?_)
    · refine ⟨_, rfl, _, rfl, _, rfl, _, _, rfl, rfl, .inl (by decide), _, _, rfl, rfl, _, _, rfl, rfl, (show (0 : Int) < 26 by decide), abc, _, 97 + (tn + 3 * k) % 26, rfl, rfl, abcl, ?_, q2 H2 (Ex.refl H2)⟩
      rw [abc_at (by omega) (by omega)]
      exact congrArg some (by omega)
    · refine hQ D H2 ((List.range n).map fun k => T1 (97 + (tn + 3 * k) % 26)) (e1.trans e2) (fresh_back e1 hD) (by show _ = some (HO.lst _); rw [List.map_map]; exact h2) (nodup_map_lt fun a b hab hb z => ?_) (by rw [List.length_map, List.length_range]) fun k hk => ?_
      · have q := mkS_inj (a := [97 + (tn + 3 * a) % 26]) (b := [97 + (tn + 3 * b) % 26]) z
        injection q with q _
        omega
      · obtain ⟨j, hj, rfl⟩ := List.mem_map.mp hk
        exact kdS (l := [97 + (tn + 3 * j) % 26]) (Nat.le_refl 1) (by show 1 ≤ 8; decide) fun c hc => by
          rw [List.mem_singleton.mp hc]
          omega
  refine ifF (decide_eq_false c1) ⟨_, rfl, rfl, _, rfl, ?_⟩
  by_cases c2 : V.int way = V.int 2
  · refine ifT (decide_eq_true c2) ⟨_, rfl, (n : Int), rfl, by omega, by omega, ?_⟩
    rw [Int.toNat_natCast]
    refine lcRy (fun k => V.str ⟨(List.replicate (k + 1) (97 + tn)).toArray⟩) (by omega) (fun k hk H2 e2 Q2 q2 => ?_) (fun D H2 hD e2 h2 => ?_)
    · refine ⟨_, rfl, _, rfl, abc, _, 97 + tn, rfl, rfl, abcl, ?_, _, rfl, _, _, rfl, rfl, 97 + tn, k + 1, rfl, rfl, by omega, by omega, q2 H2 (Ex.refl H2)⟩
      rw [abc_at (by omega) (by omega)]
      rfl
    · refine hQ D H2 ((List.range n).map fun k => ⟨(List.replicate (k + 1) (97 + tn)).toArray⟩) (e1.trans e2) (fresh_back e1 hD) (by show _ = some (HO.lst _); rw [List.map_map]; exact h2) (nodup_map_lt fun a b hab hb z => ?_) (by rw [List.length_map, List.length_range]) fun k hk => ?_
      · have q := congrArg List.length (mkS_inj z)
        rw [List.length_replicate, List.length_replicate] at q
        omega
      · obtain ⟨j, hj, rfl⟩ := List.mem_map.mp hk
        have := List.mem_range.mp hj
        exact kdS (by rw [List.length_replicate]; omega) (by rw [List.length_replicate]; omega) fun c hc => by
          rw [(List.mem_replicate.mp hc).2]
          omega
  refine ifF (decide_eq_false c2) ?_
  refine ⟨⟨_, rfl⟩, _, rfl, b, 8, rfl, hB.mono e1, by decide, by decide, fun v v0 v1 => ⟨_, _, rfl, rfl, _, rfl, by omega, by omega, fun D hD => ?_⟩⟩
  obtain ⟨m, rfl⟩ : ∃ j : Nat, v = (j : Int) := ⟨v.toNat, (Int.toNat_of_nonneg v0).symm⟩
  have em : ((1 : Int) + (m : Int)).toNat = m + 1 := by omega
  rw [em]
  refine lc_range (lo := 0) (n := m + 1) (fun i H' => ∃ cs : List Nat, Sm H1 H' ∧ LS H' D (cs.map T1) ∧ cs.length = i ∧ ∀ c ∈ cs, 97 ≤ c ∧ c ≤ 122) ⟨[], Ex.new hD, upd_same, rfl, fun k hk => absurd hk List.not_mem_nil⟩ (fun i H' hi q => ?_) (fun H' q => ?_)
  · obtain ⟨cs, e, hr', hl, hsub⟩ := q
    refine ⟨rfl, ?_⟩
    refine ⟨_, rfl, _, rfl, b, 26, rfl, hB.mono (e1.trans e), by decide, by decide, fun u u0 u1 => ⟨abc, _, 97 + u.toNat, rfl, rfl, abcl, abc_at u0 u1, ?_⟩⟩
    refine ⟨_, hr', bigS _ (by rw [List.length_map, List.length_map]; omega), cs ++ [97 + u.toNat], e.put hD, ?_, by rw [List.length_append, hl]; rfl, fun y hy => ?_⟩
    · show _ = some (HO.lst _)
      rw [List.map_append, List.map_append]
      exact upd_same
    · rcases List.mem_append.mp hy with q | q
      · exact hsub y q
      · rw [List.mem_singleton.mp q]; omega
  · obtain ⟨cs, e, hr', hl, hsub⟩ := q
    have jn : Txt.join (Str.ofString "") (cs.map T1) = ⟨cs.toArray⟩ := by
      have q := SX.join_S [] (cs.map fun c => [c])
      rw [joinL_one, List.map_map] at q
      exact q
    have sm : ((cs.map T1).map (·.length)).sum = cs.length := by
      rw [List.map_map]
      have : ∀ l : List Nat, (l.map ((fun x : Str => x.length) ∘ T1)).sum = l.length := fun l => by
        induction l with
        | nil => rfl
        | cons x l ih => rw [List.map_cons, List.sum_cons, ih, List.length_cons]; show 1 + _ = _; omega
      exact this cs
    refine ⟨_, D, cs.map T1, rfl, rfl, .inl (sq_of hr'), ?_, ?_⟩
    · rw [sm, List.length_map]
      show cs.length + cs.length * 0 ≤ 16777216
      omega
    rw [jn]
    have bl : Str.length ⟨cs.toArray⟩ = m + 1 := hl
    refine ⟨_, rfl, _, rfl, ⟨cs.toArray⟩, rfl, Evl.sz_of (by rw [bl]; omega), ?_⟩
    rw [bl]
    refine ⟨b, ((m + 1 : Nat) : Int), rfl, hB.mono (e1.trans e), by omega, by omega, fun at_ a0 a1 => ?_⟩
    obtain ⟨p, rfl⟩ : ∃ j : Nat, at_ = (j : Int) := ⟨at_.toNat, (Int.toNat_of_nonneg a0).symm⟩
    refine ⟨_, rfl, (n : Int), rfl, by omega, by omega, ?_⟩
    rw [Int.toNat_natCast]
    have c1 : cutS ⟨cs.toArray⟩ none (some (p : Int)) = ⟨(cs.take p).toArray⟩ := by
      rw [C8.cutS_slice]
      exact SX.slice_to (a := cs) (i := (p : Int)) (by omega)
    have c2 : cutS ⟨cs.toArray⟩ (some ((p : Int) + 1)) none = ⟨(cs.drop (p + 1)).toArray⟩ := by
      rw [C8.cutS_slice]
      exact SX.slice_from (a := cs) (i := (p : Int) + 1) (by omega)
    have tl : (cs.take p).length = p := by rw [List.length_take]; omega
    have dl : (cs.drop (p + 1)).length = m - p := by rw [List.length_drop]; omega
    refine lcRy (fun k => V.str ⟨(cs.take p ++ [97 + (tn + 5 * k) % 26] ++ cs.drop (p + 1)).toArray⟩) (by omega) (fun k hk H3 e3 Q3 q3 => ?_) (fun D2 H3 hD2 e3 h3 => ?_)
    · refine ⟨_, rfl, _, rfl, _, rfl, ⟨cs.toArray⟩, rfl, Evl.sz_of (by rw [bl]; omega), ?_⟩
      rw [c1]
      refine ⟨_, rfl, _, rfl, _, rfl, _, _, rfl, rfl, .inl (by decide), _, _, rfl, rfl, _, _, rfl, rfl, (show (0 : Int) < 26 by decide), abc, _, 97 + (tn + 5 * k) % 26, rfl, rfl, abcl, ?_, ?_⟩
      · rw [abc_at (by omega) (by omega)]
        exact congrArg some (by omega)
      refine ⟨_, _, rfl, rfl, Evl.sz_of ?_, ?_⟩
      · show (cs.take p).length + 1 ≤ _
        omega
      refine ⟨_, rfl, _, rfl, _, _, rfl, rfl, _, rfl, ⟨cs.toArray⟩, rfl, Evl.sz_of (by rw [bl]; omega), ?_⟩
      rw [c2]
      refine ⟨_, _, rfl, rfl, Evl.sz_of ?_, ?_⟩
      · rw [show (⟨(cs.take p).toArray⟩ : Str) ++ T1 (97 + (tn + 5 * k) % 26) = ⟨(cs.take p ++ [97 + (tn + 5 * k) % 26]).toArray⟩ from SX.S_cat _ [_]]
        show (cs.take p ++ [97 + (tn + 5 * k) % 26]).length + (cs.drop (p + 1)).length ≤ _
        rw [List.length_append]
        show _ + 1 + _ ≤ _
        omega
      · rw [show (⟨(cs.take p).toArray⟩ : Str) ++ T1 (97 + (tn + 5 * k) % 26) = ⟨(cs.take p ++ [97 + (tn + 5 * k) % 26]).toArray⟩ from SX.S_cat _ [_], show (⟨(cs.take p ++ [97 + (tn + 5 * k) % 26]).toArray⟩ : Str) ++ ⟨(cs.drop (p + 1)).toArray⟩ = ⟨(cs.take p ++ [97 + (tn + 5 * k) % 26] ++ cs.drop (p + 1)).toArray⟩ from SX.S_cat _ _]
        exact q3 H3 (Ex.refl H3)
    · refine hQ D2 H3 ((List.range n).map fun k => ⟨(cs.take p ++ [97 + (tn + 5 * k) % 26] ++ cs.drop (p + 1)).toArray⟩) ((e1.trans e).trans e3) (fresh_back (e1.trans e) hD2) (by show _ = some (HO.lst _); rw [List.map_map]; exact h3) (nodup_map_lt fun a b hab hb z => ?_) (by rw [List.length_map, List.length_range]) fun k hk => ?_
      · have q := List.append_cancel_right (mkS_inj z)
        have q2 := List.append_cancel_left q
        injection q2 with q2 _
        omega
      · obtain ⟨j, hj, rfl⟩ := List.mem_map.mp hk
        refine kdS ?_ ?_ fun c hc => ?_
        · rw [List.length_append, List.length_append, tl, dl]; show 1 ≤ p + 1 + _; omega
        · rw [List.length_append, List.length_append, tl, dl]; show p + 1 + _ ≤ 8; omega
        · rcases List.mem_append.mp hc with q | q
          · rcases List.mem_append.mp q with q | q
            · exact hsub c (List.mem_of_mem_take q)
            · rw [List.mem_singleton.mp q]; omega
          · exact hsub c (List.mem_of_mem_drop q)
end
end K7

set_option Elab.async false
set_option linter.all false
set_option maxRecDepth 100000
set_option maxHeartbeats 1000000
namespace K7
open PySem PySem.Spec PyProof.Rows L2
open PySem.W (Datum)
open Evl (Ex Ev EvT EvL EvA ex_l ex_t sq_of st_of sz_of sz_lt fresh_back)
section
variable {P : Program} {w : World} {K : PySem.W.Frag} {mg : Str → Option Value} {base : Heap}
def tri : Nat → Nat
  | 0 => 0
  | n + 1 => tri n + (n + 1)
theorem tri_le : ∀ n, n ≤ 8 → tri n ≤ 36 := by decide
structure PInv (ks : List Str) (ps : List (Str × Str)) (K J : Nat) : Prop where
  of : ∀ p ∈ ps, ∃ j k, j ≤ k ∧ k < ks.length ∧ (k < K ∨ (k = K ∧ j < J)) ∧ (p = (ks.getD j Str.empty, ks.getD k Str.empty) ∨ p = (ks.getD k Str.empty, ks.getD j Str.empty))
  nd : (ordP ps).Nodup
  len : ps.length ≤ tri K + J
theorem PInv.more {ks : List Str} {ps : List (Str × Str)} {K J : Nat} (h : PInv ks ps K J) : PInv ks ps K (J + 1) := ⟨fun p hp => by
  obtain ⟨j, k, h1, h2, h3, h4⟩ := h.of p hp
  exact ⟨j, k, h1, h2, h3.imp id fun z => ⟨z.1, by omega⟩, h4⟩, h.nd, by have := h.len; omega⟩
theorem PInv.row {ks : List Str} {ps : List (Str × Str)} {K : Nat} (h : PInv ks ps K (K + 1)) : PInv ks ps (K + 1) 0 := ⟨fun p hp => by
  obtain ⟨j, k, h1, h2, h3, h4⟩ := h.of p hp
  exact ⟨j, k, h1, h2, .inl (by omega), h4⟩, h.nd, by have := h.len; show _ ≤ tri K + (K + 1) + 0; omega⟩
theorem getD_inj {ks : List Str} (nd : ks.Nodup) {a b : Nat} (ha : a < ks.length) (hb : b < ks.length) (h : ks.getD a Str.empty = ks.getD b Str.empty) : a = b := by
  simp [List.getD, List.getElem?_eq_getElem ha, List.getElem?_eq_getElem hb] at h
  have key : ∀ a b (ha : a < ks.length) (hb : b < ks.length), a < b → ks[a] ≠ ks[b] := fun a b ha hb hab => (List.pairwise_iff_getElem.mp nd) a b ha hb hab
  rcases Nat.lt_trichotomy a b with q | q | q
  · exact absurd h (key a b ha hb q)
  · exact q
  · exact absurd h.symm (key b a hb ha q)
theorem ins_perm {α : Type} (l : List α) (v : Nat) (x : α) : (l.take v ++ [x] ++ l.drop v).Perm (x :: l) := by
  rw [List.append_assoc]
  refine List.perm_middle.trans ?_
  show (x :: (l.take v ++ l.drop v)).Perm _
  rw [List.take_append_drop]
theorem PInv.add {ks : List Str} {ps : List (Str × Str)} {K J v : Nat} {p : Str × Str} (nd : ks.Nodup) (h : PInv ks ps K J) (hJ : J ≤ K) (hK : K < ks.length) (hp : p = (ks.getD J Str.empty, ks.getD K Str.empty) ∨ p = (ks.getD K Str.empty, ks.getD J Str.empty)) :
    PInv ks (ps.take v ++ [p] ++ ps.drop v) K (J + 1) := by
  have pm := ins_perm ps v p
  have ep : inOrd p.1 p.2 = inOrd (ks.getD J Str.empty) (ks.getD K Str.empty) := by
    rcases hp with rfl | rfl
    · rfl
    · exact inOrd_comm _ _
  refine ⟨fun q hq => ?_, ?_, ?_⟩
  · rcases List.mem_cons.mp (pm.mem_iff.mp hq) with z | z
    · subst z
      exact ⟨J, K, hJ, hK, .inr ⟨rfl, Nat.lt_succ_self _⟩, hp⟩
    · exact h.more.of q z
  · have pm2 : (ordP (ps.take v ++ [p] ++ ps.drop v)).Perm (inOrd p.1 p.2 :: ordP ps) := pm.map (fun p : Str × Str => inOrd p.1 p.2)
    refine pm2.nodup_iff.mpr (List.nodup_cons.mpr ⟨fun hm => ?_, h.nd⟩)
    obtain ⟨q, hq, e⟩ := List.mem_map.mp hm
    obtain ⟨j, k, h1, h2, h3, h4⟩ := h.of q hq
    have eq : inOrd q.1 q.2 = inOrd (ks.getD j Str.empty) (ks.getD k Str.empty) := by
      rcases h4 with rfl | rfl
      · rfl
      · exact inOrd_comm _ _
    have e2 : inOrd q.1 q.2 = inOrd p.1 p.2 := e
    rw [eq, ep] at e2
    rcases inOrd_eq e2 with ⟨a, b⟩ | ⟨a, b⟩
    · have ha := getD_inj nd (by omega) (by omega) a
      have hb := getD_inj nd (by omega) (by omega) b
      omega
    · have ha := getD_inj nd (by omega) (by omega) a
      have hb := getD_inj nd (by omega) (by omega) b
      omega
  · rw [pm.length_eq, List.length_cons]
    have := h.len
    omega
theorem paired_ins {α β : Type} {F : α → β → Prop} {a : α} {b : β} (h : F a b) : ∀ {xs : List α} {ys : List β}, Paired F xs ys → ∀ v, Paired F (xs.take v ++ [a] ++ xs.drop v) (ys.take v ++ [b] ++ ys.drop v)
  | _, _, .nil, v => by simp; exact .cons h .nil
  | _, _, .cons g t, 0 => .cons h (.cons g t)
  | _, _, .cons g t, v + 1 => .cons g (paired_ins h t v)
def sp_law_plan : Sp := fun vs H Q _ => ∃ b, vs = [.ref b, .int 8] ∧ Bag H b ∧ ∀ r H' ks ps, Sm H H' → H r = none → PlanAt H' r ks ps → PlanOk ks ps → (ordP ps).Nodup → Q (.ref r) H'
theorem c_law_plan (T : Tx P w K mg base) : C8.Cal P w K mg base 3 "_law_plan" sp_law_plan [] := by
  obtain ⟨f, fd, F, df⟩ := T.d "_law_plan" 26 (by decide +kernel)
  have sc : FnScope ["_law_bag_here", "_law_most", "_law_many", "_law_kinds", "_law_pairs", "_law_style", "_law_loops", "_law_k", "_law_j", "_law_near", "_law_odds", "_law_pair"] ["_law_bag_here", "_law_most"] (C8.fnScope (top 26)) := C8.fnScope_by (by decide +kernel)
  have nd := sc.nd
  have c_law_names := c_law_names T
  have c_law_take := c_law_take T
  refine C8.cal0 F (F.fn.binds df (ps := ["_law_bag_here", "_law_most"]) fun _ _ _ _ _ _ us hl => match us, hl with | [_, _], _ => rfl) .nil sc (fun vs H Q E h => by obtain ⟨_, rfl, _⟩ := h; rfl) fun cdv A outer s H vs Q E hr h => ?_
  refine ⟨_, PSs.nox (pss_cons (ps_set (i := 2) nd rfl (.inl rfl) (pe_op op_add pe_int (C8.pe_c c_law_take hr (by decide) rfl (pa_cons (pv 0) (pa_cons (pe_ix (k_ix_list (K := K)) (pe_lst (pa_cons (pe_callB (call_min2 rfl) (by rfl) T.b_min (by decide +kernel) (pa_cons pe_int (pa_cons (pv 1) pa_nil))) (pa_cons (pv 1) pa_nil))) (C8.pe_c c_law_take hr (by decide) rfl (pa_cons (pv 0) (pa_cons pe_int pa_nil))) (fun _ _ => rfl)) pa_nil)))))
    (pss_cons (ps_par (i := 3) (j := 4) rfl nd rfl rfl (by decide) rfl rfl (pa_cons (C8.pe_c c_law_names hr (by decide) rfl (pa_cons (pv 0) (pa_cons (pv 2) pa_nil))) (pa_cons (pe_lst pa_nil) pa_nil)) (by rfl))
    (pss_cons (ps_par (i := 5) (j := 6) rfl nd rfl rfl (by decide) rfl rfl (pa_cons (C8.pe_c c_law_take hr (by decide) rfl (pa_cons (pv 0) (pa_cons pe_int pa_nil))) (pa_cons (C8.pe_c c_law_take hr (by decide) rfl (pa_cons (pv 0) (pa_cons pe_int pa_nil))) pa_nil)) (by rfl))
    (pss_cons (ps_for PassesOwn.never rfl (pi_range1 (by rfl) T.b_range (pa_cons (pv 2) pa_nil)) (pg_name (i := 7) nd rfl (.inl rfl)) (pss_one (ps_for PassesOwn.never rfl (pi_range1 (by rfl) T.b_range (pa_cons (pe_op op_add (pv 7) pe_int) pa_nil)) (pg_name (i := 8) nd rfl (.inl rfl)) (pss_cons (ps_set (i := 9) nd rfl (.inl rfl) (pe_or (pe_cmpR op_eq (pe_op op_sub (pv 7) (pv 8)) pe_int (nomark _)) (pe_one (pe_and (pe_cmpR op_eq (pv 5) pe_int (nomark _)) (pe_and (pe_cmpR op_eq (pv 8) pe_int (nomark _)) (pe_one (pe_cmpR op_eq (pv 7) (pe_op op_sub (pv 2) pe_int) (nomark _))))))))
    (pss_cons (ps_set (i := 10) nd rfl (.inl rfl) (pe_ix (k_ix_list (K := K)) (pe_lst (pa_cons (pe_op op_mul pe_int (pe_callTy call_int1 (by rfl) T.b_int (by decide +kernel) (pa_cons (pv 9) pa_nil))) (pa_cons (pe_op op_mul pe_int (pe_callTy call_int1 (by rfl) T.b_int (by decide +kernel) (pa_cons (pv 9) pa_nil))) (pa_cons pe_int (pa_cons pe_int (pa_cons pe_int (pa_cons pe_int pa_nil))))))) (pv 5) (fun _ _ => rfl)))
    (C8.pss_cut (ps_if (pt_cmpR op_eq (pv 8) (pv 7) (nomark _)) (pss_one (ps_set (i := 10) nd rfl (.inl rfl) (pe_ix (k_ix_list (K := K)) (pe_lst (pa_cons pe_int (pa_cons pe_int (pa_cons pe_int pa_nil)))) (pv 6) (fun _ _ => rfl)))) pss_nil)
    (pss_one (ps_if (pt_cmpR op_lt (C8.pe_c c_law_take hr (by decide) rfl (pa_cons (pv 0) (pa_cons pe_int pa_nil))) (pv 10) (nomark _)) (pss_cons (ps_set (i := 11) nd rfl (.inl rfl) (pe_ix (k_ix_list (K := K)) (pe_lst (pa_cons (pe_tup (pa_cons (pe_ix (k_ix_list (K := K)) (pv 3) (pv 8) (fun _ _ => rfl)) (pa_cons (pe_ix (k_ix_list (K := K)) (pv 3) (pv 7) (fun _ _ => rfl)) pa_nil))) (pa_cons (pe_tup (pa_cons (pe_ix (k_ix_list (K := K)) (pv 3) (pv 7) (fun _ _ => rfl)) (pa_cons (pe_ix (k_ix_list (K := K)) (pv 3) (pv 8) (fun _ _ => rfl)) pa_nil))) pa_nil))) (C8.pe_c c_law_take hr (by decide) rfl (pa_cons (pv 0) (pa_cons pe_int pa_nil))) (fun _ _ => rfl)))
    (pss_one (ps_expr (pe_bm PySem.F.plainAttrs_list PySem.F.slot_list_insert PySem.F.type_list_insert mt_insert (pv 4) (pa_cons (C8.pe_c c_law_take hr (by decide) rfl (pa_cons (pv 0) (pa_cons (pe_op op_add (pe_callB (k_len_seq (K := K)) (by rfl) T.b_len (by decide +kernel) (pa_cons (pv 4) pa_nil)) pe_int) pa_nil))) (pa_cons (pv 11) pa_nil)))))) pss_nil))))))))
    (pss_one (ps_ret (pe_disp (pps_cons pe_str (pv 3) (pps_cons pe_str (pv 4) pps_nil)) (by rfl) (by rfl) (fun z => by cases z) (by decide)))))))), ?_⟩
  obtain ⟨b, rfl, hB, hQ⟩ := h
  refine ⟨_, rfl, _, rfl, _, _, rfl, _, rfl, two_le, fun t ht => ?_⟩
  generalize hE : L2.upd H t (.lst [.int (if (8 : Int) < 4 then 8 else 4), .int 8]) = H1
  have e1 : Sm H H1 := hE ▸ Evl.Ex.new ht
  have h1 : H1 t = some (.lst [.int (if (8 : Int) < 4 then 8 else 4), .int 8]) := hE ▸ L2.upd_same
  clear hE
  have h1 : H1 t = some (.lst [.int 4, .int 8]) := h1
  refine ⟨_, rfl, b, 2, rfl, hB.mono e1, by decide, by decide, fun v v0 v1 => ?_⟩
  obtain ⟨o, ho, hm⟩ := pick_int (xs := [4, 8]) v0 v1
  have ho2 : o = 4 ∨ o = 8 := by simpa using hm
  refine ⟨t, _, _, .int o, rfl, rfl, sq_of h1, ho, b, o, rfl, hB.mono e1, by omega, by omega, fun v2 w0 w1 => ⟨_, _, rfl, rfl, ?_⟩⟩
  obtain ⟨n, en⟩ : ∃ n : Nat, (1 : Int) + v2 = (n : Int) := ⟨(1 + v2).toNat, (Int.toNat_of_nonneg (by omega)).symm⟩
  have n1 : 1 ≤ n := by omega
  have n8 : n ≤ 8 := by omega
  show gName 2 (V.int ((1 : Int) + v2)) _ _ _
  rw [en]
  refine ⟨_, rfl, _, rfl, b, n, rfl, hB.mono e1, n1, n8, fun ka H2 ks e2 hka0 hka knd kl kkd => ⟨Nat.zero_le _, fun pa hpa => ⟨_, _, rfl, ?_⟩⟩⟩
  generalize hE : L2.upd H2 pa (.lst []) = H3
  have e3 : Sm H2 H3 := hE ▸ Evl.Ex.new hpa
  have h3 : H3 pa = some (.lst []) := hE ▸ L2.upd_same
  clear hE
  have e13 : Sm H H3 := (e1.trans e2).trans e3
  have hp0 : H pa = none := fresh_back (e1.trans e2) hpa
  refine ⟨_, rfl, b, 6, rfl, hB.mono e13, by decide, by decide, fun st s0 s1 => ⟨_, rfl, b, 3, rfl, hB.mono e13, by decide, by decide, fun lo l0 l1 => ⟨_, _, rfl, ?_⟩⟩⟩
  refine ⟨_, rfl, (n : Int), rfl, by omega, by omega, ?_⟩
  rw [Int.toNat_natCast]
  have npk : pa ≠ ka := (ne_fr hpa hka).symm
  refine for_range (lo := 0) (fun K σ' H' => ∃ (o7 o8 o9 o10 o11 : Option V) (ps : List (Str × Str)), σ' = [some (.ref b), some (.int 8), some (.int (n : Int)), some (.ref ka), some (.ref pa), some (.int st), some (.int lo), o7, o8, o9, o10, o11] ∧ Sm H H' ∧ LS H' ka ks ∧ PairsAt H' pa ps ∧ PInv ks ps K 0)
    ⟨none, none, none, none, none, [], rfl, e13, e3 _ _ hka, ⟨[], h3, .nil⟩, ⟨fun p hp => absurd hp List.not_mem_nil, List.Pairwise.nil, Nat.le_refl _⟩⟩ (fun K σ' H' hK q => ?_) (fun σ' H' q => ?_)
  · obtain ⟨o7, o8, o9, o10, o11, ps, rfl, e, hk, hp, hI⟩ := q
    rw [Int.zero_add]
    refine ⟨_, rfl, _, _, rfl, rfl, ((K : Int) + 1), rfl, by omega, by omega, ?_⟩
    have eK : ((K : Int) + 1).toNat = K + 1 := by omega
    rw [eK]
    refine for_range (lo := 0) (fun J σ' H' => ∃ (o8 o9 o10 o11 : Option V) (ps : List (Str × Str)), σ' = [some (.ref b), some (.int 8), some (.int (n : Int)), some (.ref ka), some (.ref pa), some (.int st), some (.int lo), some (.int (K : Int)), o8, o9, o10, o11] ∧ Sm H H' ∧ LS H' ka ks ∧ PairsAt H' pa ps ∧ PInv ks ps K J)
      ⟨_, _, _, _, ps, rfl, e, hk, hp, hI⟩ (fun J σ' H' hJ q => ?_) (fun σ' H' q => ?_)
    · obtain ⟨o8, o9, o10, o11, ps, rfl, e, hk, hp, hI⟩ := q
      rw [Int.zero_add]
      refine Evl.q_asg (Evl.ev_orV (Evl.ev_op (Evl.ev_op (Evl.ev_var rfl) (Evl.ev_var rfl) Evl.rv_I0) Evl.ev_c (Evl.rv_eq rfl)) (fun _ => Evl.ev_andV (Evl.ev_op (Evl.ev_var rfl) Evl.ev_c (Evl.rv_eq rfl)) (fun _ => Evl.ev_andV (Evl.ev_op (Evl.ev_var rfl) Evl.ev_c (Evl.rv_eq rfl)) (fun _ => Evl.ev_op (Evl.ev_var rfl) (Evl.ev_op (Evl.ev_var rfl) Evl.ev_c Evl.rv_I0) (Evl.rv_eq rfl))))) fun H4 e4 => ?_
      generalize (decide (V.int ((K : Int) - (J : Int)) = V.int 1) || (decide (V.int st = V.int 0) && (decide (V.int (J : Int) = V.int 0) && decide (V.int (K : Int) = V.int ((n : Int) - 1))))) = near
      refine ⟨_, rfl, .inr ⟨near, rfl, _, _, rfl, rfl, .inl (by decide), _, rfl, .inr ⟨near, rfl, _, _, rfl, rfl, .inl (by decide), Evl.sz_of (show 6 ≤ 100000 by decide), fun t2 ht2 => ?_⟩⟩⟩
      rw [show [V.int (4 * if near = true then 1 else 0), V.int (4 * if near = true then 1 else 0), V.int 4, V.int 1, V.int 2, V.int 3] = [4 * (if near = true then 1 else 0 : Int), 4 * (if near = true then 1 else 0), 4, 1, 2, 3].map V.int from rfl]
      generalize hE : L2.upd H4 t2 (.lst ([4 * (if near = true then 1 else 0 : Int), 4 * (if near = true then 1 else 0), 4, 1, 2, 3].map V.int)) = H5
      have e5 : Sm H4 H5 := hE ▸ Evl.Ex.new ht2
      have h5 : H5 t2 = some (.lst ([4 * (if near = true then 1 else 0 : Int), 4 * (if near = true then 1 else 0), 4, 1, 2, 3].map V.int)) := hE ▸ L2.upd_same
      clear hE
      obtain ⟨od, hod, _⟩ := pick_int (xs := [4 * (if near = true then 1 else 0 : Int), 4 * (if near = true then 1 else 0), 4, 1, 2, 3]) s0 s1
      refine ⟨_, rfl, t2, _, _, .int od, rfl, rfl, sq_of h5, hod, ?_⟩
      have e35 : Sm H' H5 := e4.trans e5
      -- the loop's odds
      refine ⟨fun σ' H6 => ∃ od2 : Int, σ' = [some (.ref b), some (.int 8), some (.int (n : Int)), some (.ref ka), some (.ref pa), some (.int st), some (.int lo), some (.int (K : Int)), some (.int (J : Int)), some (.bl near), some (.int od2), o11] ∧ Sm H' H6, ?_, ?_⟩
      · refine ⟨_, rfl, _, rfl, rfl, _, rfl, ?_⟩
        by_cases hjk : V.int (J : Int) = V.int (K : Int)
        · refine ifT (decide_eq_true hjk) ⟨three_le, fun t3 ht3 => ?_⟩
          generalize hE : L2.upd H5 t3 (.lst [.int 0, .int 1, .int 3]) = H6
          have e6 : Sm H5 H6 := hE ▸ Evl.Ex.new ht3
          have h6 : H6 t3 = some (.lst [.int 0, .int 1, .int 3]) := hE ▸ L2.upd_same
          clear hE
          obtain ⟨od3, hod3, _⟩ := pick_int (xs := [0, 1, 3]) l0 l1
          exact ⟨_, rfl, t3, _, _, .int od3, rfl, rfl, sq_of h6, hod3, od3, rfl, e35.trans e6⟩
        · exact ifF (decide_eq_false hjk) ⟨od, rfl, e35⟩
      rintro σ' H6 ⟨od2, rfl, e6⟩
      have e06 : Sm H H6 := e.trans e6
      refine ⟨_, rfl, b, 4, rfl, hB.mono e06, by decide, by decide, fun v v0 v1 => ⟨_, rfl, _, _, rfl, rfl, _, rfl, ?_⟩⟩
      cases decide (v < od2)
      · exact ifF rfl ⟨_, _, _, _, ps, rfl, e06, e6 _ _ hk, hp.mono e6, hI.more⟩
      · refine ifT rfl ?_
        have hJn : J < ks.length := by omega
        have hKn : K < ks.length := by omega
        have aJ : atI (ks.map V.str) (J : Int) = some (.str (ks.getD J Str.empty)) := atI_nat (by rw [List.getElem?_map, List.getElem?_eq_getElem hJn]; simp [List.getD, List.getElem?_eq_getElem hJn])
        have aK : atI (ks.map V.str) (K : Int) = some (.str (ks.getD K Str.empty)) := atI_nat (by rw [List.getElem?_map, List.getElem?_eq_getElem hKn]; simp [List.getD, List.getElem?_eq_getElem hKn])
        have hk6 := e6 _ _ hk
        refine ⟨_, rfl, _, rfl, ka, _, _, _, rfl, rfl, sq_of hk6, aJ, _, rfl, _, rfl, ka, _, _, _, rfl, rfl, sq_of hk6, aK, two_le, fun q1 hq1 => ?_⟩
        generalize hE : L2.upd H6 q1 (.tup [.str (ks.getD J Str.empty), .str (ks.getD K Str.empty)]) = H7
        have e7 : Sm H6 H7 := hE ▸ Evl.Ex.new hq1
        have h7 : H7 q1 = some (.tup [.str (ks.getD J Str.empty), .str (ks.getD K Str.empty)]) := hE ▸ L2.upd_same
        clear hE
        have hk7 := e7 _ _ hk6
        refine ⟨_, rfl, _, rfl, ka, _, _, _, rfl, rfl, sq_of hk7, aK, _, rfl, _, rfl, ka, _, _, _, rfl, rfl, sq_of hk7, aJ, two_le, fun q2 hq2 => ?_⟩
        generalize hE : L2.upd H7 q2 (.tup [.str (ks.getD K Str.empty), .str (ks.getD J Str.empty)]) = H8
        have e8 : Sm H7 H8 := hE ▸ Evl.Ex.new hq2
        have h8 : H8 q2 = some (.tup [.str (ks.getD K Str.empty), .str (ks.getD J Str.empty)]) := hE ▸ L2.upd_same
        clear hE
        refine ⟨two_le, fun q3 hq3 => ?_⟩
        generalize hE : L2.upd H8 q3 (.lst [.ref q1, .ref q2]) = H9
        have e9 : Sm H8 H9 := hE ▸ Evl.Ex.new hq3
        have h9 : H9 q3 = some (.lst [.ref q1, .ref q2]) := hE ▸ L2.upd_same
        clear hE
        have e69 : Sm H6 H9 := (e7.trans e8).trans e9
        refine ⟨_, rfl, b, 2, rfl, hB.mono (e06.trans e69), by decide, by decide, fun u u0 u1 => ?_⟩
        obtain ⟨z, p, hz, htw, hpp⟩ : ∃ (z : Addr) (p : Str × Str), atI [V.ref q1, V.ref q2] u = some (.ref z) ∧ TwoAt H9 z p ∧ (p = (ks.getD J Str.empty, ks.getD K Str.empty) ∨ p = (ks.getD K Str.empty, ks.getD J Str.empty)) := by
          rcases (show u = 0 ∨ u = 1 by omega) with rfl | rfl
          · exact ⟨q1, _, atI_nat (i := 0) rfl, e9 _ _ (e8 _ _ h7), .inl rfl⟩
          · exact ⟨q2, _, atI_nat (i := 1) rfl, e9 _ _ h8, .inr rfl⟩
        refine ⟨q3, _, _, .ref z, rfl, rfl, sq_of h9, hz, ?_⟩
        obtain ⟨rs, p1, p2⟩ := hp.mono (e6.trans e69)
        have lr := Paired.length p2
        have lps := hI.len
        have tl := tri_le K (by omega)
        refine ⟨_, rfl, .inl ⟨rfl, _, sq_of p1⟩, _, rfl, _, rfl, pa, _, rfl, .inl (sq_of p1), _, _, rfl, rfl, ?_⟩
        rw [List.length_map]
        refine ⟨b, (rs.length : Int) + 1, rfl, hB.mono (e06.trans e69), by omega, by omega, fun ix i0 i1 => ⟨_, rfl, pa, _, ix, .ref z, rfl, rfl, p1, bigS _ (by rw [List.length_map]; omega), i0, by omega, ?_⟩⟩
        have np : ∀ (a : Addr) (q : Str × Str), TwoAt H9 a q → a ≠ pa := fun a q h => ne_of h p1 nofun
        refine ⟨_, _, _, _, ps.take ix.toNat ++ [p] ++ ps.drop ix.toNat, rfl, (e06.trans e69).put hp0, put_ne (e69 _ _ hk6) npk.symm, ⟨rs.take ix.toNat ++ [z] ++ rs.drop ix.toNat, ?_, ?_⟩, hI.add knd (by omega) hKn hpp⟩
        · rw [List.map_append, List.map_append, List.map_take, List.map_drop]
          exact upd_same
        · exact paired_ins (F := TwoAt (upd H9 pa _)) (put_ne htw (np _ _ htw)) (Paired.mapP p2 fun a q h => put_ne h (np _ _ h)) _
    · obtain ⟨o8, o9, o10, o11, ps, rfl, e, hk, hp, hI⟩ := q
      exact ⟨_, _, _, _, _, ps, rfl, e, hk, hp, hI.row⟩
  · obtain ⟨o7, o8, o9, o10, o11, ps, rfl, e, hk, hp, hI⟩ := q
    refine fun d hd => ⟨_, rfl, _, rfl, upd_same, [((.inr "kinds" : Key), V.ref ka), (.inr "pairs", .ref pa)], rfl, (show 2 ≤ 15 by decide), ?_⟩
    rw [upd_upd, merge_new (acc := []) (by show [(Sum.inr "kinds" : Key), .inr "pairs"].Nodup; decide +kernel), List.nil_append]
    have lps := hI.len
    have tl := tri_le n n8
    refine hQ d _ ks ps (e.add hd) (fresh_back e hd) ⟨ka, pa, upd_same, put_ne hk (ne_fr hd hk), hp.mono (Ex.new hd)⟩ ⟨knd, by omega, by omega, kkd, fun p hp2 => ?_, by omega⟩ hI.nd
    obtain ⟨j, k, h1, h2, _, h4⟩ := hI.of p hp2
    have hjm : ∀ j, j < ks.length → ks.getD j Str.empty ∈ ks := fun j hj => by
      simp only [List.getD, List.getElem?_eq_getElem hj]
      exact List.getElem_mem hj
    rcases h4 with rfl | rfl
    · exact ⟨hjm j (by omega), hjm k h2⟩
    · exact ⟨hjm k h2, hjm j (by omega)⟩
end
end K7

set_option Elab.async false
set_option linter.all false
set_option maxRecDepth 100000
set_option maxHeartbeats 1000000
namespace K7
open PySem PySem.Spec PyProof.Rows L2
open PySem.W (Datum)
open Evl (Ex Ev EvT EvL EvA ex_l ex_t sq_of st_of sz_of sz_lt fresh_back)
section
variable {P : Program} {w : World} {K : PySem.W.Frag} {mg : Str → Option Value} {base : Heap}
/-- the sets of kinds, in the order they are made -/
def setsF (sk : List Str) : Nat → List (List Str)
  | 0 => [[]]
  | n + 1 => setsF sk n ++ (setsF sk n).map fun l => l ++ [sk.getD n Str.empty]
theorem setsF_len (sk : List Str) : ∀ n, (setsF sk n).length = 2 ^ n
  | 0 => rfl
  | n + 1 => by
    show (setsF sk n ++ (setsF sk n).map _).length = _
    rw [List.length_append, List.length_map, setsF_len sk n, Nat.pow_succ]
    omega
theorem setsF_in (sk : List Str) : ∀ n, ∀ l ∈ setsF sk n, l.length ≤ n ∧ ∀ x ∈ l, x ∈ sk ∨ x = Str.empty
  | 0, l, h => by
    rw [List.mem_singleton.mp h]
    exact ⟨Nat.le_refl _, fun x hx => absurd hx List.not_mem_nil⟩
  | n + 1, l, h => by
    rcases List.mem_append.mp h with q | q
    · obtain ⟨h1, h2⟩ := setsF_in sk n l q
      exact ⟨by omega, h2⟩
    · obtain ⟨m, hm, rfl⟩ := List.mem_map.mp q
      obtain ⟨h1, h2⟩ := setsF_in sk n m hm
      refine ⟨by rw [List.length_append]; show _ + 1 ≤ _; omega, fun x hx => ?_⟩
      rcases List.mem_append.mp hx with z | z
      · exact h2 x z
      · rw [List.mem_singleton.mp z]
        simp only [List.getD]
        cases e : sk[n]? with
        | none => exact .inr rfl
        | some y => exact .inl (List.mem_of_getElem? e)
def calmB (sk : List Str) (sp : List (Str × Str)) (ks : List Str) : Bool := !(sk.filter fun k => (mtS sk sp k).any fun o => decide (o ∈ ks)).any fun k => decide (k ∈ ks)
def calmQ (sk : List Str) (sp : List (Str × Str)) : List (List Str) := sortL ((setsF sk sk.length).filter (calmB sk sp))
theorem paired_zip {α β : Type} {F : α → β → Prop} : ∀ {xs : List α} {ys : List β}, Paired F xs ys → (xs.zip ys).map (·.1) = xs ∧ (xs.zip ys).map (·.2) = ys ∧ ∀ p ∈ xs.zip ys, F p.1 p.2
  | _, _, .nil => ⟨rfl, rfl, fun p h => absurd h List.not_mem_nil⟩
  | _, _, .cons h t => by
    obtain ⟨h1, h2, h3⟩ := paired_zip t
    refine ⟨by rw [List.zip_cons_cons, List.map_cons, h1], by rw [List.zip_cons_cons, List.map_cons, h2], fun p hp => ?_⟩
    rcases List.mem_cons.mp hp with q | q
    · subst q; exact h
    · exact h3 p q
theorem paired_app {α β : Type} {F : α → β → Prop} : ∀ {xs : List α} {ys : List β} {xs' : List α} {ys' : List β}, Paired F xs ys → Paired F xs' ys' → Paired F (xs ++ xs') (ys ++ ys')
  | _, _, _, _, .nil, h => h
  | _, _, _, _, .cons h t, k => .cons h (paired_app t k)
theorem paired_maps {α β γ : Type} {F : α → β → Prop} {f : γ → α} {g : γ → β} : ∀ {l : List γ}, (∀ x ∈ l, F (f x) (g x)) → Paired F (l.map f) (l.map g)
  | [], _ => .nil
  | x :: l, h => .cons (h x List.mem_cons_self) (paired_maps fun y hy => h y (List.mem_cons_of_mem _ hy))
def sp_calm_sets (C : Addr) : Sp := fun vs H Q _ => ∃ (s : Addr) (sk : List Str) (sp : List (Str × Str)), vs = [.ref s] ∧ SuitsAt C H s sk sp ∧ SuitsOk sk sp ∧ ∀ r H', Sm H H' → H r = none → ListsAt H' r (calmQ sk sp) → Q (.ref r) H'
theorem m_calm_sets (T : Tx P w K mg base) : C8.Met P w K mg base 3 (CS K) "calm_sets" (sp_calm_sets (CS K)) [] := by
  obtain ⟨fd, F, df⟩ := T.m "calm_sets" "Suits.calm_sets" 10 (by decide +kernel)
  have sc : FnScope ["self", "found", "kind", "some"] ["self"] (C8.fnScope (inClass (top 21) 10)) := C8.fnScope_by (by decide +kernel)
  have nd := sc.nd
  have m_is_calm := m_is_calm T
  refine C8.met0 T.cls (T.meth (by decide +kernel)) F (F.binds df (ps := ["self"]) fun _ _ _ _ _ _ us hl => match us, hl with | [_], _ => rfl) sc (fun vs H Q E h => by obtain ⟨_, _, _, rfl, _⟩ := h; rfl) fun cdv A outer s H vs Q E hr h => ?_
  refine ⟨_, PSs.nox (pss_cons (ps_set (i := 1) nd rfl (.inl rfl) (pe_lst (pa_cons (pe_lst pa_nil) pa_nil)))
    (pss_cons (ps_for PassesOwn.never rfl (k_pi_list (K := K) (k_fld (K := K) (pv 0) rfl)) (pg_name (i := 2) nd rfl (.inr rfl)) (pss_one (ps_set (i := 1) nd rfl (.inl rfl) (pe_op op_cat (pv 1) (pe_lc (own := [("some", 3)]) (g := (gName 3)) (tt := tYes) rfl nd (k_pi_list (K := K) (pv 1)) (blkOk_by (by kernel_rfl)) (fun _ _ _ _ _ => (pg_name (i := 3) nd rfl (.inl rfl))) (fun _ _ _ _ _ => pts_nil) (fun _ _ _ _ _ => (pe_lst (k_star (K := K) (pv 3) (pa_cons (pv 2) pa_nil)))))))))
    (pss_one (ps_ret (pe_callB (cr_sortedG hr.units) (by rfl) T.b_sorted (by decide +kernel) (pa_cons (pe_lc (own := [("some", 3)]) (g := (gName 3)) rfl nd (k_pi_list (K := K) (pv 1)) (blkOk_by (by kernel_rfl)) (fun _ _ _ _ _ => (pg_name (i := 3) nd rfl (.inl rfl))) (fun _ _ _ _ _ => (pts_one (pt_val (C8.pe_mt m_is_calm hr (by decide) (pv 0) (pa_cons (pv 3) pa_nil))))) (fun _ _ _ _ _ => (pv 3))) pa_nil)))))), ?_⟩
  obtain ⟨s', sk, sp, rfl, hS, ok, hQ⟩ := h
  obtain ⟨dx, ka, pa, ma, m, hs, hka, _⟩ := id hS
  have k8 := ok.hi
  have p8 : ∀ i, i ≤ sk.length → 2 ^ i ≤ 256 := fun i hi => Nat.le_trans (Nat.pow_le_pow_right (by decide) (Nat.le_trans hi k8)) (by decide)
  refine ⟨Nat.zero_le _, fun a0 h0 => ?_⟩
  generalize hE : L2.upd H a0 (.lst []) = H1
  have e1 : Sm H H1 := hE ▸ Evl.Ex.new h0
  have h1 : H1 a0 = some (.lst []) := hE ▸ L2.upd_same
  clear hE
  refine ⟨one_le, fun fa hfa => ?_⟩
  generalize hE : L2.upd H1 fa (.lst [.ref a0]) = H2
  have e2 : Sm H1 H2 := hE ▸ Evl.Ex.new hfa
  have h2 : H2 fa = some (.lst [.ref a0]) := hE ▸ L2.upd_same
  clear hE
  have e12 := e1.trans e2
  refine ⟨_, rfl, _, _, _, _, _, rfl, e12 _ _ hs, T.cls, T.noat (by decide +kernel), rfl, ka, rfl, ⟨_, sq_of (e12 _ _ hka)⟩, ?_⟩
  refine for_list (xs := sk.map V.str) (fun i σ' H' => ∃ (fa : Addr) (o2 : Option V), σ' = [some (.ref s'), some (.ref fa), o2, none] ∧ Sm H H' ∧ ListsAt H' fa (setsF sk i))
    ⟨fa, none, rfl, e12, [a0], h2, .cons (e2 _ _ h1) .nil⟩ (fun i σ' H' _ q => ?_) (fun i x σ' H' hx q => ?_) (fun σ' H' q => ?_)
  · obtain ⟨_, _, _, e, _⟩ := q
    exact sq_of (e _ _ hka)
  · obtain ⟨k, hk, rfl⟩ := get?_map' hx
    obtain ⟨fa, o2, rfl, e, rs, r1, r2⟩ := q
    have hi : i < sk.length := (List.getElem?_eq_some_iff.mp hk).1
    have hkd : sk.getD i Str.empty = k := by simp [List.getD, hk]
    have ln : rs.length ≤ 256 := by rw [Paired.length r2, setsF_len]; exact p8 i (by omega)
    refine ⟨_, rfl, _, rfl, fa, rfl, ⟨_, sq_of r1⟩, fun D hD => ?_⟩
    refine lc_list (xs := rs.map V.ref) (fun j H3 => Sm H' H3 ∧ ∃ ts : List Addr, H3 D = some (.lst (ts.map V.ref)) ∧ Paired (fun r l => LS H3 r l ∧ r ≠ D) ts (((setsF sk i).take j).map fun l => l ++ [k])) ⟨Ex.new hD, [], upd_same, .nil⟩ (fun j H3 _ q => sq_of (q.1 _ _ r1)) (fun j x H3 hx q => ?_) (fun H3 q => ?_)
    · obtain ⟨r, hr1, rfl⟩ := get?_map' hx
      obtain ⟨l, hl1, hl2⟩ := paired_get r2 hr1
      obtain ⟨e3, ts, t1, t2⟩ := q
      have lt := Paired.length t2
      rw [List.length_map] at lt
      have := List.length_take_le' j (setsF sk i)
      have := setsF_len sk i
      have := p8 i (by omega)
      have ll := (setsF_in sk i l (List.mem_of_getElem? hl1)).1
      refine ⟨rfl, ?_⟩
      refine ⟨_, rfl, r, _, rfl, .inr (sq_of (e3 _ _ hl2)), _, rfl, Evl.sz_of (by rw [List.length_append, List.length_map]; show _ + 1 ≤ _; omega), fun z hz => ?_⟩
      rw [show l.map V.str ++ [V.str k] = (l ++ [k]).map V.str by rw [List.map_append]; rfl]
      generalize hE : L2.upd H3 z (.lst ((l ++ [k]).map V.str)) = H4
      have e4 : Sm H3 H4 := hE ▸ Evl.Ex.new hz
      have h4 : H4 z = some (.lst ((l ++ [k]).map V.str)) := hE ▸ L2.upd_same
      clear hE
      have hzD : z ≠ D := (ne_fr hz t1).symm
      refine ⟨_, e4 _ _ t1, bigS _ (by rw [List.length_map]; omega), (e3.trans e4).put hD, ts ++ [z], by rw [List.map_append]; exact upd_same, ?_⟩
      rw [take_succ' hl1, List.map_append]
      exact (Paired.mapP t2 fun a b q => ⟨put_ne (e4 _ _ q.1) q.2, q.2⟩).snoc ⟨put_ne h4 hzD, hzD⟩
    · obtain ⟨e3, ts, t1, t2⟩ := q
      rw [List.length_map, Paired.length r2, List.take_length] at t2
      have lt := Paired.length t2
      rw [List.length_map, setsF_len] at lt
      have := p8 i (by omega)
      refine ⟨fa, D, _, _, rfl, rfl, e3 _ _ r1, t1, Evl.sz_of (by rw [List.length_map, List.length_map]; omega), fun p hp => ⟨p, _, rfl, (e.trans e3).add hp, rs ++ ts, by rw [List.map_append]; exact upd_same, ?_⟩⟩
      show Paired _ _ (setsF sk i ++ (setsF sk i).map fun l => l ++ [sk.getD i Str.empty])
      rw [hkd]
      exact paired_app (Paired.mapP r2 fun a b q => Ex.new hp _ _ (e3 _ _ q)) (Paired.mapP t2 fun a b q => Ex.new hp _ _ q.1)
  · obtain ⟨fa, o2, rfl, e, rs, r1, r2⟩ := q
    rw [List.length_map] at r2
    obtain ⟨z1, z2, z3⟩ := paired_zip r2
    have ln : rs.length ≤ 256 := by rw [Paired.length r2, setsF_len]; exact p8 _ (Nat.le_refl _)
    have r1' : H' fa = some (.lst ((rs.zip (setsF sk sk.length)).map fun p => V.ref p.1)) := by
      rw [r1]
      congr 2
      conv => lhs; rw [← z1]
      rw [List.map_map]
      rfl
    refine ⟨_, rfl, fa, rfl, ⟨_, sq_of r1'⟩, ?_⟩
    refine lcL (enc := fun p : Addr × List Str => V.ref p.1) (fun p => calmB sk sp p.2) (fun p => V.ref p.1) (sq_of r1') (by rw [List.length_zip]; omega) (fun p hp H3 e3 Q3 q3 => ?_) (fun p hp _ => Evl.ev_var rfl) (fun D H3 hD e3 h3 => ?_)
    · have hl := z3 p hp
      have pm : p.2 ∈ setsF sk sk.length := by rw [← z2]; exact List.mem_map_of_mem hp
      have ll := (setsF_in sk sk.length p.2 pm).1
      exact ⟨_, rfl, s', dx, _, rfl, e3 _ _ (e _ _ hs), rfl, _, rfl, s', p.1, sk, sp, p.2, rfl, hS.mono (e.trans e3), ok, e3 _ _ hl, by omega, fun H4 e4 => ⟨_, rfl, q3 H4 e4⟩⟩
    · have lists : ListsAt H3 D ((setsF sk sk.length).filter (calmB sk sp)) := by
        refine ⟨((rs.zip (setsF sk sk.length)).filter fun p => calmB sk sp p.2).map (·.1), by rw [h3, List.map_map]; rfl, ?_⟩
        have ef : (setsF sk sk.length).filter (calmB sk sp) = ((rs.zip (setsF sk sk.length)).filter fun p => calmB sk sp p.2).map (·.2) := by
          conv => lhs; rw [← z2]
          rw [List.filter_map]
          rfl
        rw [ef]
        exact paired_maps fun p hp => e3 _ _ (z3 p (List.mem_filter.mp hp).1)
      obtain ⟨ts, t1, t2⟩ := lists
      refine ⟨List Str, Datum.toD, fun x b => ∃ r, x = V.ref r ∧ LS H3 r b, D, _, _, rfl, sq_of t1, ref_paired t2, sL1, sL2, sL3, sL4, fun ys p hys hp => ?_⟩
      obtain ⟨rs8, b1, b2⟩ := paired_ref hys
      subst b1
      exact hQ p _ ((e.trans e3).add hp) (fresh_back (e.trans e3) hp) ⟨rs8, upd_same, Paired.mapP b2 fun _ _ z => Ex.new hp _ _ z⟩
end
end K7

set_option Elab.async false
set_option linter.all false
set_option maxRecDepth 100000
set_option maxHeartbeats 1000000
namespace K7
open PySem PySem.Spec PyProof.Rows L2
/-! ### a def that may ask repr: it is entered while nothing is being shown -/
structure FnG (P : Program) (w : World) (K : PySem.W.Frag) (mg : Str → Option Value) (base : Heap) (k : Nat) (f : Addr) (fd : FuncData) (ps : List Str) (sp : Sp) : Prop where
  len : ∀ vs H Q E, sp vs H Q E → vs.length = ps.length
  run : ∀ (A : Around) (outer : List Env) (s : Shared) (H : Hp) (args : Args) (us : List Value) (vs : List V) (Q : VK) (E : XK), A.guards = some [] → Room k A → Env0 P w K mg base A outer s H → BindsTo s fd args (ps.zip us) → Vals vs us → sp vs H Q E →
    codeAny (model P w) A (.call (.ref f) args) (CR CX0 outer P w H s Q E) s
theorem deeper_guards {A : Around} {e : Env} (h : A.guards = some []) : (A.deeper e).guards = some [] := by
  first
    | exact h
    | simpa [Around.deeper] using h
theorem fn_ofG {P : Program} {w : World} {K : PySem.W.Frag} {mg : Str → Option Value} {base : Heap} {k : Nat} {f : Addr} {name qual : Str} {params : Arguments} {body : List Stmt} {scope : Scope} {dV kV doc pm cdv ct oc : Value} {an od : Option Addr}
    {osl : Array (Option Value)} {N ps : List Str} {sp : Sp} (lk : K.lookup f = some ⟨oc, od, .func (PySem.W.fnOf name qual params body scope dV kV doc pm an cdv ct), osl⟩) (hcd : PySem.W.codeIn K cdv qual = true) (S : FnScope N ps scope)
    (len : ∀ vs H Q E, sp vs H Q E → vs.length = ps.length)
    (hbody : ∀ (A : Around) (outer : List Env) (s : Shared) (H : Hp) (vs : List V) (Q : VK) (E : XK), A.guards = some [] → Room k (A.deeper (envOfC qual scope s.heap.objs.size f cdv)) → sp vs H Q E →
      ∃ t, PSs (cxOf CX0 P w K mg base N qual scope f cdv A outer s H E) body t ∧ t { nx := fun _ H' => Q .non H', rt := Q } (start N vs) H) :
    FnG P w K mg base (k + 1) f (PySem.W.fnOf name qual params body scope dV kV doc pm an cdv ct) ps sp := by
  refine ⟨len, fun A outer s H args us vs Q E hg hr e0 hb r hsp => ?_⟩
  have hl := len _ _ _ _ hsp
  have KX : K.In s.heap := e0.mod.kin.keeps fun b o e => (e0.bs b o e).1
  have lim : s.heap.NoLimit := e0.mod.nolimit.keeps fun b o e => (e0.bs b o e).1
  have kind1 : ∀ y ∈ ps.zip us, scope.names.lookup y.1 = some .local ∨ (scope.names.lookup y.1 = some .cell ∧ ((cellsFrom (s.heap.objs.size + 1) scope.names []).lookup y.1).isSome = true) := by
    rintro ⟨n, v⟩ hy
    exact (S.par n (List.of_mem_zip hy).1).imp id fun q => ⟨q, PySem.W.cellsFrom_some _ _ _ (.inl q)⟩
  refine codeAny_call_function hr.depth (KX _ _ lk) rfl S.co S.gen rfl (PySem.W.codeRec_of KX hcd) (hb _ _ _ _ ?_)
  refine wpAny_newFunctionEnv_cells S.kind kind1 fun env he s1 x => ?_
  subst he
  refine ⟨lim.keeps x.toInCall.keep, codeAny_func ?_⟩
  obtain ⟨t, ht, hq⟩ := hbody A outer s H vs Q E hg (hr.deeper _) hsp
  have I : Inv (cxOf CX0 P w K mg base N qual scope f cdv A outer s H E) [] (start N vs) H s1 := inv_start S hr.hd e0 hl r x
  refine wpAny_mono (ht.run [] s1 (start N vs) H _ I hq) (fun fl s' hs => ?_) fun e s' hs => hs
  cases fl with
  | ret u =>
    obtain ⟨v, σ', H', J, rv, q⟩ := hs
    exact ⟨v, H', J.os, J.bare, J.base, J.hok, rv, q⟩
  | next =>
    obtain ⟨σ', H', J, q⟩ := hs
    exact ⟨.non, H', J.os, J.bare, J.base, J.hok, rfl, q⟩
  | brk =>
    obtain ⟨_, _, _, q⟩ := hs
    exact q.elim
  | cont =>
    obtain ⟨_, _, _, q⟩ := hs
    exact q.elim
section
variable {P : Program} {w : World} {K : PySem.W.Frag} {mg : Str → Option Value} {base : Heap}
theorem fn0G {x qual : Str} {st : Stmt} {f : Addr} {fd : FuncData} {N ps : List Str} {k : Nat} {sp : Sp} (F : C8.Fun K x qual st f fd) (S : FnScope N ps (C8.fnScope st)) (len : ∀ vs H Q E, sp vs H Q E → vs.length = ps.length)
    (hbody : ∀ (cdv : Value) (A : Around) (outer : List Env) (s : Shared) (H : Hp) (vs : List V) (Q : VK) (E : XK), A.guards = some [] → Room k (A.deeper (envOfC qual (C8.fnScope st) s.heap.objs.size f cdv)) → sp vs H Q E →
      ∃ t, PSs (cxOf CX0 P w K mg base N qual (C8.fnScope st) f cdv A outer s H E).nox (C8.fnBody st) t ∧ t { nx := fun _ H' => Q .non H', rt := Q } (start N vs) H) : FnG P w K mg base (k + 1) f fd ps sp := by
  obtain ⟨oc, od, dV, kV, doc, pm, an, cdv, ct, osl, rfl, lk, hcd⟩ := F.ex
  refine fn_ofG lk hcd S len fun A outer s H vs Q E hg hr hsp => ?_
  obtain ⟨t, h, q⟩ := hbody cdv A outer s H vs Q E hg hr hsp
  exact ⟨t, h.nox, q⟩
structure CalG (P : Program) (w : World) (K : PySem.W.Frag) (mg : Str → Option Value) (base : Heap) (k : Nat) (x : Str) (sp : Sp) : Prop where
  ex : ∃ (f : Addr) (fd : FuncData) (ps : List Str), FnG P w K mg base k f fd ps sp ∧ mg x = some (.ref f) ∧ PySem.W.keepIn K (.ref f) = true ∧ Binds K fd ps []
structure MetG (P : Program) (w : World) (K : PySem.W.Frag) (mg : Str → Option Value) (base : Heap) (k : Nat) (C : Addr) (m : Str) (sp : Sp) : Prop where
  ex : ∃ (f : Addr) (fd : FuncData) (ps : List Str), Cls K C ∧ Meth K C m f ∧ FnG P w K mg base k f fd ps sp ∧ Binds K fd ps []
theorem cal0G {x : Str} {st : Stmt} {f : Addr} {fd : FuncData} {N ps : List Str} {k : Nat} {sp : Sp} (F : C8.Def K mg x st f fd) (b : Binds K fd ps []) (S : FnScope N ps (C8.fnScope st)) (len : ∀ vs H Q E, sp vs H Q E → vs.length = ps.length)
    (hbody : ∀ (cdv : Value) (A : Around) (outer : List Env) (s : Shared) (H : Hp) (vs : List V) (Q : VK) (E : XK), A.guards = some [] → Room k (A.deeper (envOfC x (C8.fnScope st) s.heap.objs.size f cdv)) → sp vs H Q E →
      ∃ t, PSs (cxOf CX0 P w K mg base N x (C8.fnScope st) f cdv A outer s H E).nox (C8.fnBody st) t ∧ t { nx := fun _ H' => Q .non H', rt := Q } (start N vs) H) : CalG P w K mg base (k + 1) x sp :=
  ⟨f, fd, ps, fn0G F.fn S len hbody, F.mgf, F.kp, b⟩
theorem met0G {m qual : Str} {C : Addr} {st : Stmt} {f : Addr} {fd : FuncData} {N ps : List Str} {k : Nat} {sp : Sp} (c : Cls K C) (me : Meth K C m f) (F : C8.Fun K m qual st f fd) (b : Binds K fd ps []) (S : FnScope N ps (C8.fnScope st)) (len : ∀ vs H Q E, sp vs H Q E → vs.length = ps.length)
    (hbody : ∀ (cdv : Value) (A : Around) (outer : List Env) (s : Shared) (H : Hp) (vs : List V) (Q : VK) (E : XK), A.guards = some [] → Room k (A.deeper (envOfC qual (C8.fnScope st) s.heap.objs.size f cdv)) → sp vs H Q E →
      ∃ t, PSs (cxOf CX0 P w K mg base N qual (C8.fnScope st) f cdv A outer s H E).nox (C8.fnBody st) t ∧ t { nx := fun _ H' => Q .non H', rt := Q } (start N vs) H) : MetG P w K mg base (k + 1) C m sp :=
  ⟨f, fd, ps, c, me, fn0G F S len hbody, b⟩
end
section
variable {X : Cx} {k j : Nat} {C : Addr} {x m : Str} {sp : Sp} {p pos apos : Pos} {e o : Expr} {es : List Expr} {ta : TE} {t : TA} {K : PySem.W.Frag}
theorem run_fnG {pins : List (Addr × Obj)} {σ : L2.St} {H : Hp} {s : Shared} {Q : VK} {f : Addr} {fd : FuncData} {ps : List Str} {us : List Value} {vs : List V} (F : FnG X.prog X.w X.K X.mg X.base k f fd ps sp) (hg : X.A.guards = some []) (hr : Room k X.A) (hb : Binds X.K fd ps [])
    (I : Inv X pins σ H s) (r : Vals vs us) (h : sp vs H Q C8.E0) : wpAny (model X.prog X.w) X.A (call (.ref f) us) (EP X pins σ Q) X.xe s := by
  have hl : (us ++ []).length = ps.length := by rw [List.append_nil, ← r.length]; exact F.len _ _ _ _ h
  have hb' := hb s us I.kIn hl
  rw [List.append_nil] at hb'
  refine wpAny_call (codeAny_mono (F.run X.A X.stack s H ⟨us, []⟩ us vs Q C8.E0 hg hr I.env0 hb' r h) fun r s' hq => ?_)
  cases r with
  | error e => exact C8.pass0 (X := X) (E := C8.E0) pins σ H s e s' I hq
  | ok fl =>
    cases fl with
    | ret u => exact I.after hq
    | next => exact hq.elim
    | brk => exact hq.elim
    | cont => exact hq.elim
theorem pe_cG (c : CalG X.prog X.w X.K X.mg X.base k x sp) (hg' : X.A.guards = some []) (hr : Room j X.A) (hk : k ≤ j) (hg : Gl X x) (ha : PA X (e :: es) t)
    (hdb : (x == ("__debug__" : Str)) = false := by decide) (he : starEach (e :: es) X.env = (false, eval e X.env) :: starEach es X.env := by rfl) (hpl : (backTo pos (starEach es X.env)).any (·.1) = false := by rfl) :
    PE X (.Call (.Name x p) (e :: es) [] pos) (tCall sp [] C8.E0 t) := by
  obtain ⟨f, fd, ps, F, hm, kp, b⟩ := c.ex
  refine ⟨fun pins s σ H Q I h => ?_⟩
  refine wpAny_Call_Name_kw (ld_glob I hg hm ?_ hdb)
  refine PySem.W.callWith_K (h₀ := X.base) I.ok.mod.kin kp (thn (ha.run pos pins s σ H _ I h) fun us s1 ⟨vs, H1, I1, r, q⟩ => ⟨I1.kIn, ?_⟩) he hpl
  have q' : sp (vs ++ []) H1 Q C8.E0 := q
  rw [List.append_nil] at q'
  exact run_fnG F hg' (hr.mono hk) b I1 r q'
/-! ### repr -/
def rRepr (K : PySem.W.Frag) : List V → Hp → VK → Prop := fun xs H Q => ∃ a d, xs = [.ref a] ∧ Dp K H (.ref a) d ∧ d.showable = true ∧ d.hasDict = false ∧ d.depth ≤ 8 ∧ d.shown.length ≤ sizeLine ∧ Q (.str d.shown) H
theorem cr_repr (hg : X.A.guards = some []) (hr : Room k X.A) (hK : X.K = K := by rfl) : CallR X (.builtin "repr") (rRepr K) := by
  subst hK
  intro pins s σ H xs us Q I r h
  obtain ⟨a, d, rfl, hd, hs, hnd, hdep, hsz, q⟩ := h
  obtain ⟨u, rfl, ru⟩ := r.one
  cases ru
  obtain ⟨as, rd⟩ := Dp.reads I d _ _ hd rfl
  exact repr_of_reads' rd hs (PyData.noDict_hsm hnd) hg (by have := hr.un; omega) (fun _ _ e => e) (fun h' u tk hk => ⟨.str d.shown, H, I.kept hk, ⟨_, rfl⟩, q⟩) hsz
def rReprO (C : Addr) (sp : Sp) : List V → Hp → VK → Prop := fun xs H Q => ∃ a dx fs, xs = [.ref a] ∧ H a = some (.ins C dx fs) ∧ sp [.ref a] H (fun v H' => ∃ z, v = .str z ∧ Q v H') C8.E0
theorem cr_reprOwn (c : MetG X.prog X.w X.K X.mg X.base k C "__repr__" sp) (hg : X.A.guards = some []) (hr : Room j X.A) (hk : k + 1 ≤ j) :
    CallR X (.builtin "repr") (rReprO C sp) := by
  intro pins s σ H xs us Q I r h
  obtain ⟨a, dx, fs, rfl, ha, q⟩ := h
  obtain ⟨u, rfl, ru⟩ := r.one
  cases ru
  obtain ⟨f, fd, ps, hc, hm, F, b⟩ := c.ex
  obtain ⟨mA, J, _⟩ := ins_get I.hok ha
  obtain ⟨od, J, _⟩ := J.look
  obtain ⟨m, hF⟩ := I.fr
  refine PySem.W.repr_K (by have := hr.un; show X.A.units + 1 < cLine; omega) hF I.ok.mod.kin J hm.at_ hm.fn ?_
  have hb' := b s [.ref a] I.kIn (by rw [List.append_nil]; exact F.len _ _ _ _ q)
  rw [List.append_nil] at hb'
  refine wpAny_call (codeAny_mono (F.run X.A.in1 X.stack s H ⟨[.ref a], []⟩ [.ref a] [.ref a] _ C8.E0 hg (hr.mono hk).in1 I.env0.in1 hb' (.cons rfl .nil) q) fun r s' hq => ?_)
  cases r with
  | error e => exact C8.pass0 (X := X) (E := C8.E0) pins σ H s e s' I hq
  | ok fl =>
    cases fl with
    | ret u =>
      obtain ⟨v, H', I', rv, z, rfl, q'⟩ := I.after hq
      obtain ⟨t, rfl⟩ := rv
      exact ⟨.str z, H', I', ⟨t, rfl⟩, q'⟩
    | next => exact hq.elim
    | brk => exact hq.elim
    | cont => exact hq.elim
/-- f-strings: {x!r} of data -/
def tShowR (K : PySem.W.Frag) (te : TE) : TE := fun σ H Q => te σ H fun x H1 => ∃ a d, x = .ref a ∧ Dp K H1 (.ref a) d ∧ d.showable = true ∧ d.hasDict = false ∧ d.depth ≤ 8 ∧ d.shown.length ≤ sizeLine ∧ Q (.str d.shown) H1
theorem pe_showR (hg : X.A.guards = some []) (hr : Room k X.A) {te : TE} (he : PE X e te) (hK : X.K = K := by rfl) : PE X (.FormattedValue e 114 none pos) (tShowR K te) := by
  subst hK
  refine ⟨fun pins s σ H Q I h => ?_⟩
  refine wpAny_FormattedValue_repr (thn (he.run pins s σ H _ I h) fun u s1 ⟨x, H1, I1, r1, q1⟩ => ?_)
  obtain ⟨a, d, rfl, hd, hs, hnd, hdep, hsz, q⟩ := q1
  cases r1
  obtain ⟨as, rd⟩ := Dp.reads I1 d _ _ hd rfl
  refine pyReprObj_of_reads rd hs (PyData.noDict_hsm hnd) hg (by have := hr.un; omega) (fun _ _ e => e) (fun h' u tk hk => ?_) hsz
  exact wpAny_formatField_str ⟨.str d.shown, H1, I1.kept hk, ⟨_, rfl⟩, q⟩ ⟨.str d.shown, H1, (I1.kept hk).tok _, ⟨_, rfl⟩, q⟩ hsz
end
end K7

set_option Elab.async false
set_option linter.all false
set_option maxRecDepth 100000
set_option maxHeartbeats 1000000
namespace K7
open PySem PySem.Spec PyProof.Rows L2
open PySem.W (Datum)
open Evl (Ex Ev EvT EvL EvA ex_l ex_t sq_of st_of sz_of sz_lt fresh_back)
section
variable {P : Program} {w : World} {K : PySem.W.Frag} {mg : Str → Option Value} {base : Heap}
theorem suitsOk_of {ks : List Str} {ps : List (Str × Str)} (ok : PlanOk ks ps) : SuitsOk (sortK ks) (sortP (ordP ps)) := by
  refine ⟨(sortK_perm ks).nodup_iff.mpr ok.nd, by rw [(sortK_perm ks).length_eq]; exact ok.hi, fun k hk => (ok.kd k ((sortK_perm ks).mem_iff.mp hk)).strOk, fun p hp => ?_⟩
  obtain ⟨q, hq, rfl⟩ := List.mem_map.mp ((sortP_perm _).mem_iff.mp hp)
  exact inOrd_ok (ok.kd _ (ok.sub q hq).1).strOk (ok.kd _ (ok.sub q hq).2).strOk
theorem mtQ_in {ks : List Str} {ps : List (Str × Str)} {x m : Str} (h : m ∈ mtQ ks ps x) : x ∈ ks := by
  unfold mtQ mtL at h
  obtain ⟨_, h2⟩ := List.mem_filter.mp h
  obtain ⟨o, ho, e⟩ := List.any_eq_true.mp h2
  have := List.mem_singleton.mp (of_decide_eq_true e)
  subst this
  exact (sortK_perm ks).mem_iff.mp (List.mem_filter.mp ho).1
theorem mtQ_fit {ks : List Str} {ps : List (Str × Str)} (x m : Str) (h : m ∈ mtQ ks ps x) : fitP ps x m = true := by
  rw [fitP_comm]
  exact ((mtQ_mem (mtQ_in h)).mp h).2
theorem mtQ_other {ks : List Str} {ps : List (Str × Str)} (ok : PlanOk ks ps) (x y m : Str) (h : m ∈ mtQ ks ps x) (hf : fitP ps y m = true) : m ∈ mtQ ks ps y := by
  have hm := ((mtQ_mem (mtQ_in h)).mp h).1
  have hy : y ∈ ks := by
    unfold fitP at hf
    rcases Bool.or_eq_true _ _ ▸ hf with q | q
    · exact (ok.sub _ (of_decide_eq_true q)).1
    · exact (ok.sub _ (of_decide_eq_true q)).2
  exact (mtQ_mem hy).mpr ⟨hm, by rw [fitP_comm]; exact hf⟩
theorem leave_in {mt : Str → List Str} {line : List Str} {K : List Nat} : ∀ n, ∀ k ∈ (K76.leaveTo mt line K n).1, ∃ x, k ∈ mt x
  | 0, k, h => absurd h List.not_mem_nil
  | n + 1, k, h => by
    have ih := leave_in (mt := mt) (line := line) (K := K) n k
    cases e : line[n]? with
    | none =>
      rw [K76.leaveTo.eq_2, e] at h
      exact ih h
    | some x =>
      rw [K76.leaveTo_succ e] at h
      unfold K76.leaveStep at h
      have hf : ∀ y ∈ ((mt x).filter fun m => decide (m ∉ (K76.leaveTo mt line K n).2.2)), y ∈ mt x := fun y hy => (List.mem_filter.mp hy).1
      revert h hf
      generalize ((mt x).filter fun m => decide (m ∉ (K76.leaveTo mt line K n).2.2)) = fr
      intro h hf
      cases fr with
      | nil => exact ih h
      | cons m r =>
        dsimp only at h
        split at h
        · rcases List.mem_append.mp h with q | q
          · exact ih q
          · rw [List.mem_singleton.mp q]
            exact ⟨x, hf m List.mem_cons_self⟩
        · exact ih h
structure Game (C : Addr) (H : Hp) (pl su la : Addr) (ks : List Str) (ps : List (Str × Str)) (line : List Str) : Prop where
  plan : PlanAt H pl ks ps
  ok : PlanOk ks ps
  nd : (ordP ps).Nodup
  suits : SuitsAt C H su (sortK ks) (sortP (ordP ps))
  la : LS H la line
  sub : ∀ k ∈ line, k ∈ ks
  len : line.length ≤ 200
theorem Game.mono {C : Addr} {H H' : Hp} {pl su la : Addr} {ks : List Str} {ps : List (Str × Str)} {line : List Str} (e : Sm H H') (g : Game C H pl su la ks ps line) : Game C H' pl su la ks ps line :=
  ⟨g.plan.mono e, g.ok, g.nd, g.suits.mono e, e _ _ g.la, g.sub, g.len⟩
structure Goal (ks : List Str) (ps : List (Str × Str)) (goal : List Str) : Prop where
  sub : ∀ k ∈ goal, k ∈ ks
  il : K76.IsLine (fitP ps) goal
  len : goal.length ≤ 300
theorem PlanOk.okS' {ks : List Str} {ps : List (Str × Str)} {l : List Str} (ok : PlanOk ks ps) (h : ∀ k ∈ l, k ∈ ks) : K7.okS l := fun x hx => ok.okS x (h x hx)
/-- what is asked of a row: its length, and where it leads -/
theorem few_best {ks : List Str} {ps : List (Str × Str)} {line goal : List Str} {res : Sum (List Str) (List (Option (List Nat)))} {o : Option Nat} (ok : PlanOk ks ps) (g : Goal ks ps goal) (h : K76.FewM (mtQ ks ps) line goal res) (hb : K76.BestIs (mtQ ks ps) line goal o) :
    (o = none ∧ fewWord res = "never" ∧ ∃ p, res = .inr p) ∨ ∃ m row, o = some m ∧ res = .inl row ∧ m ≤ goal.length ∧ row.length + 2 * m = line.length + goal.length ∧ K76.afterM (fitP ps) line row = goal ∧ (∀ k ∈ row, k ∈ ks) := by
  cases h with
  | row hB =>
    rename_i m
    cases o with
    | none => exact (hB.no hb).elim
    | some m' =>
      have hb : K76.Best (mtQ ks ps) line goal m' := hb
      have := K76.Best.inj hb hB
      subst this
      refine .inr ⟨m', _, rfl, rfl, hB.1, K76.rowAt_length hB, K76.rowAt_leads mtQ_fit (mtQ_other ok) hB g.il, fun k hk => ?_⟩
      rcases List.mem_append.mp hk with q | q
      · obtain ⟨x, hx⟩ := leave_in _ k q
        exact ((mtQ_mem (mtQ_in hx)).mp hx).1
      · exact g.sub k (List.mem_of_mem_drop q)
  | never hN =>
    cases o with
    | none => exact .inl ⟨rfl, rfl, _, rfl⟩
    | some m =>
      have hb : K76.Best (mtQ ks ps) line goal m := hb
      exact (hb.no hN).elim
theorem cmul2 {m : Nat} (h : m ≤ 100000) : CMul 2 (m : Int) := by
  unfold CMul
  exact .inl ⟨by decide, by decide⟩
theorem len_eq {line goal row : List Str} {m : Nat} (h : row.length + 2 * m = line.length + goal.length) :
    decide (V.int ((row.map V.str).length : Int) = V.int (((line.map V.str).length : Int) + ((goal.map V.str).length : Int) - 2 * (m : Int))) = true := by
  refine decide_eq_true (congrArg V.int ?_)
  rw [List.length_map, List.length_map, List.length_map]
  omega
def sp_law_in_place_right (C : Addr) : Sp := fun vs H Q _ => ∃ (pl su la ga : Addr) (ks : List Str) (ps : List (Str × Str)) (line goal : List Str) (H0 : Hp), vs = [.ref pl, .ref su, .ref la, .ref ga] ∧ H0 ga = none ∧ Sm H0 H ∧ Game C H0 pl su la ks ps line ∧ LS H ga goal ∧ Goal ks ps goal ∧ ∀ H', Sm H0 H' → Q (.bl true) H'
theorem c_law_in_place_right (T : Tx P w K mg base) : C8.Cal P w K mg base 6 "_law_in_place_right" (sp_law_in_place_right (CS K)) [] := by
  obtain ⟨f, fd, F, df⟩ := T.d "_law_in_place_right" 44 (by decide +kernel)
  have sc : FnScope ["_law_plan_here", "_law_suits_here", "_law_line_here", "_law_goal_here", "_law_word", "_law_found", "_law_many"] ["_law_plan_here", "_law_suits_here", "_law_line_here", "_law_goal_here"] (C8.fnScope (top 44)) := C8.fnScope_by (by decide +kernel)
  have nd := sc.nd
  have c_fewest := c_fewest T
  have c_law_after := c_law_after T
  have c_law_best := c_law_best T
  refine C8.cal0 F (F.fn.binds df (ps := ["_law_plan_here", "_law_suits_here", "_law_line_here", "_law_goal_here"]) fun _ _ _ _ _ _ us hl => match us, hl with | [_, _, _, _], _ => rfl) .nil sc (fun vs H Q E h => by obtain ⟨_, _, _, _, _, _, _, _, _, rfl, _⟩ := h; rfl) fun cdv A outer s H vs Q E hr h => ?_
  refine ⟨_, PSs.nox (pss_cons (ps_if (PW.pt (pw_or (pt_cmpR (k_eqD (K := K) hr.units) (pv 3) (pe_lst pa_nil) (nomark _)) (pw_or1 (pt_cmpR op_gt (pe_callB (k_len_seq (K := K)) (by rfl) T.b_len (by decide +kernel) (pa_cons (pv 2) pa_nil)) pe_int (nomark _))))) (pss_one (ps_ret pe_bl)) pss_nil)
    (pss_cons (ps_expr (pe_bm0 PySem.F.plainAttrs_list PySem.F.slot_list_pop PySem.F.type_list_pop mt_pop (pv 3)))
    (pss_cons (ps_asg (C8.pe_c c_fewest hr (by decide) rfl (pa_cons (pv 1) (pa_cons (pv 2) (pa_cons (pv 3) pa_nil)))) (k_pg_tup (K := K) (n := 2) rfl (pgs_cons (pg_name (i := 4) nd rfl (.inl rfl)) (pgs_cons (pg_name (i := 5) nd rfl (.inl rfl)) pgs_nil))))
    (pss_cons (ps_set (i := 6) nd rfl (.inl rfl) (C8.pe_c c_law_best hr (by decide) rfl (pa_cons (pv 0) (pa_cons (pv 2) (pa_cons (pv 3) pa_nil)))))
    (pss_cons (ps_if (pt_cmpR op_isN (pv 6) pe_non (nomark _)) (pss_one (ps_ret (pe_cmpR op_eq (pv 4) pe_str (nomark _)))) pss_nil)
    (pss_one (ps_ret (pe_and (pe_cmpR op_eq (pv 4) pe_str (nomark _)) (pe_and (pe_cmpR op_eq (pe_callB (k_len_seq (K := K)) (by rfl) T.b_len (by decide +kernel) (pa_cons (pv 5) pa_nil)) (pe_op op_sub (pe_op op_add (pe_callB (k_len_seq (K := K)) (by rfl) T.b_len (by decide +kernel) (pa_cons (pv 2) pa_nil)) (pe_callB (k_len_seq (K := K)) (by rfl) T.b_len (by decide +kernel) (pa_cons (pv 3) pa_nil))) (pe_op op_mul pe_int (pv 6))) (nomark _)) (pe_one (pe_cmpR (k_eqD (K := K) hr.units) (C8.pe_c c_law_after hr (by decide) rfl (pa_cons (pv 0) (pa_cons (pv 2) (pa_cons (pv 5) pa_nil)))) (pv 3) (nomark _)))))))))))), ?_⟩
  obtain ⟨pl, su, la, ga, ks, ps, line, goal, H0, rfl, hga0, e0, G, hga, gg, hQ⟩ := h
  have okl : okS line := G.ok.okS' G.sub
  have okg : okS goal := G.ok.okS' gg.sub
  refine ⟨_, rfl, Nat.zero_le _, fun z hz => ⟨_, _, dp_ls (Ex.new hz _ _ hga), dp_ls (xs := []) upd_same, sh_strs okg, sh_strs (fun _ h => absurd h List.not_mem_nil), _, rfl, ?_⟩⟩
  rw [Datum.eqv]
  generalize hE : L2.upd H z (.lst []) = H1
  have e1 : Sm H H1 := hE ▸ Evl.Ex.new hz
  have h1 : H1 z = some (.lst []) := hE ▸ L2.upd_same
  clear hE
  have e01 := e0.trans e1
  by_cases hn : goal = []
  · exact ifT (decide_eq_true hn) (ifT rfl (hQ H1 e01))
  refine ifF (decide_eq_false hn) ⟨_, rfl, la, _, rfl, .inl (sq_of (e01 _ _ G.la)), _, _, rfl, rfl, _, rfl, ?_⟩
  by_cases h20 : (20 : Int) < ((line.map V.str).length : Int)
  · exact ifT (decide_eq_true h20) (hQ H1 e01)
  refine ifF (decide_eq_false h20) ?_
  have hlen : line.length ≤ 20 := by rw [List.length_map] at h20; omega
  have hne : (goal.map V.str)[(goal.map V.str).length - 1]? = some (.str (goal.getLast hn)) := by
    rw [List.length_map, List.getElem?_map, ← List.getLast?_eq_getElem?, List.getLast?_eq_some_getLast hn]
    rfl
  refine ⟨_, rfl, .inl ⟨rfl, _, sq_of (e1 _ _ hga)⟩, ga, _, _, rfl, rfl, e1 _ _ hga, hne, ?_⟩
  have e2 : Sm H0 (upd H1 ga (.lst (goal.map V.str).dropLast)) := e01.put hga0
  have hg2 : LS (upd H1 ga (.lst (goal.map V.str).dropLast)) ga goal.dropLast := by
    show _ = some (HO.lst _)
    rw [List.map_dropLast]
    exact upd_same
  have gg2 : Goal ks ps goal.dropLast := ⟨fun k hk => gg.sub k (List.dropLast_subset _ hk), gg.il.sub (List.dropLast_sublist _), by rw [List.length_dropLast]; have := gg.len; omega⟩
  revert e2 hg2 gg2
  generalize upd H1 ga (.lst (goal.map V.str).dropLast) = H2
  generalize goal.dropLast = goal2
  intro e2 hg2 gg2
  have okg2 : okS goal2 := G.ok.okS' gg2.sub
  have gl2 := gg2.len
  refine ⟨_, rfl, _, rfl, _, rfl, su, la, ga, _, _, line, goal2, rfl, (G.mono e2).suits, suitsOk_of G.ok, (G.mono e2).la, hg2, by omega, by omega, okl, okg2, fun r x res H3 e3 hx hf hr3 hx3 => ?_⟩
  refine ⟨r, _, rfl, st_of hr3, rfl, _, _, rfl, _, _, rfl, rfl, ?_⟩
  have G3 := G.mono (e2.trans e3)
  refine ⟨_, rfl, _, rfl, _, rfl, pl, la, ga, ks, ps, line, goal2, rfl, G3.plan, G.ok, G3.la, e3 _ _ hg2, by omega, by omega, G.sub, gg2.sub, fun o H4 e4 hb => ?_⟩
  have e04 := (e2.trans e3).trans e4
  rcases few_best G.ok gg2 hf hb with ⟨rfl, hw, p, rfl⟩ | ⟨m, row, rfl, rfl, hm, hl, hL, hs⟩
  · refine ⟨_, rfl, rfl, _, rfl, ifT rfl ?_⟩
    refine ⟨_, rfl, rfl, ?_⟩
    rw [show decide (V.str (fewWord (.inr p)) = V.str "never") = true from rfl]
    exact hQ H4 e04
  · have G4 := G.mono e04
    refine ⟨_, rfl, rfl, _, rfl, ifF rfl ?_⟩
    refine ⟨_, rfl, rfl, _, rfl, ifT rfl ?_⟩
    refine ⟨_, rfl, x, _, rfl, .inl (sq_of (e4 _ _ hx3)), _, rfl, la, _, rfl, .inl (sq_of G4.la), _, rfl, ga, _, rfl, .inl (sq_of (e4 _ _ (e3 _ _ hg2))), ?_⟩
    refine ⟨_, _, rfl, rfl, _, rfl, _, _, rfl, rfl, cmul2 (by omega), _, _, rfl, rfl, rfl, _, rfl, ifT (len_eq hl) ?_⟩
    refine ⟨_, rfl, _, rfl, _, rfl, pl, la, x, ks, ps, line, row, rfl, G4.plan, G.ok, G4.la, e4 _ _ hx3, by omega, by omega, okl, G.ok.okS' hs, fun r5 H5 e5 _ h5 => ?_⟩
    rw [hL] at h5
    refine ⟨_, rfl, _, _, dp_ls h5, dp_ls (e5 _ _ (e4 _ _ (e3 _ _ hg2))), sh_strs okg2, sh_strs okg2, ?_⟩
    rw [Datum.eqv, decide_eq_true rfl]
    exact hQ H5 (e04.trans e5)
end
end K7

set_option Elab.async false
set_option linter.all false
set_option maxRecDepth 100000
set_option maxHeartbeats 1000000
namespace K7
open PySem PySem.Spec PyProof.Rows L2
open PySem.W (Datum)
open Evl (Ex Ev EvT EvL EvA ex_l ex_t sq_of st_of sz_of sz_lt fresh_back)
section
variable {P : Program} {w : World} {K : PySem.W.Frag} {mg : Str → Option Value} {base : Heap}
/-! ### data that can be shown -/
structure Sho (k n : Nat) (d : PyData) : Prop where
  can : d.canLay0 = true
  sh : d.showable = true
  itg : d.intsShort 13 = true
  dep : d.depth ≤ k
  wt : d.weight ≤ n
structure ShoA (k n : Nat) (ds : List PyData) : Prop where
  can : PyData.canLayAll0 ds = true
  sh : PyData.showableAll ds = true
  itg : PyData.intsShortAll 13 ds = true
  dep : PyData.depthAll ds ≤ k
  wt : PyData.weightAll ds ≤ n
theorem Sho.mono {k n k' n' : Nat} {d : PyData} (h : Sho k n d) (hk : k ≤ k') (hn : n ≤ n') : Sho k' n' d := ⟨h.can, h.sh, h.itg, Nat.le_trans h.dep hk, Nat.le_trans h.wt hn⟩
theorem Sho.none {k n : Nat} : Sho k n PyData.none := ⟨rfl, rfl, rfl, Nat.zero_le _, Nat.zero_le _⟩
theorem Sho.str {k n : Nat} {x : Str} (h : PyData.strOk x = true) (hn : x.length ≤ n) : Sho k n (PyData.str x) := ⟨h, rfl, rfl, Nat.zero_le _, hn⟩
theorem Sho.nat {k : Nat} {i : Nat} (h : i ≤ 100000) : Sho k 17 (PyData.int (i : Int)) := by
  have lg : ((i : Int).natAbs).log2 < 17 := by
    rw [Int.natAbs_natCast]
    by_cases h0 : i = 0
    · subst h0; decide
    · exact (Nat.log2_lt h0).mpr (by omega)
  refine ⟨rfl, ?_, ?_, Nat.zero_le _, ?_⟩
  · show decide (_ < 1920) = true
    exact decide_eq_true (by omega)
  · show decide (_ ≤ 13) = true
    exact decide_eq_true (PyData.shown_int_le (by rw [Int.natAbs_natCast]; omega))
  · show (if _ then 0 else _) ≤ 17
    split
    · exact Nat.zero_le _
    · exact lg
theorem ShoA.nil {k n : Nat} : ShoA k n [] := ⟨rfl, rfl, rfl, Nat.zero_le _, Nat.zero_le _⟩
theorem ShoA.cons {k n m : Nat} {d : PyData} {ds : List PyData} (h : Sho k m d) (t : ShoA k n ds) : ShoA k (m + 1 + n) (d :: ds) := by
  refine ⟨?_, ?_, ?_, ?_, ?_⟩
  · show (_ && _) = true
    rw [h.can, t.can]; rfl
  · show (_ && _) = true
    rw [h.sh, t.sh]; rfl
  · show (_ && _) = true
    rw [h.itg, t.itg]; rfl
  · show max _ _ ≤ k
    exact Nat.max_le.mpr ⟨h.dep, t.dep⟩
  · show _ + 1 + _ ≤ _
    have := h.wt
    have := t.wt
    omega
theorem ShoA.of {α : Type} {f : α → PyData} {k m : Nat} : ∀ {l : List α}, (∀ x ∈ l, Sho k m (f x)) → ShoA k ((m + 1) * l.length) (l.map f)
  | [], _ => ShoA.nil
  | x :: l, h => by
    have t := ShoA.cons (h x List.mem_cons_self) (ShoA.of fun y hy => h y (List.mem_cons_of_mem _ hy))
    rw [List.length_cons, Nat.mul_succ, Nat.add_comm]
    exact t
theorem ShoA.mono {k n n' : Nat} {d : List PyData} (h : ShoA k n d) (hn : n ≤ n') : ShoA k n' d := ⟨h.can, h.sh, h.itg, h.dep, Nat.le_trans h.wt hn⟩
theorem Sho.list {k n : Nat} {ds : List PyData} (h : ShoA k n ds) : Sho (k + 1) n (PyData.list ds) := ⟨h.can, h.sh, h.itg, Nat.succ_le_succ h.dep, h.wt⟩
theorem Sho.tuple {k n : Nat} {ds : List PyData} (h : ShoA k n ds) : Sho (k + 1) n (PyData.tuple ds) := ⟨h.can, h.sh, h.itg, Nat.succ_le_succ h.dep, h.wt⟩
theorem Sho.len {k n : Nat} {d : PyData} (h : Sho k n d) : d.shown.length ≤ 15 * n + 13 :=
  Nat.le_trans (PyData.shown_le 13 (by decide) d (PyData.leavesShort_of_canLay0 13 d h.can h.itg)) (by have := Nat.mul_le_mul_left 15 h.wt; omega)
theorem Sho.fits {k n : Nat} {d : PyData} (h : Sho k n d) (hn : n ≤ 1048576) : d.shown.length ≤ sizeLine := by
  have := h.len
  rw [PySem.sizeLine_eq]
  omega
theorem Sho.nodict {k n : Nat} {d : PyData} (h : Sho k n d) : d.hasDict = false := PyData.hasDict_of_canLay d h.can
theorem Sho.shaped {k n : Nat} {d : PyData} (h : Sho k n d) (hk : k ≤ 64) : SeqAt.shaped d = true := shaped_of h.can (Nat.le_trans h.dep hk)
/-- what repr asks -/
theorem Sho.rr {K : PySem.W.Frag} {H : Hp} {k n : Nat} {d : PyData} {a : Addr} {Q : VK} (h : Sho k n d) (hk : k ≤ 8) (hn : n ≤ 1048576) (hd : Dp K H (.ref a) d) (hQ : Q (.str d.shown) H) : rRepr K [.ref a] H Q :=
  ⟨a, d, rfl, hd, h.sh, h.nodict, Nat.le_trans h.dep hk, h.fits hn, hQ⟩
theorem Sho.texts {xs : List Str} (h : okS xs) (hl : ∀ x ∈ xs, x.length ≤ 8) : Sho 1 (9 * xs.length) (Datum.toD xs) := Sho.list (ShoA.of (f := PyData.str) (k := 0) (m := 8) fun x hx => .str (h x hx) (hl x hx))
theorem Sho.two {p : Str × Str} (h : PyData.strOk p.1 = true ∧ PyData.strOk p.2 = true) (h1 : p.1.length ≤ 8) (h2 : p.2.length ≤ 8) : Sho 1 18 (Datum.toD p) :=
  Sho.tuple (k := 0) (ShoA.cons (.str h.1 h1) (ShoA.cons (.str h.2 h2) (ShoA.nil (n := 0))))
theorem Sho.twos {ps : List (Str × Str)} (h : okP ps) (hl : ∀ p ∈ ps, p.1.length ≤ 8 ∧ p.2.length ≤ 8) : Sho 2 (19 * ps.length) (Datum.toD ps) := Sho.list (ShoA.of (f := Datum.toD) (k := 1) (m := 18) fun p hp => .two (h p hp) (hl p hp).1 (hl p hp).2)
/-! ### the object's own == and repr -/
def sp___eq__ (C : Addr) : Sp := spEq fun a b H => ∃ sk sp, SuitsAt C H a sk sp ∧ SuitsAt C H b sk sp ∧ okS sk ∧ okP sp
theorem m___eq__ (T : Tx P w K mg base) : C8.Met P w K mg base 1 (CS K) "__eq__" (sp___eq__ (CS K)) [] := by
  obtain ⟨fd, F, df⟩ := T.m "__eq__" "Suits.__eq__" 13 (by decide +kernel)
  have sc : FnScope ["self", "other"] ["self", "other"] (C8.fnScope (inClass (top 21) 13)) := C8.fnScope_by (by decide +kernel)
  have nd := sc.nd
  refine C8.met0 T.cls (T.meth (by decide +kernel)) F (F.binds df (ps := ["self", "other"]) fun _ _ _ _ _ _ us hl => match us, hl with | [_, _], _ => rfl) sc (fun vs H Q E h => by obtain ⟨_, _, rfl, _⟩ := h; rfl) fun cdv A outer s H vs Q E hr h => ?_
  refine ⟨_, PSs.nox (pss_one (ps_ret (pe_and (pe_callB (C8.call_isC T.insC) (by rfl) T.b_isinstance (by decide +kernel) (pa_cons (pv 1) (pa_cons (C8.pe_gc rfl T.c_Suits) pa_nil))) (pe_and (pe_cmpR (k_eqD (K := K) hr.units) (k_fld (K := K) (pv 0) rfl) (k_fld (K := K) (pv 1) rfl) (nomark _)) (pe_one (pe_cmpR (k_eqD (K := K) hr.units) (k_fld (K := K) (pv 0) rfl) (k_fld (K := K) (pv 1) rfl) (nomark _))))))), ?_⟩
  obtain ⟨a, b, rfl, ⟨sk, sp, hA, hB, oks, okp⟩, hQ⟩ := h
  obtain ⟨dx, ka, pa, ma, m, h1, h2, h3, _⟩ := hA
  obtain ⟨dx', ka', pa', ma', m', g1, g2, g3, _⟩ := hB
  refine ⟨_, rfl, b, dx', _, rfl, g1, _, rfl, ifT rfl ?_⟩
  refine ⟨_, rfl, _, _, _, _, _, rfl, h1, T.cls, T.noat (by decide +kernel), rfl, ?_⟩
  refine ⟨_, rfl, _, _, _, _, _, rfl, g1, T.cls, T.noat (by decide +kernel), rfl, ?_⟩
  refine ⟨_, _, dp_ls h2, dp_ls g2, sh_strs oks, sh_strs oks, _, rfl, ?_⟩
  rw [Datum.eqv, decide_eq_true rfl]
  refine ifT rfl ?_
  refine ⟨_, rfl, _, _, _, _, _, rfl, h1, T.cls, T.noat (by decide +kernel), rfl, ?_⟩
  refine ⟨_, rfl, _, _, _, _, _, rfl, g1, T.cls, T.noat (by decide +kernel), rfl, ?_⟩
  refine ⟨_, _, dp_pairs h3, dp_pairs g3, sh_pairs okp, sh_pairs okp, ?_⟩
  rw [Datum.eqv, decide_eq_true rfl]
  exact hQ H (Ex.refl _)
structure SuitsSh (sk : List Str) (sp : List (Str × Str)) : Prop where
  ok : SuitsOk sk sp
  kl : ∀ x ∈ sk, x.length ≤ 8
  pl : ∀ p ∈ sp, p.1.length ≤ 8 ∧ p.2.length ≤ 8
  len : sp.length ≤ 36
def reprS (sk : List Str) (sp : List (Str × Str)) : Str := ((((Str.empty ++ "Suits(") ++ (Datum.toD sk).shown) ++ ", ") ++ (Datum.toD sp).shown) ++ ")"
theorem reprS_len {sk : List Str} {sp : List (Str × Str)} (h : SuitsSh sk sp) : (reprS sk sp).length ≤ 20000 ∧ (Str.empty ++ "Suits(" : Str).length ≤ 20000 ∧ ((Str.empty ++ "Suits(") ++ (Datum.toD sk).shown : Str).length ≤ 20000 ∧
    (((Str.empty ++ "Suits(") ++ (Datum.toD sk).shown) ++ ", " : Str).length ≤ 20000 ∧ ((((Str.empty ++ "Suits(") ++ (Datum.toD sk).shown) ++ ", ") ++ (Datum.toD sp).shown : Str).length ≤ 20000 := by
  have h1 := (Sho.texts h.ok.ok h.kl).len
  have h2 := (Sho.twos h.ok.okp h.pl).len
  have := h.ok.hi
  have := h.len
  unfold reprS
  simp only [strLen_append]
  have e1 : (Str.empty).length = 0 := rfl
  have e2 : (Str.ofString "Suits(").length = 6 := rfl
  have e3 : (Str.ofString ", ").length = 2 := rfl
  have e4 : (Str.ofString ")").length = 1 := rfl
  omega
def sp___repr__ (C : Addr) : Sp := fun vs H Q _ => ∃ (s : Addr) (sk : List Str) (sp : List (Str × Str)), vs = [.ref s] ∧ SuitsAt C H s sk sp ∧ SuitsSh sk sp ∧ Q (.str (reprS sk sp)) H
theorem m___repr__ (T : Tx P w K mg base) : MetG P w K mg base 1 (CS K) "__repr__" (sp___repr__ (CS K)) := by
  obtain ⟨fd, F, df⟩ := T.m "__repr__" "Suits.__repr__" 14 (by decide +kernel)
  have sc : FnScope ["self"] ["self"] (C8.fnScope (inClass (top 21) 14)) := C8.fnScope_by (by decide +kernel)
  have nd := sc.nd
  refine met0G T.cls (T.meth (by decide +kernel)) F (F.binds df (ps := ["self"]) fun _ _ _ _ _ _ us hl => match us, hl with | [_], _ => rfl) sc (fun vs H Q E h => by obtain ⟨_, _, _, rfl, _⟩ := h; rfl) fun cdv A outer s H vs Q E hg hr h => ?_
  refine ⟨_, PSs.nox (pss_one (ps_ret (pe_joined (.cons pe_str (.cons (pe_showR (K := K) hg hr ((k_fld (K := K) (pv 0) rfl))) (.cons pe_str (.cons (pe_showR (K := K) hg hr ((k_fld (K := K) (pv 0) rfl))) (.cons pe_str .nil)))))))), ?_⟩

  obtain ⟨s', sk, sp, rfl, hA, ok, hQ⟩ := h
  obtain ⟨dx, ka, pa, ma, m, h1, h2, h3, _⟩ := hA
  have s1 := Sho.texts ok.ok.ok ok.kl
  have s2 := Sho.twos ok.ok.okp ok.pl
  have l1 := ok.ok.hi
  have l2 := ok.len
  obtain ⟨z5, z1, z2, z3, z4⟩ := reprS_len ok
  have big : ∀ {n : Nat}, n ≤ 20000 → n ≤ sizeLine := fun h => Nat.le_trans h (by decide)
  refine ⟨_, rfl, big z1, _, rfl, _, _, _, _, _, rfl, h1, T.cls, T.noat (by decide +kernel), rfl, _, _, rfl, dp_ls h2, s1.sh, s1.nodict, Nat.le_trans s1.dep (by decide), s1.fits (by omega), _, rfl, big z2, ?_⟩
  refine ⟨_, rfl, big z3, _, rfl, _, _, _, _, _, rfl, h1, T.cls, T.noat (by decide +kernel), rfl, _, _, rfl, dp_pairs h3, s2.sh, s2.nodict, Nat.le_trans s2.dep (by decide), s2.fits (by omega), _, rfl, big z4, ?_⟩
  exact ⟨_, rfl, big z5, hQ⟩
def sp_law_alike (K : PySem.W.Frag) : Sp := fun vs H Q _ => ∃ (a b : Addr) (d : PyData) (n : Nat), vs = [.ref a, .ref b] ∧ Dp K H (.ref a) d ∧ Dp K H (.ref b) d ∧ Sho 8 n d ∧ n ≤ 1048576 ∧ Q (.bl true) H
theorem c_law_alike (T : Tx P w K mg base) : CalG P w K mg base 1 "_law_alike" (sp_law_alike K) := by
  obtain ⟨f, fd, F, df⟩ := T.d "_law_alike" 28 (by decide +kernel)
  have sc : FnScope ["_law_found", "_law_due"] ["_law_found", "_law_due"] (C8.fnScope (top 28)) := C8.fnScope_by (by decide +kernel)
  have nd := sc.nd
  refine cal0G F (F.fn.binds df (ps := ["_law_found", "_law_due"]) fun _ _ _ _ _ _ us hl => match us, hl with | [_, _], _ => rfl) sc (fun vs H Q E h => by obtain ⟨_, _, _, _, rfl, _⟩ := h; rfl) fun cdv A outer s H vs Q E hg hr h => ?_
  refine ⟨_, PSs.nox (pss_one (ps_ret (pe_and (pe_cmpR (k_eqD (K := K) hr.units) (pv 0) (pv 1) (nomark _)) (pe_one (pe_cmpR op_eq (pe_callB (cr_repr (K := K) hg hr) (by rfl) T.b_repr (by decide +kernel) ((pa_cons (pv 0) pa_nil))) (pe_callB (cr_repr (K := K) hg hr) (by rfl) T.b_repr (by decide +kernel) ((pa_cons (pv 1) pa_nil))) (nomark _)))))), ?_⟩

  obtain ⟨a, b, d, n, rfl, ha, hb, hs, hn, hQ⟩ := h
  refine ⟨_, rfl, _, rfl, _, _, ha, hb, hs.shaped (by decide), hs.shaped (by decide), _, rfl, ?_⟩
  rw [PySem.SeqAt.eqv_refl d hs.can]
  refine ifT rfl ?_
  have dp := Nat.le_trans hs.dep (Nat.le_refl _)
  refine ⟨_, rfl, _, _, rfl, ha, hs.sh, hs.nodict, dp, hs.fits hn, _, rfl, _, _, rfl, hb, hs.sh, hs.nodict, dp, hs.fits hn, rfl, ?_⟩
  rw [decide_eq_true rfl]
  exact hQ
end
end K7

set_option Elab.async false
set_option linter.all false
set_option maxRecDepth 100000
set_option maxHeartbeats 1000000
namespace K7
open PySem PySem.Spec PyProof.Rows L2
open PySem.W (Datum)
/-! ### what repr writes can be compared -/
def Lo (z : Str) : Prop := ∀ c ∈ z.cps.toList, c < 0x110000
theorem Lo.ok {z : Str} (h : Lo z) : PyData.strOk z = true := by
  unfold PyData.strOk
  rw [← Array.all_toList]
  exact List.all_eq_true.mpr fun c hc => decide_eq_true (h c hc)
theorem Lo.of {z : Str} (h : PyData.strOk z = true) : Lo z := by
  unfold PyData.strOk at h
  rw [← Array.all_toList] at h
  exact fun c hc => of_decide_eq_true (List.all_eq_true.mp h c hc)
theorem Lo.app {a b : Str} (h1 : Lo a) (h2 : Lo b) : Lo (a ++ b) := fun c hc => by
  rcases PyProof.Rows.mem_cps_append.mp hc with q | q
  · exact h1 c q
  · exact h2 c q
theorem char_lt (c : Char) : c.toNat < 0x110000 := by
  have h := c.valid
  show c.val.toNat < _
  rcases h with q | ⟨_, q⟩
  · have : c.val.toNat < 0xd800 := q
    omega
  · exact q
theorem Lo.lit (s : String) : Lo (Str.ofString s) := fun c hc => by
  rw [PyProof.Rows.signs_ofString] at hc
  obtain ⟨d, _, rfl⟩ := List.mem_map.mp hc
  exact char_lt d
theorem hex_lo (w c : Nat) : ∀ x ∈ List.replicate w 48 ++ (Nat.toDigits 16 c).map Char.toNat, x < 0x110000 := fun x hx => by
  rcases List.mem_append.mp hx with q | q
  · rw [(List.mem_replicate.mp q).2]; decide
  · obtain ⟨d, _, rfl⟩ := List.mem_map.mp q
    exact char_lt d
theorem reprChar_lo {q c : Nat} (hc : c < 0x110000) : ∀ x ∈ Builtin.Str.reprChar q c, x < 0x110000 := by
  have two : ∀ {a b : Nat}, a < 0x110000 → b < 0x110000 → ∀ x ∈ [a, b], x < 0x110000 := fun ha hb x hx => by
    rcases List.mem_cons.mp hx with z | z
    · rw [z]; exact ha
    · rw [List.mem_singleton.mp z]; exact hb
  unfold Builtin.Str.reprChar
  dsimp only
  repeat' split
  · exact two (by decide) hc
  · exact two (by decide) (by decide)
  · exact two (by decide) (by decide)
  · exact two (by decide) (by decide)
  · exact fun x hx => by rw [List.mem_singleton.mp hx]; exact hc
  · exact fun x hx => (List.mem_append.mp hx).elim (two (by decide) (by decide) x) (hex_lo _ _ x)
  · exact fun x hx => (List.mem_append.mp hx).elim (two (by decide) (by decide) x) (hex_lo _ _ x)
  · exact fun x hx => (List.mem_append.mp hx).elim (two (by decide) (by decide) x) (hex_lo _ _ x)
theorem fold_lo {q : Nat} : ∀ (l : List Nat) (acc : Array Nat), (∀ c ∈ l, c < 0x110000) → (∀ c ∈ acc.toList, c < 0x110000) → ∀ c ∈ (l.foldl (fun out c => out ++ (Builtin.Str.reprChar q c).toArray) acc).toList, c < 0x110000
  | [], acc, _, h => h
  | c :: l, acc, h1, h2 => fold_lo l _ (fun d hd => h1 d (List.mem_cons_of_mem _ hd)) fun d hd => by
    rw [Array.toList_append] at hd
    rcases List.mem_append.mp hd with z | z
    · exact h2 d z
    · exact reprChar_lo (h1 c List.mem_cons_self) d z
theorem Lo.repr {x : Str} (h : Lo x) : Lo (reprText x) := fun c hc => by
  have hq : reprQuote x < 0x110000 := by
    unfold reprQuote
    split <;> decide
  unfold reprText at hc
  rw [Array.toList_push, ← Array.foldl_toList] at hc
  rcases List.mem_append.mp hc with z | z
  · exact fold_lo _ _ h (fun d hd => by rw [List.mem_singleton.mp hd]; exact hq) c z
  · rw [List.mem_singleton.mp z]; exact hq
theorem Lo.join {sep : Str} {ts : List Str} (hs : Lo sep) (h : ∀ t ∈ ts, Lo t) : Lo (Str.join sep ts) := fun c hc => by
  rcases (PyProof.Rows.mem_join sep c ts).mp hc with ⟨t, ht, q⟩ | ⟨_, q⟩
  · exact h t ht c q
  · exact hs c q
theorem lo_all {xs : List PyData} (h : ∀ x ∈ xs, Lo x.shown) : ∀ t ∈ PyData.shownAll xs, Lo t := by
  induction xs with
  | nil => exact fun t ht => absurd ht (by rw [PyData.shownAll_nil]; exact List.not_mem_nil)
  | cons x xs ih =>
    intro t ht
    rw [PyData.shownAll_cons] at ht
    rcases List.mem_cons.mp ht with q | q
    · rw [q]; exact h x List.mem_cons_self
    · exact ih (fun y hy => h y (List.mem_cons_of_mem _ hy)) t q
theorem Lo.list {xs : List PyData} (h : ∀ x ∈ xs, Lo x.shown) : Lo (PyData.list xs).shown := by
  show Lo (listText _)
  rw [listText_eq_join]
  exact ((Lo.lit _).app (Lo.join (Lo.lit _) (lo_all h))).app (Lo.lit _)
theorem Lo.tuple {xs : List PyData} (h : ∀ x ∈ xs, Lo x.shown) : Lo (PyData.tuple xs).shown := by
  show Lo (tupleText _)
  unfold tupleText
  refine ((Lo.lit _).app (Lo.join (Lo.lit _) (lo_all h))).app ?_
  exact Lo.lit _
theorem Lo.texts {xs : List Str} (h : okS xs) : Lo (Datum.toD xs).shown := Lo.list fun d hd => by
  obtain ⟨x, hx, rfl⟩ := List.mem_map.mp hd
  show Lo (reprText x)
  exact Lo.repr (Lo.of (h x hx))
theorem Lo.twos {ps : List (Str × Str)} (h : okP ps) : Lo (Datum.toD ps).shown := Lo.list fun d hd => by
  obtain ⟨p, hp, rfl⟩ := List.mem_map.mp hd
  refine Lo.tuple fun d hd => ?_
  rcases List.mem_cons.mp hd with q | q
  · rw [q]; exact Lo.repr (Lo.of (h p hp).1)
  · rw [List.mem_singleton.mp q]; exact Lo.repr (Lo.of (h p hp).2)
end K7

set_option Elab.async false
set_option linter.all false
set_option maxRecDepth 100000
set_option maxHeartbeats 1000000
namespace K7
open PySem PySem.Spec PyProof.Rows L2
open PySem.W (Datum)
open Evl (Ex Ev EvT EvL EvA ex_l ex_t sq_of st_of sz_of sz_lt fresh_back)
section
variable {P : Program} {w : World} {K : PySem.W.Frag} {mg : Str → Option Value} {base : Heap}
theorem suitsSh_of {ks : List Str} {ps : List (Str × Str)} (ok : PlanOk ks ps) : SuitsSh (sortK ks) (sortP (ordP ps)) := by
  refine ⟨suitsOk_of ok, fun x hx => (ok.kd x ((sortK_perm ks).mem_iff.mp hx)).hi, fun p hp => ?_, by rw [(sortP_perm _).length_eq]; unfold ordP; rw [List.length_map]; exact ok.len⟩
  obtain ⟨q, hq, rfl⟩ := List.mem_map.mp ((sortP_perm _).mem_iff.mp hp)
  have h1 := (ok.kd _ (ok.sub q hq).1).hi
  have h2 := (ok.kd _ (ok.sub q hq).2).hi
  rcases inOrd_mem (a := q.1) (b := q.2) with z | z <;> rw [z]
  · exact ⟨h1, h2⟩
  · exact ⟨h2, h1⟩
theorem dp_lists {K : PySem.W.Frag} {H : Hp} {a : Addr} {ls : List (List Str)} (h : ListsAt H a ls) : Dp K H (.ref a) (Datum.toD ls) := by
  obtain ⟨rs, h1, h2⟩ := h
  have all : ∀ {rs : List Addr} {ls : List (List Str)}, Paired (LS H) rs ls → DpAll K H (rs.map V.ref) (ls.map Datum.toD) := fun {rs ls} p => by
    induction p with
    | nil => exact .nil
    | cons h t ih => exact .cons (dp_ls h) ih
  exact .lst (sq_of h1) (all h2)
def toldD (sk : List Str) (sp : List (Str × Str)) : PyData := .list [Datum.toD sk, Datum.toD sp, Datum.toD (sk.filter fun k => decide (mtS sk sp k = [])), Datum.toD (calmQ sk sp), .str (reprS sk sp)]
theorem calm_sho {sk : List Str} {sp : List (Str × Str)} (h : SuitsSh sk sp) : Sho 2 20000 (Datum.toD (calmQ sk sp)) := by
  have mem : ∀ l ∈ calmQ sk sp, l.length ≤ 8 ∧ ∀ x ∈ l, x ∈ sk ∨ x = Str.empty := fun l hl => by
    have h1 := setsF_in sk _ l (List.mem_filter.mp ((sortL_perm _).mem_iff.mp hl)).1
    exact ⟨Nat.le_trans h1.1 h.ok.hi, h1.2⟩
  have len : (calmQ sk sp).length ≤ 256 := by
    unfold calmQ
    rw [(sortL_perm _).length_eq]
    refine Nat.le_trans (List.length_filter_le _ _) ?_
    rw [setsF_len]
    exact Nat.le_trans (Nat.pow_le_pow_right (by decide) h.ok.hi) (by decide)
  refine (Sho.list (ShoA.of (f := Datum.toD) (k := 1) (m := 72) fun l hl => ?_)).mono (Nat.le_refl _) (by omega)
  obtain ⟨h1, h2⟩ := mem l hl
  refine (Sho.texts (fun x hx => ?_) fun x hx => ?_).mono (Nat.le_refl _) (by omega)
  · rcases h2 x hx with q | q
    · exact h.ok.ok x q
    · rw [q]; exact Lo.ok (Lo.lit "")
  · rcases h2 x hx with q | q
    · exact h.kl x q
    · rw [q]; exact Nat.zero_le _
theorem reprS_lo {sk : List Str} {sp : List (Str × Str)} (h1 : okS sk) (h2 : okP sp) : PyData.strOk (reprS sk sp) = true :=
  (((((Lo.lit "").app (Lo.lit _)).app (Lo.texts h1)).app (Lo.lit _)).app (Lo.twos h2)).app (Lo.lit _) |>.ok
theorem told_sho {sk : List Str} {sp : List (Str × Str)} (h : SuitsSh sk sp) : Sho 8 100000 (toldD sk sp) := by
  have s1 := (Sho.texts h.ok.ok h.kl).mono (k' := 2) (n' := 72) (by decide) (by have := h.ok.hi; omega)
  have s2 := (Sho.twos h.ok.okp h.pl).mono (k' := 2) (n' := 700) (by decide) (by have := h.len; omega)
  have s3 : Sho 2 72 (Datum.toD (sk.filter fun k => decide (mtS sk sp k = []))) := (Sho.texts (fun x hx => h.ok.ok x (List.mem_filter.mp hx).1) fun x hx => h.kl x (List.mem_filter.mp hx).1).mono (by decide) (by have := h.ok.hi; have := List.length_filter_le (fun k => decide (mtS sk sp k = [])) sk; omega)
  have s5 : Sho 2 20000 (PyData.str (reprS sk sp)) := .str (reprS_lo h.ok.ok h.ok.okp) (reprS_len h).1
  exact (Sho.list (.cons s1 (.cons s2 (.cons s3 (.cons (calm_sho h) (.cons s5 (.nil (n := 0)))))))).mono (by decide) (by decide)
/-- what an object tells -/
theorem told_ev {K : PySem.W.Frag} {σ : L2.St} {H : Hp} {Q : VK} {i : Nat} {s : Addr} {sk : List Str} {sp : List (Str × Str)} (hv : σ[i]? = some (some (.ref s))) (hS : SuitsAt (CS K) H s sk sp) (h : SuitsSh sk sp)
    (hQ : ∀ p H', Sm H H' → Dp K H' (.ref p) (toldD sk sp) → Q (.ref p) H') :
    tLst (tCons (tMeth (CS K) "kinds" (sp_kinds (CS K)) [] C8.E0 (tVar i) tNil) (tCons (tMeth (CS K) "pairs" (sp_pairs (CS K)) [] C8.E0 (tVar i) tNil) (tCons (tMeth (CS K) "lonely" (sp_lonely (CS K)) [] C8.E0 (tVar i) tNil)
      (tCons (tMeth (CS K) "calm_sets" (sp_calm_sets (CS K)) [] C8.E0 (tVar i) tNil) (tCons (tCB (rReprO (CS K) (sp___repr__ (CS K))) (tCons (tVar i) tNil)) tNil))))) σ H Q := by
  have ins : ∀ {H' : Hp}, Sm H H' → ∃ dx fs, H' s = some (.ins (CS K) dx fs) ∧ fs.lookup ("kinds" : Str) = none ∧ fs.lookup ("pairs" : Str) = none ∧ fs.lookup ("lonely" : Str) = none ∧ fs.lookup ("calm_sets" : Str) = none := fun e => by
    obtain ⟨dx, ka, pa, ma, m, h1, _⟩ := hS
    exact ⟨dx, _, e _ _ h1, rfl, rfl, rfl, rfl⟩
  obtain ⟨dx1, fs1, i1, n1, _⟩ := ins (Ex.refl H)
  refine ⟨_, hv, s, dx1, fs1, rfl, i1, n1, s, sk, sp, rfl, hS, fun r1 H1 e1 _ g1 => ?_⟩
  obtain ⟨dx2, fs2, i2, _, n2, _⟩ := ins e1
  refine ⟨_, hv, s, dx2, fs2, rfl, i2, n2, s, sk, sp, rfl, hS.mono e1, fun r2 H2 e2 _ g2 => ?_⟩
  have e12 := e1.trans e2
  obtain ⟨dx3, fs3, i3, _, _, n3, _⟩ := ins e12
  refine ⟨_, hv, s, dx3, fs3, rfl, i3, n3, s, sk, sp, rfl, hS.mono e12, h.ok, fun r3 H3 e3 _ g3 => ?_⟩
  have e13 := e12.trans e3
  obtain ⟨dx4, fs4, i4, _, _, _, n4⟩ := ins e13
  refine ⟨_, hv, s, dx4, fs4, rfl, i4, n4, s, sk, sp, rfl, hS.mono e13, h.ok, fun r4 H4 e4 _ g4 => ?_⟩
  have e14 := e13.trans e4
  obtain ⟨dx5, fs5, i5, _⟩ := ins e14
  refine ⟨_, hv, s, dx5, fs5, rfl, i5, s, sk, sp, rfl, hS.mono e14, h, _, rfl, ?_⟩
  refine ⟨(by decide : 5 ≤ sizeLine), fun p hp => ?_⟩
  have e5 := Ex.new (o := HO.lst [V.ref r1, V.ref r2, V.ref r3, V.ref r4, V.str (reprS sk sp)]) hp
  refine hQ p _ (e14.trans e5) ?_
  have e45 := e4.trans e5
  have e35 := e3.trans e45
  refine .lst (.inl (.inl upd_same)) (.cons (dp_ls ((e2.trans e35) _ _ g1)) (.cons (dp_pairs (g2.mono e35)) (.cons (dp_ls (e45 _ _ g3)) (.cons (dp_lists (g4.mono e5)) (.cons (.str _) .nil)))))
theorem gN {i : Nat} {v : V} {σ : L2.St} {H : Hp} {Q : L2.St → Hp → Prop} (h : Q (σ.set i (some v)) H) : gName i v σ H Q := h
theorem told_asg {K : PySem.W.Frag} {σ : L2.St} {H : Hp} {i j : Nat} {u : TS} {D : Ends} {s : Addr} {sk : List Str} {sp : List (Str × Str)} (hv : σ[i]? = some (some (.ref s))) (hS : SuitsAt (CS K) H s sk sp) (h : SuitsSh sk sp)
    (hQ : ∀ p H', Sm H H' → Dp K H' (.ref p) (toldD sk sp) → u D (σ.set j (some (.ref p))) H') :
    tSeq (tAsg (tLst (tCons (tMeth (CS K) "kinds" (sp_kinds (CS K)) [] C8.E0 (tVar i) tNil) (tCons (tMeth (CS K) "pairs" (sp_pairs (CS K)) [] C8.E0 (tVar i) tNil) (tCons (tMeth (CS K) "lonely" (sp_lonely (CS K)) [] C8.E0 (tVar i) tNil)
      (tCons (tMeth (CS K) "calm_sets" (sp_calm_sets (CS K)) [] C8.E0 (tVar i) tNil) (tCons (tCB (rReprO (CS K) (sp___repr__ (CS K))) (tCons (tVar i) tNil)) tNil)))))) (gName j)) u D σ H := by
  unfold tSeq tAsg gName
  exact told_ev hv hS h hQ
def sp_law_as_fresh (C : Addr) : Sp := fun vs H Q _ => ∃ (pl su : Addr) (ks : List Str) (ps : List (Str × Str)), vs = [.ref pl, .ref su] ∧ PlanAt H pl ks ps ∧ PlanOk ks ps ∧ (ordP ps).Nodup ∧ SuitsAt C H su (sortK ks) (sortP (ordP ps)) ∧ ∀ H', Sm H H' → Q (.bl true) H'
theorem c_law_as_fresh (T : Tx P w K mg base) : CalG P w K mg base 6 "_law_as_fresh" (sp_law_as_fresh (CS K)) := by
  obtain ⟨f, fd, F, df⟩ := T.d "_law_as_fresh" 42 (by decide +kernel)
  have sc : FnScope ["_law_plan_here", "_law_suits_here", "_law_fresh", "_law_told", "_law_due"] ["_law_plan_here", "_law_suits_here"] (C8.fnScope (top 42)) := C8.fnScope_by (by decide +kernel)
  have nd := sc.nd
  have c_law_alike := c_law_alike T
  have c_law_suits := c_law_suits T
  have m_calm_sets := m_calm_sets T
  have m_kinds := m_kinds T
  have m_lonely := m_lonely T
  have m_pairs := m_pairs T
  refine cal0G F (F.fn.binds df (ps := ["_law_plan_here", "_law_suits_here"]) fun _ _ _ _ _ _ us hl => match us, hl with | [_, _], _ => rfl) sc (fun vs H Q E h => by obtain ⟨_, _, _, _, rfl, _⟩ := h; rfl) fun cdv A outer s H vs Q E hg hr h => ?_
  have m_repr := m___repr__ T
  obtain ⟨fE, fdE, psE, dsE, clE, meE, FE, bE, vE⟩ := (m___eq__ T).ex
  cases vE
  refine ⟨_, PSs.nox (pss_cons (ps_set (i := 2) nd rfl (.inl rfl) (C8.pe_c c_law_suits hr (by decide) rfl (pa_cons (pv 0) pa_nil)))
    (pss_cons (ps_set (i := 3) nd rfl (.inl rfl) (pe_lst (pa_cons (C8.pe_mt0 m_kinds hr (by decide) (pv 1)) (pa_cons (C8.pe_mt0 m_pairs hr (by decide) (pv 1)) (pa_cons (C8.pe_mt0 m_lonely hr (by decide) (pv 1)) (pa_cons (C8.pe_mt0 m_calm_sets hr (by decide) (pv 1)) (pa_cons (pe_callB (cr_reprOwn m_repr hg hr (by decide)) (by rfl) T.b_repr (by decide +kernel) ((pa_cons (pv 1) pa_nil))) pa_nil)))))))
    (pss_cons (ps_set (i := 4) nd rfl (.inl rfl) (pe_lst (pa_cons (C8.pe_mt0 m_kinds hr (by decide) (pv 2)) (pa_cons (C8.pe_mt0 m_pairs hr (by decide) (pv 2)) (pa_cons (C8.pe_mt0 m_lonely hr (by decide) (pv 2)) (pa_cons (C8.pe_mt0 m_calm_sets hr (by decide) (pv 2)) (pa_cons (pe_callB (cr_reprOwn m_repr hg hr (by decide)) (by rfl) T.b_repr (by decide +kernel) ((pa_cons (pv 2) pa_nil))) pa_nil)))))))
    (pss_one (ps_ret (pe_and (pe_cG c_law_alike hg hr (by decide) rfl (pa_cons (pv 3) (pa_cons (pv 4) pa_nil))) (pe_one (pe_cmpR (op_eqG (rcG_ins (E := C8.E0) FE meE.at_ meE.fn bE C8.pass0) (hr.mono (by decide))) (pv 1) (pv 2) (nomark _))))))))), ?_⟩

  obtain ⟨pl, su, ks, ps, rfl, hP, ok, nd2, hS, hQ⟩ := h
  have sh := suitsSh_of ok
  refine ⟨_, rfl, pl, ks, ps, rfl, hP, ok, nd2, fun fr H1 e1 _ hF => ?_⟩
  revert sh hS hF
  generalize sortK ks = sk
  generalize sortP (ordP ps) = sp
  intro hS sh hF
  refine gN ?_
  dsimp only
  refine told_asg rfl (hS.mono e1) sh fun p1 H2 e2 d1 => ?_
  refine told_asg rfl (hF.mono e2) sh fun p2 H3 e3 d2 => ?_
  have e13 := (e1.trans e2).trans e3
  obtain ⟨dx, ka, pa, ma, m, i1, _⟩ := id (hS.mono e13)
  obtain ⟨dx', ka', pa', ma', m', i2, _⟩ := id (hF.mono (e2.trans e3))
  refine ⟨_, rfl, _, rfl, p1, p2, _, _, rfl, dp_mono e3 _ _ d1, d2, told_sho sh, by decide, _, rfl, ifT rfl ?_⟩
  exact ⟨_, rfl, _, rfl, ⟨su, fr, dx, dx', _, _, rfl, rfl, i1, i2, sk, sp, hS.mono e13, hF.mono (e2.trans e3), sh.ok.ok, sh.ok.okp⟩, fun H' e => hQ H' (e13.trans e)⟩
end
end K7

set_option Elab.async false
set_option linter.all false
set_option maxRecDepth 100000
set_option maxHeartbeats 1000000
namespace K7
open PySem PySem.Spec PyProof.Rows L2
open PySem.W (Datum)
open Evl (Ex Ev EvT EvL EvA ex_l ex_t sq_of st_of sz_of sz_lt fresh_back)
section
variable {P : Program} {w : World} {K : PySem.W.Frag} {mg : Str → Option Value} {base : Heap}
def paperD : Option (List Nat) → PyData
  | none => .none
  | some ns => natsD ns
def foundD : Sum (List Str) (List (Option (List Nat))) → PyData
  | .inl row => Datum.toD row
  | .inr ps => .list (ps.map paperD)
def fewD (res : Sum (List Str) (List (Option (List Nat)))) : PyData := .tuple [.str (fewWord res), foundD res]
theorem dp_papers {K : PySem.W.Frag} {H : Hp} {vs : List V} {ps : List (Option (List Nat))} (h : Paired (fun v o => KeptAt H v o) vs ps) : DpAll K H vs (ps.map paperD) := by
  induction h with
  | nil => exact .nil
  | @cons v o vs ps h t ih =>
    refine .cons ?_ ih
    cases o with
    | none =>
      have h : v = .non := h
      rw [h]
      exact .non
    | some ns =>
      obtain ⟨p, rfl, hp⟩ := h
      exact dp_li hp
theorem dp_found {K : PySem.W.Frag} {H : Hp} {x : Addr} : ∀ {res : Sum (List Str) (List (Option (List Nat)))}, FewAt H x res → Dp K H (.ref x) (foundD res)
  | .inl row, h => dp_ls h
  | .inr ps, ⟨vs, h1, h2⟩ => .lst (sq_of h1) (dp_papers h2)
theorem dp_few {K : PySem.W.Frag} {H : Hp} {r x : Addr} {res : Sum (List Str) (List (Option (List Nat)))} (h1 : H r = some (.tup [.str (fewWord res), .ref x])) (h2 : FewAt H x res) : Dp K H (.ref r) (fewD res) :=
  .tup (st_of h1) (.cons (.str _) (.cons (dp_found h2) .nil))
theorem FewAt.mono {H H' : Hp} {x : Addr} (e : Sm H H') : ∀ {res : Sum (List Str) (List (Option (List Nat)))}, FewAt H x res → FewAt H' x res
  | .inl row, h => e _ _ h
  | .inr ps, ⟨vs, h1, h2⟩ => ⟨vs, e _ _ h1, Paired.mapP h2 fun _ _ q => q.mono e⟩
theorem FewAt.list {H : Hp} {x : Addr} : ∀ {res : Sum (List Str) (List (Option (List Nat)))}, FewAt H x res → ∃ vs, H x = some (.lst vs) ∧ vs.length = (match res with | .inl row => row.length | .inr ps => ps.length)
  | .inl row, h => ⟨_, h, List.length_map ..⟩
  | .inr ps, ⟨vs, h1, h2⟩ => ⟨vs, h1, Paired.length h2⟩
theorem Sho.small {k : Nat} {i : Nat} (h : i < 256) : Sho k 8 (PyData.int (i : Int)) := by
  have q := Sho.nat (k := k) (i := i) (by omega)
  refine ⟨q.can, q.sh, q.itg, q.dep, ?_⟩
  have lg : ((i : Int).natAbs).log2 < 8 := by
    rw [Int.natAbs_natCast]
    by_cases h0 : i = 0
    · subst h0; decide
    · exact (Nat.log2_lt h0).mpr (by omega)
  show (if _ then 0 else _) ≤ 8
  split
  · exact Nat.zero_le _
  · exact lg
theorem Sho.nats {ns : List Nat} (h : ∀ i ∈ ns, i < 256) : Sho 1 (9 * ns.length) (natsD ns) := Sho.list (ShoA.of (f := fun n : Nat => PyData.int (n : Int)) (k := 0) (m := 8) fun i hi => .small (h i hi))
theorem stuck_lt {mt : Str → List Str} {line : List Str} {K : List Nat} : ∀ p ∈ K76.stuckM mt line K, p < line.length := by
  have key : ∀ n, n ≤ line.length → ∀ p ∈ (K76.leaveTo mt line K n).2.1, p < n := fun n => by
    induction n with
    | zero => exact fun _ p hp => absurd hp List.not_mem_nil
    | succ n ih =>
      intro hn p hp
      have e : line[n]? = some line[n] := List.getElem?_eq_getElem (by omega)
      rw [K76.leaveTo_succ e] at hp
      unfold K76.leaveStep at hp
      have ih' := ih (by omega)
      revert hp
      generalize ((mt line[n]).filter fun m => decide (m ∉ (K76.leaveTo mt line K n).2.2)) = fr
      intro hp
      cases fr with
      | nil =>
        dsimp only at hp
        split at hp
        · rcases List.mem_append.mp hp with q | q
          · exact Nat.lt_succ_of_lt (ih' p q)
          · rw [List.mem_singleton.mp q]; exact Nat.lt_succ_self n
        · exact Nat.lt_succ_of_lt (ih' p hp)
      | cons m r =>
        dsimp only at hp
        split at hp
        · exact Nat.lt_succ_of_lt (ih' p hp)
        · exact Nat.lt_succ_of_lt (ih' p hp)
  exact key _ (Nat.le_refl _)
theorem few_sho {ks : List Str} {ps : List (Str × Str)} {line goal : List Str} {res : Sum (List Str) (List (Option (List Nat)))} (ok : PlanOk ks ps) (hl : line.length ≤ 200) (g : Goal ks ps goal) (hrow : ∀ row, res = .inl row → (∀ k ∈ row, k ∈ ks) ∧ row.length ≤ 600) (h : K76.FewM (mtQ ks ps) line goal res) : Sho 8 1048576 (fewD res) := by
  have hf : Sho 7 1048000 (foundD res) := by
    cases h with
    | row hB =>
      obtain ⟨h1, h2⟩ := hrow _ rfl
      exact (Sho.texts (ok.okS' h1) fun x hx => (ok.kd x (h1 x hx)).hi).mono (by decide) (by omega)
    | never hN =>
      refine (Sho.list (ShoA.of (f := paperD) (k := 1) (m := 1800) fun o ho => ?_)).mono (by decide) (by rw [List.length_map, List.length_range]; have := g.len; omega)
      obtain ⟨i, hi, rfl⟩ := List.mem_map.mp ho
      unfold K76.paperM
      cases K76.keptM line goal i with
      | none => exact .none
      | some kp =>
        refine (Sho.nats fun p hp => ?_).mono (Nat.le_refl _) ?_
        · have := stuck_lt p hp
          omega
        · have := (K76.row_le (mtQ ks ps) line kp line.length (Nat.le_refl _)).2
          show 9 * (K76.leaveTo _ _ _ _).2.1.length ≤ _
          omega
  have hw : Sho 7 10 (PyData.str (fewWord res)) := by
    cases res with
    | inl _ => exact .str (Lo.lit "row").ok (by show (Str.ofString "row").length ≤ 10; decide)
    | inr _ => exact .str (Lo.lit "never").ok (by show (Str.ofString "never").length ≤ 10; decide)
  exact (Sho.tuple (.cons hw (.cons hf (.nil (n := 0))))).mono (by decide) (by decide)
def bothD (line goal : List Str) : PyData := .list [Datum.toD line, Datum.toD goal]
theorem both_sho {ks : List Str} {ps : List (Str × Str)} {line goal : List Str} (ok : PlanOk ks ps) (h1 : ∀ k ∈ line, k ∈ ks) (h2 : ∀ k ∈ goal, k ∈ ks) (z1 : line.length ≤ 300) (z2 : goal.length ≤ 300) : Sho 8 10000 (bothD line goal) := by
  have s1 := (Sho.texts (ok.okS' h1) fun x hx => (ok.kd x (h1 x hx)).hi).mono (k' := 1) (n' := 2700) (Nat.le_refl _) (by omega)
  have s2 := (Sho.texts (ok.okS' h2) fun x hx => (ok.kd x (h2 x hx)).hi).mono (k' := 1) (n' := 2700) (Nat.le_refl _) (by omega)
  exact (Sho.list (.cons s1 (.cons s2 (.nil (n := 0))))).mono (by decide) (by decide)
theorem dp_both {K : PySem.W.Frag} {H : Hp} {p la ga : Addr} {line goal : List Str} (h : H p = some (.lst [.ref la, .ref ga])) (h1 : LS H la line) (h2 : LS H ga goal) : Dp K H (.ref p) (bothD line goal) :=
  .lst (sq_of h) (.cons (dp_ls h1) (.cons (dp_ls h2) .nil))
theorem few_row {ks : List Str} {ps : List (Str × Str)} {line goal : List Str} {res : Sum (List Str) (List (Option (List Nat)))} {o : Option Nat} (ok : PlanOk ks ps) (hl : line.length ≤ 200) (g : Goal ks ps goal) (hb : K76.BestIs (mtQ ks ps) line goal o) (h : K76.FewM (mtQ ks ps) line goal res) : Sho 8 1048576 (fewD res) := by
  refine few_sho ok hl g (fun row e => ?_) h
  subst e
  rcases few_best ok g h hb with ⟨_, _, _, z⟩ | ⟨m, row', _, z, hm, h1, _, h2⟩
  · cases z
  · cases z
    exact ⟨h2, by have := g.len; omega⟩
def sp_law_told_right (C : Addr) : Sp := fun vs H Q _ => ∃ (pl su la ga : Addr) (ks : List Str) (ps : List (Str × Str)) (line goal : List Str) (o : Option Nat), vs = [.ref pl, .ref su, .ref la, .ref ga, OptV o] ∧ Game C H pl su la ks ps line ∧ LS H ga goal ∧ Goal ks ps goal ∧ K76.BestIs (mtQ ks ps) line goal o ∧ ∀ H', Sm H H' → Q (.bl true) H'
theorem c_law_told_right (T : Tx P w K mg base) : CalG P w K mg base 4 "_law_told_right" (sp_law_told_right (CS K)) := by
  obtain ⟨f, fd, F, df⟩ := T.d "_law_told_right" 43 (by decide +kernel)
  have sc : FnScope ["_law_plan_here", "_law_suits_here", "_law_line_here", "_law_goal_here", "_law_many", "_law_elder", "_law_shown", "_law_held", "_law_once", "_law_word", "_law_found"] ["_law_plan_here", "_law_suits_here", "_law_line_here", "_law_goal_here", "_law_many"] (C8.fnScope (top 43)) := C8.fnScope_by (by decide +kernel)
  have nd := sc.nd
  have c_fewest := c_fewest T
  have c_law_after := c_law_after T
  refine cal0G F (F.fn.binds df (ps := ["_law_plan_here", "_law_suits_here", "_law_line_here", "_law_goal_here", "_law_many"]) fun _ _ _ _ _ _ us hl => match us, hl with | [_, _, _, _, _], _ => rfl) sc (fun vs H Q E h => by obtain ⟨_, _, _, _, _, _, _, _, _, rfl, _⟩ := h; rfl) fun cdv A outer s H vs Q E hg hr h => ?_
  refine ⟨_, PSs.nox (pss_cons (ps_par (i := 5) (j := 6) rfl nd rfl rfl (by decide) rfl rfl (pa_cons (C8.pe_c c_fewest hr (by decide) rfl (pa_cons (pv 1) (pa_cons (pv 2) (pa_cons (pv 3) pa_nil)))) (pa_cons (pe_callB (cr_repr (K := K) hg hr) (by rfl) T.b_repr (by decide +kernel) ((pa_cons (pe_lst (pa_cons (pv 2) (pa_cons (pv 3) pa_nil))) pa_nil))) pa_nil)) (by rfl))
    (pss_cons (ps_set (i := 7) nd rfl (.inl rfl) (pe_callB (cr_repr (K := K) hg hr) (by rfl) T.b_repr (by decide +kernel) ((pa_cons (pv 5) pa_nil))))
    (pss_cons (ps_for PassesOwn.never rfl (pi_range1 (by rfl) T.b_range (pa_cons pe_int pa_nil)) (pg_name (i := 8) nd rfl (.inl rfl)) (pss_cons (ps_asg (C8.pe_c c_fewest hr (by decide) rfl (pa_cons (pv 1) (pa_cons (pv 2) (pa_cons (pv 3) pa_nil)))) (k_pg_tup (K := K) (n := 2) rfl (pgs_cons (pg_name (i := 9) nd rfl (.inl rfl)) (pgs_cons (pg_name (i := 10) nd rfl (.inl rfl)) pgs_nil))))
    (pss_cons (ps_if (PW.pt (pw_or (pt_cmpR op_ne (pv 9) (pe_ix (k_ix_list (K := K)) (pe_lst (pa_cons pe_str (pa_cons pe_str pa_nil))) (pe_callTy call_int1 (by rfl) T.b_int (by decide +kernel) (pa_cons (pe_cmpR op_isN (pv 4) pe_non (nomark _)) pa_nil)) (fun _ _ => rfl)) (nomark _)) (pw_or1 (pt_cmpR op_ne (pe_callB (cr_repr (K := K) hg hr) (by rfl) T.b_repr (by decide +kernel) ((pa_cons (pe_lst (pa_cons (pv 2) (pa_cons (pv 3) pa_nil))) pa_nil))) (pv 6) (nomark _))))) (pss_one (ps_ret pe_bl)) pss_nil)
    (C8.pss_cut (ps_if (pt_cmpR op_notN (pv 4) pe_non (nomark _)) (pss_one (ps_if (PW.pt (pw_or (pt_cmpR op_ne (pe_callB (k_len_seq (K := K)) (by rfl) T.b_len (by decide +kernel) (pa_cons (pv 10) pa_nil)) (pe_op op_sub (pe_op op_add (pe_callB (k_len_seq (K := K)) (by rfl) T.b_len (by decide +kernel) (pa_cons (pv 2) pa_nil)) (pe_callB (k_len_seq (K := K)) (by rfl) T.b_len (by decide +kernel) (pa_cons (pv 3) pa_nil))) (pe_op op_mul pe_int (pv 4))) (nomark _)) (pw_or1 (pt_cmpR (k_neD (K := K) hr.units) (C8.pe_c c_law_after hr (by decide) rfl (pa_cons (pv 0) (pa_cons (pv 2) (pa_cons (pv 10) pa_nil)))) (pv 3) (nomark _))))) (pss_one (ps_ret pe_bl)) pss_nil)) pss_nil)
    (pss_cons (ps_if (pt_cmpR op_ne (pe_callB (cr_repr (K := K) hg hr) (by rfl) T.b_repr (by decide +kernel) ((pa_cons (pe_tup (pa_cons (pv 9) (pa_cons (pv 10) pa_nil))) pa_nil))) (pv 7) (nomark _)) (pss_one (ps_ret pe_bl)) pss_nil)
    (pss_one (ps_expr (pe_bm PySem.F.plainAttrs_list PySem.F.slot_list_append PySem.F.type_list_append mt_append (pv 10) (pa_cons pe_non pa_nil)))))))))
    (pss_one (ps_ret (pe_cmpR op_eq (pe_callB (cr_repr (K := K) hg hr) (by rfl) T.b_repr (by decide +kernel) ((pa_cons (pv 5) pa_nil))) (pv 7) (nomark _))))))), ?_⟩

  obtain ⟨pl, su, la, ga, ks, ps, line, goal, o, rfl, G, hga, gg, hb, hQ⟩ := h
  have okl : okS line := G.ok.okS' G.sub
  have okg : okS goal := G.ok.okS' gg.sub
  have ll := G.len
  have gl := gg.len
  refine ⟨_, rfl, _, rfl, _, rfl, su, la, ga, _, _, line, goal, rfl, G.suits, suitsOk_of G.ok, G.la, hga, by omega, by omega, okl, okg, fun r0 x0 res H1 e1 hx0 hf hr0 hfa0 => ?_⟩
  have sb := both_sho G.ok G.sub gg.sub (by omega : line.length ≤ 300) gg.len
  have sf := few_row G.ok ll gg hb hf
  refine ⟨_, rfl, _, rfl, two_le, fun p hp => ?_⟩
  generalize hE : L2.upd H1 p (.lst [.ref la, .ref ga]) = H2
  have e2 : Sm H1 H2 := hE ▸ Evl.Ex.new hp
  have h2 : H2 p = some (.lst [.ref la, .ref ga]) := hE ▸ L2.upd_same
  clear hE
  have e12 := e1.trans e2
  refine ⟨_, _, rfl, dp_both h2 (e12 _ _ G.la) (e12 _ _ hga), sb.sh, sb.nodict, sb.dep, sb.fits (by decide), _, _, rfl, ?_⟩
  have hr2 := e2 _ _ hr0
  have hfa2 := hfa0.mono e2
  refine ⟨_, rfl, _, _, rfl, dp_few hr2 hfa2, sf.sh, sf.nodict, sf.dep, sf.fits (by decide), ?_⟩
  refine ⟨2, rfl, by decide, by decide, ?_⟩
  refine for_range (lo := 0) (n := 2) (fun i σ' H' => ∃ (o8 o9 o10 : Option V), σ' = [some (.ref pl), some (.ref su), some (.ref la), some (.ref ga), some (OptV o), some (.ref r0), some (.str (bothD line goal).shown), some (.str (fewD res).shown), o8, o9, o10] ∧ Sm H2 H')
    ⟨none, none, none, rfl, Ex.refl _⟩ (fun i σ' H' hi q => ?_) (fun σ' H' q => ?_)
  · obtain ⟨o8, o9, o10, rfl, e⟩ := q
    have e02 := e12.trans e
    have G' := G.mono e02
    refine ⟨_, rfl, _, rfl, _, rfl, su, la, ga, _, _, line, goal, rfl, G'.suits, suitsOk_of G.ok, G'.la, e02 _ _ hga, by omega, by omega, okl, okg, fun r x res' H3 e3 hx hf' hr3 hfa3 => ?_⟩
    have same : res' = res := K76.FewM.inj hf' hf
    subst same
    refine ⟨r, _, rfl, st_of hr3, rfl, _, _, rfl, _, _, rfl, rfl, ?_⟩
    refine ⟨_, rfl, two_le, fun p2 hp2 => ?_⟩
    generalize hE : L2.upd H3 p2 (.lst [.str "row", .str "never"]) = H4
    have e4 : Sm H3 H4 := hE ▸ Evl.Ex.new hp2
    have h4 : H4 p2 = some (.lst [.str "row", .str "never"]) := hE ▸ L2.upd_same
    clear hE
    refine ⟨_, rfl, rfl, .inr ⟨_, rfl, ?_⟩⟩
    have hi2 : atI [V.str "row", V.str "never"] (if decide (OptV o = V.non) = true then 1 else 0) = some (.str (fewWord res')) := by
      rcases few_best G.ok gg hf' hb with ⟨rfl, hw, _⟩ | ⟨m, row, rfl, rfl, _⟩
      · rw [hw]; rfl
      · rfl
    refine ⟨p2, _, _, _, rfl, rfl, sq_of h4, hi2, rfl, _, rfl, ?_⟩
    refine ifF (by simp) ⟨_, rfl, _, rfl, two_le, fun p3 hp3 => ?_⟩
    generalize hE : L2.upd H4 p3 (.lst [.ref la, .ref ga]) = H5
    have e5 : Sm H4 H5 := hE ▸ Evl.Ex.new hp3
    have h5 : H5 p3 = some (.lst [.ref la, .ref ga]) := hE ▸ L2.upd_same
    clear hE
    have e25 := ((e.trans e3).trans e4).trans e5
    have e05 := e12.trans e25
    have hx2 : H2 x = none := fresh_back e hx
    refine ⟨_, _, rfl, dp_both h5 (e05 _ _ G.la) (e05 _ _ hga), sb.sh, sb.nodict, sb.dep, sb.fits (by decide), _, rfl, rfl, _, rfl, ifF (by simp) ?_⟩
    have hfa5 := hfa3.mono (e4.trans e5)
    refine ⟨fun σ' H' => σ' = [some (.ref pl), some (.ref su), some (.ref la), some (.ref ga), some (OptV o), some (.ref r0), some (.str (bothD line goal).shown), some (.str (fewD res').shown), some (.int (0 + (i : Int))), some (.str (fewWord res')), some (.ref x)] ∧ Sm H5 H', ?_, ?_⟩
    · refine ⟨_, rfl, rfl, _, rfl, ?_⟩
      rcases few_best G.ok gg hf' hb with ⟨rfl, hw, _⟩ | ⟨m, row, rfl, rfl, hm, hl, hL, hs⟩
      · exact ifF rfl ⟨rfl, Ex.refl _⟩
      · have G5 := G.mono e05
        refine ifT rfl ⟨_, rfl, x, _, rfl, .inl (sq_of hfa5), _, rfl, la, _, rfl, .inl (sq_of G5.la), _, rfl, ga, _, rfl, .inl (sq_of (e05 _ _ hga)), _, _, rfl, rfl, _, rfl, _, _, rfl, rfl, cmul2 (by omega), _, _, rfl, rfl, rfl, _, rfl, ifF (by rw [len_eq hl]; rfl) ?_⟩
        refine ⟨_, rfl, _, rfl, _, rfl, pl, la, x, ks, ps, line, row, rfl, G5.plan, G.ok, G5.la, hfa5, by omega, by omega, okl, G.ok.okS' hs, fun r6 H6 e6 _ h6 => ?_⟩
        rw [hL] at h6
        refine ⟨_, rfl, _, _, dp_ls h6, dp_ls (e6 _ _ (e05 _ _ hga)), sh_strs okg, sh_strs okg, _, rfl, ifF (by rw [Datum.eqv]; simp) ?_⟩
        exact ⟨rfl, e6⟩
    · rintro σ' H6 ⟨rfl, e6⟩
      refine ⟨_, rfl, _, rfl, two_le, fun p7 hp7 => ?_⟩
      generalize hE : L2.upd H6 p7 (.tup [.str (fewWord res'), .ref x]) = H7
      have e7 : Sm H6 H7 := hE ▸ Evl.Ex.new hp7
      have h7 : H7 p7 = some (.tup [.str (fewWord res'), .ref x]) := hE ▸ L2.upd_same
      clear hE
      have hfa7 := hfa5.mono (e6.trans e7)
      refine ⟨_, _, rfl, dp_few h7 hfa7, sf.sh, sf.nodict, sf.dep, sf.fits (by decide), _, rfl, rfl, _, rfl, ifF (by simp) ?_⟩
      obtain ⟨vs, hvs, hvl⟩ := hfa7.list
      have vz : vs.length ≤ 1000 := by
        rcases few_best G.ok gg hf' hb with ⟨rfl, hw, q, rfl⟩ | ⟨m, row, rfl, rfl, hm, hl, hL, hs⟩
        · have hvl : vs.length = q.length := hvl
          cases hf' with
          | never _ => rw [hvl, List.length_map, List.length_range]; omega
        · have hvl : vs.length = row.length := hvl
          omega
      refine ⟨_, rfl, .inl ⟨rfl, _, sq_of hvs⟩, x, vs, .non, rfl, rfl, hvs, bigS _ (by omega), ?_⟩
      exact ⟨_, _, _, rfl, ((e25.trans e6).trans e7).put hx2⟩
  · obtain ⟨o8, o9, o10, rfl, e⟩ := q
    refine ⟨_, rfl, _, _, rfl, dp_few (e _ _ hr2) (hfa2.mono e), sf.sh, sf.nodict, sf.dep, sf.fits (by decide), _, rfl, rfl, ?_⟩
    rw [decide_eq_true rfl]
    exact hQ H' (e12.trans e)
end
end K7

set_option Elab.async false
set_option linter.all false
set_option maxRecDepth 100000
set_option maxHeartbeats 1000000
namespace K7
open PySem PySem.Spec PyProof.Rows L2
open PySem.W (Datum)
open Evl (Ex Ev EvT EvL EvA ex_l ex_t sq_of st_of sz_of sz_lt fresh_back)
/-! ### a list that stands shut while others are made -/
def askF (a : Addr) (vs : List V) : Heap → Prop := fun h => vs.length ≤ sizeLine ∧ ∃ (its : List Value) (n : Nat), Vals vs its ∧ h.get? a = some { cls := .type "list", data := .seq its.toArray n }
def AskO (a : Addr) (vs : List V) : HO := .ext (askF a vs)
section
variable {X : Cx}
def tShut (t : TS) : TS := fun D σ H => ∃ (a : Addr) (vs : List V), H a = some (.lst vs) ∧ t D σ (upd H a (AskO a vs))
theorem pss_shut {body : List Stmt} {t : TS} (h : PSs X body t) : PSs X body (tShut t) := by
  refine ⟨fun pins s σ H D I q => ?_⟩
  obtain ⟨a, vs, ha, q⟩ := q
  obtain ⟨hz, its, n, hv, ho⟩ := (show ObjOk X.prog X.w H s.heap a (.lst vs) from I.hok a _ ha)
  have I' : Inv X pins σ (upd H a (AskO a vs)) s :=
    I.write (o := AskO a vs) (t' := s.toks) (by rw [ha]; exact trivial) (.inl rfl) (fun _ _ _ q => q) ⟨_, ho⟩ ⟨⟨hz, its, n, hv, ho⟩, ⟨_, ho⟩, by
      rintro g1 g2 ⟨hz, its, n, hv, ho⟩ k
      exact ⟨hz, its, n, hv, k _ ho⟩⟩
  exact h.run pins s σ _ D I' q
def tOpen (t : TS) : TS := fun D σ H => ∃ (a : Addr) (vs : List V), H a = some (AskO a vs) ∧ t D σ (upd H a (.lst vs))
theorem pss_open {body : List Stmt} {t : TS} (h : PSs X body t) : PSs X body (tOpen t) := by
  refine ⟨fun pins s σ H D I q => ?_⟩
  obtain ⟨a, vs, ha, q⟩ := q
  obtain ⟨⟨hz, its, n, hv, ho⟩, _, _⟩ := (show ObjOk X.prog X.w H s.heap a (AskO a vs) from I.hok a _ ha)
  have I' : Inv X pins σ (upd H a (.lst vs)) s :=
    I.write (o := .lst vs) (t' := s.toks) (by rw [ha]; exact trivial) (.inl rfl) (fun _ _ _ q => q) ⟨_, ho⟩ ⟨hz, its, n, hv, ho⟩
  exact h.run pins s σ _ D I' q
end
/-! ### a heap without one address -/
def mask (a : Addr) (H : Hp) : Hp := fun b => if b = a then none else H b
theorem mask_self {a : Addr} {H : Hp} : mask a H a = none := if_pos rfl
theorem mask_ne {a b : Addr} {H : Hp} (h : b ≠ a) : mask a H b = H b := if_neg h
theorem mask_sm {a : Addr} {H : Hp} : Sm (mask a H) H := fun b o h => by
  by_cases e : b = a
  · subst e
    rw [mask_self] at h
    cases h
  · rw [mask_ne e] at h
    exact h
theorem mask_mono {a : Addr} {H H' : Hp} (h : Sm H H') : Sm (mask a H) (mask a H') := fun b o q => by
  by_cases e : b = a
  · subst e
    rw [mask_self] at q
    cases q
  · rw [mask_ne e] at q ⊢
    exact h _ _ q
theorem mask_of {a : Addr} {H H' : Hp} (h : Sm H H') (ha : H a = none) : Sm H (mask a H') := fun b o q => by
  rw [mask_ne (fun e => by subst e; rw [ha] at q; cases q)]
  exact h _ _ q
theorem mask_upd {a : Addr} {H : Hp} {o : HO} : mask a (upd H a o) = mask a H := by
  funext b
  unfold mask upd
  by_cases e : b = a
  · rw [if_pos e, if_pos e]
  · rw [if_neg e, if_neg e, if_neg e]
theorem mask_get {a b : Addr} {H : Hp} {o u : HO} (ha : H a = some u) (h : H b = some o) (n : o ≠ u) : mask a H b = some o := by
  rw [mask_ne]
  · exact h
  · intro e
    subst e
    rw [ha] at h
    cases h
    exact n rfl
section
variable {a : Addr} {H : Hp} {vs : List V}
theorem LS.mask {b : Addr} {xs : List Str} (ha : H a = some (AskO a vs)) (h : LS H b xs) : LS (mask a H) b xs := mask_get ha h (fun z => by unfold AskO at z; cases z)
theorem PairsAt.mask {b : Addr} {ps : List (Str × Str)} (ha : H a = some (AskO a vs)) (h : PairsAt H b ps) : PairsAt (K7.mask a H) b ps := by
  obtain ⟨rs, h1, h2⟩ := h
  exact ⟨rs, mask_get ha h1 (fun z => by unfold AskO at z; cases z), Paired.mapP h2 fun _ _ q => mask_get ha q (fun z => by unfold AskO at z; cases z)⟩
theorem PlanAt.mask {b : Addr} {ks : List Str} {ps : List (Str × Str)} (ha : H a = some (AskO a vs)) (h : PlanAt H b ks ps) : PlanAt (K7.mask a H) b ks ps := by
  obtain ⟨ka, pa, h1, h2, h3⟩ := h
  exact ⟨ka, pa, mask_get ha h1 (fun z => by unfold AskO at z; cases z), LS.mask ha h2, h3.mask ha⟩
theorem SuitsAt.mask {C b : Addr} {sk : List Str} {sp : List (Str × Str)} (ha : H a = some (AskO a vs)) (h : SuitsAt C H b sk sp) : SuitsAt C (K7.mask a H) b sk sp := by
  obtain ⟨dx, ka, pa, ma, m, h1, h2, h3, h4, h5⟩ := h
  exact ⟨dx, ka, pa, ma, m, mask_get ha h1 (fun z => by unfold AskO at z; cases z), LS.mask ha h2, h3.mask ha, mask_get ha h4 (fun z => by unfold AskO at z; cases z), fun k hk => LS.mask ha (h5 k hk)⟩
theorem Bag.mask {b : Addr} (n : b ≠ a) (ha : H a = some (AskO a vs)) (h : Bag H b) : Bag (K7.mask a H) b := by
  obtain ⟨cs, ns, h1, h2, h3, h4⟩ := h
  exact ⟨cs, ns, (mask_ne n).trans h1, mask_get ha h2 (fun z => by unfold AskO at z; cases z), h3, h4⟩
end
/-! ### what was asked -/
def AskOne (C : Addr) (H : Hp) (v : V) : Prop := ∃ (t su la ga : Addr) (ks : List Str) (ps : List (Str × Str)) (line goal : List Str) (o : Option Nat), v = .ref t ∧ H t = some (.tup [.ref su, .ref la, .ref ga, OptV o]) ∧ SuitsAt C H su (sortK ks) (sortP (ordP ps)) ∧ PlanOk ks ps ∧ LS H la line ∧ LS H ga goal ∧
  (∀ k ∈ line, k ∈ ks) ∧ line.length ≤ 200 ∧ Goal ks ps goal ∧ K76.BestIs (mtQ ks ps) line goal o
theorem AskOne.mono {C : Addr} {H H' : Hp} {v : V} (e : Sm H H') (h : AskOne C H v) : AskOne C H' v := by
  obtain ⟨t, su, la, ga, ks, ps, line, goal, o, h1, h2, h3, h4, h5, h6, h7⟩ := h
  exact ⟨t, su, la, ga, ks, ps, line, goal, o, h1, e _ _ h2, h3.mono e, h4, e _ _ h5, e _ _ h6, h7⟩
end K7

set_option Elab.async false
set_option linter.all false
set_option maxRecDepth 100000
set_option maxHeartbeats 1000000
namespace K7
open PySem PySem.Spec PyProof.Rows L2
theorem leaveTo_congr {mt mt' : Str → List Str} {line : List Str} {K : List Nat} (h : ∀ x ∈ line, mt x = mt' x) : ∀ n, K76.leaveTo mt line K n = K76.leaveTo mt' line K n
  | 0 => rfl
  | n + 1 => by
    have ih := leaveTo_congr (K := K) h n
    cases e : line[n]? with
    | none => rw [K76.leaveTo.eq_2, K76.leaveTo.eq_2, e, ih]
    | some x =>
      rw [K76.leaveTo_succ e, K76.leaveTo_succ e, ih]
      unfold K76.leaveStep
      rw [h x (List.mem_of_getElem? e)]
theorem one_of {l : List Str} {y : Str} (nd : l.Nodup) (h : ∀ m, m ∈ l ↔ m = y) : l = [y] := by
  match l, nd, h with
  | [], _, h => exact absurd ((h y).mpr rfl) List.not_mem_nil
  | [a], _, h => rw [(h a).mp List.mem_cons_self]
  | a :: b :: r, nd, h =>
    have h1 := (h a).mp List.mem_cons_self
    have h2 := (h b).mp (List.mem_cons_of_mem _ List.mem_cons_self)
    have := (List.nodup_cons.mp nd).1
    rw [h1, h2] at this
    exact absurd List.mem_cons_self this
theorem mtQ_nd {ks : List Str} {ps : List (Str × Str)} {x : Str} (nd : ks.Nodup) : (mtQ ks ps x).Nodup := by
  unfold mtQ mtL
  exact ((sortK_perm ks).nodup_iff.mpr nd).sublist List.filter_sublist
abbrev pkA : List Str := ["a", "b"]
abbrev ppA : List (Str × Str) := [("a", "b")]
theorem kd_a : Kd ("a" : Str) := ⟨by decide +kernel, by decide +kernel, by decide +kernel⟩
theorem kd_b : Kd ("b" : Str) := ⟨by decide +kernel, by decide +kernel, by decide +kernel⟩
theorem ok_A : PlanOk pkA ppA := by
  refine ⟨by decide +kernel, by decide +kernel, by decide +kernel, fun k hk => ?_, by decide +kernel, by decide +kernel⟩
  rcases List.mem_cons.mp hk with q | q
  · rw [q]; exact kd_a
  · rw [List.mem_singleton.mp q]; exact kd_b
theorem ok_B : PlanOk ["a"] [] := by
  refine ⟨by decide +kernel, by decide +kernel, by decide +kernel, fun k hk => ?_, fun p hp => absurd hp List.not_mem_nil, by decide +kernel⟩
  rw [List.mem_singleton.mp hk]; exact kd_a
theorem mtA : mtQ pkA ppA ("a" : Str) = [("b" : Str)] := one_of (mtQ_nd ok_A.nd) fun m => by
  rw [mtQ_mem (by decide +kernel)]
  constructor
  · rintro ⟨h1, h2⟩
    rcases List.mem_cons.mp h1 with q | q
    · subst q
      exact absurd h2 (by decide +kernel)
    · exact List.mem_singleton.mp q
  · rintro rfl
    exact ⟨by decide +kernel, by decide +kernel⟩
theorem mtB : mtQ [("a" : Str)] [] ("a" : Str) = [] := List.eq_nil_iff_forall_not_mem.mpr fun m hm => by
  have h := ((mtQ_mem (by decide +kernel)).mp hm).2
  unfold fitP at h
  simp at h
theorem best_full {mt : Str → List Str} {line goal : List Str} {K : List Nat} (h1 : K76.keptM line goal goal.length = some K) (h2 : K76.stuckM mt line K = []) : K76.Best mt line goal goal.length :=
  ⟨Nat.le_refl _, ⟨K, h1, h2⟩, fun m' a b => absurd a (by omega)⟩
def keptA : List Nat := List.range' 50 150
theorem kept_A : K76.keptM (List.replicate 200 ("a" : Str)) (List.replicate 150 "a") 150 = some keptA := by decide +kernel
theorem leave_A : K76.leaveTo (fun _ => [("b" : Str)]) (List.replicate 200 ("a" : Str)) keptA 200 = (List.replicate 50 ("b" : Str), [], [("b" : Str)]) := by decide +kernel
theorem few_A {res : Sum (List Str) (List (Option (List Nat)))} (h : K76.FewM (mtQ pkA ppA) (List.replicate 200 ("a" : Str)) (List.replicate 150 "a") res) : res = .inl (List.replicate 50 ("b" : Str)) := by
  have e : K76.leaveTo (mtQ pkA ppA) (List.replicate 200 ("a" : Str)) keptA 200 = (List.replicate 50 ("b" : Str), [], [("b" : Str)]) := by
    rw [leaveTo_congr (mt' := fun _ => [("b" : Str)]) (fun x hx => by rw [(List.mem_replicate.mp hx).2]; exact mtA)]
    exact leave_A
  have k : K76.keptM (List.replicate 200 ("a" : Str)) (List.replicate 150 "a") (List.replicate 150 ("a" : Str)).length = some keptA := kept_A
  have s : K76.stuckM (mtQ pkA ppA) (List.replicate 200 ("a" : Str)) keptA = [] := by
    unfold K76.stuckM
    rw [List.length_replicate, e]
  have hB := K76.FewM.row (best_full k s)
  refine (K76.FewM.inj h hB).trans ?_
  unfold K76.rowAt
  rw [k]
  show Sum.inl (K76.rowM (mtQ pkA ppA) (List.replicate 200 "a") keptA ++ _) = _
  unfold K76.rowM
  rw [List.length_replicate, e, List.drop_eq_nil_of_le (Nat.le_refl _), List.append_nil]
theorem few_B {res : Sum (List Str) (List (Option (List Nat)))} (h : K76.FewM (mtQ ["a"] []) [("a" : Str)] ["a"] res) : res = .inl [] := by
  have k : K76.keptM [("a" : Str)] ["a"] [("a" : Str)].length = some [0] := by decide +kernel
  have e : K76.leaveTo (mtQ ["a"] []) [("a" : Str)] [0] 1 = ([], [], []) := by
    rw [leaveTo_congr (mt' := fun _ => []) (fun x hx => by rw [List.mem_singleton.mp hx]; exact mtB)]
    decide +kernel
  have s : K76.stuckM (mtQ ["a"] []) [("a" : Str)] [0] = [] := by
    unfold K76.stuckM
    show (K76.leaveTo (mtQ ["a"] []) [("a" : Str)] [0] 1).2.1 = []
    rw [e]
  have hB := K76.FewM.row (best_full k s)
  refine (K76.FewM.inj h hB).trans ?_
  unfold K76.rowAt
  rw [k]
  show Sum.inl ((K76.leaveTo (mtQ ["a"] []) [("a" : Str)] [0] 1).1 ++ _) = _
  rw [e]
  rfl
/-- the last so many -/
theorem cutV_last (xs : List V) (m : Nat) (hm : 0 < m) : cutV xs (some (-(m : Int))) none = xs.drop (xs.length - m) := by
  have e := HT.clip_eq (-(m : Int)) xs.length 0
  unfold cutV
  rw [HT.sIx_none]
  have e2 : HT.sIx xs.length 0 (some (-(m : Int))) = xs.length - m := by
    rw [if_pos (by omega)] at e
    omega
  rw [e2, List.take_of_length_le (by rw [List.length_drop]; exact Nat.le_refl _)]
end K7

set_option Elab.async false
set_option linter.all false
set_option maxRecDepth 100000
set_option maxHeartbeats 1000000
namespace K7
open PySem PySem.Spec PyProof.Rows L2
open PySem.W (Datum)
open Evl (Ex Ev EvT EvL EvA ex_l ex_t sq_of st_of sz_of sz_lt fresh_back)
section
variable {P : Program} {w : World} {K : PySem.W.Frag} {mg : Str → Option Value} {base : Heap}
theorem cutV_24 (xs : List V) : cutV xs (some (-24)) none = xs.drop (xs.length - 24) := cutV_last xs 24 (by decide)
theorem ne_fr' {H : Hp} {p a : Addr} {u : HO} (h : H p = none) (ha : H a = some u) : p ≠ a := fun z => by
  subst z
  rw [h] at ha
  cases ha
theorem rep_flat (x : Str) : ∀ n, (List.replicate n [V.str x]).flatten = (List.replicate n x).map V.str
  | 0 => rfl
  | n + 1 => by
    rw [List.replicate_succ, List.replicate_succ, List.flatten_cons, rep_flat x n]
    rfl
theorem row_sho {row : List Str} (h : ∀ x ∈ row, Kd x) (hl : row.length ≤ 1000) : Sho 8 100000 (fewD (.inl row)) := by
  have hf : Sho 7 9000 (foundD (.inl row)) := (Sho.texts (fun x hx => (h x hx).strOk) fun x hx => (h x hx).hi).mono (by decide) (by omega)
  have hw : Sho 7 10 (PyData.str (fewWord (.inl row))) := .str (Lo.lit "row").ok (by show (Str.ofString "row").length ≤ 10; decide)
  exact (Sho.tuple (.cons hw (.cons hf (.nil (n := 0))))).mono (by decide) (by decide)
structure LawSt (C b : Addr) (Hm : Hp) (pl su : Addr) (ks : List Str) (ps : List (Str × Str)) (ts : List V) : Prop where
  bag : Bag Hm b
  plan : PlanAt Hm pl ks ps
  ok : PlanOk ks ps
  nd : (ordP ps).Nodup
  suits : SuitsAt C Hm su (sortK ks) (sortP (ordP ps))
  asked : ∀ t ∈ ts, AskOne C Hm t
def sp_law (K : PySem.W.Frag) : Sp := fun vs H Q _ => ∃ (a : Addr) (ns : List Int), vs = [.ref a] ∧ SqL K H a (ns.map V.int) ∧ ∀ H', Q (.bl true) H'
theorem f_law (T : Tx P w K mg base) {f : Addr} {fd : FuncData} (F : C8.Def K mg "law" (top 45) f fd) : FnG P w K mg base 7 f fd ["_law_script"] (sp_law K) := by
  have sc : FnScope ["_law_script", "_law_bag_here", "_law_plan_here", "_law_asked", "_law_suits_here", "_law_turn", "_law_line_here", "_law_goal_here", "_law_many", "_law_pair", "_law_one", "_law_place"] ["_law_script"] (C8.fnScope (top 45)) := C8.fnScope_by (by decide +kernel)
  have nd := sc.nd
  have c_Suits := c_Suits T
  have c_fewest := c_fewest T
  have c_law_as_fresh := c_law_as_fresh T
  have c_law_bag := c_law_bag T
  have c_law_best := c_law_best T
  have c_law_goal := c_law_goal T
  have c_law_great_line := c_law_great_line T
  have c_law_in_place_right := c_law_in_place_right T
  have c_law_line := c_law_line T
  have c_law_plan := c_law_plan T
  have c_law_some := c_law_some T
  have c_law_suits := c_law_suits T
  have c_law_take := c_law_take T
  have c_law_told_right := c_law_told_right T
  refine fn0G F.fn sc (fun vs H Q E h => by obtain ⟨_, _, rfl, _⟩ := h; rfl) fun cdv A outer s H vs Q E hg hr h => ?_
  refine ⟨_, PSs.nox (pss_cons (ps_set (i := 1) nd rfl (.inl rfl) (C8.pe_c c_law_bag hr (by decide) rfl (pa_cons (pv 0) pa_nil)))
    (pss_cons (ps_par (i := 2) (j := 3) rfl nd rfl rfl (by decide) rfl rfl (pa_cons (C8.pe_c c_law_plan hr (by decide) rfl (pa_cons (pv 1) (pa_cons pe_int pa_nil))) (pa_cons (pe_lst pa_nil) pa_nil)) (by rfl))
    (pss_shut (pss_cons (ps_set (i := 4) nd rfl (.inl rfl) (C8.pe_c c_law_suits hr (by decide) rfl (pa_cons (pv 2) pa_nil)))
    (pss_cons (ps_for PassesOwn.never rfl (pi_range1 (by rfl) T.b_range (pa_cons pe_int pa_nil)) (pg_name (i := 5) nd rfl (.inl rfl)) (C8.pss_cut (ps_if (pt_cmpR op_eq (C8.pe_c c_law_take hr (by decide) rfl (pa_cons (pv 1) (pa_cons pe_int pa_nil))) pe_int (nomark _)) (pss_cons (ps_set (i := 2) nd rfl (.inl rfl) (C8.pe_c c_law_plan hr (by decide) rfl (pa_cons (pv 1) (pa_cons pe_int pa_nil))))
    (pss_one (ps_set (i := 4) nd rfl (.inl rfl) (C8.pe_c c_law_suits hr (by decide) rfl (pa_cons (pv 2) pa_nil))))) pss_nil)
    (pss_cons (ps_set (i := 6) nd rfl (.inr rfl) (C8.pe_c c_law_line hr (by decide) rfl (pa_cons (pv 1) (pa_cons (pv 2) (pa_cons (pe_ix (k_ix_list (K := K)) (pe_lst (pa_cons pe_int (pa_cons pe_int pa_nil))) (C8.pe_c c_law_take hr (by decide) rfl (pa_cons (pv 1) (pa_cons pe_int pa_nil))) (fun _ _ => rfl)) pa_nil)))))
    (pss_cons (ps_set (i := 7) nd rfl (.inl rfl) (C8.pe_c c_law_goal hr (by decide) rfl (pa_cons (pv 1) (pa_cons (pv 2) (pa_cons (pv 6) pa_nil)))))
    (C8.pss_cut (ps_if (PW.pt (pw_and (pt_cmpR op_eq (pv 5) pe_int (nomark _)) (pw_and1 (pt_cmpR op_eq (C8.pe_c c_law_take hr (by decide) rfl (pa_cons (pv 1) (pa_cons pe_int pa_nil))) pe_int (nomark _))))) (pss_cons (ps_set (i := 6) nd rfl (.inr rfl) (C8.pe_c c_law_great_line hr (by decide) rfl (pa_cons (pv 1) (pa_cons (pv 2) pa_nil))))
    (pss_one (ps_set (i := 7) nd rfl (.inl rfl) (pe_slice (k_sl_list (K := K)) (pe_lc (own := [("_law_place", 11)]) (g := (gName 11)) (tt := tYes) rfl nd (k_pi_list (K := K) (C8.pe_c c_law_some hr (by decide) rfl (pa_cons (pv 1) (pa_cons (pe_callB (k_len_seq (K := K)) (by rfl) T.b_len (by decide +kernel) (pa_cons (pv 6) pa_nil)) pa_nil)))) (blkOk_by (by kernel_rfl)) (fun _ _ _ _ _ => (pg_name (i := 11) nd rfl (.inl rfl))) (fun _ _ _ _ _ => pts_nil) (fun _ _ _ _ _ => (pe_ix (k_ix_list (K := K)) (pv 6) (pv 11) (fun _ _ => rfl)))) (po_some (pe_un un_neg pe_int)) po_none)))) pss_nil)
    (pss_cons (ps_set (i := 8) nd rfl (.inl rfl) (C8.pe_c c_law_best hr (by decide) rfl (pa_cons (pv 2) (pa_cons (pv 6) (pa_cons (pv 7) pa_nil)))))
    (pss_open (pss_cons (ps_expr (pe_bm PySem.F.plainAttrs_list PySem.F.slot_list_append PySem.F.type_list_append mt_append (pv 3) (pa_cons (pe_tup (pa_cons (pv 4) (pa_cons (pv 6) (pa_cons (pe_callTy (k_list_of (K := K)) (by rfl) T.b_list (by decide +kernel) (pa_cons (pv 7) pa_nil)) (pa_cons (pv 8) pa_nil))))) pa_nil)))
    (pss_shut (pss_cons (ps_if (PW.pt (pw_or (pt_not (pt_val (pe_cG c_law_told_right hg hr (by decide) rfl (pa_cons (pv 2) (pa_cons (pv 4) (pa_cons (pv 6) (pa_cons (pv 7) (pa_cons (pv 8) pa_nil)))))))) (pw_or1 (pt_not (pt_val (C8.pe_c c_law_in_place_right hr (by decide) rfl (pa_cons (pv 2) (pa_cons (pv 4) (pa_cons (pv 6) (pa_cons (pv 7) pa_nil)))))))))) (pss_one (ps_ret pe_bl)) pss_nil)
    (pss_one (ps_if (pt_not (pt_val (pe_cG c_law_as_fresh hg hr (by decide) rfl (pa_cons (pv 2) (pa_cons (pv 4) pa_nil))))) (pss_one (ps_ret pe_bl)) pss_nil))))))))))))
    (pss_open (pss_cons (ps_if (pt_cmpR (k_neD (K := K) hr.units) (pe_lc (own := [("_law_one", 10)]) (g := (gName 10)) rfl nd (k_pi_list (K := K) (pv 3)) (blkOk_by (by kernel_rfl)) (fun _ _ _ _ _ => (pg_name (i := 10) nd rfl (.inl rfl))) (fun _ _ _ _ _ => (pts_one (pt_cmpR op_ne (pe_cmpR op_eq (pe_ix (k_ix_tup (K := K)) (C8.pe_c c_fewest hr (by decide) rfl (pa_cons (pe_ix (k_ix_tup (K := K)) (pv 10) pe_int (fun _ _ => rfl)) (pa_cons (pe_ix (k_ix_tup (K := K)) (pv 10) pe_int (fun _ _ => rfl)) (pa_cons (pe_ix (k_ix_tup (K := K)) (pv 10) pe_int (fun _ _ => rfl)) pa_nil)))) pe_int (fun _ _ => rfl)) pe_str (nomark _)) (pe_cmpR op_isN (pe_ix (k_ix_tup (K := K)) (pv 10) pe_int (fun _ _ => rfl)) pe_non (nomark _)) (nomark _)))) (fun _ _ _ _ _ => (pv 10))) (pe_lst pa_nil) (nomark _)) (pss_one (ps_ret pe_bl)) pss_nil)
    (pss_cons (ps_set (i := 9) nd rfl (.inl rfl) (C8.pe_mk c_Suits hr (by decide) rfl (pa_cons (pe_lst (pa_cons pe_str (pa_cons pe_str pa_nil))) (pa_cons (pe_lst (pa_cons (pe_tup (pa_cons pe_str (pa_cons pe_str pa_nil))) pa_nil)) pa_nil))))
    (pss_cons (ps_if (pt_cmpR (k_neD (K := K) hr.units) (C8.pe_c c_fewest hr (by decide) rfl (pa_cons (pv 9) (pa_cons (pe_op op_rep (pe_lst (pa_cons pe_str pa_nil)) pe_int) (pa_cons (pe_op op_rep (pe_lst (pa_cons pe_str pa_nil)) pe_int) pa_nil)))) (pe_tup (pa_cons pe_str (pa_cons (pe_op op_rep (pe_lst (pa_cons pe_str pa_nil)) pe_int) pa_nil))) (nomark _)) (pss_one (ps_ret pe_bl)) pss_nil)
    (pss_one (ps_ret (pe_cmpR (k_eqD (K := K) hr.units) (C8.pe_c c_fewest hr (by decide) rfl (pa_cons (C8.pe_mk c_Suits hr (by decide) rfl (pa_cons (pe_lst (pa_cons pe_str pa_nil)) (pa_cons (pe_lst pa_nil) pa_nil))) (pa_cons (pe_lst (pa_cons pe_str pa_nil)) (pa_cons (pe_lst (pa_cons pe_str pa_nil)) pa_nil)))) (pe_tup (pa_cons pe_str (pa_cons (pe_lst pa_nil) pa_nil))) (nomark _))))))))))))), ?_⟩



  obtain ⟨a, ns, rfl, ha, hQ⟩ := h
  refine ⟨_, rfl, a, ns, rfl, ha, fun b H1 e1 hB => ?_⟩
  refine ⟨_, rfl, b, rfl, hB, fun pl H2 ks ps e2 _ hP ok nd2 => ⟨Nat.zero_le _, fun aa haa => ⟨_, _, rfl, ?_⟩⟩⟩
  generalize hE : L2.upd H2 aa (.lst []) = H3
  have e3 : Sm H2 H3 := hE ▸ Evl.Ex.new haa
  have h3 : H3 aa = some (.lst []) := hE ▸ L2.upd_same
  clear hE
  refine ⟨aa, [], h3, ?_⟩
  have e24 : Sm H2 (upd H3 aa (AskO aa [])) := e3.put haa
  have h4 : upd H3 aa (AskO aa []) aa = some (AskO aa []) := upd_same
  revert e24 h4
  generalize upd H3 aa (AskO aa []) = H4
  intro e24 h4
  refine ⟨_, rfl, pl, ks, ps, rfl, hP.mono e24, ok, nd2, fun su H5 e5 _ hS => ?_⟩
  have e25 := e24.trans e5
  refine ⟨5, rfl, by decide, by decide, ?_⟩
  refine for_range (lo := 0) (n := 5) (fun i σ' H' => ∃ (pl su : Addr) (ks : List Str) (ps : List (Str × Str)) (o5 o6 o7 o8 : Option V) (ts : List V), σ' = [some (.ref a), some (.ref b), some (.ref pl), some (.ref aa), some (.ref su), o5, o6, o7, o8, none, none, none] ∧ ts.length ≤ i ∧ H' aa = some (AskO aa ts) ∧ LawSt (CS K) b (mask aa H') pl su ks ps ts)
    ⟨pl, su, ks, ps, none, none, none, none, [], rfl, Nat.le_refl _, e5 _ _ h4, ⟨(hB.mono e2).mono (mask_of e25 haa), hP.mono (mask_of e25 haa), ok, nd2, hS.mask (e5 _ _ h4), fun t ht => absurd ht List.not_mem_nil⟩⟩ (fun i σ' H' hi q => ?_) (fun σ' H' q => ?_)
  · obtain ⟨pl0, su0, ks0, ps0, o5, o6, o7, o8, ts, rfl, hts, haaO, L⟩ := q
    refine ⟨fun σ' H' => ∃ (pl su : Addr) (ks : List Str) (ps : List (Str × Str)), σ' = [some (.ref a), some (.ref b), some (.ref pl), some (.ref aa), some (.ref su), some (.int (0 + (i : Int))), o6, o7, o8, none, none, none] ∧ H' aa = some (AskO aa ts) ∧ LawSt (CS K) b (mask aa H') pl su ks ps ts, ?_, ?_⟩
    · refine ⟨_, rfl, b, 2, rfl, L.bag.mono mask_sm, by decide, by decide, fun w0 _ _ => ⟨rfl, _, rfl, ?_⟩⟩
      by_cases h0 : V.int w0 = V.int 0
      · refine ifT (decide_eq_true h0) ⟨_, rfl, b, rfl, L.bag.mono mask_sm, fun pl' H6 ks' ps' e6 _ hP' ok' nd' => ⟨_, rfl, pl', ks', ps', rfl, hP', ok', nd', fun su' H7 e7 _ hS' => ?_⟩⟩
        have e67 := e6.trans e7
        exact ⟨pl', su', ks', ps', rfl, e67 _ _ haaO, ⟨L.bag.mono (mask_mono e67), (hP'.mono e7).mask (e67 _ _ haaO), ok', nd', hS'.mask (e67 _ _ haaO), fun t ht => (L.asked t ht).mono (mask_mono e67)⟩⟩
      · exact ifF (decide_eq_false h0) ⟨pl0, su0, ks0, ps0, rfl, haaO, L⟩
    · clear L haaO
      rintro σ' H' ⟨pl, su, ks, ps, rfl, haaO, L⟩
      have hB := L.bag.mono mask_sm
      have hP := L.plan.mono mask_sm
      refine ⟨_, rfl, _, rfl, two_le, fun p hp => ?_⟩
      generalize hE : L2.upd H' p (.lst [.int 6, .int 20]) = H6
      have e6 : Sm H' H6 := hE ▸ Evl.Ex.new hp
      have h6 : H6 p = some (.lst [.int 6, .int 20]) := hE ▸ L2.upd_same
      clear hE
      refine ⟨_, rfl, b, 2, rfl, hB.mono e6, by decide, by decide, fun w hw0 hw1 => ?_⟩
      obtain ⟨most, hm20, hmost⟩ : ∃ most : Nat, most ≤ 20 ∧ atI [V.int 6, V.int 20] w = some (V.int (most : Int)) := by
        rcases (by omega : w = 0 ∨ w = 1) with rfl | rfl
        · exact ⟨6, by decide, rfl⟩
        · exact ⟨20, by decide, rfl⟩
      refine ⟨p, _, w, _, rfl, rfl, sq_of h6, hmost, b, pl, most, ks, ps, rfl, hB.mono e6, hP.mono e6, L.ok, by omega, fun la H7 line e7 hla0 hla hsub hil hlen => ?_⟩
      have e67 := e6.trans e7
      refine ⟨_, rfl, _, rfl, _, rfl, b, pl, la, ks, ps, line, rfl, hB.mono e67, hP.mono e67, L.ok, hla, hsub, hil, by omega, fun ga H8 goal e8 hga0 hga gsub gil glen => ?_⟩
      refine ⟨fun σ' Hn => ∃ (la ga : Addr) (line goal : List Str) (Hg : Hp), σ' = [some (.ref a), some (.ref b), some (.ref pl), some (.ref aa), some (.ref su), some (.int (0 + (i : Int))), some (.ref la), some (.ref ga), o8, none, none, none] ∧ Hg ga = none ∧ Sm Hg Hn ∧ Sm H' Hg ∧ LS Hg la line ∧ (∀ k ∈ line, k ∈ ks) ∧ line.length ≤ 200 ∧ LS Hn ga goal ∧ Goal ks ps goal, ?_, ?_⟩
      · have e68 := e67.trans e8
        have done1 : ∃ (la1 ga1 : Addr) (line goal : List Str) (Hg : Hp), ([some (.ref a), some (.ref b), some (.ref pl), some (.ref aa), some (.ref su), some (.int (0 + (i : Int))), some (.ref la), some (.ref ga), o8, none, none, none] : L2.St) = [some (.ref a), some (.ref b), some (.ref pl), some (.ref aa), some (.ref su), some (.int (0 + (i : Int))), some (.ref la1), some (.ref ga1), o8, none, none, none] ∧ Hg ga1 = none ∧ Sm Hg H8 ∧ Sm H' Hg ∧ LS Hg la1 line ∧ (∀ k ∈ line, k ∈ ks) ∧ line.length ≤ 200 ∧ LS H8 ga1 goal ∧ Goal ks ps goal :=
          ⟨la, ga, line, goal, H7, rfl, hga0, e8, e67, hla, hsub, by omega, hga, ⟨gsub, gil, glen⟩⟩
        refine ⟨_, rfl, rfl, _, rfl, ?_⟩
        by_cases hi0 : V.int (0 + (i : Int)) = V.int 0
        · refine ifT (decide_eq_true hi0) ⟨_, rfl, b, 3, rfl, hB.mono e68, by decide, by decide, fun w3 _ _ => ⟨rfl, _, rfl, ?_⟩⟩
          by_cases hw3 : V.int w3 = V.int 0
          · refine ifT (decide_eq_true hw3) ⟨_, rfl, _, rfl, b, pl, ks, ps, rfl, hB.mono e68, hP.mono e68, L.ok, fun la9 H9 line9 e9 _ hla9 hsub9 hil9 hlen9 => ?_⟩
            have e69 := e68.trans e9
            refine ⟨_, rfl, _, rfl, la9, _, rfl, .inl (sq_of hla9), ?_⟩
            rw [List.length_map]
            refine ⟨b, line9.length, rfl, hB.mono e69, by omega, fun r H10 ix e10 hr10 g1 g2 g3 => ?_⟩
            have ixl := asc_le' g2 g3
            refine ⟨r, rfl, ⟨_, sq_of g1⟩, ?_⟩
            refine lcLy (enc := fun n : Nat => V.int (n : Int)) (fun p => V.str (line9.getD p Str.empty)) (sq_of g1) (by omega) (fun p hp => ?_) (fun fa H11 hfa e11 h11 => ?_)
            · refine Evl.ev_op (Evl.ev_var rfl) (Evl.ev_var rfl) (Evl.rv_ixL (sq_of (e10 _ _ hla9)) (atI_nat ?_))
              have hp' := g3 p hp
              rw [List.getElem?_map, List.getElem?_eq_getElem hp']
              simp [List.getD, List.getElem?_eq_getElem hp']
            have e811 := (e9.trans e10).trans e11
            refine ⟨_, rfl, _, rfl, fa, _, rfl, sq_of h11, fun gp hgp => ?_⟩
            rw [cutV_24]
            have hsubg : ∀ k ∈ (ix.map fun p => line9.getD p Str.empty), k ∈ ks := fun k hk => by
              obtain ⟨p, hp, rfl⟩ := List.mem_map.mp hk
              have hp' := g3 p hp
              have e : line9.getD p Str.empty = line9[p] := by simp [List.getD, List.getElem?_eq_getElem hp']
              rw [e]
              exact hsub9 _ (List.getElem_mem hp')
            have hilg : K76.IsLine (fitP ps) (ix.map fun p => line9.getD p Str.empty) := sub_line hil9 g2 g3
            refine ⟨la9, gp, line9, (ix.map fun p => line9.getD p Str.empty).drop ((ix.map fun p => V.str (line9.getD p Str.empty)).length - 24), H11, rfl, hgp, Ex.new hgp, e68.trans e811, e11 _ _ (e10 _ _ hla9), hsub9, hlen9, ?_, ⟨fun k hk => hsubg k (List.mem_of_mem_drop hk), hilg.sub (List.drop_sublist _ _), by rw [List.length_drop, List.length_map]; omega⟩⟩
            show _ = some (HO.lst _)
            rw [List.map_drop, List.map_map]
            exact upd_same
          · exact ifF (decide_eq_false hw3) done1
        · exact ifF (decide_eq_false hi0) (ifF rfl done1)
      · rintro σ' Hn ⟨la, ga, line, goal, Hg, rfl, hga0, eg, eg0, hla, hsub, hlen, hga, gg⟩
        have P : PlanAt Hg pl ks ps := hP.mono eg0
        have Sx : SuitsAt (CS K) Hg su (sortK ks) (sortP (ordP ps)) := (L.suits.mono mask_sm).mono eg0
        have gl := gg.len
        refine ⟨_, rfl, _, rfl, _, rfl, pl, la, ga, ks, ps, line, goal, rfl, P.mono eg, L.ok, eg _ _ hla, hga, by omega, by omega, hsub, gg.sub, fun o H2 e2 hb => ?_⟩
        have eg2 := eg.trans e2
        have haa2 : H2 aa = some (AskO aa ts) := eg2 _ _ (eg0 _ _ haaO)
        refine ⟨aa, ts, haa2, ?_⟩
        have hAg : Hg aa = some (AskO aa ts) := eg0 _ _ haaO
        have nga : ga ≠ aa := fun z => by
          subst z
          rw [hga0] at hAg
          cases hAg
        have nba : b ≠ aa := fun z => by
          subst z
          obtain ⟨cs, ns, q, _⟩ := L.bag
          rw [mask_self] at q
          cases q
        have haa3 : upd H2 aa (.lst ts) aa = some (.lst ts) := upd_same
        have m3 : mask aa (upd H2 aa (.lst ts)) = mask aa H2 := mask_upd
        have hga3 : LS (upd H2 aa (.lst ts)) ga goal := put_ne (e2 _ _ hga) nga
        revert haa3 m3 hga3
        generalize upd H2 aa (.lst ts) = H3
        intro haa3 m3 hga3
        refine ⟨_, rfl, .inl ⟨rfl, _, sq_of haa3⟩, ?_⟩
        refine ⟨_, rfl, _, rfl, _, rfl, ga, _, rfl, .inl (sq_of hga3), fun g2 hg2 => ?_⟩
        have ng2 : g2 ≠ aa := ne_fr' hg2 haa3
        have ng2g : g2 ≠ ga := ne_fr' hg2 hga3
        generalize hE : L2.upd H3 g2 (.lst (goal.map V.str)) = H4
        have e4 : Sm H3 H4 := hE ▸ Evl.Ex.new hg2
        have h4 : H4 g2 = some (.lst (goal.map V.str)) := hE ▸ L2.upd_same
        clear hE
        refine ⟨_, rfl, four_le, fun t ht => ?_⟩
        have nt : t ≠ aa := ne_fr' ht (e4 _ _ haa3)
        have ntg : t ≠ ga := ne_fr' ht (e4 _ _ hga3)
        generalize hE : L2.upd H4 t (.tup [.ref su, .ref la, .ref g2, OptV o]) = H5
        have e5 : Sm H4 H5 := hE ▸ Evl.Ex.new ht
        have h5 : H5 t = some (.tup [.ref su, .ref la, .ref g2, OptV o]) := hE ▸ L2.upd_same
        clear hE
        have e45 := e4.trans e5
        refine ⟨aa, ts, .ref t, rfl, rfl, e45 _ _ haa3, bigS _ (by omega), ?_⟩
        refine ⟨aa, ts ++ [.ref t], upd_same, ?_⟩
        have m7 : mask aa (upd (upd H5 aa (.lst (ts ++ [.ref t]))) aa (AskO aa (ts ++ [.ref t]))) = mask aa H5 := mask_upd.trans mask_upd
        have h7 : upd (upd H5 aa (.lst (ts ++ [.ref t]))) aa (AskO aa (ts ++ [.ref t])) aa = some (AskO aa (ts ++ [.ref t])) := upd_same
        have g7 : LS (upd (upd H5 aa (.lst (ts ++ [.ref t]))) aa (AskO aa (ts ++ [.ref t]))) ga goal := put_ne (put_ne (e45 _ _ hga3) nga) nga
        revert m7 h7 g7
        generalize upd (upd H5 aa (.lst (ts ++ [.ref t]))) aa (AskO aa (ts ++ [.ref t])) = H7
        intro m7 h7 g7
        have f0 : Sm (mask aa Hg) (mask aa H7) := by
          rw [m7]
          refine (mask_mono eg2).trans ?_
          rw [← m3]
          exact mask_mono e45
        have hmg : mask aa Hg ga = none := by rw [mask_ne nga]; exact hga0
        have f1 : Sm (mask aa Hg) (mask ga (mask aa H7)) := mask_of f0 hmg
        have ft : mask ga (mask aa H7) t = some (.tup [.ref su, .ref la, .ref g2, OptV o]) := by rw [mask_ne ntg, m7, mask_ne nt]; exact h5
        have fg : LS (mask ga (mask aa H7)) g2 goal := by
          show _ = some (HO.lst _)
          rw [mask_ne ng2g, m7, mask_ne ng2]
          exact e5 _ _ h4
        have f7 : Sm (mask ga (mask aa H7)) H7 := mask_sm.trans mask_sm
        have fa : mask ga (mask aa H7) aa = none := by rw [mask_ne nga.symm]; exact mask_self
        have gm : Game (CS K) (mask ga (mask aa H7)) pl su la ks ps line := Game.mono f1 ⟨P.mask hAg, L.ok, L.nd, Sx.mask hAg, LS.mask hAg hla, hsub, hlen⟩
        have bm : Bag (mask ga (mask aa H7)) b := ((hB.mono eg0).mask nba hAg).mono f1
        have am : ∀ v ∈ ts ++ [V.ref t], AskOne (CS K) (mask ga (mask aa H7)) v := fun v hv => by
          rcases List.mem_append.mp hv with q | q
          · exact ((L.asked v q).mono (mask_mono eg0)).mono f1
          · rw [List.mem_singleton.mp q]
            exact ⟨t, su, la, g2, ks, ps, line, goal, o, rfl, ft, gm.suits, L.ok, gm.la, fg, hsub, hlen, gg, hb⟩
        have fz : mask ga (mask aa H7) ga = none := mask_self
        revert f7 fa gm bm am fz
        generalize mask ga (mask aa H7) = M
        intro f7 fa gm bm am fz
        refine ⟨_, rfl, _, rfl, _, rfl, _, rfl, _, rfl, pl, su, la, ga, ks, ps, line, goal, o, rfl, gm.mono f7, g7, gg, hb, fun H8 e8 => ⟨_, rfl, ifF rfl ?_⟩⟩
        have s8 : Sm M (mask ga H8) := mask_of (f7.trans e8) fz
        refine ⟨_, rfl, _, rfl, _, rfl, _, rfl, pl, su, la, ga, ks, ps, line, goal, mask ga H8, rfl, mask_self, mask_sm, gm.mono s8, e8 _ _ g7, gg, fun H9 e9 => ⟨_, rfl, ifF rfl ?_⟩⟩
        have s9 := s8.trans e9
        refine ⟨_, rfl, _, rfl, pl, su, ks, ps, rfl, gm.plan.mono s9, L.ok, L.nd, gm.suits.mono s9, fun H10 e10 => ⟨_, rfl, ifF rfl ?_⟩⟩
        have hA : H10 aa = some (AskO aa (ts ++ [.ref t])) := e10 _ _ (e9 _ _ (by rw [mask_ne nga.symm]; exact e8 _ _ h7))
        have s10 : Sm M (mask aa H10) := mask_of (s9.trans e10) fa
        exact ⟨pl, su, ks, ps, _, _, _, _, ts ++ [.ref t], rfl, by rw [List.length_append]; show _ + 1 ≤ _; omega, hA, ⟨bm.mono s10, gm.plan.mono s10, L.ok, L.nd, gm.suits.mono s10, fun v hv => (am v hv).mono s10⟩⟩
  · obtain ⟨pl, su, ks, ps, o5, o6, o7, o8, ts, rfl, hts, haaO, L⟩ := q
    refine ⟨aa, ts, haaO, ?_⟩
    have h1 : upd H' aa (.lst ts) aa = some (.lst ts) := upd_same
    have hm : Sm (mask aa H') (upd H' aa (.lst ts)) := fun x o q => by
      by_cases e : x = aa
      · subst e
        rw [mask_self] at q
        cases q
      · rw [mask_ne e] at q
        rw [upd_ne e]
        exact q
    have asked : ∀ t ∈ ts, AskOne (CS K) (upd H' aa (.lst ts)) t := fun t ht => (L.asked t ht).mono hm
    revert h1 asked
    generalize upd H' aa (.lst ts) = H6
    intro h1 asked
    refine ⟨_, rfl, aa, rfl, ⟨_, sq_of h1⟩, ?_⟩
    refine lcL (enc := fun v : V => v) (ys := ts) (fun _ => false) (fun v => v) (by rw [List.map_id']; exact sq_of h1) (by omega) (fun y hy H7 e7 Q7 q7 => ?_) (fun y hy z => by cases z) (fun D H8 hD e8 h8 => ?_)
    · obtain ⟨t, su1, la, ga, ks1, ps1, line, goal, o, rfl, ht, hS1, ok1, hla, hga, hsub, hlen, gg, hb⟩ := (asked y hy).mono e7
      have gl := gg.len
      have tt := st_of (K := K) ht
      refine ⟨_, rfl, t, _, 0, _, rfl, rfl, tt, rfl, ?_⟩
      refine ⟨_, rfl, t, _, 1, _, rfl, rfl, tt, rfl, ?_⟩
      refine ⟨_, rfl, t, _, 2, _, rfl, rfl, tt, rfl, ?_⟩
      refine ⟨su1, la, ga, _, _, line, goal, rfl, hS1, suitsOk_of ok1, hla, hga, by omega, by omega, ok1.okS' hsub, ok1.okS' gg.sub, fun r x res H8 e8 hx hf hr2 hfa => ?_⟩
      refine ⟨r, _, 0, _, rfl, rfl, st_of hr2, rfl, rfl, ?_⟩
      refine ⟨_, rfl, t, _, 3, _, rfl, rfl, st_of (e8 _ _ ht), rfl, ?_⟩
      refine ⟨rfl, rfl, _, rfl, ?_⟩
      have e : (!decide (V.bl (decide (V.str (fewWord res) = V.str "never")) = V.bl (decide (OptV o = V.non)))) = false := by
        rcases few_best ok1 gg hf hb with ⟨rfl, hw, _⟩ | ⟨m, row, rfl, rfl, _⟩
        · rw [hw]; rfl
        · rfl
      rw [e]
      exact q7 H8 e8
    · have h8' : LS H8 D [] := by
        show _ = some (HO.lst _)
        rw [h8]
        simp
      refine ⟨Nat.zero_le _, fun z hz => ⟨_, _, dp_ls (Ex.new hz _ _ h8'), dp_ls (xs := []) upd_same, sh_strs (fun _ h => absurd h List.not_mem_nil), sh_strs (fun _ h => absurd h List.not_mem_nil), _, rfl, ?_⟩⟩
      rw [Datum.eqv]
      generalize hE : L2.upd H8 z (.lst []) = H9
      have e9 : Sm H8 H9 := hE ▸ Evl.Ex.new hz
      have h9 : H9 z = some (.lst []) := hE ▸ L2.upd_same
      clear hE
      refine ifF rfl ⟨two_le, fun p1 hp1 => ?_⟩
      generalize hE : L2.upd H9 p1 (.lst [.str "a", .str "b"]) = H10
      have e10 : Sm H9 H10 := hE ▸ Evl.Ex.new hp1
      have h10 : H10 p1 = some (.lst [.str "a", .str "b"]) := hE ▸ L2.upd_same
      clear hE
      refine ⟨two_le, fun p2 hp2 => ?_⟩
      generalize hE : L2.upd H10 p2 (.tup [.str "a", .str "b"]) = H11
      have e11 : Sm H10 H11 := hE ▸ Evl.Ex.new hp2
      have h11 : H11 p2 = some (.tup [.str "a", .str "b"]) := hE ▸ L2.upd_same
      clear hE
      refine ⟨one_le, fun p3 hp3 => ?_⟩
      generalize hE : L2.upd H11 p3 (.lst [.ref p2]) = H12
      have e12 : Sm H11 H12 := hE ▸ Evl.Ex.new hp3
      have h12 : H12 p3 = some (.lst [.ref p2]) := hE ▸ L2.upd_same
      clear hE
      refine fun x dx hx hdx hne => ?_
      have hx' : upd H12 dx (.own x) x = none := by rw [upd_ne hne.symm]; exact hx
      have e13 : Sm H12 (upd (upd H12 dx (.own x)) x (.ins (CS K) dx [])) := (Ex.new hdx).add hx'
      refine ⟨x, dx, p1, p3, pkA, ppA, rfl, upd_same, e13 _ _ (e12 _ _ (e11 _ _ h10)), ⟨[p2], e13 _ _ h12, .cons (e13 _ _ (e12 _ _ h11)) .nil⟩, ok_A, by decide +kernel, fun H14 sb hS1 => ⟨rfl, ?_⟩⟩
      refine ⟨_, rfl, one_le, fun q1 hq1 => ?_⟩
      generalize hE : L2.upd H14 q1 (.lst [.str "a"]) = H15
      have e15 : Sm H14 H15 := hE ▸ Evl.Ex.new hq1
      have h15 : H15 q1 = some (.lst [.str "a"]) := hE ▸ L2.upd_same
      clear hE
      refine ⟨q1, 200, _, rfl, rfl, h15, by decide, by decide, (by decide : 200 ≤ sizeLine), fun q2 hq2 => ?_⟩
      rw [show ((200 : Int).toNat) = 200 from rfl, rep_flat]
      generalize hE : L2.upd H15 q2 (.lst ((List.replicate 200 ("a" : Str)).map V.str)) = H16
      have e16 : Sm H15 H16 := hE ▸ Evl.Ex.new hq2
      have h16 : H16 q2 = some (.lst ((List.replicate 200 ("a" : Str)).map V.str)) := hE ▸ L2.upd_same
      clear hE
      refine ⟨one_le, fun q3 hq3 => ?_⟩
      generalize hE : L2.upd H16 q3 (.lst [.str "a"]) = H17
      have e17 : Sm H16 H17 := hE ▸ Evl.Ex.new hq3
      have h17 : H17 q3 = some (.lst [.str "a"]) := hE ▸ L2.upd_same
      clear hE
      refine ⟨q3, 150, _, rfl, rfl, h17, by decide, by decide, (by decide : 150 ≤ sizeLine), fun q4 hq4 => ?_⟩
      rw [show ((150 : Int).toNat) = 150 from rfl, rep_flat]
      generalize hE : L2.upd H17 q4 (.lst ((List.replicate 150 ("a" : Str)).map V.str)) = H18
      have e18 : Sm H17 H18 := hE ▸ Evl.Ex.new hq4
      have h18 : H18 q4 = some (.lst ((List.replicate 150 ("a" : Str)).map V.str)) := hE ▸ L2.upd_same
      clear hE
      have e1418 := ((e15.trans e16).trans e17).trans e18
      have oka : ∀ n, okS (List.replicate n ("a" : Str)) := fun n y hy => by rw [(List.mem_replicate.mp hy).2]; exact kd_a.strOk
      refine ⟨x, q2, q4, _, _, List.replicate 200 ("a" : Str), List.replicate 150 ("a" : Str), rfl, hS1.mono e1418, suitsOk_of ok_A, (e17.trans e18) _ _ h16, h18, by rw [List.length_replicate]; decide, by rw [List.length_replicate]; decide, oka _, oka _, fun r y res H19 e19 hy hf hr2 hfa => ?_⟩
      have hres := few_A hf
      subst hres
      refine ⟨one_le, fun q5 hq5 => ?_⟩
      generalize hE : L2.upd H19 q5 (.lst [.str "b"]) = H20
      have e20 : Sm H19 H20 := hE ▸ Evl.Ex.new hq5
      have h20 : H20 q5 = some (.lst [.str "b"]) := hE ▸ L2.upd_same
      clear hE
      refine ⟨q5, 50, _, rfl, rfl, h20, by decide, by decide, (by decide : 50 ≤ sizeLine), fun q6 hq6 => ?_⟩
      rw [show ((50 : Int).toNat) = 50 from rfl, rep_flat]
      generalize hE : L2.upd H20 q6 (.lst ((List.replicate 50 ("b" : Str)).map V.str)) = H21
      have e21 : Sm H20 H21 := hE ▸ Evl.Ex.new hq6
      have h21 : H21 q6 = some (.lst ((List.replicate 50 ("b" : Str)).map V.str)) := hE ▸ L2.upd_same
      clear hE
      refine ⟨two_le, fun q7 hq7 => ?_⟩
      generalize hE : L2.upd H21 q7 (.tup [.str "row", .ref q6]) = H22
      have e22 : Sm H21 H22 := hE ▸ Evl.Ex.new hq7
      have h22 : H22 q7 = some (.tup [.str "row", .ref q6]) := hE ▸ L2.upd_same
      clear hE
      have e1922 := (e20.trans e21).trans e22
      have sh1 : Sho 8 100000 (fewD (.inl (List.replicate 50 ("b" : Str)))) := row_sho (fun y hy => by rw [(List.mem_replicate.mp hy).2]; exact kd_b) (by rw [List.length_replicate]; decide)
      refine ⟨_, _, dp_few (e1922 _ _ hr2) (hfa.mono e1922), dp_few (res := .inl (List.replicate 50 ("b" : Str))) h22 (e22 _ _ h21), sh1.shaped (by decide), sh1.shaped (by decide), _, rfl, ?_⟩
      rw [PySem.SeqAt.eqv_refl _ sh1.can]
      refine ifF rfl ⟨one_le, fun r1 hr1 => ?_⟩
      generalize hE : L2.upd H22 r1 (.lst [.str "a"]) = H23
      have e23 : Sm H22 H23 := hE ▸ Evl.Ex.new hr1
      have h23 : H23 r1 = some (.lst [.str "a"]) := hE ▸ L2.upd_same
      clear hE
      refine ⟨Nat.zero_le _, fun r3 hr3 => ?_⟩
      generalize hE : L2.upd H23 r3 (.lst []) = H24
      have e24' : Sm H23 H24 := hE ▸ Evl.Ex.new hr3
      have h24 : H24 r3 = some (.lst []) := hE ▸ L2.upd_same
      clear hE
      refine fun x2 dx2 hx2 hdx2 hne2 => ?_
      have hx2' : upd H24 dx2 (.own x2) x2 = none := by rw [upd_ne hne2.symm]; exact hx2
      have e25' : Sm H24 (upd (upd H24 dx2 (.own x2)) x2 (.ins (CS K) dx2 [])) := (Ex.new hdx2).add hx2'
      refine ⟨x2, dx2, r1, r3, ["a"], [], rfl, upd_same, e25' _ _ (e24' _ _ h23), ⟨[], e25' _ _ h24, .nil⟩, ok_B, by decide +kernel, fun H26 sb2 hS2 => ⟨rfl, ?_⟩⟩
      refine ⟨one_le, fun u1 hu1 => ?_⟩
      generalize hE : L2.upd H26 u1 (.lst [.str "a"]) = H27
      have e27 : Sm H26 H27 := hE ▸ Evl.Ex.new hu1
      have h27 : H27 u1 = some (.lst [.str "a"]) := hE ▸ L2.upd_same
      clear hE
      refine ⟨one_le, fun u2 hu2 => ?_⟩
      generalize hE : L2.upd H27 u2 (.lst [.str "a"]) = H28
      have e28 : Sm H27 H28 := hE ▸ Evl.Ex.new hu2
      have h28 : H28 u2 = some (.lst [.str "a"]) := hE ▸ L2.upd_same
      clear hE
      have e2628 := e27.trans e28
      have oka1 : okS [("a" : Str)] := fun y hy => by rw [List.mem_singleton.mp hy]; exact kd_a.strOk
      refine ⟨x2, u1, u2, _, _, [("a" : Str)], [("a" : Str)], rfl, hS2.mono e2628, suitsOk_of ok_B, e28 _ _ h27, h28, by decide, by decide, oka1, oka1, fun r y res H29 e29 hy hf hr2 hfa => ?_⟩
      have hres := few_B hf
      subst hres
      refine ⟨Nat.zero_le _, fun u5 hu5 => ?_⟩
      generalize hE : L2.upd H29 u5 (.lst []) = H30
      have e30 : Sm H29 H30 := hE ▸ Evl.Ex.new hu5
      have h30 : H30 u5 = some (.lst []) := hE ▸ L2.upd_same
      clear hE
      refine ⟨two_le, fun u7 hu7 => ?_⟩
      generalize hE : L2.upd H30 u7 (.tup [.str "row", .ref u5]) = H31
      have e31 : Sm H30 H31 := hE ▸ Evl.Ex.new hu7
      have h31 : H31 u7 = some (.tup [.str "row", .ref u5]) := hE ▸ L2.upd_same
      clear hE
      have sh2 : Sho 8 100000 (fewD (.inl [])) := row_sho (fun y hy => absurd hy List.not_mem_nil) (by decide)
      refine ⟨_, _, dp_few ((e30.trans e31) _ _ hr2) (hfa.mono (e30.trans e31)), dp_few (res := .inl []) h31 (e31 _ _ h30), sh2.shaped (by decide), sh2.shaped (by decide), ?_⟩
      rw [PySem.SeqAt.eqv_refl _ sh2.can]
      exact hQ H31
end
end K7

set_option Elab.async false
set_option linter.all false
set_option maxRecDepth 100000
set_option maxHeartbeats 2000000
namespace K7
open PySem PySem.Spec PyProof.Rows L2
/-- the law's end, for a def that is entered while nothing is being shown -/
theorem law_callG {P : Program} {w : World} {K : PySem.W.Frag} {mg mb : Str → Option Value} {k : Nat} {fa a : Addr} {fd : FuncData} {x : Str} {sp : Sp} {s₁ : Shared} {vs : List Value} {ns : List Int}
    (KX : K.In s₁.heap) (hns : s₁.heap.Ns mainGlobals mg) (hb : s₁.heap.Ns builtinsNs mb) (hbb : ∀ x : Str, x ≠ "__name__" → mb x = bootBuiltins x) (hlim : s₁.heap.NoLimit) (hg : s₁.gens = #[])
    (ha : s₁.heap.get? a = some { cls := .type "list", data := .seq vs.toArray }) (hi : IntsAre vs ns) (hl : ns.length ≤ sizeLine) (hr : Room k callerA)
    (F : ∀ base : Heap, K.In base → base.Ns mainGlobals mg → FnG P w K mg base k fa fd [x] sp) (hbind : ∀ (s : Shared) (u : Value), BindsTo s fd ⟨[u], []⟩ [(x, u)])
    (hsp : ∀ H : Hp, Only H → SqL K H a (ns.map V.int) → sp [.ref a] H (fun v _ => v = .bl true) fun _ _ _ => False) :
    codeAny (model P w) callerA (.call (.ref fa) ⟨[.ref a], []⟩) (fun r s' => r = .ok (.ret (.bool true)) ∧ OldK s₁.heap s'.heap ∧ s'.os = s₁.os ∧ AllBare s'.gens) s₁ := by
  have rv := vals_ints hi
  have lenV := hi.length
  have core : ∀ H : Hp, Only H → SqL K H a (ns.map V.int) → HOk P w H s₁.heap → (∀ b, H b ≠ none → b = a) → (H a ≠ none → K.lookup a = none) →
      codeAny (model P w) callerA (.call (.ref fa) ⟨[.ref a], []⟩) (fun r s' => r = .ok (.ret (.bool true)) ∧ OldK s₁.heap s'.heap ∧ s'.os = s₁.os ∧ AllBare s'.gens) s₁ := by
    intro H hO hS hok hA hK
    have only : ∀ {b : Addr}, H b ≠ none → b = a ∧ H a ≠ none := fun {b} z => by
      have e := hA b z
      subst e
      exact ⟨rfl, z⟩
    have notDict : ∀ {b : Addr} {o : Obj} {es : Array DictEntry} {ep : Nat}, s₁.heap.get? b = some o → o.data = .dict es ep → H b = none := fun {b o es ep} e d => by
      by_cases z : H b = none
      · exact z
      · obtain ⟨rfl, _⟩ := only z
        rw [ha] at e
        cases e
        exact absurd (show Data.seq vs.toArray _ = Data.dict es ep from d) (fun q => by cases q)
    have ns0 : ∀ {b : Addr} {m : Str → Option Value}, s₁.heap.Ns b m → (hidT s₁.heap H).Ns b m := fun {b m} ⟨o, es, ep, e, d, r⟩ => ⟨o, es, ep, hidT_get e (notDict e d), d, r⟩
    have kb : K.In (hidT s₁.heap H) := fun b o e => hidT_get (KX b o e) (by
      by_cases z : H b = none
      · exact z
      · obtain ⟨rfl, z2⟩ := only z
        rw [hK z2] at e
        cases e)
    have hM : Mod K mg (hidT s₁.heap H) := ⟨kb, ns0 hns, ⟨mb, ns0 hb, hbb⟩, let ⟨mc, h1, h2⟩ := hlim; ⟨mc, ns0 h1, h2⟩⟩
    have e0 : Env0 P w K mg (hidT s₁.heap H) callerA [] s₁ H := ⟨rfl, hM, fun b o e => of_hidT e, Nat.le_of_eq (hidT_size _ _), trivial, fun b hb => absurd (show b ∈ ([] : List Addr) from hb) (by simp), hok, .of_eq hg⟩
    refine codeAny_mono ((F _ kb (ns0 hns)).run callerA [] s₁ H ⟨[.ref a], []⟩ [.ref a] [.ref a] _ _ rfl hr e0 (hbind s₁ (.ref a)) (.cons rfl .nil) (hsp H hO hS)) fun r s' h => ?_
    cases r with
    | error e => exact (show False from h).elim
    | ok fl =>
      cases fl with
      | next => exact h.elim
      | brk => exact h.elim
      | cont => exact h.elim
      | ret u =>
        obtain ⟨v, H', os, bare, un, hok', r', q⟩ := h
        obtain rfl : v = .bl true := q
        obtain rfl : u = Value.bool true := r'
        refine ⟨rfl, OldK.of_keep fun b o e => ?_, os, bare⟩
        cases q : H b with
        | none => exact un.keep b o e q (by intro z; exact absurd (show b ∈ ([] : List Addr) from z) (by simp)) (by simp)
        | some u =>
          rcases hO b with z | ⟨ob, xs, z⟩
          · rw [q] at z; cases z
          · obtain ⟨e1, _⟩ := hok b _ z
            obtain ⟨e2, _⟩ := hok' b _ (un.frzs b ob _ z)
            rw [e] at e1
            cases e1
            exact e2
  cases hk : K.lookup a with
  | some o =>
    have e := KX a o hk
    rw [ha] at e
    cases e
    refine core (fun _ => none) (fun _ => .inl rfl) (.inr ⟨_, vs.toArray, _, hk, rfl, rfl, rfl, by rw [List.size_toArray, lenV]; exact hl, by simpa using rv⟩) (fun b u z => by have z' : (none : Option HO) = some u := z; cases z') (fun b z => absurd rfl z) fun z => absurd rfl z
  | none =>
    refine core (fun b => if b = a then some (.frz { cls := .type "list", data := .seq vs.toArray } (.lst (ns.map V.int))) else none) (fun b => ?_) (.inl (.inr ⟨{ cls := .type "list", data := .seq vs.toArray }, if_pos rfl⟩)) (fun b u z => ?_) (fun b z => ?_) fun _ => hk
    · by_cases hb : b = a
      · exact .inr ⟨_, _, if_pos hb⟩
      · exact .inl (if_neg hb)
    · by_cases hb : b = a
      · have z' := (if_pos hb).symm.trans z
        cases z'
        subst hb
        exact ⟨ha, by rw [List.length_map]; exact hl, vs, _, rv, ha⟩
      · have z' := (if_neg hb).symm.trans z
        cases z'
    · by_cases hb : b = a
      · exact hb
      · exact absurd (if_neg hb) z
theorem walk_ofG {l : PySem.W.OpenLaw} {n k : Nat} {q : Program} {loose : List Str} {XP : (Str → Option Value) → Heap → Prop} {YP : World → Heap → Prop} {d : DefRec} {x : Str}
    (hn : l.most = some n) (hn2 : n ≤ sizeLine) (hdf : d.params.defaults = []) (hr : Room k callerA)
    (F : ∀ (w : World) (mg : Str → Option Value) (fa : Addr) (h : Heap), YP w h → h.Ns mainGlobals mg → mg d.name = some (.ref fa) →
      ∃ (K : PySem.W.Frag) (fd : FuncData) (sp : Sp), K.In h ∧ (∀ (s : Shared) (u : Value), BindsTo s fd ⟨[u], []⟩ [(x, u)]) ∧
        (∀ (H : Hp) (a : Addr) (ns : List Int), ns.length ≤ n → Only H → SqL K H a (ns.map V.int) → sp [.ref a] H (fun v _ => v = .bl true) fun _ _ _ => False) ∧
        ∀ base : Heap, K.In base → base.Ns mainGlobals mg → FnG l.prog w K mg base k fa fd [x] sp) :
    PySem.W.WalkO q loose XP YP l.row.toRowW d [] (fun f vs => PySem.call f vs) := by
  refine Att.attach_call hn hdf fun w s₀ s₁ mg mb fa o pm cd doc a vs ns G Y ho hd hcd hmg hobj hints hlen hg => ?_
  obtain ⟨K, fd, sp, KX, hb, hsp, hF⟩ := F w mg fa _ Y G.T.g hmg
  exact law_callG KX G.T.g G.T.b G.T.builtins G.T.nolimit hg hobj hints (Nat.le_trans hlen hn2) hr hF hb fun H hO hS => hsp H a ns hlen hO hS
end K7

set_option Elab.async false
set_option linter.all false
set_option maxRecDepth 100000
set_option maxHeartbeats 0
namespace K7
open PySem PySem.Spec PyProof.Rows L2
abbrev R : PySem.W.OpenRow := PySem.W.OpenLaw.row PySem.Challenge.rw_suitedpairs_k76_whole_fewest_leads_there
def Kof (g : Addr → Option Obj) : PySem.W.Frag := He.frG g (He.asG g 5)
def obK (g : Addr → Option Obj) : He.Al × Bool := (He.obsE fa fn (Kof g), insB (Kof g))
def hk : PySem.W.Hook where
  α := He.Al × Bool
  obs := fun s => obK s.heap.get?
  val := fun _ => (He.valE fn, true)
  says := fun _ h => ∃ K : PySem.W.Frag, K.In h ∧ He.SaysE fa fn K ∧ insB K = true
  of := fun _ s e => ⟨Kof s.heap.get?, He.frG_in, (Prod.mk.inj (show (He.obsE fa fn (Kof s.heap.get?), insB (Kof s.heap.get?)) = (He.valE fn, true) from e)).1, (Prod.mk.inj (show (He.obsE fa fn (Kof s.heap.get?), insB (Kof s.heap.get?)) = (He.valE fn, true) from e)).2⟩
  keeps := fun _ _ _ ⟨K, hK, c⟩ k => ⟨K, PySem.W.Frag.In.keeps hK k, c⟩
def ob (s : PySem.W.SharedT) : He.Al × Bool := obK (HandSHeadRun.getT s)
theorem ob_eq (s : PySem.W.SharedT) : ob s = hk.obs s.abs := by
  have e : HandSHeadRun.getT s = s.abs.heap.get? := funext (HandSHeadRun.getT_eq s)
  show obK _ = obK _
  rw [e]
def loose : List PySem.Str := [("_wall" : PySem.Str), ("SuitError" : PySem.Str), ("Wrong" : PySem.Str), ("BadPair" : PySem.Str), ("NoKind" : PySem.Str), ("is_kind" : PySem.Str), ("are_kinds" : PySem.Str), ("leave" : PySem.Str), ("kept" : PySem.Str), ("fewest" : PySem.Str), ("are_different" : PySem.Str), ("in_order" : PySem.Str), ("Suits" : PySem.Str), ("LETTERS" : PySem.Str), ("MOST_LETTERS" : PySem.Str), ("MOST_KINDS" : PySem.Str), ("MOST_PAIRS" : PySem.Str), ("_law_bag" : PySem.Str), ("_law_take" : PySem.Str), ("_law_names" : PySem.Str), ("_law_plan" : PySem.Str), ("_law_suits" : PySem.Str), ("_law_alike" : PySem.Str), ("_law_fit" : PySem.Str), ("_law_line" : PySem.Str), ("_law_row" : PySem.Str), ("_law_run" : PySem.Str), ("_law_after" : PySem.Str), ("_law_some" : PySem.Str), ("_law_goal" : PySem.Str), ("_law_kept" : PySem.Str), ("_law_mates" : PySem.Str), ("_law_left" : PySem.Str), ("_law_stuck" : PySem.Str), ("_law_best" : PySem.Str), ("_law_great_line" : PySem.Str), ("_law_as_fresh" : PySem.Str), ("_law_told_right" : PySem.Str), ("_law_in_place_right" : PySem.Str)]
theorem run (w : World) : HandSHeadRun.RunEq R (PySem.W.view R.prog [45]) hk ob 4000 loose w := by
  intro os
  kernel_rfl
end K7

set_option Elab.async false
set_option linter.all false
set_option maxRecDepth 100000
set_option maxHeartbeats 0
namespace K7
open PySem PySem.Spec PyProof.Rows L2
theorem law_binds {K : PySem.W.Frag} {mg : Str → Option Value} {f : Addr} {fd : FuncData} (F : C8.Def K mg "law" (top 45) f fd) (df : fd.defaults = .none) (s : Shared) (u : Value) : BindsTo s fd ⟨[u], []⟩ [(("_law_script" : Str), u)] := by
  obtain ⟨oc, od, dV, kV, doc, pm, an, cdv, ct, osl, rfl, lk, hcd⟩ := F.fn.ex
  have e : dV = .none := df
  subst e
  exact .of_eq rfl
end K7
open PySem PySem.W PySem.Calls PyProof.Rows
theorem PySem.Challenge.cw_suitedpairs_k76_whole_fewest_leads_there_holds : PySem.Challenge.rw_suitedpairs_k76_whole_fewest_leads_there.Holds := by
  w_on; o_law
  refine HandSHeadRun.head_any (r := OpenLaw.row PySem.Challenge.rw_suitedpairs_k76_whole_fewest_leads_there) (q := view (OpenLaw.row PySem.Challenge.rw_suitedpairs_k76_whole_fewest_leads_there).prog [45]) (H := K7.hk) (ob := K7.ob) (M := 4000) (loose := K7.loose) (d := HandSHeadRun.topDef (OpenLaw.row PySem.Challenge.rw_suitedpairs_k76_whole_fewest_leads_there).prog 45) (kwd := []) K7.ob_eq
    (by kernel_rfl) (fun s => by kernel_rfl) K7.run (by kernel_rfl) (by kernel_rfl) (by kernel_rfl) (by rfl) (by first | assumption | decide +kernel) (by decide +kernel) ⟨rfl, rfl, rfl, rfl, rfl, by decide +kernel⟩ ?hw ?hc
  case hw => w_witness2
  case hc =>
    refine K7.walk_ofG (l := PySem.Challenge.rw_suitedpairs_k76_whole_fewest_leads_there) (n := 63) (k := 7) (x := "_law_script") rfl (by decide) (by kernel_rfl) ⟨rfl, by decide, by decide⟩ ?F
    intro w mg fa h Y G hmg0
    obtain ⟨K, KX, c, ins⟩ := Y
    have hmg : mg ("law" : PySem.Str) = some (.ref fa) := by
      have e : (HandSHeadRun.topDef (OpenLaw.row PySem.Challenge.rw_suitedpairs_k76_whole_fewest_leads_there).prog 45).name = ("law" : PySem.Str) := by kernel_rfl
      rw [← e]
      exact hmg0
    have T : K7.Tx (PySem.Challenge.rw_suitedpairs_k76_whole_fewest_leads_there).prog w K mg h := ⟨c, ins, KX, G⟩
    obtain ⟨f, fd, F, df⟩ := T.d "law" 45 (by decide +kernel)
    have e := hmg.symm.trans F.mgf
    cases e
    exact ⟨K, fd, K7.sp_law K, KX, K7.law_binds F df, fun H a ns hl _ hS => ⟨a, ns, rfl, hS, fun _ => rfl⟩, fun base hK hN => K7.f_law ⟨c, ins, hK, hN⟩ F⟩
