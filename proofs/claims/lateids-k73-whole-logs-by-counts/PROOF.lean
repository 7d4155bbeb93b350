import PyProof.Rows.All
import Wide.All
import OpenK.AllK
import Wide.FinOn
import HandS.ForMost
import HandS.Defaults
import HandS.Wide
import HandS.Walk
import HandS.Zip
import HandS.Style
import HandS.Flow
import HandS.IsInst
import HandS.SetFor
import HandS.DictComp
import HandS.Deep
import HandS.Conv
import HandS.SetKeys
import KE.SortData
import HandS.Set
import HandS.Strs
import KE.KStateDown
import Lean
import HandS.Head0
import HandS.Head1
import HandS.Head2
import HandS.HeadEnd
import HandS.EndBits
import HandS.HeadHook1
import HandS.HeadHook2
import PySem.Challenge.RW_lateids_k73_whole_logs_by_counts
set_option autoImplicit false
set_option linter.all false
namespace M73
abbrev Log := List (List Int)
abbrev Cnt := List (Int × Int)

theorem snoc_ind {α : Type} {P : List α → Prop} (h0 : P []) (h1 : ∀ l a, P l → P (l ++ [a])) : ∀ l, P l := by
  intro l
  rw [← List.reverse_reverse (as := l)]
  induction l.reverse with
  | nil => exact h0
  | cons a r ih =>
    rw [List.reverse_cons]
    exact h1 _ _ ih

/-- the last poll with an id, 0 if there is none -/
def lastP : Log → Nat
  | [] => 0
  | _ :: l => if l.flatten = [] then 0 else lastP l + 1
def addAt : Log → Nat → Int → Log
  | [], _, _ => []
  | r :: l, 0, x => (r ++ [x]) :: l
  | r :: l, p + 1, x => r :: addAt l p x
def stepL (polls : Nat) (x : Int) (log : Log) : List Log :=
  log :: (List.range' (lastP log) (polls - lastP log)).map fun p => addAt log p x
def allLogs (polls : Nat) (ids : List Int) : List Log :=
  ids.foldl (fun L x => L.flatMap (stepL polls x)) [List.replicate polls []]

theorem addAt_length (x : Int) : ∀ (l : Log) (p : Nat), (addAt l p x).length = l.length
  | [], _ => rfl
  | _ :: _, 0 => rfl
  | _ :: l, p + 1 => by simp [addAt, addAt_length x l p]
theorem lastP_zero : ∀ {l : Log}, l.flatten = [] → lastP l = 0
  | [], _ => rfl
  | r :: l, h => by
    rw [List.flatten_cons] at h
    have := (List.append_eq_nil_iff.mp h).2
    simp [lastP, this]
theorem addAt_flatten (x : Int) : ∀ (l : Log) (p : Nat), lastP l ≤ p → p < l.length → (addAt l p x).flatten = l.flatten ++ [x]
  | [], p, _, h => by simp at h
  | r :: l, 0, h, _ => by
    have e : l.flatten = [] := by
      unfold lastP at h
      split at h
      · assumption
      · omega
    simp [addAt, e]
  | r :: l, p + 1, h, hp => by
    have hl : lastP l ≤ p := by
      unfold lastP at h
      split at h
      · rename_i e
        rw [lastP_zero e]
        omega
      · omega
    simp only [addAt, List.flatten_cons]
    rw [addAt_flatten x l p hl (by simpa using hp), List.append_assoc]
theorem flatten_nil_of {l : Log} (h : l.flatten = []) : ∀ r ∈ l, r = [] := by
  intro r hr
  exact List.flatten_eq_nil_iff.mp h r hr
theorem exists_addAt (x : Int) : ∀ (l : Log) (l1 : List Int), l.flatten = l1 ++ [x] → ∃ p l', p < l.length ∧ l'.length = l.length ∧ l = addAt l' p x ∧ l'.flatten = l1 ∧ lastP l' ≤ p
  | [], l1, h => by simp at h
  | r :: l, l1, h => by
    by_cases e : l.flatten = []
    · rw [List.flatten_cons, e, List.append_nil] at h
      refine ⟨0, l1 :: l, by simp, by simp, by simp [addAt, h], by simp [e], by simp [lastP, e]⟩
    · rw [List.flatten_cons] at h
      obtain ⟨l2, z, hz⟩ : ∃ l2 z, l.flatten = l2 ++ [z] := by
        rcases List.eq_nil_or_concat l.flatten with h' | ⟨l2, z, h'⟩
        · exact absurd h' e
        · exact ⟨l2, z, by rw [h', List.concat_eq_append]⟩
      rw [hz, ← List.append_assoc] at h
      have h2 := List.append_inj' h rfl
      have ez : z = x := by simpa using h2.2
      subst ez
      obtain ⟨p, l', a, b, c, d, f⟩ := exists_addAt z l l2 hz
      refine ⟨p + 1, r :: l', by simpa using a, by simpa using b, by simp [addAt, c], by simp [d, h2.1], ?_⟩
      unfold lastP
      split
      · omega
      · omega
theorem lastP_lt : ∀ {l : Log}, l ≠ [] → lastP l < l.length
  | [], h => absurd rfl h
  | r :: l, _ => by
    unfold lastP
    split
    · simp
    · rename_i e
      have : l ≠ [] := by
        intro z
        subst z
        exact e rfl
      have := lastP_lt this
      simp
      omega
theorem allLogs_snoc (polls : Nat) (ids : List Int) (x : Int) : allLogs polls (ids ++ [x]) = (allLogs polls ids).flatMap (stepL polls x) := by
  simp [allLogs, List.foldl_append]
theorem mem_stepL {polls : Nat} {x : Int} {log l : Log} : l ∈ stepL polls x log ↔ l = log ∨ ∃ p, lastP log ≤ p ∧ p < polls ∧ l = addAt log p x := by
  simp only [stepL, List.mem_cons, List.mem_map, List.mem_range'_1]
  constructor
  · rintro (h | ⟨p, hp, rfl⟩)
    · exact .inl h
    · exact .inr ⟨p, hp.1, by omega, rfl⟩
  · rintro (h | ⟨p, h1, h2, rfl⟩)
    · exact .inl h
    · exact .inr ⟨p, ⟨h1, by omega⟩, rfl⟩
theorem mem_allLogs (polls : Nat) : ∀ (ids : List Int) (log : Log), log ∈ allLogs polls ids ↔ log.length = polls ∧ log.flatten.Sublist ids := by
  intro ids
  induction ids using snoc_ind with
  | h0 =>
    intro log
    simp only [allLogs, List.foldl_nil, List.mem_singleton, List.sublist_nil]
    constructor
    · rintro rfl
      refine ⟨by simp, ?_⟩
      rw [List.flatten_eq_nil_iff]
      intro l hl
      exact (List.mem_replicate.mp hl).2
    · rintro ⟨h1, h2⟩
      rw [List.eq_replicate_iff]
      exact ⟨h1, fun b hb => flatten_nil_of h2 b hb⟩
  | h1 ids x ih =>
    intro log
    rw [allLogs_snoc, List.mem_flatMap]
    constructor
    · rintro ⟨l0, h0, h1⟩
      obtain ⟨e1, e2⟩ := (ih l0).mp h0
      rcases mem_stepL.mp h1 with rfl | ⟨p, h2, h3, rfl⟩
      · exact ⟨e1, e2.trans (List.sublist_append_left _ _)⟩
      · refine ⟨by rw [addAt_length, e1], ?_⟩
        rw [addAt_flatten x l0 p h2 (by omega)]
        exact e2.append (List.Sublist.refl _)
    · rintro ⟨h1, h2⟩
      obtain ⟨l1, l2, e, s1, s2⟩ := List.sublist_append_iff.mp h2
      rcases List.eq_nil_or_concat l2 with z | ⟨l3, y, z⟩
      · subst z
        rw [List.append_nil] at e
        exact ⟨log, (ih log).mpr ⟨h1, by rw [e]; exact s1⟩, mem_stepL.mpr (.inl rfl)⟩
      · have : l2 = [x] := by
          have hl := s2.length_le
          have hl2 : l2.length = 1 := by
            rw [z, List.concat_eq_append, List.length_append] at hl ⊢
            simp at hl ⊢
            omega
          exact s2.eq_of_length (by simpa using hl2)
        subst this
        obtain ⟨p, l', a, b, c, d, f⟩ := exists_addAt x log l1 e
        exact ⟨l', (ih l').mpr ⟨by omega, by rw [d]; exact s1⟩, mem_stepL.mpr (.inr ⟨p, f, by omega, c⟩)⟩
theorem addAt_mem (x : Int) : ∀ (l : Log) (p : Nat), p < l.length → x ∈ (addAt l p x).flatten
  | [], p, h => by simp at h
  | r :: l, 0, _ => by simp [addAt]
  | r :: l, p + 1, h => by
    have := addAt_mem x l p (by simpa using h)
    simp only [addAt, List.flatten_cons, List.mem_append]
    exact .inr this
theorem addAt_inj (x : Int) : ∀ (l l2 : Log) (p p2 : Nat), x ∉ l.flatten → x ∉ l2.flatten → p < l.length → p2 < l2.length → addAt l p x = addAt l2 p2 x → l = l2 ∧ p = p2
  | [], _, p, _, _, _, h, _, _ => by simp at h
  | _ :: _, [], _, p2, _, _, _, h, _ => by simp at h
  | r :: l, r2 :: l2, 0, 0, _, _, _, _, e => by
    simp only [addAt, List.cons.injEq] at e
    have := List.append_inj' e.1 rfl
    exact ⟨by rw [this.1, e.2], rfl⟩
  | r :: l, r2 :: l2, 0, p2 + 1, _, h2, _, _, e => by
    simp only [addAt, List.cons.injEq] at e
    exact absurd (by rw [List.flatten_cons, ← e.1]; simp) h2
  | r :: l, r2 :: l2, p + 1, 0, h1, _, _, _, e => by
    simp only [addAt, List.cons.injEq] at e
    exact absurd (by rw [List.flatten_cons, e.1]; simp) h1
  | r :: l, r2 :: l2, p + 1, p2 + 1, h1, h2, hp, hp2, e => by
    simp only [addAt, List.cons.injEq] at e
    have := addAt_inj x l l2 p p2 (fun z => h1 (by rw [List.flatten_cons]; exact List.mem_append_right _ z)) (fun z => h2 (by rw [List.flatten_cons]; exact List.mem_append_right _ z)) (by simpa using hp) (by simpa using hp2) e.2
    exact ⟨by rw [e.1, this.1], by rw [this.2]⟩
theorem allLogs_nodup (polls : Nat) : ∀ ids : List Int, ids.Nodup → (allLogs polls ids).Nodup := by
  intro ids
  induction ids using snoc_ind with
  | h0 => intro _; simp [allLogs]
  | h1 ids x ih =>
    intro h
    rw [List.nodup_append] at h
    obtain ⟨hn, -, hx⟩ := h
    have hx' : x ∉ ids := fun z => hx x z x (by simp) rfl
    have out : ∀ l ∈ allLogs polls ids, x ∉ l.flatten := fun l hl z => hx' (((mem_allLogs polls ids l).mp hl).2.subset z)
    have ln : ∀ l ∈ allLogs polls ids, l.length = polls := fun l hl => ((mem_allLogs polls ids l).mp hl).1
    rw [allLogs_snoc]
    unfold List.Nodup
    rw [List.pairwise_flatMap]
    refine ⟨fun l hl => ?_, ?_⟩
    · unfold stepL
      rw [List.pairwise_cons]
      refine ⟨fun l' hl' e => ?_, ?_⟩
      · obtain ⟨p, hp, rfl⟩ := List.mem_map.mp hl'
        rw [List.mem_range'_1] at hp
        have := addAt_mem x l p (by rw [ln l hl]; omega)
        rw [← e] at this
        exact out l hl this
      · rw [List.pairwise_map]
        refine List.Pairwise.imp_of_mem (fun {a b} ha hb hab e => ?_) (List.pairwise_lt_range' (s := lastP l) (n := polls - lastP l))
        rw [List.mem_range'_1] at ha hb
        have := (addAt_inj x l l a b (out l hl) (out l hl) (by rw [ln l hl]; omega) (by rw [ln l hl]; omega) e).2
        omega
    · refine List.Pairwise.imp_of_mem (fun {a b} ha hb hab u hu v hv e => ?_) (ih hn)
      subst e
      rcases mem_stepL.mp hu with rfl | ⟨p, h1, h2, rfl⟩
      · rcases mem_stepL.mp hv with e | ⟨p, h1, h2, e⟩
        · exact hab e
        · have := addAt_mem x b p (by rw [ln b hb]; exact h2)
          rw [← e] at this
          exact out _ ha this
      · rcases mem_stepL.mp hv with e | ⟨p2, h3, h4, e⟩
        · have := addAt_mem x a p (by rw [ln a ha]; exact h2)
          rw [e] at this
          exact out _ hb this
        · exact hab (addAt_inj x a b p p2 (out _ ha) (out _ hb) (by rw [ln _ ha]; exact h2) (by rw [ln _ hb]; exact h4) e).1
theorem stepL_length (polls : Nat) (x : Int) (l : Log) : (stepL polls x l).length ≤ polls + 1 := by
  simp [stepL]
theorem flatMap_length_le {α β : Type} (f : α → List β) (k : Nat) (h : ∀ a, (f a).length ≤ k) : ∀ l : List α, (l.flatMap f).length ≤ l.length * k
  | [] => by simp
  | a :: l => by
    rw [List.flatMap_cons, List.length_append, List.length_cons, Nat.add_mul]
    have := flatMap_length_le f k h l
    have := h a
    omega
theorem allLogs_length (polls : Nat) : ∀ ids : List Int, (allLogs polls ids).length ≤ (polls + 1) ^ ids.length := by
  intro ids
  induction ids using snoc_ind with
  | h0 => simp [allLogs]
  | h1 ids x ih =>
    rw [allLogs_snoc, List.length_append, List.length_singleton, Nat.pow_succ]
    refine Nat.le_trans (flatMap_length_le _ (polls + 1) (stepL_length polls x) _) ?_
    exact Nat.mul_le_mul_right _ ih
end M73
namespace M73
abbrev Asc (l : List Int) : Prop := l.Pairwise (· < ·)
def maxL (c : Int) (rows : List Int) : Int := rows.foldl max c
def countedFrom (c : Int) : Log → Cnt
  | [] => []
  | rows :: r => ((rows.length : Int), maxL c rows) :: countedFrom (maxL c rows) r
def part (c d : Int) (ids : List Int) : List Int := ids.filter fun x => decide (c < x) && decide (x ≤ d)
def subsE : List Int → Nat → List (List Int)
  | [], _ => []
  | [x], n => if n = 1 then [[x]] else []
  | _ :: _ :: _, 0 => []
  | x :: y :: r, n + 1 => (subsE (y :: r) n).map (x :: ·) ++ subsE (y :: r) (n + 1)
def rowsOf (ids : List Int) (c n d : Int) : List (List Int) :=
  if d = c then (if n = 0 then [[]] else [])
  else if d < c then []
  else if (part c d ids).getLast? = some d then subsE (part c d ids) n.toNat else []
def prodLogs (ids : List Int) : Int → Cnt → List Log
  | _, [] => [[]]
  | c, (n, d) :: r => (rowsOf ids c n d).flatMap fun rows => (prodLogs ids d r).map (rows :: ·)

theorem Asc.nodup {l : List Int} (h : Asc l) : l.Nodup := h.imp fun h => by omega
theorem asc_last : ∀ {l : List Int} {d : Int}, Asc l → l.getLast? = some d → d ∈ l ∧ ∀ x ∈ l, x ≤ d
  | [], _, _, h => by simp at h
  | [x], d, _, h => by
    simp at h
    subst h
    simp
  | x :: y :: r, d, h, e => by
    rw [List.getLast?_cons_cons] at e
    rw [Asc, List.pairwise_cons] at h
    obtain ⟨h1, h2⟩ := asc_last h.2 e
    refine ⟨List.mem_cons_of_mem _ h1, fun z hz => ?_⟩
    rcases List.mem_cons.mp hz with rfl | hz
    · exact Int.le_of_lt (h.1 d h1)
    · exact h2 z hz
theorem last_of_max : ∀ {l : List Int} {d : Int}, Asc l → d ∈ l → (∀ x ∈ l, x ≤ d) → l.getLast? = some d := by
  intro l d h hd hm
  cases e : l.getLast? with
  | none =>
    rw [List.getLast?_eq_none_iff] at e
    subst e
    simp at hd
  | some z =>
    obtain ⟨h1, h2⟩ := asc_last h e
    have a := hm z h1
    have b := h2 d hd
    rw [show z = d by omega]
theorem mem_subsE : ∀ (l : List Int) (n : Nat) (rows : List Int), Asc l → (rows ∈ subsE l n ↔ rows.Sublist l ∧ rows.length = n ∧ rows ≠ [] ∧ rows.getLast? = l.getLast?)
  | [], n, rows, _ => by
    simp only [subsE, List.not_mem_nil, false_iff]
    rintro ⟨h1, -, h2, -⟩
    exact h2 (List.sublist_nil.mp h1)
  | [x], n, rows, _ => by
    simp only [subsE]
    constructor
    · intro h
      split at h
      · rename_i e
        simp at h
        subst h
        subst e
        simp
      · simp at h
    · rintro ⟨h1, h2, h3, -⟩
      have hl : rows.length = 1 := by
        have a := h1.length_le
        have b := List.length_pos_iff.mpr h3
        simp at a
        omega
      have e : rows = [x] := h1.eq_of_length (by simpa using hl)
      subst e
      have : n = 1 := by simpa using h2.symm
      simp [this]
  | x :: y :: r, 0, rows, _ => by
    simp only [subsE, List.not_mem_nil, false_iff]
    rintro ⟨-, h1, h2, -⟩
    exact h2 (List.length_eq_zero_iff.mp h1)
  | x :: y :: r, n + 1, rows, h => by
    rw [Asc, List.pairwise_cons] at h
    simp only [subsE, List.mem_append, List.mem_map]
    rw [mem_subsE (y :: r) (n + 1) rows h.2, List.getLast?_cons_cons]
    constructor
    · rintro (⟨z, hz, rfl⟩ | ⟨h1, h2, h3, h4⟩)
      · obtain ⟨a, b, c, d⟩ := (mem_subsE (y :: r) n z h.2).mp hz
        refine ⟨a.cons_cons x, by simp [b], by simp, ?_⟩
        rw [← d]
        cases z with
        | nil => exact absurd rfl c
        | cons u v => rw [List.getLast?_cons_cons]
      · exact ⟨h1.trans (List.sublist_cons_self _ _), h2, h3, h4⟩
    · rintro ⟨h1, h2, h3, h4⟩
      cases h1 with
      | cons _ h1 => exact .inr ⟨h1, h2, h3, h4⟩
      | cons_cons _ h1 =>
        rename_i z
        refine .inl ⟨z, (mem_subsE (y :: r) n z h.2).mpr ⟨h1, by simpa using h2, ?_, ?_⟩, rfl⟩
        · rintro rfl
          have : some x = (y :: r).getLast? := by simpa using h4
          have := h.1 x (List.mem_of_getLast? this.symm)
          omega
        · rw [← h4]
          cases z with
          | nil =>
            have : some x = (y :: r).getLast? := by simpa using h4
            have := h.1 x (List.mem_of_getLast? this.symm)
            omega
          | cons u v => rw [List.getLast?_cons_cons]
theorem part_asc {ids : List Int} (h : Asc ids) (c d : Int) : Asc (part c d ids) := List.Pairwise.sublist List.filter_sublist h
theorem mem_part {ids : List Int} {c d x : Int} : x ∈ part c d ids ↔ x ∈ ids ∧ c < x ∧ x ≤ d := by
  simp [part, List.mem_filter]
def above (c : Int) (ids : List Int) : List Int := ids.filter fun x => decide (c < x)
theorem mem_above {ids : List Int} {c x : Int} : x ∈ above c ids ↔ x ∈ ids ∧ c < x := by
  simp [above, List.mem_filter]
theorem above_asc {ids : List Int} (h : Asc ids) (c : Int) : Asc (above c ids) := List.Pairwise.sublist List.filter_sublist h
theorem above_split {c d : Int} (hcd : c ≤ d) : ∀ {ids : List Int}, Asc ids → above c ids = part c d ids ++ above d ids
  | [], _ => rfl
  | x :: r, h => by
    rw [Asc, List.pairwise_cons] at h
    have ih := above_split hcd h.2
    by_cases h1 : d < x
    · have e : part c d r = [] := by
        rw [part, List.filter_eq_nil_iff]
        intro y hy
        have := h.1 y hy
        simp
        omega
      have e2 : part c d (x :: r) = [] := by
        rw [part, List.filter_cons, if_neg (by simp; omega)]
        exact e
      rw [e2, List.nil_append, above, above, List.filter_cons, List.filter_cons, if_pos (by simp; omega), if_pos (by simpa using h1)]
      rw [e, List.nil_append] at ih
      exact congrArg (x :: ·) ih
    · have e2 : above d (x :: r) = above d r := by
        rw [above, List.filter_cons, if_neg (by simpa using h1)]
        rfl
      rw [e2]
      by_cases h2 : c < x
      · rw [above, List.filter_cons, if_pos (by simpa using h2), part, List.filter_cons, if_pos (by simp; omega), List.cons_append]
        exact congrArg (x :: ·) ih
      · rw [above, List.filter_cons, if_neg (by simpa using h2), part, List.filter_cons, if_neg (by simp; omega)]
        exact ih
theorem maxL_le (c : Int) : ∀ rows : List Int, c ≤ maxL c rows := by
  intro rows
  induction rows generalizing c with
  | nil => exact Int.le_refl _
  | cons x r ih =>
    have := ih (max c x)
    show c ≤ maxL (max c x) r
    omega
theorem maxL_mem (c : Int) : ∀ rows : List Int, maxL c rows = c ∨ maxL c rows ∈ rows := by
  intro rows
  induction rows generalizing c with
  | nil => exact .inl rfl
  | cons x r ih =>
    show maxL (max c x) r = c ∨ maxL (max c x) r ∈ x :: r
    rcases ih (max c x) with h | h
    · rw [h]
      by_cases hx : c ≤ x
      · exact .inr (by rw [show max c x = x by omega]; simp)
      · exact .inl (by omega)
    · exact .inr (List.mem_cons_of_mem _ h)
theorem maxL_ge (c : Int) : ∀ rows : List Int, ∀ x ∈ rows, x ≤ maxL c rows := by
  intro rows
  induction rows generalizing c with
  | nil => intro x hx; simp at hx
  | cons y r ih =>
    intro x hx
    show x ≤ maxL (max c y) r
    rcases List.mem_cons.mp hx with rfl | hx
    · have := maxL_le (max c x) r
      omega
    · exact ih _ x hx
theorem maxL_of {c m : Int} {rows : List Int} (h1 : m ∈ c :: rows) (h2 : ∀ y ∈ c :: rows, y ≤ m) : maxL c rows = m := by
  have a : maxL c rows ≤ m := by
    rcases maxL_mem c rows with h | h
    · rw [h]
      exact h2 c (by simp)
    · exact h2 _ (List.mem_cons_of_mem _ h)
  have b : m ≤ maxL c rows := by
    rcases List.mem_cons.mp h1 with h | h
    · rw [h]
      exact maxL_le c rows
    · exact maxL_ge c rows m h
  omega
theorem mem_rowsOf {ids : List Int} (h : Asc ids) (c n d : Int) (rows rest : List Int) :
    (rows ∈ rowsOf ids c n d ∧ rest.Sublist (above d ids)) ↔ ((rows.length : Int) = n ∧ maxL c rows = d ∧ (rows ++ rest).Sublist (above c ids)) := by
  unfold rowsOf
  constructor
  · rintro ⟨h1, h2⟩
    split at h1
    · rename_i e
      subst e
      split at h1
      · rename_i e
        subst e
        simp at h1
        subst h1
        exact ⟨rfl, rfl, h2⟩
      · simp at h1
    · rename_i e
      split at h1
      · simp at h1
      · rename_i e'
        split at h1
        · rename_i hl
          obtain ⟨a, b, c', d'⟩ := (mem_subsE _ _ _ (part_asc h c d)).mp h1
          rw [hl] at d'
          have hr : Asc rows := List.Pairwise.sublist a (part_asc h c d)
          obtain ⟨m1, m2⟩ := asc_last hr d'
          refine ⟨?_, ?_, ?_⟩
          · have : rows.length ≠ 0 := fun z => c' (List.length_eq_zero_iff.mp z)
            omega
          · exact maxL_of (List.mem_cons_of_mem _ m1) fun y hy => by
              rcases List.mem_cons.mp hy with rfl | hy
              · omega
              · exact m2 y hy
          · rw [above_split (d := d) (by omega) h]
            exact a.append h2
        · simp at h1
  · rintro ⟨h1, h2, h3⟩
    have hcd : c ≤ d := by
      rw [← h2]
      exact maxL_le c rows
    by_cases hr : rows = []
    · subst hr
      have e : c = d := h2
      subst e
      have : n = 0 := by simpa using h1.symm
      subst this
      simpa using h3
    · have hA : Asc (rows ++ rest) := List.Pairwise.sublist h3 (above_asc h c)
      have hA' := List.pairwise_append.mp hA
      have hgt : ∀ x ∈ rows, c < x := fun x hx => (mem_above.mp (h3.subset (List.mem_append_left _ hx))).2
      have hdm : d ∈ rows := by
        rcases maxL_mem c rows with e | e
        · obtain ⟨x, hx⟩ := List.exists_mem_of_ne_nil rows hr
          have a := hgt x hx
          have b := maxL_ge c rows x hx
          omega
        · rw [← h2]
          exact e
      have hle : ∀ x ∈ rows, x ≤ d := fun x hx => by
        rw [← h2]
        exact maxL_ge c rows x hx
      have hcd' : c < d := hgt d hdm
      rw [if_neg (by omega), if_neg (by omega)]
      have s1 : rows.Sublist (part c d ids) := by
        have e : rows = rows.filter fun x => decide (x ≤ d) := by
          rw [eq_comm, List.filter_eq_self]
          intro x hx
          simpa using hle x hx
        have e2 : part c d ids = (above c ids).filter fun x => decide (x ≤ d) := by
          rw [above, List.filter_filter, part]
          congr 1
          funext x
          exact Bool.and_comm _ _
        rw [e, e2]
        exact ((List.sublist_append_left rows rest).trans h3).filter _
      have s2 : rest.Sublist (above d ids) := by
        have e : rest = rest.filter fun x => decide (d < x) := by
          rw [eq_comm, List.filter_eq_self]
          intro x hx
          simpa using hA'.2.2 d hdm x hx
        have e2 : above d ids = (above c ids).filter fun x => decide (d < x) := by
          rw [above, above, List.filter_filter]
          apply List.filter_congr
          intro x _
          by_cases hx : d < x
          · have : c < x := by omega
            simp [hx, this]
          · simp [hx]
        rw [e, e2]
        exact ((List.sublist_append_right rows rest).trans h3).filter _
      have hl : (part c d ids).getLast? = some d := last_of_max (part_asc h c d) (s1.subset hdm) fun x hx => (mem_part.mp hx).2.2
      rw [if_pos hl]
      refine ⟨(mem_subsE _ _ _ (part_asc h c d)).mpr ⟨s1, by omega, hr, ?_⟩, s2⟩
      rw [hl]
      exact last_of_max hA'.1 hdm hle
theorem mem_prodLogs {ids : List Int} (h : Asc ids) : ∀ (counts : Cnt) (c : Int) (log : Log), log ∈ prodLogs ids c counts ↔ countedFrom c log = counts ∧ log.flatten.Sublist (above c ids)
  | [], c, log => by
    simp only [prodLogs, List.mem_singleton]
    constructor
    · rintro rfl
      exact ⟨rfl, List.nil_sublist _⟩
    · rintro ⟨h1, -⟩
      cases log with
      | nil => rfl
      | cons r l => simp [countedFrom] at h1
  | (n, d) :: r, c, log => by
    simp only [prodLogs, List.mem_flatMap, List.mem_map]
    constructor
    · rintro ⟨rows, hr, l, hl, rfl⟩
      obtain ⟨e1, e2⟩ := (mem_prodLogs h r d l).mp hl
      obtain ⟨a, b, c'⟩ := (mem_rowsOf h c n d rows l.flatten).mp ⟨hr, e2⟩
      refine ⟨?_, by rw [List.flatten_cons]; exact c'⟩
      rw [countedFrom, a, b, e1]
    · rintro ⟨h1, h2⟩
      cases log with
      | nil => simp [countedFrom] at h1
      | cons rows l =>
        simp only [countedFrom, List.cons.injEq, Prod.mk.injEq] at h1
        obtain ⟨⟨a, b⟩, e1⟩ := h1
        rw [List.flatten_cons] at h2
        obtain ⟨hr, e2⟩ := (mem_rowsOf h c n d rows l.flatten).mpr ⟨a, b, h2⟩
        refine ⟨rows, hr, l, (mem_prodLogs h r d l).mpr ⟨?_, e2⟩, rfl⟩
        rw [← b]
        exact e1
theorem countedFrom_length : ∀ (log : Log) (c : Int), (countedFrom c log).length = log.length
  | [], _ => rfl
  | _ :: l, _ => by simp [countedFrom, countedFrom_length l]
theorem above_zero {ids : List Int} (h1 : ∀ x ∈ ids, 1 ≤ x) : above 0 ids = ids := by
  rw [above, List.filter_eq_self]
  intro x hx
  have := h1 x hx
  simp
  omega
/-- the logs of these counts -/
abbrev PL (ids : List Int) (counts : Cnt) : List Log := prodLogs ids 0 counts
theorem good_mem {ids : List Int} (h : Asc ids) (h1 : ∀ x ∈ ids, 1 ≤ x) (counts : Cnt) (log : Log) :
    log ∈ (allLogs counts.length ids).filter (fun l => decide (countedFrom 0 l = counts)) ↔ log ∈ PL ids counts := by
  rw [List.mem_filter, mem_allLogs, PL, mem_prodLogs h, above_zero h1]
  constructor
  · rintro ⟨⟨_, b⟩, c⟩
    exact ⟨by simpa using c, b⟩
  · rintro ⟨a, b⟩
    exact ⟨⟨by rw [← a, countedFrom_length], b⟩, by simpa using a⟩
end M73
namespace M73
/-! ### numbers of choices -/
def ch : Nat → Nat → Nat
  | _, 0 => 1
  | 0, _ + 1 => 0
  | n + 1, k + 1 => ch n k + ch n (k + 1)
theorem ch_zero (n : Nat) : ch n 0 = 1 := by cases n <;> rfl
theorem ch_big : ∀ (n k : Nat), n < k → ch n k = 0
  | n, 0, h => by omega
  | 0, k + 1, _ => rfl
  | n + 1, k + 1, h => by simp [ch, ch_big n k (by omega), ch_big n (k + 1) (by omega)]
theorem ch_pos : ∀ (n k : Nat), k ≤ n → 0 < ch n k
  | n, 0, _ => by rw [ch_zero]; omega
  | 0, k + 1, h => by omega
  | n + 1, k + 1, h => by
    have := ch_pos n k (by omega)
    simp [ch]
    omega
theorem ch_step : ∀ (n k : Nat), ch n (k + 1) * (k + 1) = ch n k * (n - k)
  | 0, 0 => by simp [ch]
  | 0, k + 1 => by simp [ch]
  | n + 1, 0 => by
    have := ch_step n 0
    simp [ch, ch_zero] at this ⊢
    omega
  | n + 1, k + 1 => by
    have a := ch_step n (k + 1)
    have b := ch_step n k
    by_cases h : k + 1 ≤ n
    · obtain ⟨m, rfl⟩ : ∃ m, n = k + 1 + m := ⟨n - (k + 1), by omega⟩
      rw [show k + 1 + m - (k + 1) = m by omega] at a
      rw [show k + 1 + m - k = m + 1 by omega] at b
      rw [show k + 1 + m + 1 - (k + 1) = m + 1 by omega]
      simp only [ch]
      simp only [Nat.add_mul, Nat.mul_add] at a b ⊢
      omega
    · have e0 : ch n (k + 1) = 0 := ch_big _ _ (by omega)
      have e2 : ch n (k + 2) = 0 := ch_big _ _ (by omega)
      by_cases h2 : k = n
      · subst h2
        simp [ch, e0, e2]
      · have e3 : ch n k = 0 := ch_big _ _ (by omega)
        simp [ch, e0, e2, e3]
/-- m things, k of them chosen -/
def chZ (m k : Int) : Int := if 0 ≤ k ∧ k ≤ m then (ch m.toNat k.toNat : Int) else 0
theorem chZ_nat (m k : Nat) : chZ m k = ch m k := by
  unfold chZ
  split
  · simp
  · rw [ch_big m k (by omega)]
    rfl
theorem ch_turn {m k : Nat} (h : k < m) : ((ch m k : Int) * ((m : Int) - k)) / ((k : Int) + 1) = (ch m (k + 1) : Int) := by
  have e := ch_step m k
  have e2 : ((ch m k : Int) * ((m : Int) - k)) = (ch m (k + 1) : Int) * ((k : Int) + 1) := by
    have : ((m : Int) - k) = ((m - k : Nat) : Int) := by omega
    rw [this]
    exact_mod_cast e.symm
  rw [e2]
  exact Int.mul_ediv_cancel _ (by omega)
theorem subsE_length : ∀ (l : List Int) (n : Nat), l ≠ [] → ((subsE l n).length : Int) = chZ ((l.length : Int) - 1) ((n : Int) - 1)
  | [], _, h => absurd rfl h
  | [x], n, _ => by
    simp only [subsE]
    split
    · rename_i e
      subst e
      simp [chZ, ch]
    · simp only [List.length_nil, List.length_singleton]
      unfold chZ
      rw [if_neg (by omega)]
      rfl
  | x :: y :: r, 0, _ => by
    simp only [subsE, List.length_nil]
    unfold chZ
    rw [if_neg (by omega)]
    rfl
  | x :: y :: r, n + 1, _ => by
    simp only [subsE, List.length_append, List.length_map]
    have h1 := subsE_length (y :: r) n (by simp)
    have h2 := subsE_length (y :: r) (n + 1) (by simp)
    rw [Int.natCast_add, h1, h2]
    have e1 : (((y :: r).length : Nat) : Int) - 1 = ((r.length : Nat) : Int) := by simp
    have e2 : (((x :: y :: r).length : Nat) : Int) - 1 = ((r.length + 1 : Nat) : Int) := by simp
    rw [e1, e2]
    have e3 : (((n + 1 : Nat)) : Int) - 1 = ((n : Nat) : Int) := by omega
    rw [e3, chZ_nat, chZ_nat]
    cases n with
    | zero =>
      have : chZ ((r.length : Nat) : Int) (((0 : Nat) : Int) - 1) = 0 := by
        unfold chZ
        rw [if_neg (by omega)]
      rw [this, ch_zero, ch_zero]
      rfl
    | succ k =>
      have e4 : (((k + 1 : Nat)) : Int) - 1 = ((k : Nat) : Int) := by omega
      rw [e4, chZ_nat]
      rw [show ch (r.length + 1) (k + 1) = ch r.length k + ch r.length (k + 1) from rfl]
      omega
/-! ### the list with an index -/
def nthGo : List Int → Int → Int → List Int
  | [], _, _ => []
  | x :: rest, left, index =>
    if 0 < left ∧ index < (if rest = [] then 1 else chZ ((rest.length : Int) - 1) (left - 2)) then x :: nthGo rest (left - 1) index
    else nthGo rest left (index - (if rest = [] then 1 else chZ ((rest.length : Int) - 1) (left - 2)))
theorem nthGo_ok : ∀ (l : List Int) (n i : Nat), i < (subsE l n).length → some (nthGo l n i) = (subsE l n)[i]?
  | [], n, i, h => by simp [subsE] at h
  | [x], n, i, h => by
    simp only [subsE] at h ⊢
    split at h
    · rename_i e
      subst e
      have : i = 0 := by simpa using h
      subst this
      simp [nthGo]
    · simp at h
  | x :: y :: r, 0, i, h => by simp [subsE] at h
  | x :: y :: r, n + 1, i, h => by
    have hl := subsE_length (y :: r) n (by simp)
    have e1 : (((n + 1 : Nat)) : Int) - 2 = (n : Int) - 1 := by omega
    have hm : (if y :: r = [] then 1 else chZ (((y :: r).length : Int) - 1) (((n + 1 : Nat) : Int) - 2)) = ((subsE (y :: r) n).length : Int) := by
      rw [if_neg (by simp), e1, hl]
    rw [nthGo, hm]
    simp only [subsE] at h ⊢
    by_cases hi : i < (subsE (y :: r) n).length
    · rw [if_pos ⟨by omega, by omega⟩, List.getElem?_append_left (by simpa using hi), List.getElem?_map]
      have := nthGo_ok (y :: r) n i hi
      rw [← this]
      have e : (((n + 1 : Nat)) : Int) - 1 = (n : Int) := by omega
      rw [e]
      rfl
    · rw [if_neg (by omega), List.getElem?_append_right (by simpa using hi), List.length_map]
      have h' : i - (subsE (y :: r) n).length < (subsE (y :: r) (n + 1)).length := by
        rw [List.length_append, List.length_map] at h
        omega
      have := nthGo_ok (y :: r) (n + 1) (i - (subsE (y :: r) n).length) h'
      rw [← this]
      have e : (i : Int) - ((subsE (y :: r) n).length : Int) = ((i - (subsE (y :: r) n).length : Nat) : Int) := by omega
      rw [e]
/-! ### counts and their parts -/
def partsL (ids : List Int) : Int → Cnt → List (List Int)
  | _, [] => []
  | c, (_, d) :: r => part c d ids :: partsL ids d r
theorem partsL_length (ids : List Int) : ∀ (c : Int) (counts : Cnt), (partsL ids c counts).length = counts.length
  | _, [] => rfl
  | _, (_, d) :: r => by simp [partsL, partsL_length ids d r]
/-- each poll's number and part -/
def zsOf (ids : List Int) (c : Int) (counts : Cnt) : List (Int × List Int) := (counts.zip (partsL ids c counts)).map fun p => (p.1.1, p.2)
theorem zsOf_nil (ids : List Int) (c : Int) : zsOf ids c [] = [] := rfl
theorem zsOf_cons (ids : List Int) (c n d : Int) (r : Cnt) : zsOf ids c ((n, d) :: r) = (n, part c d ids) :: zsOf ids d r := rfl
/-- one poll can be so -/
def okRow (ids : List Int) (c n d : Int) : Bool :=
  !(decide (d < c) || (decide (d = c) && decide (0 < n))) &&
  !(decide (c < d) && (decide (part c d ids = []) || !decide ((part c d ids).getLast? = some d) || !(decide (1 ≤ n) && decide (n ≤ ((part c d ids).length : Int)))))
def fitB (ids : List Int) : Int → Cnt → Bool
  | _, [] => true
  | c, (n, d) :: r => okRow ids c n d && fitB ids d r
def wayOf (z : Int × List Int) : Int := if z.2 = [] then 1 else chZ ((z.2.length : Int) - 1) (z.1 - 1)
def waysL (zs : List (Int × List Int)) : Int := zs.foldl (fun a z => a * wayOf z) 1
theorem subsE_ne {l : List Int} {n : Nat} (hl : l ≠ []) (h1 : 1 ≤ n) (h2 : n ≤ l.length) : subsE l n ≠ [] := by
  intro e
  have := subsE_length l n hl
  rw [e] at this
  have e1 : (l.length : Int) - 1 = ((l.length - 1 : Nat) : Int) := by omega
  have e2 : (n : Int) - 1 = ((n - 1 : Nat) : Int) := by omega
  rw [e1, e2, chZ_nat] at this
  have := ch_pos (l.length - 1) (n - 1) (by omega)
  simp at *
  omega
theorem subsE_bounds {l : List Int} {n : Nat} (hl : l ≠ []) (h : subsE l n ≠ []) : 1 ≤ n ∧ n ≤ l.length := by
  have e := subsE_length l n hl
  have hp := List.length_pos_iff.mpr h
  unfold chZ at e
  split at e
  · omega
  · omega
theorem rowsOf_ne {ids : List Int} {c n d : Int} (hn : 0 ≤ n) : okRow ids c n d = true ↔ rowsOf ids c n d ≠ [] := by
  unfold okRow rowsOf
  by_cases h1 : d = c
  · subst h1
    by_cases h2 : n = 0
    · simp [h2]
    · have : 0 < n := by omega
      simp [h2, this]
  · by_cases h2 : d < c
    · simp [h1, h2]
    · have h3 : c < d := by omega
      simp only [h1, h2, h3, decide_true, decide_false, if_false, Bool.false_or, Bool.false_and, Bool.not_false, Bool.true_and, Bool.not_eq_true', Bool.or_eq_false_iff, decide_eq_false_iff_not, Bool.not_eq_false', Bool.and_eq_true, decide_eq_true_eq]
      constructor
      · rintro ⟨⟨a, b⟩, e, f⟩
        rw [if_pos b]
        exact subsE_ne a (by omega) (by omega)
      · intro h
        split at h
        · rename_i hl
          have ha : part c d ids ≠ [] := by
            intro z
            rw [z] at hl
            simp at hl
          have := subsE_bounds ha h
          exact ⟨⟨ha, hl⟩, by omega, by omega⟩
        · exact absurd rfl h
theorem prod_ne {ids : List Int} : ∀ (counts : Cnt) (c : Int), (∀ p ∈ counts, 0 ≤ p.1) → (fitB ids c counts = true ↔ prodLogs ids c counts ≠ [])
  | [], c, _ => by simp [fitB, prodLogs]
  | (n, d) :: r, c, h => by
    have h0 := h (n, d) (by simp)
    have ih := prod_ne (ids := ids) r d fun p hp => h p (List.mem_cons_of_mem _ hp)
    simp only [fitB, Bool.and_eq_true, prodLogs]
    rw [rowsOf_ne h0, ih]
    constructor
    · rintro ⟨a, b⟩ e
      rw [List.flatMap_eq_nil_iff] at e
      obtain ⟨x, hx⟩ := List.exists_mem_of_ne_nil _ a
      have := e x hx
      rw [List.map_eq_nil_iff] at this
      exact b this
    · intro h
      constructor
      · intro e
        rw [e] at h
        exact h rfl
      · intro e
        apply h
        rw [e, List.flatMap_eq_nil_iff]
        intro x _
        rfl
theorem part_nil {ids : List Int} {c d : Int} (h : d ≤ c) : part c d ids = [] := by
  rw [part, List.filter_eq_nil_iff]
  intro x _
  simp
  omega
theorem rowsOf_length {ids : List Int} {c n d : Int} (hn : 0 ≤ n) (h : okRow ids c n d = true) : ((rowsOf ids c n d).length : Int) = wayOf (n, part c d ids) := by
  have hne := (rowsOf_ne hn).mp h
  unfold rowsOf at hne ⊢
  split
  · rename_i e
    subst e
    rw [if_pos rfl] at hne
    split at hne
    · rename_i e2
      rw [if_pos e2]
      simp [wayOf, part_nil (Int.le_refl d)]
    · exact absurd rfl hne
  · rename_i e
    rw [if_neg e] at hne
    split at hne
    · exact absurd rfl hne
    · rename_i e2
      rw [if_neg e2]
      split at hne
      · rename_i hl
        rw [if_pos hl]
        have ha : part c d ids ≠ [] := by
          intro z
          rw [z] at hl
          simp at hl
        rw [subsE_length _ _ ha, wayOf, if_neg ha]
        congr 1
        omega
      · exact absurd rfl hne
theorem foldl_mul (f : Int × List Int → Int) : ∀ (zs : List (Int × List Int)) (a : Int), zs.foldl (fun a z => a * f z) a = a * zs.foldl (fun a z => a * f z) 1
  | [], a => by simp
  | z :: zs, a => by
    simp only [List.foldl_cons]
    rw [foldl_mul f zs (a * f z), foldl_mul f zs (1 * f z), Int.one_mul, Int.mul_assoc]
theorem waysL_cons (z : Int × List Int) (zs : List (Int × List Int)) : waysL (z :: zs) = wayOf z * waysL zs := by
  unfold waysL
  rw [List.foldl_cons, foldl_mul, Int.one_mul]
theorem flatMap_map_length {α : Type} (R : List α) (S : List (List α)) : (R.flatMap fun x => S.map (x :: ·)).length = R.length * S.length := by
  induction R with
  | nil => simp
  | cons x R ih => simp [List.flatMap_cons, ih, Nat.add_mul, Nat.add_comm]
theorem prod_length {ids : List Int} : ∀ (counts : Cnt) (c : Int), (∀ p ∈ counts, 0 ≤ p.1) → fitB ids c counts = true → ((prodLogs ids c counts).length : Int) = waysL (zsOf ids c counts)
  | [], c, _, _ => rfl
  | (n, d) :: r, c, h, hf => by
    have h0 := h (n, d) (by simp)
    simp only [fitB, Bool.and_eq_true] at hf
    have ih := prod_length (ids := ids) r d (fun p hp => h p (List.mem_cons_of_mem _ hp)) hf.2
    rw [zsOf_cons, waysL_cons, ← ih, ← rowsOf_length h0 hf.1]
    simp only [prodLogs]
    rw [flatMap_map_length]
    exact Int.natCast_mul _ _
/-! ### the log with a number -/
def dig : List (Int × List Int) → Int → Int × Log
  | [], k => (k, [])
  | z :: zs, k => ((dig zs k).1 / wayOf z, nthGo z.2 z.1 ((dig zs k).1 % wayOf z) :: (dig zs k).2)
theorem flatMap_get {α : Type} (S : List (List α)) : ∀ (R : List α) (i j : Nat) (x : α) (y : List α), R[i]? = some x → S[j]? = some y → (R.flatMap fun x => S.map (x :: ·))[i * S.length + j]? = some (x :: y)
  | [], i, j, x, y, h, _ => by simp at h
  | a :: R, 0, j, x, y, h, hy => by
    have : a = x := by simpa using h
    subst this
    have hj : j < S.length := (List.getElem?_eq_some_iff.mp hy).1
    rw [List.flatMap_cons, List.getElem?_append_left (by simpa using hj), Nat.zero_mul, Nat.zero_add, List.getElem?_map, hy]
    rfl
  | a :: R, i + 1, j, x, y, h, hy => by
    rw [List.flatMap_cons, List.getElem?_append_right (by rw [List.length_map, Nat.add_mul]; omega), List.length_map]
    rw [show (i + 1) * S.length + j - S.length = i * S.length + j by rw [Nat.add_mul]; omega]
    exact flatMap_get S R i j x y (by simpa using h) hy
theorem rowsOf_nth {ids : List Int} {c n d : Int} (hn : 0 ≤ n) (h : okRow ids c n d = true) {i : Nat} (hi : i < (rowsOf ids c n d).length) : (rowsOf ids c n d)[i]? = some (nthGo (part c d ids) n i) := by
  have hne := (rowsOf_ne hn).mp h
  unfold rowsOf at hne hi ⊢
  split
  · rename_i e
    subst e
    rw [if_pos rfl] at hne hi
    split at hne
    · rename_i e2
      rw [if_pos e2] at hi ⊢
      have : i = 0 := by simpa using hi
      subst this
      rw [part_nil (Int.le_refl d)]
      rfl
    · exact absurd rfl hne
  · rename_i e
    rw [if_neg e] at hne hi
    split at hne
    · exact absurd rfl hne
    · rename_i e2
      rw [if_neg e2] at hi ⊢
      split at hne
      · rename_i hl
        rw [if_pos hl] at hi ⊢
        have := nthGo_ok (part c d ids) n.toNat i hi
        rw [← this]
        congr 2
        omega
      · exact absurd rfl hne
theorem dig_ok {ids : List Int} : ∀ (counts : Cnt) (c : Int), (∀ p ∈ counts, 0 ≤ p.1) → fitB ids c counts = true → ∀ k : Nat,
    (dig (zsOf ids c counts) k).1 = ((k / (prodLogs ids c counts).length : Nat) : Int) ∧ (prodLogs ids c counts)[k % (prodLogs ids c counts).length]? = some (dig (zsOf ids c counts) k).2
  | [], c, _, _, k => by simp [zsOf, prodLogs, dig, Nat.mod_one]
  | (n, d) :: r, c, h, hf, k => by
    have h0 := h (n, d) (by simp)
    have hf' := hf
    simp only [fitB, Bool.and_eq_true] at hf
    have hr : ∀ p ∈ r, 0 ≤ p.1 := fun p hp => h p (List.mem_cons_of_mem _ hp)
    obtain ⟨e1, e2⟩ := dig_ok (ids := ids) r d hr hf.2 k
    have hS := List.length_pos_iff.mpr ((prod_ne r d hr).mp hf.2)
    have hR := List.length_pos_iff.mpr ((rowsOf_ne h0).mp hf.1)
    have eR := rowsOf_length h0 hf.1
    rw [zsOf_cons]
    simp only [dig, prodLogs]
    rw [flatMap_map_length, e1, ← eR]
    generalize hSg : prodLogs ids d r = S at *
    generalize hRg : rowsOf ids c n d = R at *
    have hi : k / S.length % R.length < R.length := Nat.mod_lt _ hR
    have x1 := rowsOf_nth (ids := ids) (c := c) (d := d) h0 hf.1 (i := k / S.length % R.length) (by rw [hRg]; exact hi)
    rw [hRg] at x1
    refine ⟨?_, ?_⟩
    · rw [← Int.natCast_ediv, Nat.div_div_eq_div_mul, Nat.mul_comm]
    · rw [show k % (R.length * S.length) = (k / S.length % R.length) * S.length + k % S.length by
        rw [Nat.mul_comm R.length S.length, Nat.mod_mul, Nat.mul_comm S.length]; omega]
      have := flatMap_get S R _ _ _ _ x1 e2
      rw [this]
      congr 2
/-! ### ascending -/
theorem subsE_head : ∀ (l : List Int) (n : Nat) (rows : List Int), rows ∈ subsE l n → ∃ x r, rows = x :: r ∧ x ∈ l
  | [], n, rows, h => by simp [subsE] at h
  | [x], n, rows, h => by
    simp only [subsE] at h
    split at h
    · simp at h
      exact ⟨x, [], h, by simp⟩
    · simp at h
  | x :: y :: r, 0, rows, h => by simp [subsE] at h
  | x :: y :: r, n + 1, rows, h => by
    simp only [subsE, List.mem_append, List.mem_map] at h
    rcases h with ⟨z, _, rfl⟩ | h
    · exact ⟨x, z, rfl, by simp⟩
    · obtain ⟨a, b, c, d⟩ := subsE_head (y :: r) (n + 1) rows h
      exact ⟨a, b, c, List.mem_cons_of_mem _ d⟩
theorem subsE_sorted : ∀ (l : List Int) (n : Nat), Asc l → (subsE l n).Pairwise (· < ·)
  | [], n, _ => by simp [subsE]
  | [x], n, _ => by
    simp only [subsE]
    split <;> simp
  | x :: y :: r, 0, _ => by simp [subsE]
  | x :: y :: r, n + 1, h => by
    rw [Asc, List.pairwise_cons] at h
    simp only [subsE, List.pairwise_append, List.pairwise_map]
    refine ⟨?_, subsE_sorted (y :: r) (n + 1) h.2, ?_⟩
    · refine (subsE_sorted (y :: r) n h.2).imp ?_
      intro a b hab
      exact List.cons_lt_cons_iff.mpr (.inr ⟨rfl, hab⟩)
    · intro a ha b hb
      obtain ⟨z, _, rfl⟩ := List.mem_map.mp ha
      obtain ⟨u, v, rfl, hu⟩ := subsE_head _ _ _ hb
      exact List.cons_lt_cons_iff.mpr (.inl (h.1 u hu))
theorem rowsOf_sorted {ids : List Int} (h : Asc ids) (c n d : Int) : (rowsOf ids c n d).Pairwise (· < ·) := by
  unfold rowsOf
  split
  · split <;> simp
  · split
    · simp
    · split
      · exact subsE_sorted _ _ (part_asc h c d)
      · simp
theorem prod_sorted {ids : List Int} (h : Asc ids) : ∀ (counts : Cnt) (c : Int), (prodLogs ids c counts).Pairwise (· < ·)
  | [], c => by simp [prodLogs]
  | (n, d) :: r, c => by
    simp only [prodLogs, List.pairwise_flatMap, List.pairwise_map]
    refine ⟨fun a _ => (prod_sorted h r d).imp fun hab => List.cons_lt_cons_iff.mpr (.inr ⟨rfl, hab⟩), ?_⟩
    refine (rowsOf_sorted h c n d).imp ?_
    intro a b hab x hx y hy
    obtain ⟨u, _, rfl⟩ := List.mem_map.mp hx
    obtain ⟨v, _, rfl⟩ := List.mem_map.mp hy
    exact List.cons_lt_cons_iff.mpr (.inl hab)
theorem prod_nodup {ids : List Int} (h : Asc ids) (counts : Cnt) (c : Int) : (prodLogs ids c counts).Nodup := by
  refine (prod_sorted h counts c).imp ?_
  intro a b hab e
  subst e
  exact List.lt_irrefl a hab
theorem good_sorted {ids : List Int} (h : Asc ids) (h1 : ∀ x ∈ ids, 1 ≤ x) (counts : Cnt) :
    ((allLogs counts.length ids).filter (fun l => decide (countedFrom 0 l = counts))).mergeSort (fun p q => decide (p ≤ q)) = PL ids counts := by
  have hp : ((allLogs counts.length ids).filter (fun l => decide (countedFrom 0 l = counts))).Perm (PL ids counts) := by
    rw [List.perm_ext_iff_of_nodup (List.Pairwise.sublist List.filter_sublist (allLogs_nodup counts.length ids h.nodup)) (prod_nodup h counts 0)]
    intro a
    exact good_mem h h1 counts a
  refine List.Perm.eq_of_pairwise (le := (· ≤ ·)) ?_ ?_ ?_ ((List.mergeSort_perm _ _).trans hp)
  · intro a b _ _ h1 h2
    exact List.le_antisymm h1 h2
  · have := List.pairwise_mergeSort (le := fun (p q : Log) => decide (p ≤ q)) (fun a b c h1 h2 => by
      simp only [decide_eq_true_eq] at *
      exact List.le_trans h1 h2) (fun a b => by
      simp only [Bool.or_eq_true, decide_eq_true_eq]
      exact List.le_total a b) ((allLogs counts.length ids).filter (fun l => decide (countedFrom 0 l = counts)))
    exact this.imp fun h => by simpa using h
  · exact (prod_sorted h counts 0).imp fun h => List.le_of_lt h
end M73
namespace M73
/-! ### bounds -/
theorem ch_le : ∀ (n k : Nat), ch n k ≤ 2 ^ n
  | n, 0 => by
    rw [ch_zero]
    exact Nat.one_le_two_pow
  | 0, k + 1 => by simp [ch]
  | n + 1, k + 1 => by
    have a := ch_le n k
    have b := ch_le n (k + 1)
    simp only [ch]
    rw [Nat.pow_succ]
    omega
theorem chZ_nonneg (m k : Int) : 0 ≤ chZ m k := by
  unfold chZ
  split <;> omega
theorem chZ_le {m k : Int} {b : Nat} (h : m ≤ b) : chZ m k ≤ 2 ^ b := by
  unfold chZ
  split
  · have := ch_le m.toNat k.toNat
    have h2 : 2 ^ m.toNat ≤ 2 ^ b := Nat.pow_le_pow_right (by omega) (by omega)
    exact_mod_cast Nat.le_trans this h2
  · exact_mod_cast Nat.zero_le _
theorem wayOf_nonneg (z : Int × List Int) : 0 ≤ wayOf z := by
  unfold wayOf
  split
  · omega
  · exact chZ_nonneg _ _
theorem wayOf_le {z : Int × List Int} {b : Nat} (h : z.2.length ≤ b + 1) : wayOf z ≤ 2 ^ b := by
  unfold wayOf
  split
  · exact_mod_cast Nat.one_le_two_pow
  · exact chZ_le (by omega)
theorem part_length (c d : Int) (ids : List Int) : (part c d ids).length ≤ ids.length := List.length_filter_le _ _
theorem zs_length {ids : List Int} : ∀ (counts : Cnt) (c : Int) (z : Int × List Int), z ∈ zsOf ids c counts → z.2.length ≤ ids.length
  | [], c, z, h => by simp [zsOf] at h
  | (n, d) :: r, c, z, h => by
    rw [zsOf_cons] at h
    rcases List.mem_cons.mp h with rfl | h
    · exact part_length _ _ _
    · exact zs_length r d z h
theorem way_pos {ids : List Int} : ∀ (counts : Cnt) (c : Int), (∀ p ∈ counts, 0 ≤ p.1) → fitB ids c counts = true → ∀ z ∈ zsOf ids c counts, 0 < wayOf z
  | [], c, _, _, z, h => by simp [zsOf] at h
  | (n, d) :: r, c, h0, hf, z, h => by
    have h1 := h0 (n, d) (by simp)
    simp only [fitB, Bool.and_eq_true] at hf
    rw [zsOf_cons] at h
    rcases List.mem_cons.mp h with rfl | h
    · rw [← rowsOf_length h1 hf.1]
      have := List.length_pos_iff.mpr ((rowsOf_ne h1).mp hf.1)
      omega
    · exact way_pos r d (fun p hp => h0 p (List.mem_cons_of_mem _ hp)) hf.2 z h
theorem zsOf_length (ids : List Int) (c : Int) (counts : Cnt) : (zsOf ids c counts).length = counts.length := by
  simp [zsOf, partsL_length]
theorem zsOf_get {ids : List Int} {c : Int} {counts : Cnt} {i : Nat} {n d : Int} {p : List Int} (h1 : counts[i]? = some (n, d)) (h2 : (partsL ids c counts)[i]? = some p) : (zsOf ids c counts)[i]? = some (n, p) := by
  unfold zsOf
  rw [List.getElem?_map, (List.getElem?_zip_eq_some (z := ((n, d), p))).mpr ⟨h1, h2⟩]
  rfl
/-! ### states -/
inductive S4 where
  | rd | ls | op | un
  deriving DecidableEq
def stateIn (p : List Int) (n x : Int) : S4 := if p.getLast? = some x ∨ n = (p.length : Int) then .rd else if n = 1 then .ls else .un
/-- what states_by tells -/
def told : List (Int × List Int) → (Int → S4) → Int → S4
  | [], f, x => f x
  | z :: zs, f, x => told zs (fun y => if y ∈ z.2 then stateIn z.2 z.1 y else f y) x
def lawState (log : Log) (cur x : Int) : S4 := if x ∈ log.flatten then .rd else if x < cur then .ls else .op
def curOf : Int → Cnt → Int
  | c, [] => c
  | _, (_, d) :: r => curOf d r
theorem told_congr : ∀ (zs : List (Int × List Int)) (f g : Int → S4) (x : Int), f x = g x → told zs f x = told zs g x
  | [], f, g, x, h => h
  | z :: zs, f, g, x, h => told_congr zs _ _ x (by
    rw [h])
theorem okRow_le {ids : List Int} {c n d : Int} (h : okRow ids c n d = true) : c ≤ d := by
  unfold okRow at h
  simp only [Bool.and_eq_true, Bool.not_eq_true', Bool.or_eq_false_iff, decide_eq_false_iff_not] at h
  omega
theorem fit_le {ids : List Int} : ∀ (counts : Cnt) (c : Int), fitB ids c counts = true → c ≤ curOf c counts
  | [], c, _ => Int.le_refl c
  | (n, d) :: r, c, h => by
    simp only [fitB, Bool.and_eq_true] at h
    have a := okRow_le h.1
    have b := fit_le r d h.2
    show c ≤ curOf d r
    omega
/-- rows up to the old cursor are told nothing more -/
theorem told_below {ids : List Int} : ∀ (counts : Cnt) (c : Int) (f : Int → S4) (x : Int), fitB ids c counts = true → x ≤ c → told (zsOf ids c counts) f x = f x
  | [], c, f, x, _, _ => rfl
  | (n, d) :: r, c, f, x, h, hx => by
    simp only [fitB, Bool.and_eq_true] at h
    have a := okRow_le h.1
    rw [zsOf_cons]
    simp only [told]
    rw [told_below r d _ x h.2 (by omega), if_neg]
    intro hm
    have := (mem_part.mp hm).2.1
    omega
theorem subsE_with : ∀ (l : List Int) (n : Nat) (x : Int), Asc l → x ∈ l → l.getLast? ≠ some x → 2 ≤ n → n ≤ l.length → ∃ rows ∈ subsE l n, x ∈ rows
  | [], n, x, _, h, _, _, _ => by simp at h
  | [y], n, x, _, h, h2, _, _ => by
    have : x = y := by simpa using h
    subst this
    simp at h2
  | a :: b :: r, 0, x, _, _, _, h, _ => by omega
  | a :: b :: r, n + 1, x, hA, hx, hl, h1, h2 => by
    rw [Asc, List.pairwise_cons] at hA
    rw [List.getLast?_cons_cons] at hl
    simp only [subsE, List.mem_append, List.mem_map]
    simp at h2
    by_cases e : x = a
    · obtain ⟨z, hz⟩ := List.exists_mem_of_ne_nil _ (subsE_ne (l := b :: r) (n := n) (by simp) (by omega) (by simp; omega))
      exact ⟨a :: z, .inl ⟨z, hz, rfl⟩, by simp [e]⟩
    · have hx' : x ∈ b :: r := by
        rcases List.mem_cons.mp hx with h | h
        · exact absurd h e
        · exact h
      by_cases h3 : n + 1 ≤ (b :: r).length
      · obtain ⟨rows, hr, hm⟩ := subsE_with (b :: r) (n + 1) x hA.2 hx' hl h1 h3
        exact ⟨rows, .inr hr, hm⟩
      · have hlen : n = (b :: r).length := by simp at h3 ⊢; omega
        have h4 : 2 ≤ n := by
          cases r with
          | nil =>
            have : x = b := by simpa using hx'
            subst this
            simp at hl
          | cons c r => simp at hlen; omega
        obtain ⟨rows, hr, hm⟩ := subsE_with (b :: r) n x hA.2 hx' hl h4 (by omega)
        exact ⟨a :: rows, .inl ⟨rows, hr, rfl⟩, by simp [hm]⟩
theorem subsE_without : ∀ (l : List Int) (n : Nat) (x : Int), Asc l → x ∈ l → l.getLast? ≠ some x → 1 ≤ n → n < l.length → ∃ rows ∈ subsE l n, x ∉ rows
  | [], n, x, _, h, _, _, _ => by simp at h
  | [y], n, x, _, h, h2, _, _ => by
    have : x = y := by simpa using h
    subst this
    simp at h2
  | a :: b :: r, 0, x, _, _, _, h, _ => by omega
  | a :: b :: r, n + 1, x, hA, hx, hl, h1, h2 => by
    rw [Asc, List.pairwise_cons] at hA
    rw [List.getLast?_cons_cons] at hl
    simp only [subsE, List.mem_append, List.mem_map]
    simp at h2
    by_cases e : x = a
    · obtain ⟨z, hz⟩ := List.exists_mem_of_ne_nil _ (subsE_ne (l := b :: r) (n := n + 1) (by simp) (by omega) (by simp; omega))
      refine ⟨z, .inr hz, fun hm => ?_⟩
      have hs := ((mem_subsE _ _ _ hA.2).mp hz).1.subset hm
      have := hA.1 x hs
      omega
    · have hx' : x ∈ b :: r := by
        rcases List.mem_cons.mp hx with h | h
        · exact absurd h e
        · exact h
      by_cases h3 : n + 1 < (b :: r).length
      · obtain ⟨rows, hr, hm⟩ := subsE_without (b :: r) (n + 1) x hA.2 hx' hl h1 h3
        exact ⟨rows, .inr hr, hm⟩
      · have hlen : n + 1 = (b :: r).length := by simp at h3 ⊢; omega
        have h4 : 1 ≤ n := by
          cases r with
          | nil =>
            have : x = b := by simpa using hx'
            subst this
            simp at hl
          | cons c r => simp at hlen; omega
        obtain ⟨rows, hr, hm⟩ := subsE_without (b :: r) n x hA.2 hx' hl h4 (by omega)
        refine ⟨a :: rows, .inl ⟨rows, hr, rfl⟩, ?_⟩
        simp [hm, e]
/-- a row's part in a log of these -/
theorem rowsOf_le {ids : List Int} (h : Asc ids) {c n d : Int} {rows : List Int} (hr : rows ∈ rowsOf ids c n d) : ∀ x ∈ rows, c < x ∧ x ≤ d := by
  obtain ⟨_, _, h3⟩ := (mem_rowsOf h c n d rows []).mp ⟨hr, List.nil_sublist _⟩
  have hm := (mem_rowsOf h c n d rows []).mp ⟨hr, List.nil_sublist _⟩
  intro x hx
  refine ⟨(mem_above.mp (h3.subset (List.mem_append_left _ hx))).2, ?_⟩
  rw [← hm.2.1]
  exact maxL_ge c rows x hx
theorem told_ok {ids : List Int} (hA : Asc ids) : ∀ (counts : Cnt) (c : Int) (f : Int → S4) (x : Int), (∀ p ∈ counts, 0 ≤ p.1) → fitB ids c counts = true → x ∈ ids → c < x → f x = .op →
    (told (zsOf ids c counts) f x = .rd → ∀ log ∈ prodLogs ids c counts, x ∈ log.flatten) ∧
    (told (zsOf ids c counts) f x = .ls → x < curOf c counts ∧ ∀ log ∈ prodLogs ids c counts, x ∉ log.flatten) ∧
    (told (zsOf ids c counts) f x = .op → ¬ x < curOf c counts ∧ ∀ log ∈ prodLogs ids c counts, x ∉ log.flatten) ∧
    (told (zsOf ids c counts) f x = .un → x < curOf c counts ∧ (∃ log ∈ prodLogs ids c counts, x ∈ log.flatten) ∧ ∃ log ∈ prodLogs ids c counts, x ∉ log.flatten)
  | [], c, f, x, _, _, _, hc, hf => by
    simp only [zsOf_nil, told, hf, curOf, prodLogs, List.mem_singleton, forall_eq, List.flatten_nil, List.not_mem_nil, not_false_eq_true, and_true]
    refine ⟨fun h => (by cases h), fun h => (by cases h), fun _ => by omega, fun h => (by cases h)⟩
  | (n, d) :: r, c, f, x, h0, hfit, hx, hc, hf => by
    have h1 := h0 (n, d) (by simp)
    have hr0 : ∀ p ∈ r, 0 ≤ p.1 := fun p hp => h0 p (List.mem_cons_of_mem _ hp)
    simp only [fitB, Bool.and_eq_true] at hfit
    have hcd := okRow_le hfit.1
    have hcur := fit_le r d hfit.2
    have hR := (rowsOf_ne h1).mp hfit.1
    have hS := (prod_ne r d hr0).mp hfit.2
    obtain ⟨R0, hR0⟩ := List.exists_mem_of_ne_nil _ hR
    obtain ⟨S0, hS0⟩ := List.exists_mem_of_ne_nil _ hS
    have hsub : ∀ l ∈ prodLogs ids d r, ∀ y ∈ l.flatten, d < y := fun l hl y hy => (mem_above.mp (((mem_prodLogs hA r d l).mp hl).2.subset hy)).2
    rw [zsOf_cons]
    simp only [told, curOf]
    by_cases hxd : x ≤ d
    · -- in this part
      have hxp : x ∈ part c d ids := mem_part.mpr ⟨hx, hc, hxd⟩
      rw [told_below r d _ x hfit.2 hxd, if_pos hxp]
      have hlt : c < d := by omega
      have hlast : (part c d ids).getLast? = some d ∧ rowsOf ids c n d = subsE (part c d ids) n.toNat := by
        unfold rowsOf at hR ⊢
        rw [if_neg (by omega), if_neg (by omega)] at hR ⊢
        split at hR
        · rename_i hl
          rw [if_pos hl]
          exact ⟨hl, rfl⟩
        · exact absurd rfl hR
      have hpA := part_asc hA c d
      have hpne : part c d ids ≠ [] := List.ne_nil_of_mem hxp
      have hb := subsE_bounds hpne (by rw [← hlast.2]; exact hR)
      have key : ∀ log, log ∈ prodLogs ids c ((n, d) :: r) ↔ ∃ rows ∈ subsE (part c d ids) n.toNat, ∃ l ∈ prodLogs ids d r, log = rows :: l := by
        intro log
        simp only [prodLogs, List.mem_flatMap, List.mem_map]
        rw [hlast.2]
        constructor
        · rintro ⟨a, ha, l, hl, rfl⟩
          exact ⟨a, ha, l, hl, rfl⟩
        · rintro ⟨a, ha, l, hl, rfl⟩
          exact ⟨a, ha, l, hl, rfl⟩
      have mem : ∀ rows l, l ∈ prodLogs ids d r → (x ∈ (rows :: l).flatten ↔ x ∈ rows) := by
        intro rows l hl
        rw [List.flatten_cons, List.mem_append]
        constructor
        · rintro (h | h)
          · exact h
          · have := hsub l hl x h
            omega
        · exact .inl
      unfold stateIn
      by_cases e1 : (part c d ids).getLast? = some x ∨ n = ((part c d ids).length : Int)
      · rw [if_pos e1]
        refine ⟨fun _ log hlog => ?_, fun h => (by cases h), fun h => (by cases h), fun h => (by cases h)⟩
        obtain ⟨rows, hrows, l, hl, rfl⟩ := (key log).mp hlog
        rw [mem rows l hl]
        obtain ⟨s1, s2, s3, s4⟩ := (mem_subsE _ _ _ hpA).mp hrows
        rcases e1 with e1 | e1
        · rw [e1] at s4
          exact List.mem_of_getLast? s4
        · have : rows = part c d ids := s1.eq_of_length (by omega)
          rw [this]
          exact hxp
      · rw [if_neg e1]
        rw [not_or] at e1
        have hxd' : x < d := by
          rcases Int.lt_or_eq_of_le hxd with h | h
          · exact h
          · rw [hlast.1, h] at e1
            exact absurd rfl e1.1
        by_cases e2 : n = 1
        · rw [if_pos e2]
          refine ⟨fun h => (by cases h), fun _ => ⟨by omega, fun log hlog => ?_⟩, fun h => (by cases h), fun h => (by cases h)⟩
          obtain ⟨rows, hrows, l, hl, rfl⟩ := (key log).mp hlog
          rw [mem rows l hl]
          obtain ⟨s1, s2, s3, s4⟩ := (mem_subsE _ _ _ hpA).mp hrows
          rw [hlast.1] at s4
          have hlen : rows.length = 1 := by rw [s2, e2]; rfl
          match rows, hlen with
          | [z], _ =>
            have : z = d := by simpa using s4
            subst this
            simp
            omega
        · rw [if_neg e2]
          refine ⟨fun h => (by cases h), fun h => (by cases h), fun h => (by cases h), fun _ => ⟨by omega, ?_, ?_⟩⟩
          · obtain ⟨rows, hrows, hm⟩ := subsE_with _ n.toNat x hpA hxp e1.1 (by omega) hb.2
            exact ⟨rows :: S0, (key _).mpr ⟨rows, hrows, S0, hS0, rfl⟩, (mem rows S0 hS0).mpr hm⟩
          · obtain ⟨rows, hrows, hm⟩ := subsE_without _ n.toNat x hpA hxp e1.1 hb.1 (by omega)
            exact ⟨rows :: S0, (key _).mpr ⟨rows, hrows, S0, hS0, rfl⟩, fun z => hm ((mem rows S0 hS0).mp z)⟩
    · -- behind it
      have hxd' : d < x := by omega
      have hxp : x ∉ part c d ids := fun h => hxd (mem_part.mp h).2.2
      have ih := told_ok hA r d (fun y => if y ∈ part c d ids then stateIn (part c d ids) n y else f y) x hr0 hfit.2 hx hxd' (by
        rw [if_neg hxp]
        exact hf)
      have key : ∀ log, log ∈ prodLogs ids c ((n, d) :: r) ↔ ∃ rows ∈ rowsOf ids c n d, ∃ l ∈ prodLogs ids d r, log = rows :: l := by
        intro log
        simp only [prodLogs, List.mem_flatMap, List.mem_map]
        constructor
        · rintro ⟨a, ha, l, hl, rfl⟩
          exact ⟨a, ha, l, hl, rfl⟩
        · rintro ⟨a, ha, l, hl, rfl⟩
          exact ⟨a, ha, l, hl, rfl⟩
      have mem : ∀ rows l, rows ∈ rowsOf ids c n d → (x ∈ (rows :: l).flatten ↔ x ∈ l.flatten) := by
        intro rows l hrows
        rw [List.flatten_cons, List.mem_append]
        constructor
        · rintro (h | h)
          · have := (rowsOf_le hA hrows x h).2
            omega
          · exact h
        · exact .inr
      obtain ⟨i1, i2, i3, i4⟩ := ih
      refine ⟨fun h log hlog => ?_, fun h => ⟨(i2 h).1, fun log hlog => ?_⟩, fun h => ⟨(i3 h).1, fun log hlog => ?_⟩, fun h => ⟨(i4 h).1, ?_, ?_⟩⟩
      · obtain ⟨rows, hrows, l, hl, rfl⟩ := (key log).mp hlog
        exact (mem rows l hrows).mpr (i1 h l hl)
      · obtain ⟨rows, hrows, l, hl, rfl⟩ := (key log).mp hlog
        exact fun z => (i2 h).2 l hl ((mem rows l hrows).mp z)
      · obtain ⟨rows, hrows, l, hl, rfl⟩ := (key log).mp hlog
        exact fun z => (i3 h).2 l hl ((mem rows l hrows).mp z)
      · obtain ⟨l, hl, hm⟩ := (i4 h).2.1
        exact ⟨R0 :: l, (key _).mpr ⟨R0, hR0, l, hl, rfl⟩, (mem R0 l hR0).mpr hm⟩
      · obtain ⟨l, hl, hm⟩ := (i4 h).2.2
        exact ⟨R0 :: l, (key _).mpr ⟨R0, hR0, l, hl, rfl⟩, fun z => hm ((mem R0 l hR0).mp z)⟩
/-- what is told against what the logs say -/
theorem told_law {ids : List Int} (hA : Asc ids) (h1 : ∀ x ∈ ids, 1 ≤ x) (counts : Cnt) (h0 : ∀ p ∈ counts, 0 ≤ p.1) (hfit : fitB ids 0 counts = true) {x : Int} (hx : x ∈ ids) {log : Log} (hl : log ∈ PL ids counts) :
    told (zsOf ids 0 counts) (fun _ => .op) x = lawState log (curOf 0 counts) x ∨ told (zsOf ids 0 counts) (fun _ => .op) x = .un := by
  have h := told_ok hA counts 0 (fun _ => .op) x h0 hfit hx (by have := h1 x hx; omega) rfl
  unfold lawState
  cases e : told (zsOf ids 0 counts) (fun _ => .op) x with
  | rd =>
    left
    rw [if_pos (h.1 e log hl)]
  | ls =>
    left
    rw [if_neg ((h.2.1 e).2 log hl), if_pos (h.2.1 e).1]
  | op =>
    left
    rw [if_neg ((h.2.2.1 e).2 log hl), if_neg (h.2.2.1 e).1]
  | un => exact .inr rfl
/-- .. and of all the logs together -/
theorem told_all {ids : List Int} (hA : Asc ids) (h1 : ∀ x ∈ ids, 1 ≤ x) (counts : Cnt) (h0 : ∀ p ∈ counts, 0 ≤ p.1) (hfit : fitB ids 0 counts = true) {x : Int} (hx : x ∈ ids)
    (here : List S4) (hn : here.Nodup) (hm : ∀ s, s ∈ here ↔ ∃ log ∈ PL ids counts, lawState log (curOf 0 counts) x = s) :
    (here.length = 1 → ∃ s, here = [s] ∧ told (zsOf ids 0 counts) (fun _ => .op) x = s) ∧ (here.length ≠ 1 → told (zsOf ids 0 counts) (fun _ => .op) x = .un) := by
  have h := told_ok hA counts 0 (fun _ => .op) x h0 hfit hx (by have := h1 x hx; omega) rfl
  obtain ⟨L0, hL0⟩ := List.exists_mem_of_ne_nil _ ((prod_ne counts 0 h0).mp hfit)
  constructor
  · intro hl
    match here, hl with
    | [s], _ =>
      refine ⟨s, rfl, ?_⟩
      rcases told_law hA h1 counts h0 hfit hx hL0 with e | e
      · have := (hm (lawState L0 (curOf 0 counts) x)).mpr ⟨L0, hL0, rfl⟩
        rw [e]
        simpa using this
      · exfalso
        obtain ⟨h2, ⟨la, ha, hma⟩, ⟨lb, hb, hmb⟩⟩ := h.2.2.2 e
        have a1 := (hm .rd).mpr ⟨la, ha, by unfold lawState; rw [if_pos hma]⟩
        have a2 := (hm .ls).mpr ⟨lb, hb, by unfold lawState; rw [if_neg hmb, if_pos h2]⟩
        simp at a1 a2
        rw [← a1] at a2
        cases a2
  · intro hl
    rcases told_law hA h1 counts h0 hfit hx hL0 with e | e
    · cases et : told (zsOf ids 0 counts) (fun _ => .op) x with
      | un => rfl
      | _ =>
        exfalso
        apply hl
        have all : ∀ s ∈ here, s = told (zsOf ids 0 counts) (fun _ => .op) x := by
          intro s hs
          obtain ⟨log, hlog, rfl⟩ := (hm s).mp hs
          rcases told_law hA h1 counts h0 hfit hx hlog with e' | e'
          · exact e'.symm
          · rw [et] at e'
            cases e'
        have hin := (hm (told (zsOf ids 0 counts) (fun _ => .op) x)).mpr ⟨L0, hL0, e.symm⟩
        match here, hn, all, hin with
        | [s], _, _, _ => rfl
        | s :: t :: r, hn, all, _ =>
          have a := all s (by simp)
          have b := all t (by simp)
          rw [List.nodup_cons] at hn
          exact absurd (by rw [a, ← b]; simp) hn.1
    · exact e
/-! ### how many are lost -/
theorem sub_count : ∀ {rows l : List Int}, rows.Sublist l → l.Nodup → (l.filter fun x => decide (x ∉ rows)).length + rows.length = l.length := by
  intro rows l h
  induction h with
  | slnil => intro _; rfl
  | @cons l1 l2 a h ih =>
    intro hn
    rw [List.nodup_cons] at hn
    have : a ∉ l1 := fun z => hn.1 (h.subset z)
    rw [List.filter_cons, if_pos (by simpa using this), List.length_cons, List.length_cons]
    have := ih hn.2
    omega
  | @cons_cons l1 l2 a h ih =>
    intro hn
    rw [List.nodup_cons] at hn
    rw [List.filter_cons, if_neg (by simp), List.length_cons, List.length_cons]
    have e : (l2.filter fun x => decide (x ∉ a :: l1)) = l2.filter fun x => decide (x ∉ l1) := by
      apply List.filter_congr
      intro x hx
      have : x ≠ a := fun z => hn.1 (z ▸ hx)
      simp [this]
    rw [e]
    have := ih hn.2
    omega
/-- what the law counts -/
def dueL (ids : List Int) : Int → Log → Cnt → List Int
  | c, rows :: l, (_, d) :: r => (((ids.filter fun x => decide (c < x) && decide (x ≤ d) && !decide (x ∈ rows)).length : Nat) : Int) :: dueL ids d l r
  | _, _, _ => []
theorem due_ok {ids : List Int} (hA : Asc ids) : ∀ (counts : Cnt) (c : Int) (log : Log), log ∈ prodLogs ids c counts → dueL ids c log counts = (zsOf ids c counts).map fun z => (z.2.length : Int) - z.1
  | [], c, log, h => by
    simp only [prodLogs, List.mem_singleton] at h
    subst h
    rfl
  | (n, d) :: r, c, log, h => by
    simp only [prodLogs, List.mem_flatMap, List.mem_map] at h
    obtain ⟨rows, hr, l, hl, rfl⟩ := h
    rw [zsOf_cons, List.map_cons]
    simp only [dueL]
    rw [due_ok hA r d l hl]
    congr 1
    obtain ⟨e1, e2, e3⟩ := (mem_rowsOf hA c n d rows l.flatten).mp ⟨hr, ((mem_prodLogs hA r d l).mp hl).2⟩
    have hs : rows.Sublist (part c d ids) := by
      have h3 := (List.sublist_append_left rows l.flatten).trans e3
      have e : rows = rows.filter fun x => decide (x ≤ d) := by
        rw [eq_comm, List.filter_eq_self]
        intro x hx
        simpa using (rowsOf_le hA hr x hx).2
      have e4 : part c d ids = (above c ids).filter fun x => decide (x ≤ d) := by
        rw [above, List.filter_filter, part]
        congr 1
        funext x
        exact Bool.and_comm _ _
      rw [e, e4]
      exact h3.filter _
    have hc := sub_count hs (part_asc hA c d).nodup
    have e5 : (ids.filter fun x => decide (c < x) && decide (x ≤ d) && !decide (x ∈ rows)) = (part c d ids).filter fun x => decide (x ∉ rows) := by
      rw [part, List.filter_filter]
      congr 1
      funext x
      rw [decide_not, Bool.and_comm]
    rw [e5]
    omega
end M73
namespace M73
/-! ### the reader -/
def sortI (l : List Int) : List Int := l.mergeSort fun a b => decide (a ≤ b)
theorem sortI_perm (l : List Int) : (sortI l).Perm l := List.mergeSort_perm _ _
theorem sortI_le (l : List Int) : (sortI l).Pairwise (· ≤ ·) := by
  have := List.pairwise_mergeSort (le := fun (a b : Int) => decide (a ≤ b)) (fun a b c h1 h2 => by
    simp only [decide_eq_true_eq] at *
    omega) (fun a b => by
    simp only [Bool.or_eq_true, decide_eq_true_eq]
    omega) l
  exact this.imp fun h => by simpa using h
theorem sortI_of {l l' : List Int} (h : l'.Perm l) (h2 : l'.Pairwise (· ≤ ·)) : l' = sortI l :=
  List.Perm.eq_of_pairwise (le := (· ≤ ·)) (fun a b _ _ x y => Int.le_antisymm x y) h2 (sortI_le l) (h.trans (sortI_perm l).symm)
theorem asc_of_le {l : List Int} (h : l.Pairwise (· ≤ ·)) (hn : l.Nodup) : Asc l := by
  refine List.Pairwise.imp_of_mem (S := (· < ·)) (R := fun a b => a ≤ b ∧ a ≠ b) (fun {a b} _ _ h => by omega) (List.Pairwise.and h hn)
theorem sortI_asc {l : List Int} (h : l.Nodup) : Asc (sortI l) := asc_of_le (sortI_le l) ((sortI_perm l).nodup_iff.mpr h)
theorem sortI_length (l : List Int) : (sortI l).length = l.length := (sortI_perm l).length_eq
theorem mem_sortI {l : List Int} {x : Int} : x ∈ sortI l ↔ x ∈ l := (sortI_perm l).mem_iff
theorem asc_sub : ∀ {l2 l1 : List Int}, Asc l1 → Asc l2 → (∀ x ∈ l1, x ∈ l2) → l1.Sublist l2
  | [], [], _, _, _ => List.Sublist.slnil
  | [], x :: l, _, _, h => by
    have := h x (by simp)
    simp at this
  | y :: l2, [], _, _, _ => List.nil_sublist _
  | y :: l2, x :: l1, h1, h2, h => by
    rw [Asc, List.pairwise_cons] at h1 h2
    by_cases e : x = y
    · subst e
      refine List.Sublist.cons_cons x (asc_sub h1.2 h2.2 fun z hz => ?_)
      rcases List.mem_cons.mp (h z (List.mem_cons_of_mem _ hz)) with e | e
      · have := h1.1 z hz
        omega
      · exact e
    · refine List.Sublist.cons y (asc_sub (List.pairwise_cons.mpr h1) h2.2 fun z hz => ?_)
      have hx : x ∈ l2 := by
        rcases List.mem_cons.mp (h x (by simp)) with e' | e'
        · exact absurd e' e
        · exact e'
      have hy := h2.1 x hx
      rcases List.mem_cons.mp hz with rfl | hz
      · exact hx
      · rcases List.mem_cons.mp (h z (List.mem_cons_of_mem _ hz)) with e' | e'
        · have := h1.1 z hz
          omega
        · exact e'
def readGo (order : List Int) : List Int → List Int → Int → Log
  | [], _, _ => []
  | m :: ms, ret, cur => ((sortI (order.take m.toNat)).filter fun x => decide (x ∉ ret) && decide (cur - 1 < x)) ::
      readGo order ms (ret ++ (sortI (order.take m.toNat)).filter fun x => decide (x ∉ ret) && decide (cur - 1 < x)) (maxL cur ((sortI (order.take m.toNat)).filter fun x => decide (x ∉ ret) && decide (cur - 1 < x)))
theorem readGo_length (order : List Int) : ∀ (ms ret : List Int) (cur : Int), (readGo order ms ret cur).length = ms.length
  | [], _, _ => rfl
  | m :: ms, ret, cur => by simp [readGo, readGo_length order ms]
theorem read_sub {order : List Int} (hn : order.Nodup) (h1 : ∀ x ∈ order, 1 ≤ x) : ∀ (ms ret : List Int) (cur : Int), (∀ x ∈ ret, x ≤ cur) → (cur = 0 ∨ cur ∈ ret) → (readGo order ms ret cur).flatten.Sublist (above cur (sortI order))
  | [], ret, cur, _, _ => by simp [readGo]
  | m :: ms, ret, cur, hr, hc => by
    simp only [readGo]
    generalize hrows : ((sortI (order.take m.toNat)).filter fun x => decide (x ∉ ret) && decide (cur - 1 < x)) = rows
    have hmem : ∀ x, x ∈ rows → x ∈ order ∧ cur < x := by
      intro x hx
      rw [← hrows, List.mem_filter, mem_sortI] at hx
      have hx1 : x ∈ order := List.mem_of_mem_take hx.1
      have hx2 : x ∉ ret ∧ cur - 1 < x := by simpa using hx.2
      refine ⟨hx1, ?_⟩
      rcases hc with rfl | hc
      · have := h1 x hx1
        omega
      · have : x ≠ cur := fun z => hx2.1 (z ▸ hc)
        omega
    have hasc : Asc rows := by
      rw [← hrows]
      exact List.Pairwise.sublist List.filter_sublist (sortI_asc (List.Pairwise.sublist (List.take_sublist _ _) hn))
    have hO := sortI_asc hn
    have s1 : rows.Sublist (part cur (maxL cur rows) (sortI order)) := asc_sub hasc (part_asc hO _ _) fun x hx => mem_part.mpr ⟨mem_sortI.mpr (hmem x hx).1, (hmem x hx).2, maxL_ge cur rows x hx⟩
    have s2 := read_sub hn h1 ms (ret ++ rows) (maxL cur rows) (fun x hx => by
      rcases List.mem_append.mp hx with h | h
      · have := hr x h
        have := maxL_le cur rows
        omega
      · exact maxL_ge cur rows x h) (by
      rcases maxL_mem cur rows with e | e
      · rw [e]
        rcases hc with h | h
        · exact .inl h
        · exact .inr (List.mem_append_left _ h)
      · exact .inr (List.mem_append_right _ e))
    rw [List.flatten_cons, above_split (maxL_le cur rows) hO]
    exact s1.append s2
/-- what a plain reader gets -/
def readLog (order polls : List Int) : Log := readGo order polls [] 0
theorem readLog_sub {order : List Int} (hn : order.Nodup) (h1 : ∀ x ∈ order, 1 ≤ x) (polls : List Int) : (readLog order polls).flatten.Sublist (sortI order) := by
  have := read_sub hn h1 polls [] 0 (fun x hx => by simp at hx) (.inl rfl)
  rwa [above_zero (fun x hx => h1 x (mem_sortI.mp hx))] at this
theorem log_in {ids : List Int} (hA : Asc ids) (h1 : ∀ x ∈ ids, 1 ≤ x) {log : Log} (h : log.flatten.Sublist ids) : log ∈ PL ids (countedFrom 0 log) := by
  rw [PL, mem_prodLogs hA, above_zero h1]
  exact ⟨rfl, h⟩
theorem curOf_counted : ∀ (log : Log) (c : Int), curOf c (countedFrom c log) = maxL c log.flatten
  | [], c => rfl
  | rows :: l, c => by
    show curOf (maxL c rows) (countedFrom (maxL c rows) l) = _
    rw [curOf_counted l, List.flatten_cons, maxL, maxL, maxL, List.foldl_append]
theorem counted_ok {N : Nat} {B : Int} : ∀ (log : Log) (c : Int), 0 ≤ c → c ≤ B → log.flatten.length ≤ N → (∀ x ∈ log.flatten, x ≤ B) → ∀ p ∈ countedFrom c log, 0 ≤ p.1 ∧ p.1 ≤ N ∧ 0 ≤ p.2 ∧ p.2 ≤ B
  | [], c, _, _, _, _, p, hp => by simp [countedFrom] at hp
  | rows :: l, c, hc, hB, hN, hb, p, hp => by
    rw [List.flatten_cons] at hN hb
    rw [List.length_append] at hN
    have a := maxL_le c rows
    have b : maxL c rows ≤ B := by
      rcases maxL_mem c rows with e | e
      · omega
      · exact hb _ (List.mem_append_left _ e)
    rcases List.mem_cons.mp hp with rfl | hp
    · exact ⟨by simp, by simp; omega, by simp; omega, by simp; omega⟩
    · exact counted_ok l (maxL c rows) (by omega) b (by omega) (fun x hx => hb x (List.mem_append_right _ hx)) p hp
theorem PL_length {ids : List Int} (hA : Asc ids) (h1 : ∀ x ∈ ids, 1 ≤ x) (counts : Cnt) : (PL ids counts).length ≤ (counts.length + 1) ^ ids.length := by
  have hp : ((allLogs counts.length ids).filter (fun l => decide (countedFrom 0 l = counts))).Perm (PL ids counts) := by
    rw [List.perm_ext_iff_of_nodup (List.Pairwise.sublist List.filter_sublist (allLogs_nodup counts.length ids hA.nodup)) (prod_nodup hA counts 0)]
    intro a
    exact good_mem hA h1 counts a
  rw [← hp.length_eq]
  exact Nat.le_trans (List.length_filter_le _ _) (allLogs_length _ _)
theorem dig_get {ids : List Int} {counts : Cnt} (h0 : ∀ p ∈ counts, 0 ≤ p.1) (hf : fitB ids 0 counts = true) {k : Nat} (hk : k < (PL ids counts).length) : (PL ids counts)[k]? = some (dig (zsOf ids 0 counts) k).2 := by
  have := (dig_ok counts 0 h0 hf k).2
  rwa [Nat.mod_eq_of_lt hk] at this
end M73


set_option Elab.async false
set_option linter.all false
set_option maxRecDepth 100000
set_option maxHeartbeats 4000000
namespace W73
open PySem PySem.Spec PyProof.Rows L2
def topS (i : Nat) : Stmt := PySem.Challenge.pw_lateids_k73_whole_logs_by_counts.main.body.getD i (.Pass ⟨0, 0, 0, 0⟩)
abbrev big : Int := 1000000000000000000000000000000
/-! ### what the top holds -/
structure Glob (mg : Str → Option Value) : Prop where
  isinstance : mg "isinstance" = none
  int : mg "int" = none
  bool : mg "bool" = none
  list : mg "list" = none
  tuple : mg "tuple" = none
  len : mg "len" = none
  all : mg "all" = none
  zip : mg "zip" = none
  range : mg "range" = none
  enumerate : mg "enumerate" = none
  divmod : mg "divmod" = none
  any : mg "any" = none
  set : mg "set" = none
  sorted : mg "sorted" = none
  max : mg "max" = none
  min : mg "min" = none
  GREATEST : ∃ t, mg "GREATEST" = some (.int big t)
  MOST_IDS_values : ∃ t, mg "MOST_IDS_values" = some (.int 30 t)
  MOST_POLLS_values : ∃ t, mg "MOST_POLLS_values" = some (.int 30 t)
  MOST_POLLS_counts : ∃ t, mg "MOST_POLLS_counts" = some (.int 12 t)
  MOST_IDS_counts : ∃ t, mg "MOST_IDS_counts" = some (.int 30 t)
  MOST_ID : ∃ t, mg "MOST_ID" = some (.int big t)
  READ : ∃ t, mg "READ" = some (.str "read" t)
  LOST : ∃ t, mg "LOST" = some (.str "lost" t)
  OPEN : ∃ t, mg "OPEN" = some (.str "open" t)
/-- a def of the top -/
structure Df (K : PySem.W.Frag) (mg : Str → Option Value) (x : Str) (st : Stmt) (dvs : List V) (kws : List (Str × V)) : Prop where
  ex : ∃ f fd, FunD K x x (defArgs st) (defBody st) (defScope st) dvs kws f fd ∧ mg x = some (.ref f)
/-- what a caller has of it -/
structure Cal (P : Program) (w : World) (K : PySem.W.Frag) (mg : Str → Option Value) (base : Heap) (x : Str) (ps : List Str) (dvs : List V) (k : Nat) (sp : Sp) : Prop where
  ex : ∃ f fd ds, FnOk P w K mg base CX0 k f fd ps sp ∧ mg x = some (.ref f) ∧ PySem.W.keepIn K (.ref f) = true ∧ Binds K fd ps ds ∧ Vals dvs ds
section
variable {X : Cx} {x : Str} {ps : List Str} {dvs : List V} {k : Nat} {sp : Sp} {p pos : Pos} {e : Expr} {es : List Expr} {t : TA}
theorem pe_cal (c : Cal X.prog X.w X.K X.mg X.base x ps dvs k sp) (hr : Room k X.A) (ha : PA X (e :: es) t) (hg : Gl X x := by rfl)
    (hdb : (x == ("__debug__" : Str)) = false := by decide) (he : starEach (e :: es) X.env = (false, eval e X.env) :: starEach es X.env := by rfl) (hpl : (backTo pos (starEach es X.env)).any (·.1) = false := by rfl) :
    PE X (.Call (.Name x p) (e :: es) [] pos) (tCall sp dvs E0 t) := by
  obtain ⟨f, fd, ds, F, hm, hk, hb, hd⟩ := c.ex
  exact pe_call F hr hg hm hk hb hd pass0 ha hdb he hpl
end
section
variable {P : Program} {w : World} {K : PySem.W.Frag} {mg : Str → Option Value} {base : Heap}
theorem Cal.of {x : Str} {st : Stmt} {N ps : List Str} {k : Nat} {sp : Sp} (D : Df K mg x st [] []) (S : FnScope N ps (defScope st))
    (hb : ∀ (kV doc pm : Value) (an : Option Addr) (cdv ct : Value) (us : List Value), us.length = ps.length → bindArgs (PySem.W.fnOf x x (defArgs st) (defBody st) (defScope st) .none kV doc pm an cdv ct) ⟨us, []⟩ = pure (ps.zip us))
    (len : ∀ vs H Q E, sp vs H Q E → vs.length = ps.length)
    (hbody : ∀ (f : Addr) (cdv : Value) (A : Around) (outer : List Env) (s : Shared) (H : Hp) (vs : List V) (Q : VK) (E : XK), Room k (A.deeper (envOfC x (defScope st) s.heap.objs.size f cdv)) → sp vs H Q E →
      ∃ t, PSs (cxOf CX0 P w K mg base N x (defScope st) f cdv A outer s H E).nox (defBody st) t ∧ t { nx := fun _ H' => Q .non H', rt := Q } (start N vs) H) :
    Cal P w K mg base x ps [] (k + 1) sp := by
  obtain ⟨f, fd, F, gm⟩ := D.ex
  refine ⟨f, fd, [], F.ok S len (fun cdv A outer s H vs Q E hr h => ?_), gm, F.kp, F.bindsN hb, .nil⟩
  obtain ⟨t, a, b⟩ := hbody f cdv A outer s H vs Q E hr h
  exact ⟨t, PSs.nox a, b⟩
end
/-! ### two lists, place by place -/
def All2 {α β : Type} (R : α → β → Prop) (as : List α) (bs : List β) : Prop := as.length = bs.length ∧ ∀ (i : Nat) (a : α) (b : β), as[i]? = some a → bs[i]? = some b → R a b
section
variable {α β : Type} {R R' : α → β → Prop} {as : List α} {bs : List β}
theorem All2.nil : All2 R [] [] := ⟨rfl, fun i a b h => by simp at h⟩
theorem All2.mono (h : All2 R as bs) (f : ∀ a b, R a b → R' a b) : All2 R' as bs := ⟨h.1, fun i a b x y => f _ _ (h.2 i a b x y)⟩
theorem All2.snoc (h : All2 R as bs) {a : α} {b : β} (r : R a b) : All2 R (as ++ [a]) (bs ++ [b]) := by
  refine ⟨by simp [h.1], fun i x y hx hy => ?_⟩
  by_cases hi : i < as.length
  · rw [List.getElem?_append_left hi] at hx
    rw [List.getElem?_append_left (by rw [← h.1]; exact hi)] at hy
    exact h.2 i x y hx hy
  · have h1 : i = as.length := by
      have := (List.getElem?_eq_some_iff.mp hx).1
      simp at this
      omega
    subst h1
    rw [List.getElem?_append_right (Nat.le_refl _), Nat.sub_self] at hx
    rw [h.1, List.getElem?_append_right (Nat.le_refl _), Nat.sub_self] at hy
    have e1 : a = x := by simpa using hx
    have e2 : b = y := by simpa using hy
    rw [← e1, ← e2]
    exact r
theorem All2.cons {a : α} {b : β} (r : R a b) (h : All2 R as bs) : All2 R (a :: as) (b :: bs) := by
  refine ⟨by simp [h.1], fun i x y hx hy => ?_⟩
  cases i with
  | zero =>
    have e1 : a = x := by simpa using hx
    have e2 : b = y := by simpa using hy
    rw [← e1, ← e2]
    exact r
  | succ i => exact h.2 i x y (by simpa using hx) (by simpa using hy)
theorem All2.get (h : All2 R as bs) {i : Nat} {a : α} (x : as[i]? = some a) : ∃ b, bs[i]? = some b ∧ R a b := by
  have hi := (List.getElem?_eq_some_iff.mp x).1
  have hi2 : i < bs.length := by rw [← h.1]; exact hi
  exact ⟨bs[i], List.getElem?_eq_getElem hi2, h.2 i _ _ x (List.getElem?_eq_getElem hi2)⟩
theorem All2.get' (h : All2 R as bs) {i : Nat} {b : β} (x : bs[i]? = some b) : ∃ a, as[i]? = some a ∧ R a b := by
  have hi := (List.getElem?_eq_some_iff.mp x).1
  have hi2 : i < as.length := by rw [h.1]; exact hi
  exact ⟨as[i], List.getElem?_eq_getElem hi2, h.2 i _ _ (List.getElem?_eq_getElem hi2) x⟩
theorem All2.reverse (h : All2 R as bs) : All2 R as.reverse bs.reverse := by
  refine ⟨by simp [h.1], fun i a b hx hy => ?_⟩
  have hi := (List.getElem?_eq_some_iff.mp hx).1
  rw [List.length_reverse] at hi
  rw [List.getElem?_reverse hi] at hx
  rw [List.getElem?_reverse (by rw [← h.1]; exact hi), ← h.1] at hy
  exact h.2 _ a b hx hy
theorem All2.append {as' : List α} {bs' : List β} (h : All2 R as bs) (h' : All2 R as' bs') : All2 R (as ++ as') (bs ++ bs') := by
  refine ⟨by simp [h.1, h'.1], fun i a b hx hy => ?_⟩
  by_cases hi : i < as.length
  · rw [List.getElem?_append_left hi] at hx
    rw [List.getElem?_append_left (by rw [← h.1]; exact hi)] at hy
    exact h.2 i a b hx hy
  · rw [List.getElem?_append_right (by omega)] at hx
    rw [List.getElem?_append_right (by rw [← h.1]; omega), ← h.1] at hy
    exact h'.2 _ a b hx hy
theorem All2.take (h : All2 R as bs) (n : Nat) : All2 R (as.take n) (bs.take n) := by
  refine ⟨by simp [h.1], fun i a b hx hy => ?_⟩
  rw [List.getElem?_take] at hx hy
  split at hx
  · rename_i hi
    rw [if_pos hi] at hy
    exact h.2 i a b hx hy
  · cases hx
theorem All2.drop (h : All2 R as bs) (n : Nat) : All2 R (as.drop n) (bs.drop n) := by
  refine ⟨by simp [h.1], fun i a b hx hy => ?_⟩
  rw [List.getElem?_drop] at hx hy
  exact h.2 _ a b hx hy
theorem All2.of_cons {a : α} {b : β} (h : All2 R (a :: as) (b :: bs)) : R a b ∧ All2 R as bs := ⟨h.2 0 a b rfl rfl, by
  have := h.1
  simp at this
  exact this, fun i x y hx hy => h.2 (i + 1) x y (by simpa using hx) (by simpa using hy)⟩
end
/-! ### heaps -/
/-- the heap without what stands at p -/
def hid (p : Addr) (H : Hp) : Hp := fun b => if b = p then none else H b
section
variable {H H' : Hp} {p q : Addr} {o : HO}
theorem hid_at : hid p H p = none := if_pos rfl
theorem hid_ne (h : q ≠ p) : hid p H q = H q := if_neg h
theorem hid_same : Same (hid p H) H := fun b x e => by
  by_cases h : b = p
  · rw [h, hid_at] at e
    cases e
  · rw [hid_ne h] at e
    exact e
theorem hid_upd : hid p (upd H p o) = hid p H := by
  funext b
  by_cases h : b = p
  · rw [h, hid_at, hid_at]
  · rw [hid_ne h, hid_ne h, upd_ne h]
theorem hid_upd_ne (h : q ≠ p) : hid p (upd H q o) = upd (hid p H) q o := by
  funext b
  by_cases e : b = p
  · rw [e, hid_at, upd_ne (Ne.symm h), hid_at]
  · rw [hid_ne e]
    by_cases f : b = q
    · rw [f, upd_same, upd_same]
    · rw [upd_ne f, upd_ne f, hid_ne e]
theorem hid_none (h : H q = none) : hid p H q = none := by
  by_cases e : q = p
  · rw [e, hid_at]
  · rw [hid_ne e, h]
theorem hid_mono (h : Same H H') : Same (hid p H) (hid p H') := fun b x e => by
  by_cases f : b = p
  · rw [f, hid_at] at e
    cases e
  · rw [hid_ne f] at e ⊢
    exact h b x e
theorem hid_free (h : H p = none) : hid p H = H := by
  funext b
  by_cases f : b = p
  · rw [f, hid_at, h]
  · rw [hid_ne f]
theorem hid_comm : hid p (hid q H) = hid q (hid p H) := by
  funext b
  by_cases f : b = p
  · subst f
    rw [hid_at]
    by_cases g : b = q
    · rw [g, hid_at]
    · rw [hid_ne g, hid_at]
  · rw [hid_ne f]
    by_cases g : b = q
    · rw [g, hid_at, hid_at]
    · rw [hid_ne g, hid_ne g, hid_ne f]
theorem same_upd (h : H p = none) : Same H (upd H p o) := fun b x e => by
  rw [upd_ne (ne_of_none e h)]
  exact e
theorem hid_new (h : H q = none) : Same (hid p H) (hid p (upd H q o)) := hid_mono (same_upd h)
/-- a new object does not stand where one stood -/
theorem ne_new {o : HO} (h : H p = some o) (h' : H q = none) : q ≠ p := fun e => by
  rw [e, h] at h'
  cases h'
end
/-- what is new -/
def dif (H H' : Hp) : Hp := fun b => match H b with
  | none => H' b
  | some _ => none
theorem dif_at {H H' : Hp} {b : Addr} (h : H b = none) : dif H H' b = H' b := by
  unfold dif
  rw [h]
theorem dif_old {H H' : Hp} {b : Addr} {o : HO} (h : H b = some o) : dif H H' b = none := by
  unfold dif
  rw [h]
theorem dif_same {H H' : Hp} : Same (dif H H') H' := fun b x e => by
  cases h : H b with
  | none => rwa [dif_at h] at e
  | some o =>
    rw [dif_old h] at e
    cases e
theorem dif_hid {H H' : Hp} {p : Addr} {o : HO} (h : H p = some o) : Same (dif H H') (hid p H') := fun b x e => by
  by_cases f : b = p
  · rw [f, dif_old h] at e
    cases e
  · rw [hid_ne f]
    exact dif_same _ _ e
/-! ### data on the heap -/
/-- a list of ints -/
def IL (H : Hp) (a : Addr) (ns : List Int) : Prop := H a = some (.lst (ns.map V.int))
/-- a list of objects -/
def RL {β : Type} (R : Hp → Addr → β → Prop) (H : Hp) (a : Addr) (bs : List β) : Prop := ∃ as : List Addr, H a = some (.lst (as.map V.ref)) ∧ All2 (R H) as bs
abbrev LL : Hp → Addr → List (List Int) → Prop := RL IL
abbrev GL : Hp → Addr → List (List (List Int)) → Prop := RL LL
/-- a pair of ints -/
def P2 (H : Hp) (a : Addr) (p : Int × Int) : Prop := H a = some (.tup [.int p.1, .int p.2])
abbrev CL : Hp → Addr → List (Int × Int) → Prop := RL P2
class Mono {β : Type} (R : Hp → Addr → β → Prop) : Prop where
  mono : ∀ {H H' : Hp} {a : Addr} {b : β}, Same H H' → R H a b → R H' a b
instance : Mono IL := ⟨fun s h => s _ _ h⟩
instance : Mono P2 := ⟨fun s h => s _ _ h⟩
instance {β : Type} {R : Hp → Addr → β → Prop} [Mono R] : Mono (RL R) := ⟨fun s ⟨as, h, x⟩ => ⟨as, s _ _ h, x.mono fun _ _ r => Mono.mono s r⟩⟩
theorem mo {β : Type} {R : Hp → Addr → β → Prop} [Mono R] {H H' : Hp} {a : Addr} {b : β} (s : Same H H') (h : R H a b) : R H' a b := Mono.mono s h
theorem ref_get {as : List Addr} {i : Nat} {x : V} (h : (as.map V.ref)[i]? = some x) : ∃ a, as[i]? = some a ∧ x = .ref a := by
  rw [List.getElem?_map] at h
  cases e : as[i]? with
  | none =>
    rw [e] at h
    cases h
  | some a =>
    rw [e] at h
    exact ⟨a, rfl, (Option.some.inj h).symm⟩
theorem int_get {ns : List Int} {i : Nat} {x : V} (h : (ns.map V.int)[i]? = some x) : ∃ n, ns[i]? = some n ∧ x = .int n := by
  rw [List.getElem?_map] at h
  cases e : ns[i]? with
  | none =>
    rw [e] at h
    cases h
  | some a =>
    rw [e] at h
    exact ⟨a, rfl, (Option.some.inj h).symm⟩
theorem ref_at {as : List Addr} {i : Nat} {a : Addr} (h : as[i]? = some a) : (as.map V.ref)[i]? = some (.ref a) := by
  rw [List.getElem?_map, h]
  rfl
theorem int_at {ns : List Int} {i : Nat} {n : Int} (h : ns[i]? = some n) : (ns.map V.int)[i]? = some (.int n) := by
  rw [List.getElem?_map, h]
  rfl
theorem IL.sq {K : PySem.W.Frag} {H : Hp} {a : Addr} {ns : List Int} (h : IL H a ns) : SqL K H a (ns.map V.int) := .of h
theorem P2.sq {K : PySem.W.Frag} {H : Hp} {a : Addr} {p : Int × Int} (h : P2 H a p) : SqT K H a [.int p.1, .int p.2] := .of h
theorem line_small {n : Nat} (h : n ≤ 1000000) : n < sizeLine := by
  rw [sizeLine_eq]
  omega
/-! ### a power -/
theorem bits_le {a : Int} {k : Nat} (h0 : 0 < k) (h : a.natAbs < 2 ^ k) : Builtin.Int.intBits a ≤ k := by
  have := PySem.Flt.log2_lt_of h0 h
  unfold Builtin.Int.intBits
  split
  · omega
  · omega
def CPowW (i j : Int) : Prop := 0 ≤ j ∧ (Builtin.Int.intBits i : Int) * j ≤ 2 ^ 27
theorem op_powW {X : Cx} : OpR X (binaryOp .Pow) (rI CPowW fun i j => .int (i ^ j.toNat)) := opI fun _ _ _ _ _ _ _ hc q => pow_int hc.1 hc.2 q
theorem powW_of {i j : Int} {a : Nat} (h0 : 0 < a) (ha : i.natAbs < 2 ^ a) (hj : 0 ≤ j) (hm : (a : Int) * j ≤ 2 ^ 27) : CPowW i j := by
  refine ⟨hj, Int.le_trans (Int.mul_le_mul_of_nonneg_right ?_ hj) hm⟩
  exact_mod_cast bits_le h0 ha
/-! ### list.count of a flat value -/
theorem countP_eqU {x : V} : ∀ {xs : List V} {us : List Value}, Vals xs us → xs.all flatV = true → us.countP (eqU x) = xs.countP fun y => eqV y x
  | [], _, .nil, _ => rfl
  | y :: ys, _, .cons r t, h => by
    rw [List.all_cons, Bool.and_eq_true] at h
    rw [List.countP_cons, List.countP_cons, countP_eqU t h.2, eqU_of r h.1]
def rCntF (K : PySem.W.Frag) : V → List V → Hp → VK → Prop := fun x xs H Q => ∃ (p : Addr) (ys : List V) (y : V), x = .ref p ∧ xs = [y] ∧ SqL K H p ys ∧ flatV y = true ∧ ys.all flatV = true ∧ Q (.int (ys.countP fun z => eqV z y : Nat)) H
theorem mt_countF {X : Cx} : MtR X "list.count" (rCntF X.K) := by
  intro pins s σ H x xs v us Q I rx rxs h
  obtain ⟨p, ys, y, rfl, rfl, hs, fy, fys, q⟩ := h
  cases rx
  obtain ⟨u, rfl, ru⟩ := rxs.one
  obtain ⟨its, rv, ⟨⟨cls, dd, data, sl⟩, n, ho, hc, hdn, hd⟩, hlen⟩ := I.list hs
  simp only at hc hd
  subst hc hd
  refine call_meets PySem.F.slot_list_count ⟨_, ho, rfl⟩ PySem.F.entry_list_count (PySem.F.args_list_count_2 _ _)
    (SeqAt.list_countAt p its.toArray n dd sl u (eqU y)) ⟨ho, fun z hz => mem_eqAt ru fy rv fys z (by simpa using hz), ?_⟩
  have ec : its.toArray.toList.countP (eqU y) = ys.countP fun z => eqV z y := countP_eqU rv fys
  refine ⟨.int (ys.countP fun z => eqV z y : Nat), H, I.tok _, ⟨s.toks, ?_⟩, q⟩
  show Value.int ((its.toArray.toList.countP (eqU y) : Nat) : Int) s.toks = Value.int ((ys.countP fun z => eqV z y : Nat) : Int) s.toks
  rw [ec]
end W73


set_option Elab.async false
set_option linter.all false
set_option maxRecDepth 100000
set_option maxHeartbeats 4000000
namespace W73
open PySem PySem.Spec PyProof.Rows L2
/-! ### isinstance as a test -/
theorem ki_ii : kitB "int" "int" = some true := by decide +kernel
theorem ki_ib : kitB "int" "bool" = some false := by decide +kernel
theorem ki_ll : kitB "list" "list" = some true := by decide +kernel
theorem ki_tt : kitB "tuple" "tuple" = some true := by decide +kernel
theorem bt_int : bootBuiltins "int" = some (.type "int") := by decide +kernel
theorem bt_bool : bootBuiltins "bool" = some (.type "bool") := by decide +kernel
theorem bt_list : bootBuiltins "list" = some (.type "list") := by decide +kernel
theorem bt_tuple : bootBuiltins "tuple" = some (.type "tuple") := by decide +kernel
theorem bt_isi : bootBuiltins "isinstance" = some (.builtin "isinstance") := by decide +kernel
theorem bt_all : bootBuiltins "all" = some (.builtin "all") := by decide +kernel
theorem bt_any : bootBuiltins "any" = some (.builtin "any") := by decide +kernel
theorem bt_len : bootBuiltins "len" = some (.builtin "len") := by decide +kernel
theorem bt_max : bootBuiltins "max" = some (.builtin "max") := by decide +kernel
theorem bt_min : bootBuiltins "min" = some (.builtin "min") := by decide +kernel
theorem bt_sorted : bootBuiltins "sorted" = some (.builtin "sorted") := by decide +kernel
theorem bt_divmod : bootBuiltins "divmod" = some (.builtin "divmod") := by decide +kernel
section
variable {X : Cx} {T : String} {y : Str} {e : Expr} {te : TE} {p p2 pos : Pos}
theorem pt_isi (g : X.mg "isinstance" = none) (gT : X.mg y = none) (hv : bootBuiltins y = some (.type T)) (he : PE X e te)
    (hg : Gl X "isinstance" := by rfl) (hgT : Gl X y := by rfl) (hn : y ≠ "__name__" := by decide) (hd : (y == ("__debug__" : Str)) = false := by decide)
    (h1 : starEach [e, .Name y p2] X.env = (false, eval e X.env) :: starEach [.Name y p2] X.env := by rfl) (h2 : starEach [.Name y p2] X.env = (false, eval (.Name y p2) X.env) :: starEach [] X.env := by rfl)
    (h3 : (backTo pos (starEach [.Name y p2] X.env)).any (·.1) = false := by rfl) :
    PT X (.Call (.Name "isinstance" p) [e, .Name y p2] [] pos) (tB (tCB (rIsi X.K) (tCons te (tCons (tC (.ty T)) tNil)))) :=
  pt_val (pe_callB (p := p) (pos := pos) call_isi hg g bt_isi (pa_cons he (pa_cons (pe_bltn (v := .ty T) (pos := p2) hgT gT hv rfl hn hd) pa_nil h2) h1) (by decide) (by decide) h1 h3)
theorem pe_len (g : X.mg "len" = none) (he : PE X e te) (hg : Gl X "len" := by rfl) (h1 : starEach [e] X.env = (false, eval e X.env) :: starEach [] X.env := by rfl) (h3 : (backTo pos (starEach [] X.env)).any (·.1) = false := by rfl) :
    PE X (.Call (.Name "len" p) [e] [] pos) (tCB (fun xs H Q => ∃ p ys, xs = [.ref p] ∧ (SqL X.K H p ys ∨ SqT X.K H p ys) ∧ Q (.int ys.length) H) (tCons te tNil)) :=
  pe_callB (p := p) (pos := pos) call_len_seq hg g bt_len (pa_cons he pa_nil h1) (by decide) (by decide) h1 h3
end
/-! ### is_integer -/
theorem sc12 : FnScope ["value", "least", "greatest"] ["value", "least", "greatest"] (defScope (topS 12)) := ⟨rfl, rfl, rfl, by decide +kernel, rfl, by decide +kernel, by decide +kernel⟩
def spIsInt : Sp := fun vs H Q _ => ∃ (v l : Int) (g : V), vs = [.int v, .int l, g] ∧ ((g = .non ∧ Q (.bl (decide (l ≤ v))) H) ∨ ∃ m : Int, g = .int m ∧ Q (.bl (decide (l ≤ v) && decide (v ≤ m))) H)
section
variable {P : Program} {w : World} {K : PySem.W.Frag} {mg : Str → Option Value} {base : Heap}
theorem ok_isInt {f : Addr} {fd : FuncData} (g : Glob mg) (F : FunD K "is_integer" "is_integer" (defArgs (topS 12)) (defBody (topS 12)) (defScope (topS 12)) [.non] [] f fd) :
    FnOk P w K mg base CX0 1 f fd ["value", "least", "greatest"] spIsInt := by
  refine F.ok sc12 (fun vs H Q E h => ?_) (fun cdv A outer s H vs Q E hr h => ⟨_, PSs.nox (pss_cons
    (ps_if (PW.pt (pw_or (pt_not (pt_isi g.isinstance g.int bt_int (pv 0))) (pw_or (pt_isi g.isinstance g.bool bt_bool (pv 0)) (pw_or1 (pt_cmpR op_lt (pv 0) (pv 1) (nomark _))))))
      (pss_one (ps_ret pe_bl)) pss_nil)
    (pss_one (ps_ret (pe_or (pe_cmpR op_isN (pv 2) pe_non (nomark _)) (pe_one (pe_cmpR op_le (pv 0) (pv 2) (nomark _))))))), ?_⟩)
  · obtain ⟨v, l, g, rfl, _⟩ := h
    rfl
  · obtain ⟨v, l, g, rfl, hq⟩ := h
    refine ⟨_, rfl, _, _, _, _, true, rfl, .ty _, .base (.int v), kit_ty ki_ii, _, rfl, ?_⟩
    refine iteF ⟨_, rfl, _, _, _, _, false, rfl, .ty _, .base (.int v), kit_ty ki_ib, _, rfl, ?_⟩
    refine iteF ⟨_, rfl, _, rfl, _, _, rfl, rfl, _, rfl, ite2 (fun e => ?_) (fun e => ?_)⟩
    · have e' : decide (l ≤ v) = false := by
        have := of_decide_eq_true e
        exact decide_eq_false (by omega)
      rw [e'] at hq
      rcases hq with ⟨_, q⟩ | ⟨m, _, q⟩
      · exact q
      · exact q
    · have e' : decide (l ≤ v) = true := by
        have : ¬ v < l := fun h => e (decide_eq_true h)
        exact decide_eq_true (by omega)
      rw [e'] at hq
      refine ⟨_, rfl, rfl, _, rfl, ?_⟩
      rcases hq with ⟨rfl, q⟩ | ⟨m, rfl, q⟩
      · exact q
      · exact ⟨_, rfl, _, rfl, _, _, rfl, rfl, q⟩
/-- with two arguments, with three -/
theorem c_isInt2 (g : Glob mg) (D : Df K mg "is_integer" (topS 12) [.non] []) : Cal P w K mg base "is_integer" ["value", "least", "greatest"] [.non] 1 spIsInt := by
  obtain ⟨f, fd, F, gm⟩ := D.ex
  obtain ⟨ds, hv, hb⟩ := F.binds1 (ps := ["value", "least", "greatest"]) 2 0 (by simp) rfl fun T kV doc pm an cdv ct us its hl hl2 => match us, hl, its, hl2 with
    | [_, _], _, [_], _ => ⟨_, rfl, rfl⟩
  exact ⟨f, fd, ds, ok_isInt g F, gm, F.kp, hb, hv⟩
theorem c_isInt3 (g : Glob mg) (D : Df K mg "is_integer" (topS 12) [.non] []) : Cal P w K mg base "is_integer" ["value", "least", "greatest"] [] 1 spIsInt := by
  obtain ⟨f, fd, F, gm⟩ := D.ex
  obtain ⟨ds, hv, hb⟩ := F.binds1 (ps := ["value", "least", "greatest"]) 3 1 (by simp) rfl fun T kV doc pm an cdv ct us its hl hl2 => match us, hl, its, hl2 with
    | [_, _, _], _, [_], _ => ⟨_, rfl, rfl⟩
  exact ⟨f, fd, ds, ok_isInt g F, gm, F.kp, hb, hv⟩
/-! ### is_id -/
theorem sc13 : FnScope ["value"] ["value"] (defScope (topS 13)) := ⟨rfl, rfl, rfl, by decide +kernel, rfl, by decide +kernel, by decide +kernel⟩
def IdOk (v : Int) : Prop := 1 ≤ v ∧ v ≤ big
def spIsId : Sp := fun vs H Q _ => ∃ v : Int, vs = [.int v] ∧ IdOk v ∧ Q (.bl true) H
theorem c_isId (g : Glob mg) (D : Df K mg "is_id" (topS 13) [] []) (c3 : Cal P w K mg base "is_integer" ["value", "least", "greatest"] [] 1 spIsInt) : Cal P w K mg base "is_id" ["value"] [] 2 spIsId := by
  obtain ⟨t, gG⟩ := g.GREATEST
  refine Cal.of D sc13 (fun _ _ _ _ _ _ us hl => match us, hl with | [_], _ => rfl) (fun vs H Q E h => ?_) (fun f cdv A outer s H vs Q E hr h => ⟨_, pss_one
    (ps_ret (pe_cal c3 hr (pa_cons (pv 0) (pa_cons pe_int (pa_cons (pe_glob (v := .int big) rfl gG ⟨t, rfl⟩) pa_nil))))), ?_⟩)
  · obtain ⟨v, rfl, _⟩ := h
    rfl
  · obtain ⟨v, rfl, hv, q⟩ := h
    refine ⟨_, rfl, v, 1, .int big, rfl, .inr ⟨big, rfl, ?_⟩⟩
    rw [decide_eq_true hv.1, decide_eq_true hv.2]
    exact q
end
end W73


set_option Elab.async false
set_option linter.all false
set_option maxRecDepth 100000
set_option maxHeartbeats 4000000
namespace W73
open PySem PySem.Spec PyProof.Rows L2
/-! ### a list that grows at D -/
/-- D holds acc; what stood at H1 stands; I of the turn, acc and the rest of the heap -/
def PvA (I : Nat → List V → Hp → Prop) (H1 : Hp) (D : Addr) (i : Nat) (H : Hp) : Prop := ∃ acc, H D = some (.lst acc) ∧ acc.length ≤ i ∧ Same H1 (hid D H) ∧ I i acc (hid D H)
section
variable {I : Nat → List V → Hp → Prop} {H1 H : Hp} {D : Addr} {i : Nat} {acc : List V} {y : V}
theorem PvA.start (hD : H1 D = none) (h : I 0 [] H1) : PvA I H1 D 0 (upd H1 D (.lst [])) :=
  ⟨[], upd_same, Nat.le_refl 0, by rw [hid_upd, hid_free hD]; exact Same.refl _, by rw [hid_upd, hid_free hD]; exact h⟩
theorem PvA.put (hH : H D = some (.lst acc)) (hl : acc.length ≤ i) (s : Same H1 (hid D H)) (h : I (i + 1) (acc ++ [y]) (hid D H)) : PvA I H1 D (i + 1) (upd H D (.lst (acc ++ [y]))) :=
  ⟨acc ++ [y], upd_same, by rw [List.length_append, List.length_singleton]; omega, by rw [hid_upd]; exact s, by rw [hid_upd]; exact h⟩
theorem PvA.snoc (hi : i ≤ 1000000) (hH : H D = some (.lst acc)) (hl : acc.length ≤ i) (s : Same H1 (hid D H)) (h : I (i + 1) (acc ++ [y]) (hid D H)) :
    ∃ acc', H D = some (.lst acc') ∧ acc'.length < sizeLine ∧ PvA I H1 D (i + 1) (upd H D (.lst (acc' ++ [y]))) :=
  ⟨acc, hH, line_small (by omega), PvA.put hH hl s h⟩
theorem PvA.skip (hH : H D = some (.lst acc)) (hl : acc.length ≤ i) (s : Same H1 (hid D H)) (h : I (i + 1) acc (hid D H)) : PvA I H1 D (i + 1) H := ⟨acc, hH, by omega, s, h⟩
theorem PvA.same (h : PvA I H1 D i H) : Same H1 H := by
  obtain ⟨acc, _, _, s, _⟩ := h
  exact s.trans hid_same
end
theorem line_le {n : Nat} (h : n ≤ 1000000) : n ≤ sizeLine := Nat.le_of_lt (line_small h)
theorem all_rep (n : Nat) : ((List.replicate n true).all id) = true := by
  rw [List.all_eq_true]
  intro x hx
  rw [(List.mem_replicate.mp hx).2]
  rfl
theorem any_rep (n : Nat) : ((List.replicate n false).any id) = false := by
  rw [List.any_eq_false]
  intro x hx
  rw [(List.mem_replicate.mp hx).2]
  simp
theorem map_rep (n : Nat) (b : Bool) : List.replicate n (V.bl b) = (List.replicate n b).map V.bl := by rw [List.map_replicate]
theorem rep_snoc {α : Type} (n : Nat) (a : α) : List.replicate (n + 1) a = List.replicate n a ++ [a] := List.replicate_succ'
section
variable {P : Program} {w : World} {K : PySem.W.Frag} {mg : Str → Option Value} {base : Heap}
abbrev cIsInt3 (P : Program) (w : World) (K : PySem.W.Frag) (mg : Str → Option Value) (base : Heap) : Prop := Cal P w K mg base "is_integer" ["value", "least", "greatest"] [] 1 spIsInt
abbrev cIsInt2 (P : Program) (w : World) (K : PySem.W.Frag) (mg : Str → Option Value) (base : Heap) : Prop := Cal P w K mg base "is_integer" ["value", "least", "greatest"] [.non] 1 spIsInt
abbrev cIsId (P : Program) (w : World) (K : PySem.W.Frag) (mg : Str → Option Value) (base : Heap) : Prop := Cal P w K mg base "is_id" ["value"] [] 2 spIsId
/-! ### is_order -/
theorem sc14 : FnScope ["value", "row"] ["value"] (defScope (topS 14)) := ⟨rfl, rfl, rfl, by decide +kernel, rfl, by decide +kernel, by decide +kernel⟩
def OrderOk (ns : List Int) : Prop := ns.length ≤ 30 ∧ (∀ x ∈ ns, IdOk x) ∧ ns.Nodup
def spIsOrder : Sp := fun vs H Q _ => ∃ (a : Addr) (ns : List Int), vs = [.ref a] ∧ IL H a ns ∧ OrderOk ns ∧ ∀ H', Same H H' → Q (.bl true) H'
theorem c_isOrder (g : Glob mg) (D : Df K mg "is_order" (topS 14) [] []) (c3 : cIsId P w K mg base) : Cal P w K mg base "is_order" ["value"] [] 3 spIsOrder := by
  obtain ⟨t, gM⟩ := g.MOST_IDS_values
  refine Cal.of D sc14 (fun _ _ _ _ _ _ us hl => match us, hl with | [_], _ => rfl) (fun vs H Q E h => ?_) (fun f cdv A outer s H vs Q E hr h => ⟨_, pss_cons
    (ps_if (PW.pt (pw_or (pt_not (pt_isi g.isinstance g.list bt_list (pv 0))) (pw_or (pt_cmpR op_gt (pe_len g.len (pv 0)) (pe_glob (v := .int 30) rfl gM ⟨t, rfl⟩) (nomark _))
        (pw_or1 (pt_not (pt_val (pe_callB (cr_all rfl) rfl g.all bt_all (pa_cons (pe_lc (own := [("row", 1)]) (g := gName 1) rfl sc14.nd (pi_list (pv 0)) (blkOk_by (N := ["value", "row"]) (sc := defScope (topS 14)) (by decide +kernel))
          (fun _ _ _ _ _ => pg_name (i := 1) sc14.nd rfl (Or.inl rfl)) (fun _ _ _ _ _ => pts_nil) (fun _ _ _ _ _ => pe_cal c3 hr (pa_cons (pv 1) pa_nil))) pa_nil))))))))
      (pss_one (ps_ret pe_bl)) pss_nil)
    (pss_one (ps_ret (pe_cmpR op_eq (RZ.pe_lenSetI rfl g.len rfl g.set (pv 0)) (pe_len g.len (pv 0)) (nomark _)))), ?_⟩)
  · obtain ⟨v, ns, rfl, _⟩ := h
    rfl
  · obtain ⟨a, ns, rfl, hI, ⟨hl, hid', hnd⟩, q⟩ := h
    refine ⟨_, rfl, _, _, _, _, true, rfl, .ty _, .base (.lst hI), kit_ty ki_ll, _, rfl, ?_⟩
    refine iteF ⟨_, rfl, a, _, rfl, .inl hI.sq, _, _, rfl, rfl, _, rfl, ite2 (fun e => ?_) (fun e => ?_)⟩
    · exfalso
      have := of_decide_eq_true e
      rw [List.length_map] at this
      omega
    · refine ⟨_, rfl, a, rfl, ⟨_, hI.sq⟩, fun D hD => lc_list (K := K) (a := a) (xs := ns.map V.int) (PvA (fun i acc _ => acc = List.replicate i (V.bl true)) H D) (PvA.start hD rfl) (fun i H _ h => (mo h.same hI).sq) (fun i x H2 hx h => ?_) (fun H2 h => ?_)⟩
      · obtain ⟨acc, hD2, hle, sm, rfl⟩ := h
        obtain ⟨n, hn, rfl⟩ := int_get hx
        have hi := (List.getElem?_eq_some_iff.mp hn).1
        refine ⟨rfl, .int n, rfl, n, rfl, hid' n (List.mem_of_getElem? hn), ?_⟩
        exact PvA.snoc (by omega) hD2 hle sm (rep_snoc _ _).symm
      · have sH := h.same
        obtain ⟨acc, hD2, hle, sm, rfl⟩ := h
        rw [map_rep] at hD2
        refine ⟨D, _, rfl, .of hD2, _, rfl, ?_⟩
        rw [all_rep]
        refine ⟨_, rfl, a, ns, rfl, (mo sH hI).sq, hnd, by omega, _, rfl, a, _, rfl, .inl (mo sH hI).sq, rfl, ?_⟩
        rw [List.length_map, decide_eq_true rfl]
        exact q _ sH
/-! ### require_order -/
theorem sc15 : FnScope ["order"] ["order"] (defScope (topS 15)) := ⟨rfl, rfl, rfl, by decide +kernel, rfl, by decide +kernel, by decide +kernel⟩
def spReqOrder : Sp := fun vs H Q _ => ∃ (a : Addr) (ns : List Int), vs = [.ref a] ∧ IL H a ns ∧ OrderOk ns ∧ ∀ H', Same H H' → Q .non H'
theorem c_reqOrder (D : Df K mg "require_order" (topS 15) [] []) (c3 : Cal P w K mg base "is_order" ["value"] [] 3 spIsOrder) : Cal P w K mg base "require_order" ["order"] [] 4 spReqOrder := by
  refine Cal.of D sc15 (fun _ _ _ _ _ _ us hl => match us, hl with | [_], _ => rfl) (fun vs H Q E h => ?_) (fun f cdv A outer s H vs Q E hr h => ⟨_, pss_one
    (ps_if (pt_not (pt_val (pe_cal c3 hr (pa_cons (pv 0) pa_nil)))) (pss_one ps_never) pss_nil), ?_⟩)
  · obtain ⟨v, ns, rfl, _⟩ := h
    rfl
  · obtain ⟨a, ns, rfl, hI, ho, q⟩ := h
    exact ⟨_, rfl, a, ns, rfl, hI, ho, fun H' sm => ⟨_, rfl, iteF (q H' sm)⟩⟩
/-! ### require_polls -/
theorem sc16 : FnScope ["order", "polls", "before", "moment"] ["order", "polls"] (defScope (topS 16)) := ⟨rfl, rfl, rfl, by decide +kernel, rfl, by decide +kernel, by decide +kernel⟩
def PollsOk (n : Nat) (ps : List Int) : Prop := ps.length ≤ 30 ∧ ps.Pairwise (· ≤ ·) ∧ ∀ x ∈ ps, 0 ≤ x ∧ x ≤ n
def spReqPolls : Sp := fun vs H Q _ => ∃ (a b : Addr) (ns ps : List Int), vs = [.ref a, .ref b] ∧ IL H a ns ∧ IL H b ps ∧ PollsOk ns.length ps ∧ Q .non H
theorem c_reqPolls (g : Glob mg) (D : Df K mg "require_polls" (topS 16) [] []) (c3 : cIsInt3 P w K mg base) : Cal P w K mg base "require_polls" ["order", "polls"] [] 2 spReqPolls := by
  obtain ⟨t, gM⟩ := g.MOST_POLLS_values
  refine Cal.of D sc16 (fun _ _ _ _ _ _ us hl => match us, hl with | [_, _], _ => rfl) (fun vs H Q E h => ?_) (fun f cdv A outer s H vs Q E hr h => ⟨_, pss_cons
    (ps_if (PW.pt (pw_or (pt_not (pt_isi g.isinstance g.list bt_list (pv 1))) (pw_or1 (pt_cmpR op_gt (pe_len g.len (pv 1)) (pe_glob (v := .int 30) rfl gM ⟨t, rfl⟩) (nomark _)))))
      (pss_one ps_never) pss_nil)
    (pss_cons (ps_set (i := 2) sc16.nd rfl (.inl rfl) pe_int)
    (pss_one (ps_for PassesOwn.never rfl (pi_list (pv 1)) (pg_name (i := 3) sc16.nd rfl (.inl rfl))
      (pss_cons (ps_if (pt_not (pt_val (pe_cal c3 hr (pa_cons (pv 3) (pa_cons (pv 2) (pa_cons (pe_len g.len (pv 0)) pa_nil)))))) (pss_one ps_never) pss_nil)
      (pss_one (ps_set (i := 2) sc16.nd rfl (.inl rfl) (pv 3))))))), ?_⟩)
  · obtain ⟨a, b, ns, ps, rfl, _⟩ := h
    rfl
  · obtain ⟨a, b, ns, ps, rfl, hI, hJ, ⟨hl, hp, hb⟩, q⟩ := h
    refine ⟨_, rfl, _, _, _, _, true, rfl, .ty _, .base (.lst hJ), kit_ty ki_ll, _, rfl, ?_⟩
    refine iteF ⟨_, rfl, b, _, rfl, .inl hJ.sq, _, _, rfl, rfl, _, rfl, ite2 (fun e => ?_) (fun e => ?_)⟩
    · exfalso
      have := of_decide_eq_true e
      rw [List.length_map] at this
      omega
    · refine ⟨_, rfl, b, rfl, ⟨_, hJ.sq⟩, for_list (K := K) (a := b) (xs := ps.map V.int) (fun i σ H2 => ∃ (z : Int) (y : Option V), σ = [some (.ref a), some (.ref b), some (.int z), y] ∧ H2 = H ∧ ∀ j, ∀ x, i ≤ j → ps[j]? = some x → z ≤ x)
        ⟨0, none, rfl, rfl, fun j x _ hx => (hb x (List.mem_of_getElem? hx)).1⟩ (fun i σ H2 _ ⟨_, _, _, e, _⟩ => by rw [e]; exact hJ.sq) (fun i x σ H2 hx h => ?_) (fun σ H2 h => ?_)⟩
      · obtain ⟨z, y, rfl, rfl, hz⟩ := h
        obtain ⟨n, hn, rfl⟩ := int_get hx
        have h1 := hz i n (Nat.le_refl _) hn
        have h2 := (hb n (List.mem_of_getElem? hn)).2
        refine ⟨_, rfl, _, rfl, _, rfl, a, _, rfl, .inl hI.sq, n, z, _, rfl, .inr ⟨_, rfl, ?_⟩⟩
        rw [List.length_map, decide_eq_true h1, decide_eq_true h2]
        refine ⟨_, rfl, iteF ⟨_, rfl, n, _, rfl, rfl, fun j x hj hx => ?_⟩⟩
        by_cases e : i = j
        · subst e
          rw [hn] at hx
          cases hx
          exact Int.le_refl _
        · rw [List.pairwise_iff_getElem] at hp
          obtain ⟨k1, e1⟩ := List.getElem?_eq_some_iff.mp hn
          obtain ⟨k2, e2⟩ := List.getElem?_eq_some_iff.mp hx
          have := hp i j k1 k2 (by omega)
          rw [e1, e2] at this
          exact this
      · obtain ⟨z, y, rfl, rfl, hz⟩ := h
        exact q
end
end W73


set_option Elab.async false
set_option linter.all false
set_option maxRecDepth 100000
set_option maxHeartbeats 4000000
namespace W73
open PySem PySem.Spec PyProof.Rows L2
theorem cut1 (xs : List V) : cutV xs (some 1) none = xs.drop 1 := by
  unfold cutV
  rw [show HT.sIx xs.length 0 (some 1) = min 1 xs.length from HT.sIx_nat xs.length 0 1, HT.sIx_none]
  cases xs with
  | nil => rfl
  | cons x r =>
    rw [show min 1 (x :: r).length = 1 by
      rw [List.length_cons]
      omega]
    show (List.take ((x :: r).length - 1) r) = r
    rw [List.length_cons, Nat.add_sub_cancel]
    exact List.take_length
theorem keep_at {H : Hp} {D T : Addr} {o u : HO} (hD : H D = some o) (hT : H T = none) : (upd H T u) D = some o := by
  rw [upd_ne (ne_new hD hT).symm]
  exact hD
section
variable {P : Program} {w : World} {K : PySem.W.Frag} {mg : Str → Option Value} {base : Heap}
/-! ### are_ids -/
theorem sc17 : FnScope ["value", "row", "one", "other"] ["value"] (defScope (topS 17)) := ⟨rfl, rfl, rfl, by decide +kernel, rfl, by decide +kernel, by decide +kernel⟩
def IdsOk (ns : List Int) : Prop := ns.length ≤ 30 ∧ (∀ x ∈ ns, IdOk x) ∧ ns.Pairwise (· < ·)
def spAreIds : Sp := fun vs H Q _ => ∃ (a : Addr) (ns : List Int), vs = [.ref a] ∧ IL H a ns ∧ IdsOk ns ∧ ∀ H', Same H H' → Q (.bl true) H'
theorem c_areIds (g : Glob mg) (D : Df K mg "are_ids" (topS 17) [] []) (c3 : cIsId P w K mg base) : Cal P w K mg base "are_ids" ["value"] [] 3 spAreIds := by
  obtain ⟨t, gM⟩ := g.MOST_IDS_values
  refine Cal.of D sc17 (fun _ _ _ _ _ _ us hl => match us, hl with | [_], _ => rfl) (fun vs H Q E h => ?_) (fun f cdv A outer s H vs Q E hr h => ⟨_, pss_cons
    (ps_if (PW.pt (pw_or (pt_not (pt_isi g.isinstance g.list bt_list (pv 0))) (pw_or (pt_cmpR op_gt (pe_len g.len (pv 0)) (pe_glob (v := .int 30) rfl gM ⟨t, rfl⟩) (nomark _))
        (pw_or1 (pt_not (pt_val (pe_callB (cr_all rfl) rfl g.all bt_all (pa_cons (pe_lc (own := [("row", 1)]) (g := gName 1) rfl sc17.nd (pi_list (pv 0)) (blkOk_by (N := ["value", "row", "one", "other"]) (sc := defScope (topS 17)) (by decide +kernel))
          (fun _ _ _ _ _ => pg_name (i := 1) sc17.nd rfl (Or.inl rfl)) (fun _ _ _ _ _ => pts_nil) (fun _ _ _ _ _ => pe_cal c3 hr (pa_cons (pv 1) pa_nil))) pa_nil))))))))
      (pss_one (ps_ret pe_bl)) pss_nil)
    (pss_one (ps_ret (pe_callB (cr_all rfl) rfl g.all bt_all (pa_cons (pe_lc (own := [("one", 2), ("other", 3)]) (g := gTup K 2 (gCons (gName 2) (gCons (gName 3) gNil))) rfl sc17.nd
        (pi_zip rfl g.zip (pa_cons (pv 0) (pa_cons (pe_slice sl_list (pv 0) (po_some pe_int) po_none) pa_nil))) (blkOk_by (N := ["value", "row", "one", "other"]) (sc := defScope (topS 17)) (by decide +kernel))
          (fun _ _ _ _ _ => pg_tup rfl (pgs_cons (pg_name (i := 2) sc17.nd rfl (Or.inl rfl)) (pgs_cons (pg_name (i := 3) sc17.nd rfl (Or.inl rfl)) pgs_nil))) (fun _ _ _ _ _ => pts_nil) (fun _ _ _ _ _ => pe_cmpR op_lt (pv 2) (pv 3) (nomark _))) pa_nil)))), ?_⟩)
  · obtain ⟨v, ns, rfl, _⟩ := h
    rfl
  · obtain ⟨a, ns, rfl, hI, ⟨hl, hid', hnd⟩, q⟩ := h
    refine ⟨_, rfl, _, _, _, _, true, rfl, .ty _, .base (.lst hI), kit_ty ki_ll, _, rfl, ?_⟩
    refine iteF ⟨_, rfl, a, _, rfl, .inl hI.sq, _, _, rfl, rfl, _, rfl, ite2 (fun e => ?_) (fun e => ?_)⟩
    · exfalso
      have := of_decide_eq_true e
      rw [List.length_map] at this
      omega
    · refine ⟨_, rfl, a, rfl, ⟨_, hI.sq⟩, fun D hD => lc_list (K := K) (a := a) (xs := ns.map V.int) (PvA (fun i acc _ => acc = List.replicate i (V.bl true)) H D) (PvA.start hD rfl) (fun i H _ h => (mo h.same hI).sq) (fun i x H2 hx h => ?_) (fun H2 h => ?_)⟩
      · obtain ⟨acc, hD2, hle, sm, rfl⟩ := h
        obtain ⟨n, hn, rfl⟩ := int_get hx
        have hi := (List.getElem?_eq_some_iff.mp hn).1
        refine ⟨rfl, .int n, rfl, n, rfl, hid' n (List.mem_of_getElem? hn), ?_⟩
        exact PvA.snoc (by omega) hD2 hle sm (rep_snoc _ _).symm
      · have sH := h.same
        obtain ⟨acc, hD2, hle, sm, rfl⟩ := h
        rw [map_rep] at hD2
        refine ⟨D, _, rfl, .of hD2, _, rfl, ?_⟩
        rw [all_rep]
        -- the pairs
        have hI2 : IL H2 a ns := mo sH hI
        refine ⟨.ref a, rfl, .ref a, rfl, 1, rfl, a, _, rfl, hI2.sq, fun c nc => ?_⟩
        have s2 : Same H2 (upd H2 c (.lst (cutV (ns.map V.int) (some 1) none))) := same_upd nc
        have hC : SqL K (upd H2 c (.lst (cutV (ns.map V.int) (some 1) none))) c ((ns.map V.int).drop 1) := by
          rw [cut1]
          exact .of upd_same
        refine ⟨a, c, _, _, rfl, (mo s2 hI2).sq, hC, fun D2 hD' => lc_it (walk_zip (xs := ns.map V.int) (ys := (ns.map V.int).drop 1) rfl) (PvA (fun i acc _ => acc = List.replicate i (V.bl true)) (upd H2 c (.lst (cutV (ns.map V.int) (some 1) none))) D2) (PvA.start hD' rfl)
          (fun i H3 _ h => ⟨(mo h.same (mo s2 hI2)).sq, h.same.seq hC⟩) (fun i x H3 H4 hi h hy => ?_) (fun H3 h => ?_)⟩
        · obtain ⟨acc, hD3, hle', sm', rfl⟩ := h
          obtain ⟨T, x1, x2, rfl, hT, rfl, e1, e2⟩ := hy
          obtain ⟨n1, hn1, rfl⟩ := int_get e1
          replace e2 : ((ns.map V.int).drop 1)[i]? = some x2 := e2
          rw [List.getElem?_drop, Nat.add_comm] at e2
          obtain ⟨n2, hn2, rfl⟩ := int_get e2
          have hlt : n1 < n2 := by
            rw [List.pairwise_iff_getElem] at hnd
            obtain ⟨k1, f1⟩ := List.getElem?_eq_some_iff.mp hn1
            obtain ⟨k2, f2⟩ := List.getElem?_eq_some_iff.mp hn2
            have := hnd i (i + 1) k1 k2 (by omega)
            rw [f1, f2] at this
            exact this
          have hi' := (List.getElem?_eq_some_iff.mp hn1).1
          refine ⟨T, _, rfl, .of upd_same, rfl, _, _, rfl, _, _, rfl, rfl, rfl, _, rfl, _, rfl, _, _, rfl, rfl, ?_⟩
          dsimp only
          rw [decide_eq_true hlt]
          exact PvA.snoc (by omega) (keep_at hD3 hT) hle' (sm'.trans (hid_new hT)) (rep_snoc _ _).symm
        · have sH' := h.same
          obtain ⟨acc, hD3, hle', sm', rfl⟩ := h
          rw [map_rep] at hD3
          refine ⟨D2, _, rfl, .of hD3, ?_⟩
          rw [all_rep]
          exact q _ (sH.trans (s2.trans sH'))
/-! ### require_ids -/
theorem sc18 : FnScope ["ids"] ["ids"] (defScope (topS 18)) := ⟨rfl, rfl, rfl, by decide +kernel, rfl, by decide +kernel, by decide +kernel⟩
def spReqIds : Sp := fun vs H Q _ => ∃ (a : Addr) (ns : List Int), vs = [.ref a] ∧ IL H a ns ∧ IdsOk ns ∧ ∀ H', Same H H' → Q .non H'
theorem c_reqIds (D : Df K mg "require_ids" (topS 18) [] []) (c3 : Cal P w K mg base "are_ids" ["value"] [] 3 spAreIds) : Cal P w K mg base "require_ids" ["ids"] [] 4 spReqIds := by
  refine Cal.of D sc18 (fun _ _ _ _ _ _ us hl => match us, hl with | [_], _ => rfl) (fun vs H Q E h => ?_) (fun f cdv A outer s H vs Q E hr h => ⟨_, pss_one
    (ps_if (pt_not (pt_val (pe_cal c3 hr (pa_cons (pv 0) pa_nil)))) (pss_one ps_never) pss_nil), ?_⟩)
  · obtain ⟨v, ns, rfl, _⟩ := h
    rfl
  · obtain ⟨a, ns, rfl, hI, ho, q⟩ := h
    exact ⟨_, rfl, a, ns, rfl, hI, ho, fun H' sm => ⟨_, rfl, iteF (q H' sm)⟩⟩
/-! ### is_count -/
theorem sc23 : FnScope ["value"] ["value"] (defScope (topS 23)) := ⟨rfl, rfl, rfl, by decide +kernel, rfl, by decide +kernel, by decide +kernel⟩
def CntOk (p : Int × Int) : Prop := 0 ≤ p.1 ∧ p.1 ≤ 30 ∧ 0 ≤ p.2 ∧ p.2 ≤ big
def spIsCount : Sp := fun vs H Q _ => ∃ (a : Addr) (p : Int × Int), vs = [.ref a] ∧ P2 H a p ∧ CntOk p ∧ Q (.bl true) H
theorem c_isCount (g : Glob mg) (D : Df K mg "is_count" (topS 23) [] []) (c3 : cIsInt3 P w K mg base) : Cal P w K mg base "is_count" ["value"] [] 2 spIsCount := by
  obtain ⟨t, gM⟩ := g.MOST_IDS_counts
  obtain ⟨t2, gB⟩ := g.MOST_ID
  refine Cal.of D sc23 (fun _ _ _ _ _ _ us hl => match us, hl with | [_], _ => rfl) (fun vs H Q E h => ?_) (fun f cdv A outer s H vs Q E hr h => ⟨_, pss_cons
    (ps_if (PW.pt (pw_or (pt_not (pt_isi g.isinstance g.tuple bt_tuple (pv 0))) (pw_or1 (pt_cmpR op_ne (pe_len g.len (pv 0)) pe_int (nomark _)))))
      (pss_one (ps_ret pe_bl)) pss_nil)
    (pss_one (ps_ret (pe_and (pe_cal c3 hr (pa_cons (pe_ix ix_tup (pv 0) pe_int (fun _ _ => rfl)) (pa_cons pe_int (pa_cons (pe_glob (v := .int 30) rfl gM ⟨t, rfl⟩) pa_nil))))
      (pe_one (pe_cal c3 hr (pa_cons (pe_ix ix_tup (pv 0) pe_int (fun _ _ => rfl)) (pa_cons pe_int (pa_cons (pe_glob (v := .int big) rfl gB ⟨t2, rfl⟩) pa_nil)))))))), ?_⟩)
  · obtain ⟨v, ns, rfl, _⟩ := h
    rfl
  · obtain ⟨a, p, rfl, hP, ⟨h1, h2, h3, h4⟩, q⟩ := h
    refine ⟨_, rfl, _, _, _, _, true, rfl, .ty _, .base (.tup hP), kit_ty ki_tt, _, rfl, ?_⟩
    refine iteF ⟨_, rfl, a, _, rfl, .inr hP.sq, rfl, _, rfl, ?_⟩
    refine iteF ⟨_, rfl, a, _, 0, _, rfl, rfl, hP.sq, atI_nat (j := 0) rfl, p.1, 0, _, rfl, .inr ⟨_, rfl, ?_⟩⟩
    rw [decide_eq_true h1, decide_eq_true h2]
    refine ⟨_, rfl, iteT ⟨_, rfl, a, _, 1, _, rfl, rfl, hP.sq, atI_nat (j := 1) rfl, p.2, 0, _, rfl, .inr ⟨_, rfl, ?_⟩⟩⟩
    rw [decide_eq_true h3, decide_eq_true h4]
    exact q
/-! ### require_counts -/
theorem sc24 : FnScope ["counts", "value"] ["counts"] (defScope (topS 24)) := ⟨rfl, rfl, rfl, by decide +kernel, rfl, by decide +kernel, by decide +kernel⟩
def CntsOk (cs : List (Int × Int)) : Prop := cs.length ≤ 12 ∧ ∀ p ∈ cs, CntOk p
def spReqCounts : Sp := fun vs H Q _ => ∃ (a : Addr) (cs : List (Int × Int)), vs = [.ref a] ∧ CL H a cs ∧ CntsOk cs ∧ ∀ H', Same H H' → Q .non H'
theorem c_reqCounts (g : Glob mg) (D : Df K mg "require_counts" (topS 24) [] []) (c3 : Cal P w K mg base "is_count" ["value"] [] 2 spIsCount) : Cal P w K mg base "require_counts" ["counts"] [] 3 spReqCounts := by
  obtain ⟨t, gM⟩ := g.MOST_POLLS_counts
  refine Cal.of D sc24 (fun _ _ _ _ _ _ us hl => match us, hl with | [_], _ => rfl) (fun vs H Q E h => ?_) (fun f cdv A outer s H vs Q E hr h => ⟨_, pss_one
    (ps_if (PW.pt (pw_or (pt_not (pt_isi g.isinstance g.list bt_list (pv 0))) (pw_or (pt_cmpR op_gt (pe_len g.len (pv 0)) (pe_glob (v := .int 12) rfl gM ⟨t, rfl⟩) (nomark _))
        (pw_or1 (pt_not (pt_val (pe_callB (cr_all rfl) rfl g.all bt_all (pa_cons (pe_lc (own := [("value", 1)]) (g := gName 1) rfl sc24.nd (pi_list (pv 0)) (blkOk_by (N := ["counts", "value"]) (sc := defScope (topS 24)) (by decide +kernel))
          (fun _ _ _ _ _ => pg_name (i := 1) sc24.nd rfl (Or.inl rfl)) (fun _ _ _ _ _ => pts_nil) (fun _ _ _ _ _ => pe_cal c3 hr (pa_cons (pv 1) pa_nil))) pa_nil))))))))
      (pss_one ps_never) pss_nil), ?_⟩)
  · obtain ⟨v, ns, rfl, _⟩ := h
    rfl
  · obtain ⟨a, cs, rfl, ⟨as, hA, h2⟩, ⟨hl, hok⟩, q⟩ := h
    have hS : ∀ H', Same H H' → SqL K H' a (as.map V.ref) := fun H' sm => .of (sm _ _ hA)
    refine ⟨_, rfl, _, _, _, _, true, rfl, .ty _, .base (.lst hA), kit_ty ki_ll, _, rfl, ?_⟩
    refine iteF ⟨_, rfl, a, _, rfl, .inl (.of hA), _, _, rfl, rfl, _, rfl, ite2 (fun e => ?_) (fun e => ?_)⟩
    · exfalso
      have := of_decide_eq_true e
      rw [List.length_map, h2.1] at this
      omega
    · refine ⟨_, rfl, a, rfl, ⟨_, .of hA⟩, fun D hD => lc_list (K := K) (a := a) (xs := as.map V.ref) (PvA (fun i acc _ => acc = List.replicate i (V.bl true)) H D) (PvA.start hD rfl) (fun i H _ h => hS _ h.same) (fun i x H2 hx h => ?_) (fun H2 h => ?_)⟩
      · have sH := h.same
        obtain ⟨acc, hD2, hle, sm, rfl⟩ := h
        obtain ⟨b, hb, rfl⟩ := ref_get hx
        obtain ⟨p, hp, r⟩ := h2.get hb
        have hi := (List.getElem?_eq_some_iff.mp hp).1
        refine ⟨rfl, .ref b, rfl, b, p, rfl, mo sH r, hok p (List.mem_of_getElem? hp), ?_⟩
        exact PvA.snoc (by omega) hD2 hle sm (rep_snoc _ _).symm
      · have sH := h.same
        obtain ⟨acc, hD2, hle, sm, rfl⟩ := h
        rw [map_rep] at hD2
        refine ⟨D, _, rfl, .of hD2, _, rfl, ?_⟩
        rw [all_rep]
        exact iteF (q _ sH)
end
end W73


set_option Elab.async false
set_option linter.all false
set_option maxRecDepth 100000
set_option maxHeartbeats 4000000
namespace W73
open PySem PySem.Spec PyProof.Rows L2
/-- [x for x in xs if p x] -/
theorem lc_filter {K : PySem.W.Frag} {a : Addr} {ns : List Int} {g : TG} {tt : TT} {te : TE} {vs : List Nat} {σ : L2.St} {H1 : Hp} {D : Addr} {Qd : Hp → Prop} (p : Int → Bool) (hI : IL H1 a ns) (hD : H1 D = none) (hl : ns.length ≤ 1000000)
    (hs : ∀ (n : Int) (H : Hp) (A : V → Hp → Prop) (B : Hp → Prop), n ∈ ns → Same H1 H → (p n = true → A (.int n) H) → (p n = false → B H) →
      g (.int n) (wipe σ vs) H fun σ2 H2 => wipe σ2 vs = wipe σ vs ∧ tt σ2 H2 fun b H3 => if b = true then te σ2 H3 A else B H3)
    (hd : ∀ H, Same H1 (hid D H) → IL H D (ns.filter p) → Qd H) :
    ∃ W : Nat → Nat → Hp → Prop, (∃ m, W 0 m (upd H1 D (.lst []))) ∧ ∀ i m H, W i m H →
      ((Itl K a).stop i H ∧ Qd H) ∨ ((Itl K a).go i H ∧ ∃ Nx : Hp → Prop, (∀ H', Nx H' → ∃ m', m' < m ∧ W (i + 1) m' H') ∧ ∀ x H', (Itl K a).yld i H x H' → g x (wipe σ vs) H' fun σ2 H2 => wipe σ2 vs = wipe σ vs ∧ tt σ2 H2 fun b H3 =>
        if b = true then te σ2 H3 fun y H4 => ∃ acc, H4 D = some (.lst acc) ∧ acc.length < sizeLine ∧ Nx (upd H4 D (.lst (acc ++ [y]))) else Nx H3) := by
  refine lc_list (K := K) (a := a) (xs := ns.map V.int) (PvA (fun i acc _ => acc = ((ns.take i).filter p).map V.int) H1 D) (PvA.start hD rfl) (fun i H _ h => (mo h.same hI).sq) (fun i x H2 hx h => ?_) (fun H2 h => ?_)
  · have sH := h.same
    obtain ⟨acc, hD2, hle, sm, rfl⟩ := h
    obtain ⟨n, hn, rfl⟩ := int_get hx
    have hi := (List.getElem?_eq_some_iff.mp hn).1
    have et : ns.take (i + 1) = ns.take i ++ [n] := by rw [List.take_add_one, hn]; rfl
    refine hs n H2 _ _ (List.mem_of_getElem? hn) sH (fun e => PvA.snoc (by omega) hD2 hle sm ?_) (fun e => PvA.skip hD2 hle sm ?_)
    · rw [et, List.filter_append, List.map_append, List.filter_cons, if_pos e]
      rfl
    · rw [et, List.filter_append, List.map_append, List.filter_cons, if_neg (by rw [e]; exact Bool.false_ne_true)]
      simp
  · obtain ⟨acc, hD2, hle, sm, rfl⟩ := h
    refine hd H2 sm ?_
    rw [List.take_of_length_le (by rw [List.length_map]; exact Nat.le_refl _)] at hD2
    exact hD2
theorem bf {b : Bool} (h : ¬ b = true) : b = false := by
  cases b
  · rfl
  · exact absurd rfl h
theorem dec_and {a b : Prop} [Decidable a] [Decidable b] : (decide a && decide b) = decide (a ∧ b) := by
  by_cases a <;> by_cases b <;> simp_all
section
variable {P : Program} {w : World} {K : PySem.W.Frag} {mg : Str → Option Value} {base : Heap}
/-! ### parts_of -/
theorem sc25 : FnScope ["counts", "ids", "found", "old", "number", "cursor", "row"] ["counts", "ids"] (defScope (topS 25)) := ⟨rfl, rfl, rfl, by decide +kernel, rfl, by decide +kernel, by decide +kernel⟩
def spParts : Sp := fun vs H Q _ => ∃ (a b : Addr) (cs : List (Int × Int)) (ids : List Int), vs = [.ref a, .ref b] ∧ CL H a cs ∧ IL H b ids ∧ cs.length ≤ 1000 ∧ ids.length ≤ 1000 ∧
  ∀ H' p, Same H H' → H p = none → LL (dif H H') p (M73.partsL ids 0 cs) → Q (.ref p) H'
theorem c_parts (D : Df K mg "parts_of" (topS 25) [] []) : Cal P w K mg base "parts_of" ["counts", "ids"] [] 1 spParts := by
  refine Cal.of D sc25 (fun _ _ _ _ _ _ us hl => match us, hl with | [_, _], _ => rfl) (fun vs H Q E h => ?_) (fun f cdv A outer s H vs Q E hr h => ⟨_, pss_cons (ps_set (i := 2) sc25.nd rfl (.inl rfl) (pe_lst pa_nil))
    (pss_cons (ps_set (i := 3) sc25.nd rfl (.inr rfl) pe_int)
    (pss_cons (ps_for PassesOwn.never rfl (pi_list (pv 0)) (pg_tup rfl (pgs_cons (pg_name (i := 4) sc25.nd rfl (.inl rfl)) (pgs_cons (pg_name (i := 5) sc25.nd rfl (.inr rfl)) pgs_nil)))
      (pss_cons (ps_expr (pe_bm PySem.F.plainAttrs_list PySem.F.slot_list_append PySem.F.type_list_append mt_append (pv 2) (pa_cons
        (pe_lc (own := [("row", 6)]) (g := gName 6) rfl sc25.nd (pi_list (pv 1)) (blkOk_by (N := ["counts", "ids", "found", "old", "number", "cursor", "row"]) (sc := defScope (topS 25)) (by decide +kernel))
          (fun _ _ _ _ _ => pg_name (i := 6) sc25.nd rfl (Or.inl rfl)) (fun _ _ _ _ _ => pts_one (pt_chain op_lt op_le (pv 3) (pv 6) (pv 5))) (fun _ _ _ _ _ => pv 6)) pa_nil)))
      (pss_one (ps_set (i := 3) sc25.nd rfl (.inr rfl) (pv 5)))))
    (pss_one (ps_ret (pv 2))))), ?_⟩)
  · obtain ⟨a, b, cs, ids, rfl, _⟩ := h
    rfl
  · obtain ⟨a, b, cs, ids, rfl, ⟨as, hA, hC⟩, hI, hlc, hli, q⟩ := h
    refine ⟨Nat.zero_le _, fun o no => ?_⟩
    refine ⟨.ref a, rfl, a, rfl, ⟨_, .of (same_upd no _ _ hA)⟩, for_list (K := K) (a := a) (xs := as.map V.ref)
      (fun i σ H2 => ∃ (old : Int) (y4 y5 y6 : Option V), σ = [some (.ref a), some (.ref b), some (.ref o), some (.int old), y4, y5, y6] ∧
        PvA (fun i acc G => ∃ ps dn, acc = ps.map V.ref ∧ (∀ d ∈ ps, H d = none) ∧ All2 (IL G) ps dn ∧ M73.partsL ids 0 cs = dn ++ M73.partsL ids old (cs.drop i)) H o i H2)
      ⟨0, none, none, none, rfl, PvA.start no ⟨[], [], rfl, fun d hd => by simp at hd, All2.nil, rfl⟩⟩ (fun i σ H2 _ ⟨_, _, _, _, _, h⟩ => .of (h.same _ _ hA)) (fun i x σ H2 hx h => ?_) (fun σ H2 h => ?_)⟩
    · obtain ⟨old, y4, y5, y6, rfl, h⟩ := h
      have sH := h.same
      obtain ⟨acc, hO, hle, sm, ps, dn, rfl, hnew, hps, hdn⟩ := h
      obtain ⟨t, ht, rfl⟩ := ref_get hx
      obtain ⟨⟨n, c⟩, hc, r⟩ := hC.get ht
      have hi := (List.getElem?_eq_some_iff.mp hc).1
      have r2 : P2 H2 t (n, c) := mo sH r
      have hdr : cs.drop i = (n, c) :: cs.drop (i + 1) := by
        obtain ⟨k1, e1⟩ := List.getElem?_eq_some_iff.mp hc
        rw [List.drop_eq_getElem_cons k1, e1]
      refine ⟨t, _, rfl, r2.sq, rfl, _, _, rfl, _, _, rfl, rfl, ?_⟩
      refine ⟨.ref o, rfl, .inl ⟨rfl, _, .of hO⟩, .ref b, rfl, b, rfl, ⟨_, (mo sH hI).sq⟩, fun D hD => lc_filter (K := K) (a := b) (fun x => decide (old < x) && decide (x ≤ c)) (mo sH hI) hD (by omega) (fun m H3 A B hm s3 hA' hB' => ?_) (fun H3 s3 hF => ?_)⟩
      · refine ⟨rfl, .int old, rfl, .int m, rfl, _, _, rfl, rfl, _, rfl, ?_⟩
        refine ite2 (fun e => ?_) (fun e => ?_)
        · refine ⟨.int c, rfl, _, _, rfl, rfl, _, rfl, ite2 (fun e2 => ?_) (fun e2 => ?_)⟩
          · exact ⟨_, rfl, hA' (by rw [e, e2]; rfl)⟩
          · exact hB' (by rw [e, bf e2]; rfl)
        · exact ⟨_, rfl, iteF (hB' (by rw [bf e]; rfl))⟩
      · have s4 : Same H2 H3 := s3.trans hid_same
        have hO3 : H3 o = some (.lst (ps.map V.ref)) := s4 _ _ hO
        have hDo : D ≠ o := ne_new hO hD
        refine ⟨o, _, .ref D, rfl, rfl, hO3, line_small (by omega), .int c, rfl, c, _, _, _, rfl, ?_⟩
        refine PvA.put hO3 hle (sm.trans (hid_mono s4)) ⟨ps ++ [D], dn ++ [M73.part old c ids], by rw [List.map_append]; rfl, fun d hd => ?_, (hps.mono fun _ _ x => mo (hid_mono s4) x).snoc ?_, ?_⟩
        · rcases List.mem_append.mp hd with z | z
          · exact hnew d z
          · rw [List.mem_singleton.mp z]
            exact sH.free hD
        · show hid o H3 D = _
          rw [hid_ne hDo]
          exact hF
        · rw [hdn, hdr, List.append_assoc]
          rfl
    · obtain ⟨old, y4, y5, y6, rfl, h⟩ := h
      have sH := h.same
      obtain ⟨acc, hO, hle, sm, ps, dn, rfl, hnew, hps, hdn⟩ := h
      rw [List.drop_eq_nil_of_le (by rw [List.length_map, hC.1]; exact Nat.le_refl _)] at hdn
      refine ⟨.ref o, rfl, q H2 o sH no ⟨ps, by rw [dif_at no]; exact hO, ?_⟩⟩
      rw [hdn, show M73.partsL ids old [] = [] from rfl, List.append_nil]
      refine ⟨hps.1, fun i d l hd hl => ?_⟩
      show dif H H2 d = _
      rw [dif_at (hnew d (List.mem_of_getElem? hd))]
      exact hid_same _ _ (hps.2 i d l hd hl)
end
end W73


set_option Elab.async false
set_option linter.all false
set_option maxRecDepth 100000
set_option maxHeartbeats 4000000
namespace W73
open PySem PySem.Spec PyProof.Rows L2
/-! ### the data as the model reads them -/
abbrev dI (ns : List Int) : PyData := .list (ns.map .int)
abbrev dL (log : List (List Int)) : PyData := .list (log.map dI)
abbrev dG (logs : List (List (List Int))) : PyData := .list (logs.map dL)
abbrev dP (p : Int × Int) : PyData := .tuple [.int p.1, .int p.2]
abbrev dC (cs : List (Int × Int)) : PyData := .list (cs.map dP)
section
variable {K : PySem.W.Frag} {H : Hp}
theorem dpAll_ints : ∀ ns : List Int, DpAll K H (ns.map V.int) (ns.map .int)
  | [] => .nil
  | n :: ns => .cons (.int n) (dpAll_ints ns)
theorem dp_IL {a : Addr} {ns : List Int} (h : IL H a ns) : Dp K H (.ref a) (dI ns) := .lst h.sq (dpAll_ints ns)
theorem dp_P2 {a : Addr} {p : Int × Int} (h : P2 H a p) : Dp K H (.ref a) (dP p) := .tup h.sq (.cons (.int _) (.cons (.int _) .nil))
theorem dpAll_refs {β : Type} {R : Hp → Addr → β → Prop} {enc : β → PyData} (h : ∀ a b, R H a b → Dp K H (.ref a) (enc b)) : ∀ (as : List Addr) (bs : List β), All2 (R H) as bs → DpAll K H (as.map V.ref) (bs.map enc)
  | [], [], _ => .nil
  | [], _ :: _, x => by simp [All2] at x
  | _ :: _, [], x => by simp [All2] at x
  | a :: as, b :: bs, x => .cons (h a b x.of_cons.1) (dpAll_refs h as bs x.of_cons.2)
theorem dp_RL {β : Type} {R : Hp → Addr → β → Prop} {enc : β → PyData} (h : ∀ a b, R H a b → Dp K H (.ref a) (enc b)) {a : Addr} {bs : List β} (x : RL R H a bs) : Dp K H (.ref a) (.list (bs.map enc)) := by
  obtain ⟨as, hA, h2⟩ := x
  exact .lst (.of hA) (dpAll_refs h as bs h2)
theorem dp_LL {a : Addr} {log : List (List Int)} (h : LL H a log) : Dp K H (.ref a) (dL log) := dp_RL (fun _ _ => dp_IL) h
theorem dp_GL {a : Addr} {logs : List (List (List Int))} (h : GL H a logs) : Dp K H (.ref a) (dG logs) := dp_RL (fun _ _ => dp_LL) h
theorem dp_CL {a : Addr} {cs : List (Int × Int)} (h : CL H a cs) : Dp K H (.ref a) (dC cs) := dp_RL (fun _ _ => dp_P2) h
theorem dp_nil {a : Addr} (h : H a = some (.lst [])) : Dp K H (.ref a) (.list []) := .lst (.of h) .nil
end
section
variable {β : Type} {enc : β → PyData}
theorem lay_map (h : ∀ b, (enc b).canLay0 = true) : ∀ bs : List β, PyData.canLayAll0 (bs.map enc) = true
  | [] => by simp [PyData.canLayAll0]
  | b :: bs => by simp [PyData.canLayAll0, h b, lay_map h bs]
theorem dep_map {k : Nat} (h : ∀ b, (enc b).depth ≤ k) : ∀ bs : List β, PyData.depthAll (bs.map enc) ≤ k
  | [] => by simp [PyData.depthAll]
  | b :: bs => by
    have := h b
    have := dep_map h bs
    simp only [List.map_cons, PyData.depthAll]
    omega
theorem eqv_map [DecidableEq β] (h : ∀ a b, PyData.eqv (enc a) (enc b) = decide (a = b)) : ∀ xs ys : List β, PyData.eqvAll (xs.map enc) (ys.map enc) = decide (xs = ys)
  | [], [] => by simp [PyData.eqvAll]
  | [], _ :: _ => by simp [PyData.eqvAll]
  | _ :: _, [] => by simp [PyData.eqvAll]
  | x :: xs, y :: ys => by
    simp only [List.map_cons, PyData.eqvAll]
    rw [h x y, eqv_map h xs ys]
    by_cases h1 : x = y <;> by_cases h2 : xs = ys <;> simp [h1, h2]
theorem alike_map (h : ∀ a b, PySem.W.alike (enc a) (enc b) = true) : ∀ xs ys : List β, PySem.W.alikeAll (xs.map enc) (ys.map enc) = true
  | [], _ => by simp [PySem.W.alikeAll]
  | _ :: _, [] => by simp [PySem.W.alikeAll]
  | x :: xs, y :: ys => by
    simp only [List.map_cons, PySem.W.alikeAll]
    rw [h x y, alike_map h xs ys]
    rfl
end
theorem lay_I (ns : List Int) : (dI ns).canLay0 = true := by
  simp only [dI, PyData.canLay0]
  exact lay_map (fun b => by simp [PyData.canLay0]) ns
theorem lay_L (l : List (List Int)) : (dL l).canLay0 = true := by
  simp only [dL, PyData.canLay0]
  exact lay_map lay_I l
theorem lay_G (l : List (List (List Int))) : (dG l).canLay0 = true := by
  simp only [dG, PyData.canLay0]
  exact lay_map lay_L l
theorem lay_P (p : Int × Int) : (dP p).canLay0 = true := by simp [dP, PyData.canLay0, PyData.canLayAll0]
theorem lay_C (l : List (Int × Int)) : (dC l).canLay0 = true := by
  simp only [dC, PyData.canLay0]
  exact lay_map lay_P l
theorem dep_I (ns : List Int) : (dI ns).depth ≤ 1 := by
  have := dep_map (enc := PyData.int) (k := 0) (fun b => by simp [PyData.depth]) ns
  simp only [dI, PyData.depth]
  omega
theorem dep_L (l : List (List Int)) : (dL l).depth ≤ 2 := by
  have := dep_map (enc := dI) dep_I l
  simp only [dL, PyData.depth]
  omega
theorem dep_G (l : List (List (List Int))) : (dG l).depth ≤ 3 := by
  have := dep_map (enc := dL) dep_L l
  simp only [dG, PyData.depth]
  omega
theorem dep_P (p : Int × Int) : (dP p).depth ≤ 1 := by simp [dP, PyData.depth, PyData.depthAll]
theorem dep_C (l : List (Int × Int)) : (dC l).depth ≤ 2 := by
  have := dep_map (enc := dP) dep_P l
  simp only [dC, PyData.depth]
  omega
theorem shp {d : PyData} {k : Nat} (h : d.canLay0 = true) (h2 : d.depth ≤ k) (hk : k ≤ 64) : SeqAt.shaped d = true := by
  unfold SeqAt.shaped
  rw [h, decide_eq_true (by omega)]
  rfl
theorem shp_I (ns : List Int) : SeqAt.shaped (dI ns) = true := shp (lay_I ns) (dep_I ns) (by decide)
theorem shp_L (l : List (List Int)) : SeqAt.shaped (dL l) = true := shp (lay_L l) (dep_L l) (by decide)
theorem shp_G (l : List (List (List Int))) : SeqAt.shaped (dG l) = true := shp (lay_G l) (dep_G l) (by decide)
theorem shp_C (l : List (Int × Int)) : SeqAt.shaped (dC l) = true := shp (lay_C l) (dep_C l) (by decide)
theorem shp_nil : SeqAt.shaped (.list []) = true := shp_I []
theorem eqv_I (xs ys : List Int) : PyData.eqv (dI xs) (dI ys) = decide (xs = ys) := by
  simp only [dI, PyData.eqv]
  exact eqv_map (fun a b => by simp only [PyData.eqv]; rfl) xs ys
theorem eqv_L (xs ys : List (List Int)) : PyData.eqv (dL xs) (dL ys) = decide (xs = ys) := by
  simp only [dL, PyData.eqv]
  exact eqv_map eqv_I xs ys
theorem eqv_G (xs ys : List (List (List Int))) : PyData.eqv (dG xs) (dG ys) = decide (xs = ys) := by
  simp only [dG, PyData.eqv]
  exact eqv_map eqv_L xs ys
theorem eqv_P (x y : Int × Int) : PyData.eqv (dP x) (dP y) = decide (x = y) := by
  simp only [dP, PyData.eqv, PyData.eqvAll]
  obtain ⟨a, b⟩ := x
  obtain ⟨c, d⟩ := y
  by_cases h1 : a = c <;> by_cases h2 : b = d <;> simp [h1, h2]
theorem eqv_C (xs ys : List (Int × Int)) : PyData.eqv (dC xs) (dC ys) = decide (xs = ys) := by
  simp only [dC, PyData.eqv]
  exact eqv_map eqv_P xs ys
theorem eqv_nilI (xs : List Int) : PyData.eqv (dI xs) (.list []) = decide (xs = []) := eqv_I xs []
theorem eqv_nilL (xs : List (List Int)) : PyData.eqv (dL xs) (.list []) = decide (xs = []) := eqv_L xs []
theorem eqv_nilG (xs : List (List (List Int))) : PyData.eqv (dG xs) (.list []) = decide (xs = []) := eqv_G xs []
theorem eqv_nilC (xs : List (Int × Int)) : PyData.eqv (dC xs) (.list []) = decide (xs = []) := eqv_C xs []
theorem alike_L (xs ys : List (List Int)) : PySem.W.alike (dL xs) (dL ys) = true := by
  simp only [dL, PySem.W.alike]
  exact alike_map (fun a b => by simp only [dI, PySem.W.alike]; exact PySem.W.alike_ints a b) xs ys
/-- the last item -/
theorem at_last {ns : List Int} {z : Int} (h : ns.getLast? = some z) : atI (ns.map V.int) (-1) = some (.int z) := by
  have hne : ns ≠ [] := by
    rintro rfl
    simp at h
  have e : ns = ns.dropLast ++ [z] := by
    rw [List.getLast?_eq_some_getLast hne] at h
    have e2 := Option.some.inj h
    rw [← e2, List.dropLast_concat_getLast]
  rw [e, List.map_append]
  exact atI_last _ _
/-! ### the order of the logs -/
theorem rowLt_logs : ∀ xs ys : List (List Int), PySem.W.rowLt (xs.map dI) (ys.map dI) = decide (xs < ys)
  | [], [] => by
    have e : PySem.W.rowLt [] [] = false := lex_irrefl _
    simp [e]
  | [], y :: ys => by
    have e : PySem.W.rowLt [] (dI y :: ys.map dI) = true := by
      unfold PySem.W.rowLt
      rw [PySem.W.toks_all_cons]
      simp only [PySem.W.keyToksAll]
      rw [lex_diff (O := itemOrd) (by simp)]
      rfl
    simpa using e
  | x :: xs, [] => by
    have e : PySem.W.rowLt (dI x :: xs.map dI) [] = false := by
      unfold PySem.W.rowLt
      rw [PySem.W.toks_all_cons]
      simp only [PySem.W.keyToksAll]
      rw [lex_diff (O := itemOrd) (by simp)]
      rfl
    simpa using e
  | x :: xs, y :: ys => by
    have ea : PySem.W.alike (dI x) (dI y) = true := by
      simp only [dI, PySem.W.alike]
      exact PySem.W.alike_ints x y
    have e : PySem.W.rowLt (dI x :: xs.map dI) (dI y :: ys.map dI) = if x = y then PySem.W.rowLt (xs.map dI) (ys.map dI) else decide (x < y) := by
      unfold PySem.W.rowLt
      rw [PySem.W.dataLt_cons ea, eqv_I]
      have e2 : PySem.W.dataLt (dI x) (dI y) = decide (x < y) := by
        rw [PySem.W.dataLt_list]
        exact PySem.W.dataLt_ints x y
      rw [e2]
      simp only [decide_eq_true_eq]
    show PySem.W.rowLt (dI x :: xs.map dI) (dI y :: ys.map dI) = _
    rw [e]
    by_cases h : x = y
    · rw [if_pos h, rowLt_logs xs ys]
      simp [h, List.cons_lt_cons_iff]
    · rw [if_neg h]
      simp [h, List.cons_lt_cons_iff]
theorem dataLe_logs : PySem.W.dataLe false dL = fun (p q : List (List Int)) => decide (p ≤ q) := by
  funext p q
  show (!PySem.W.dataLt (dL q) (dL p)) = _
  rw [PySem.W.dataLt_list]
  show (!PySem.W.rowLt (q.map dI) (p.map dI)) = _
  rw [rowLt_logs]
  by_cases h : q < p
  · have h' : ¬ p ≤ q := fun r => List.not_lt.mpr r h
    simp [h, h']
  · have h' : p ≤ q := List.not_lt.mp h
    simp [h, h']
end W73


set_option Elab.async false
set_option linter.all false
set_option maxRecDepth 100000
set_option maxHeartbeats 4000000
namespace W73
open PySem PySem.Spec PyProof.Rows L2
theorem drop_cons {α : Type} {l : List α} {i : Nat} {x : α} (h : l[i]? = some x) : l.drop i = x :: l.drop (i + 1) := by
  obtain ⟨k1, e1⟩ := List.getElem?_eq_some_iff.mp h
  rw [List.drop_eq_getElem_cons k1, e1]
theorem get_of_drop {α : Type} {l r : List α} {i : Nat} {x : α} (h : l.drop i = x :: r) : l[i]? = some x ∧ l.drop (i + 1) = r := by
  have h1 : (l.drop i)[0]? = some x := by rw [h]; rfl
  rw [List.getElem?_drop, Nat.add_zero] at h1
  refine ⟨h1, ?_⟩
  rw [drop_cons h1] at h
  exact (List.cons.inj h).2
/-- the pairs that zip gives -/
abbrev gPair (K : PySem.W.Frag) (a b : TG) : TG := gTup K 2 (gCons a (gCons b gNil))
section
variable {P : Program} {w : World} {K : PySem.W.Frag} {mg : Str → Option Value} {base : Heap}
abbrev cParts (P : Program) (w : World) (K : PySem.W.Frag) (mg : Str → Option Value) (base : Heap) : Prop := Cal P w K mg base "parts_of" ["counts", "ids"] [] 1 spParts
/-! ### fit_in -/
theorem sc26 : FnScope ["counts", "ids", "old", "number", "cursor", "part"] ["counts", "ids"] (defScope (topS 26)) := ⟨rfl, rfl, rfl, by decide +kernel, rfl, by decide +kernel, by decide +kernel⟩
def spFit : Sp := fun vs H Q _ => ∃ (a b : Addr) (cs : List (Int × Int)) (ids : List Int), vs = [.ref a, .ref b] ∧ CL H a cs ∧ IL H b ids ∧ cs.length ≤ 1000 ∧ ids.length ≤ 1000 ∧
  ∀ H', Same H H' → Q (.bl (M73.fitB ids 0 cs)) H'
theorem c_fit (g : Glob mg) (D : Df K mg "fit_in" (topS 26) [] []) (cp : cParts P w K mg base) : Cal P w K mg base "fit_in" ["counts", "ids"] [] 2 spFit := by
  refine Cal.of D sc26 (fun _ _ _ _ _ _ us hl => match us, hl with | [_, _], _ => rfl) (fun vs H Q E h => ?_) (fun f cdv A outer s H vs Q E hr h => ⟨_, pss_cons (ps_set (i := 2) sc26.nd rfl (.inl rfl) pe_int)
    (pss_cons (ps_for PassesOwn.never rfl (pi_zip rfl g.zip (pa_cons (pv 0) (pa_cons (pe_cal cp hr (pa_cons (pv 0) (pa_cons (pv 1) pa_nil))) pa_nil)))
      (pg_tup rfl (pgs_cons (pg_tup rfl (pgs_cons (pg_name (i := 3) sc26.nd rfl (.inl rfl)) (pgs_cons (pg_name (i := 4) sc26.nd rfl (.inl rfl)) pgs_nil))) (pgs_cons (pg_name (i := 5) sc26.nd rfl (.inl rfl)) pgs_nil)))
      (pss_cons (ps_if (PW.pt (pw_or (pt_cmpR op_lt (pv 4) (pv 2) (nomark _)) (pw_or1 (PW.pt (pw_and (pt_cmpR op_eq (pv 4) (pv 2) (nomark _)) (pw_and1 (pt_cmpR op_gt (pv 3) pe_int (nomark _)))))))) (pss_one (ps_ret pe_bl)) pss_nil)
      (pss_cons (ps_if (PW.pt (pw_and (pt_cmpR op_gt (pv 4) (pv 2) (nomark _)) (pw_and1 (PW.pt (pw_or (pt_cmpR (op_eqD hr.units) (pv 5) (pe_lst pa_nil) (nomark _))
          (pw_or (pt_cmpR op_ne (pe_ix ix_list (pv 5) (pe_un un_neg pe_int) (fun _ _ => rfl)) (pv 4) (nomark _)) (pw_or1 (pt_not (pt_chain op_le op_le pe_int (pv 3) (pe_len g.len (pv 5)))))))))))
        (pss_one (ps_ret pe_bl)) pss_nil)
      (pss_one (ps_set (i := 2) sc26.nd rfl (.inl rfl) (pv 4))))))
    (pss_one (ps_ret pe_bl))), ?_⟩)
  · obtain ⟨a, b, cs, ids, rfl, _⟩ := h
    rfl
  · obtain ⟨a, b, cs, ids, rfl, hC, hI, hlc, hli, q⟩ := h
    refine ⟨.ref a, rfl, .ref a, rfl, .ref b, rfl, a, b, cs, ids, rfl, hC, hI, hlc, hli, fun H1 p s1 np hL => ?_⟩
    obtain ⟨as, hA, h2⟩ := hC
    obtain ⟨ps, hP, h3⟩ := mo dif_same hL
    have lp : ps.length = as.length := by rw [h3.1, M73.partsL_length, h2.1]
    refine ⟨a, p, as.map V.ref, ps.map V.ref, rfl, .of (s1 _ _ hA), .of hP, for_it (walk_zip (n := cs.length) (by rw [List.length_map, List.length_map, lp, Nat.min_self, h2.1]))
      (fun i σ H2 => ∃ (old : Int) (y3 y4 y5 : Option V), σ = [some (.ref a), some (.ref b), some (.int old), y3, y4, y5] ∧ Same H1 H2 ∧
        (M73.partsL ids 0 cs).drop i = M73.partsL ids old (cs.drop i) ∧ M73.fitB ids 0 cs = M73.fitB ids old (cs.drop i))
      ⟨0, none, none, none, rfl, Same.refl _, rfl, rfl⟩ (fun i σ H2 _ ⟨_, _, _, _, _, s2, _⟩ => ⟨.of (s2 _ _ (s1 _ _ hA)), .of (s2 _ _ hP)⟩) (fun i x σ H2 H3 hi h hy => ?_) (fun σ H2 h => ?_)⟩
    · obtain ⟨old, y3, y4, y5, rfl, s2, hd, hf⟩ := h
      obtain ⟨T, x1, x2, rfl, hT, rfl, e1, e2⟩ := hy
      obtain ⟨t, ht, rfl⟩ := ref_get e1
      obtain ⟨u, hu, rfl⟩ := ref_get e2
      obtain ⟨⟨n, c⟩, hc, r⟩ := h2.get ht
      obtain ⟨pt, hpt, rp⟩ := h3.get hu
      rw [drop_cons hc] at hd hf
      have ept : pt = M73.part old c ids := by
        have := (get_of_drop hd).1
        rw [hpt] at this
        exact Option.some.inj this
      have hd' := (get_of_drop hd).2
      subst ept
      have s3 : Same H (upd H2 T (.tup [.ref t, .ref u])) := s1.trans (s2.trans (same_upd hT))
      have s4 : Same H1 (upd H2 T (.tup [.ref t, .ref u])) := s2.trans (same_upd hT)
      have r2 : P2 (upd H2 T (.tup [.ref t, .ref u])) t (n, c) := mo s3 r
      have rp2 : IL (upd H2 T (.tup [.ref t, .ref u])) u (M73.part old c ids) := mo s4 rp
      refine ⟨T, _, rfl, .of upd_same, rfl, _, _, rfl, ⟨t, _, rfl, r2.sq, rfl, _, _, rfl, _, _, rfl, rfl, _, _, rfl, rfl, ?_⟩⟩
      -- the first test
      have bad : ∀ H', Same (upd H2 T (.tup [.ref t, .ref u])) H' → M73.okRow ids old n c = false → Q (.bl false) H' := fun H' s5 e => by
        have := q H' (s3.trans s5)
        rw [hf, M73.fitB, e] at this
        exact this
      have nxt : ∀ H', Same (upd H2 T (.tup [.ref t, .ref u])) H' → M73.okRow ids old n c = true → ∃ (old' : Int) (y3' y4' y5' : Option V), [some (V.ref a), some (.ref b), some (.int c), some (.int n), some (.int c), some (.ref u)] = [some (.ref a), some (.ref b), some (.int old'), y3', y4', y5'] ∧ Same H1 H' ∧
          (M73.partsL ids 0 cs).drop (i + 1) = M73.partsL ids old' (cs.drop (i + 1)) ∧ M73.fitB ids 0 cs = M73.fitB ids old' (cs.drop (i + 1)) := fun H' s5 e => by
        refine ⟨c, _, _, _, rfl, s4.trans s5, hd', ?_⟩
        rw [hf, M73.fitB, e]
        rfl
      refine ⟨_, rfl, _, rfl, _, _, rfl, rfl, _, rfl, ite2 (fun e => ?_) (fun e => ?_)⟩
      · exact iteT (bad _ (Same.refl _) (by simp [M73.okRow, of_decide_eq_true e]))
      · have e' : ¬ c < old := fun z => e (decide_eq_true z)
        refine ⟨_, rfl, _, rfl, rfl, _, rfl, ite2 (fun e2 => ?_) (fun e2 => ?_)⟩
        · have ec : c = old := V.int.inj (of_decide_eq_true e2)
          refine ⟨_, rfl, _, _, rfl, rfl, _, rfl, ite2 (fun e3 => ?_) (fun e3 => ?_)⟩
          · exact bad _ (Same.refl _) (by simp [M73.okRow, ec, of_decide_eq_true e3])
          · have e3' : ¬ 0 < n := fun z => e3 (decide_eq_true z)
            refine ⟨_, rfl, _, rfl, _, _, rfl, rfl, _, rfl, ite2 (fun e4 => ?_) (fun e4 => ?_)⟩
            · exact absurd (of_decide_eq_true e4) (by omega)
            · exact iteF ⟨_, rfl, nxt _ (Same.refl _) (by simp [M73.okRow, ec, e3'])⟩
        · have ec : ¬ c = old := fun z => e2 (decide_eq_true (by rw [z]))
          refine iteF ⟨_, rfl, _, rfl, _, _, rfl, rfl, _, rfl, ite2 (fun e4 => ?_) (fun e4 => ?_)⟩
          · have e4' : old < c := of_decide_eq_true e4
            refine ⟨_, rfl, Nat.zero_le _, fun l hl => ?_⟩
            have s5 : Same (upd H2 T (.tup [.ref t, .ref u])) (upd (upd H2 T (.tup [.ref t, .ref u])) l (.lst [])) := same_upd hl
            refine ⟨dI (M73.part old c ids), .list [], dp_IL (mo s5 rp2), dp_nil upd_same, shp_I _, shp_nil, _, rfl, ?_⟩
            rw [eqv_nilI]
            refine ite2 (fun e5 => ?_) (fun e5 => ?_)
            · exact iteT (bad _ s5 (by simp [M73.okRow, e', ec, e4', of_decide_eq_true e5]))
            · have e5' : ¬ M73.part old c ids = [] := fun z => e5 (decide_eq_true z)
              obtain ⟨z, hz⟩ : ∃ z, (M73.part old c ids).getLast? = some z := by
                rw [List.getLast?_eq_some_getLast e5']
                exact ⟨_, rfl⟩
              refine ⟨_, rfl, 1, rfl, u, _, -1, _, rfl, rfl, (mo s5 rp2).sq, at_last hz, _, rfl, rfl, _, rfl, ite2 (fun e6 => ?_) (fun e6 => ?_)⟩
              · have e6' : ¬ z = c := fun k => by
                  rw [k] at e6
                  simp at e6
                exact iteT (bad _ s5 (by simp [M73.okRow, e', ec, e4', e5', hz, e6']))
              · have e6' : z = c := by
                  have := bf e6
                  simpa using this
                subst e6'
                refine ⟨_, rfl, _, _, rfl, rfl, _, rfl, ite2 (fun e7 => ?_) (fun e7 => ?_)⟩
                · have e7' : 1 ≤ n := of_decide_eq_true e7
                  refine ⟨_, rfl, u, _, rfl, .inl (mo s5 rp2).sq, _, _, rfl, rfl, _, rfl, ?_⟩
                  rw [List.length_map]
                  by_cases e8 : n ≤ ((M73.part old z ids).length : Int)
                  · rw [decide_eq_true e8]
                    exact iteF ⟨_, rfl, nxt _ s5 (by simp [M73.okRow, e', ec, e4', e5', hz, e7', e8])⟩
                  · rw [decide_eq_false e8]
                    exact iteT (bad _ s5 (by simp [M73.okRow, e', ec, e4', e5', hz, e7', e8]))
                · have e7' : ¬ 1 ≤ n := fun k => e7 (decide_eq_true k)
                  exact ⟨_, rfl, iteT (bad _ s5 (by simp [M73.okRow, e', ec, e4', e5', hz, e7']))⟩
          · exact absurd (of_decide_eq_false (bf e4)) (by omega)
    · obtain ⟨old, y3, y4, y5, rfl, s2, hd, hf⟩ := h
      have := q H2 (s1.trans s2)
      rw [hf, List.drop_length] at this
      exact this
end
end W73


set_option Elab.async false
set_option linter.all false
set_option maxRecDepth 100000
set_option maxHeartbeats 4000000
namespace W73
open PySem PySem.Spec PyProof.Rows L2
section
variable {P : Program} {w : World} {K : PySem.W.Frag} {mg : Str → Option Value} {base : Heap}
abbrev cFit (P : Program) (w : World) (K : PySem.W.Frag) (mg : Str → Option Value) (base : Heap) : Prop := Cal P w K mg base "fit_in" ["counts", "ids"] [] 2 spFit
abbrev cReqC (P : Program) (w : World) (K : PySem.W.Frag) (mg : Str → Option Value) (base : Heap) : Prop := Cal P w K mg base "require_counts" ["counts"] [] 3 spReqCounts
abbrev cReqI (P : Program) (w : World) (K : PySem.W.Frag) (mg : Str → Option Value) (base : Heap) : Prop := Cal P w K mg base "require_ids" ["ids"] [] 4 spReqIds
/-! ### require_fit -/
theorem sc27 : FnScope ["counts", "ids"] ["counts", "ids"] (defScope (topS 27)) := ⟨rfl, rfl, rfl, by decide +kernel, rfl, by decide +kernel, by decide +kernel⟩
def spReqFit : Sp := fun vs H Q _ => ∃ (a b : Addr) (cs : List (Int × Int)) (ids : List Int), vs = [.ref a, .ref b] ∧ CL H a cs ∧ IL H b ids ∧ CntsOk cs ∧ IdsOk ids ∧ M73.fitB ids 0 cs = true ∧
  ∀ H', Same H H' → Q .non H'
theorem c_reqFit (D : Df K mg "require_fit" (topS 27) [] []) (cC : cReqC P w K mg base) (cI : cReqI P w K mg base) (cF : cFit P w K mg base) : Cal P w K mg base "require_fit" ["counts", "ids"] [] 5 spReqFit := by
  refine Cal.of D sc27 (fun _ _ _ _ _ _ us hl => match us, hl with | [_, _], _ => rfl) (fun vs H Q E h => ?_) (fun f cdv A outer s H vs Q E hr h => ⟨_, pss_cons (ps_expr (pe_cal cC (hr.mono (by decide)) (pa_cons (pv 0) pa_nil)))
    (pss_cons (ps_expr (pe_cal cI hr (pa_cons (pv 1) pa_nil)))
    (pss_one (ps_if (pt_not (pt_val (pe_cal cF (hr.mono (by decide)) (pa_cons (pv 0) (pa_cons (pv 1) pa_nil))))) (pss_one ps_never) pss_nil))), ?_⟩)
  · obtain ⟨a, b, cs, ids, rfl, _⟩ := h
    rfl
  · obtain ⟨a, b, cs, ids, rfl, hC, hI, hc, hi, hf, q⟩ := h
    refine ⟨.ref a, rfl, a, cs, rfl, hC, hc, fun H1 s1 => ⟨.ref b, rfl, b, ids, rfl, mo s1 hI, hi, fun H2 s2 => ?_⟩⟩
    refine ⟨.ref a, rfl, .ref b, rfl, a, b, cs, ids, rfl, mo (s1.trans s2) hC, mo (s1.trans s2) hI, by have := hc.1; omega, by have := hi.1; omega, fun H3 s3 => ⟨_, rfl, ?_⟩⟩
    rw [hf]
    exact iteF (q H3 (s1.trans (s2.trans s3)))
/-! ### counts_fit -/
theorem sc28 : FnScope ["counts", "ids"] ["counts", "ids"] (defScope (topS 28)) := ⟨rfl, rfl, rfl, by decide +kernel, rfl, by decide +kernel, by decide +kernel⟩
def spCFit : Sp := fun vs H Q _ => ∃ (a b : Addr) (cs : List (Int × Int)) (ids : List Int), vs = [.ref a, .ref b] ∧ CL H a cs ∧ IL H b ids ∧ CntsOk cs ∧ IdsOk ids ∧
  ∀ H', Same H H' → Q (.bl (M73.fitB ids 0 cs)) H'
theorem c_cFit (D : Df K mg "counts_fit" (topS 28) [] []) (cC : cReqC P w K mg base) (cI : cReqI P w K mg base) (cF : cFit P w K mg base) : Cal P w K mg base "counts_fit" ["counts", "ids"] [] 5 spCFit := by
  refine Cal.of D sc28 (fun _ _ _ _ _ _ us hl => match us, hl with | [_, _], _ => rfl) (fun vs H Q E h => ?_) (fun f cdv A outer s H vs Q E hr h => ⟨_, pss_cons (ps_expr (pe_cal cC (hr.mono (by decide)) (pa_cons (pv 0) pa_nil)))
    (pss_cons (ps_expr (pe_cal cI hr (pa_cons (pv 1) pa_nil)))
    (pss_one (ps_ret (pe_cal cF (hr.mono (by decide)) (pa_cons (pv 0) (pa_cons (pv 1) pa_nil)))))), ?_⟩)
  · obtain ⟨a, b, cs, ids, rfl, _⟩ := h
    rfl
  · obtain ⟨a, b, cs, ids, rfl, hC, hI, hc, hi, q⟩ := h
    refine ⟨.ref a, rfl, a, cs, rfl, hC, hc, fun H1 s1 => ⟨.ref b, rfl, b, ids, rfl, mo s1 hI, hi, fun H2 s2 => ?_⟩⟩
    exact ⟨.ref a, rfl, .ref b, rfl, a, b, cs, ids, rfl, mo (s1.trans s2) hC, mo (s1.trans s2) hI, by have := hc.1; omega, by have := hi.1; omega, fun H3 s3 => q H3 (s1.trans (s2.trans s3))⟩
/-! ### choices -/
theorem sc32 : FnScope ["many", "chosen", "found", "step"] ["many", "chosen"] (defScope (topS 32)) := ⟨rfl, rfl, rfl, by decide +kernel, rfl, by decide +kernel, by decide +kernel⟩
def spCh : Sp := fun vs H Q _ => ∃ (m k : Int), vs = [.int m, .int k] ∧ m ≤ 1000 ∧ Q (.int (M73.chZ m k)) H
theorem c_ch (g : Glob mg) (D : Df K mg "choices" (topS 32) [] []) : Cal P w K mg base "choices" ["many", "chosen"] [] 1 spCh := by
  refine Cal.of D sc32 (fun _ _ _ _ _ _ us hl => match us, hl with | [_, _], _ => rfl) (fun vs H Q E h => ?_) (fun f cdv A outer s H vs Q E hr h => ⟨_, pss_cons
    (ps_if (pt_not (pt_chain op_le op_le pe_int (pv 1) (pv 0))) (pss_one (ps_ret pe_int)) pss_nil)
    (pss_cons (ps_set (i := 2) sc32.nd rfl (.inl rfl) pe_int)
    (pss_cons (ps_for PassesOwn.never rfl (pi_range1 rfl g.range (pa_cons (pv 1) pa_nil)) (pg_name (i := 3) sc32.nd rfl (.inl rfl))
      (pss_one (ps_set (i := 2) sc32.nd rfl (.inl rfl) (pe_op op_fdiv (pe_op op_mul (pv 2) (pe_op op_sub (pv 0) (pv 3))) (pe_op op_add (pv 3) pe_int)))))
    (pss_one (ps_ret (pv 2))))), ?_⟩)
  · obtain ⟨m, k, rfl, _⟩ := h
    rfl
  · obtain ⟨m, k, rfl, hm, q⟩ := h
    refine ⟨_, rfl, _, _, rfl, rfl, _, rfl, ite2 (fun e => ?_) (fun e => ?_)⟩
    · refine ⟨_, rfl, _, _, rfl, rfl, _, rfl, ?_⟩
      have e' : 0 ≤ k := of_decide_eq_true e
      by_cases e2 : k ≤ m
      · rw [decide_eq_true e2]
        refine iteF ⟨.int k, rfl, k, rfl, by omega, by omega, for_range (lo := 0) (n := k.toNat) (fun i σ H2 => ∃ y3, σ = [some (.int m), some (.int k), some (.int (M73.ch m.toNat i)), y3] ∧ H2 = H)
          ⟨none, by rw [M73.ch_zero]; rfl, rfl⟩ (fun i σ H2 hi h => ?_) (fun σ H2 h => ?_)⟩
        · obtain ⟨y3, rfl, rfl⟩ := h
          refine ⟨_, rfl, _, rfl, _, rfl, _, _, rfl, rfl, _, _, rfl, rfl, .inr ⟨by omega, by omega⟩, _, rfl, _, _, rfl, rfl, _, _, rfl, rfl, ⟨by omega, by omega⟩, ?_⟩
          have et := M73.ch_turn (m := m.toNat) (k := i) (by omega)
          have em : ((m.toNat : Nat) : Int) = m := by omega
          rw [em] at et
          refine ⟨some (.int (0 + (i : Int))), ?_, rfl⟩
          have e0 : (0 : Int) + (i : Int) = (i : Int) := by omega
          show [some (V.int m), some (V.int k), some (V.int ((M73.ch m.toNat i : Int) * (m - (0 + (i : Int))) / (0 + (i : Int) + 1))), some (V.int (0 + (i : Int)))] = _
          rw [e0, et]
        · obtain ⟨y3, rfl, rfl⟩ := h
          refine ⟨_, rfl, ?_⟩
          have : M73.chZ m k = (M73.ch m.toNat k.toNat : Int) := by
            unfold M73.chZ
            rw [if_pos ⟨e', e2⟩]
          rw [this] at q
          exact q
      · rw [decide_eq_false e2]
        have : M73.chZ m k = 0 := by
          unfold M73.chZ
          rw [if_neg (by omega)]
        rw [this] at q
        exact iteT q
    · have e' : ¬ 0 ≤ k := fun z => e (decide_eq_true z)
      have : M73.chZ m k = 0 := by
        unfold M73.chZ
        rw [if_neg (by omega)]
      rw [this] at q
      exact ⟨_, rfl, iteT q⟩
abbrev cCh (P : Program) (w : World) (K : PySem.W.Frag) (mg : Str → Option Value) (base : Heap) : Prop := Cal P w K mg base "choices" ["many", "chosen"] [] 1 spCh
/-! ### ways_of -/
theorem sc33 : FnScope ["part", "number"] ["part", "number"] (defScope (topS 33)) := ⟨rfl, rfl, rfl, by decide +kernel, rfl, by decide +kernel, by decide +kernel⟩
def spWay : Sp := fun vs H Q _ => ∃ (a : Addr) (pt : List Int) (n : Int), vs = [.ref a, .int n] ∧ IL H a pt ∧ pt.length ≤ 1000 ∧ ∀ H', Same H H' → Q (.int (M73.wayOf (n, pt))) H'
theorem c_way (g : Glob mg) (D : Df K mg "ways_of" (topS 33) [] []) (cc : cCh P w K mg base) : Cal P w K mg base "ways_of" ["part", "number"] [] 2 spWay := by
  refine Cal.of D sc33 (fun _ _ _ _ _ _ us hl => match us, hl with | [_, _], _ => rfl) (fun vs H Q E h => ?_) (fun f cdv A outer s H vs Q E hr h => ⟨_, pss_one
    (ps_ret (pe_ifExp (pt_cmpR (op_eqD hr.units) (pv 0) (pe_lst pa_nil) (nomark _)) pe_int (pe_cal cc hr (pa_cons (pe_op op_sub (pe_len g.len (pv 0)) pe_int) (pa_cons (pe_op op_sub (pv 1) pe_int) pa_nil))))), ?_⟩)
  · obtain ⟨a, pt, n, rfl, _⟩ := h
    rfl
  · obtain ⟨a, pt, n, rfl, hI, hl, q⟩ := h
    refine ⟨_, rfl, Nat.zero_le _, fun l hl => ?_⟩
    have s5 : Same H (upd H l (.lst [])) := same_upd hl
    refine ⟨dI pt, .list [], dp_IL (mo s5 hI), dp_nil upd_same, shp_I _, shp_nil, _, rfl, ?_⟩
    rw [eqv_nilI]
    refine ite2 (fun e => ?_) (fun e => ?_)
    · have e' : pt = [] := of_decide_eq_true e
      have := q _ s5
      rw [M73.wayOf, if_pos e'] at this
      exact this
    · have e' : ¬ pt = [] := fun z => e (decide_eq_true z)
      have := q _ s5
      rw [M73.wayOf, if_neg e'] at this
      refine ⟨_, rfl, a, _, rfl, .inl (mo s5 hI).sq, _, _, rfl, rfl, _, rfl, _, _, rfl, rfl, _, _, rfl, ?_, ?_⟩
      · rw [List.length_map]
        omega
      · rw [List.length_map]
        exact this
abbrev cWay (P : Program) (w : World) (K : PySem.W.Frag) (mg : Str → Option Value) (base : Heap) : Prop := Cal P w K mg base "ways_of" ["part", "number"] [] 2 spWay
/-! ### ways_in -/
theorem sc34 : FnScope ["counts", "ids", "found", "number", "cursor", "part"] ["counts", "ids"] (defScope (topS 34)) := ⟨rfl, rfl, rfl, by decide +kernel, rfl, by decide +kernel, by decide +kernel⟩
def spWays : Sp := fun vs H Q _ => ∃ (a b : Addr) (cs : List (Int × Int)) (ids : List Int), vs = [.ref a, .ref b] ∧ CL H a cs ∧ IL H b ids ∧ cs.length ≤ 1000 ∧ ids.length ≤ 30 ∧
  ∀ H', Same H H' → Q (.int (M73.waysL (M73.zsOf ids 0 cs))) H'
theorem ip_mul {X : Cx} : PIp X .Mult (rI CMul fun i j => .int (i * j)) := iop_mul
theorem c_ways (g : Glob mg) (D : Df K mg "ways_in" (topS 34) [] []) (cp : cParts P w K mg base) (cw : cWay P w K mg base) : Cal P w K mg base "ways_in" ["counts", "ids"] [] 3 spWays := by
  refine Cal.of D sc34 (fun _ _ _ _ _ _ us hl => match us, hl with | [_, _], _ => rfl) (fun vs H Q E h => ?_) (fun f cdv A outer s H vs Q E hr h => ⟨_, pss_cons (ps_set (i := 2) sc34.nd rfl (.inl rfl) pe_int)
    (pss_cons (ps_for PassesOwn.never rfl (pi_zip rfl g.zip (pa_cons (pv 0) (pa_cons (pe_cal cp (hr.mono (by decide)) (pa_cons (pv 0) (pa_cons (pv 1) pa_nil))) pa_nil)))
      (pg_tup rfl (pgs_cons (pg_tup rfl (pgs_cons (pg_name (i := 3) sc34.nd rfl (.inl rfl)) (pgs_cons (pg_name (i := 4) sc34.nd rfl (.inl rfl)) pgs_nil))) (pgs_cons (pg_name (i := 5) sc34.nd rfl (.inl rfl)) pgs_nil)))
      (pss_one (ps_aug (i := 2) sc34.nd rfl (.inl rfl) (pe_cal cw hr (pa_cons (pv 5) (pa_cons (pv 3) pa_nil))) ip_mul)))
    (pss_one (ps_ret (pv 2)))), ?_⟩)
  · obtain ⟨a, b, cs, ids, rfl, _⟩ := h
    rfl
  · obtain ⟨a, b, cs, ids, rfl, hC, hI, hlc, hli, q⟩ := h
    refine ⟨.ref a, rfl, .ref a, rfl, .ref b, rfl, a, b, cs, ids, rfl, hC, hI, hlc, by omega, fun H1 p s1 np hL => ?_⟩
    obtain ⟨as, hA, h2⟩ := hC
    obtain ⟨ps, hP, h3⟩ := mo dif_same hL
    have lp : ps.length = as.length := by rw [h3.1, M73.partsL_length, h2.1]
    refine ⟨a, p, as.map V.ref, ps.map V.ref, rfl, .of (s1 _ _ hA), .of hP, for_it (walk_zip (n := cs.length) (by rw [List.length_map, List.length_map, lp, Nat.min_self, h2.1]))
      (fun i σ H2 => ∃ (y3 y4 y5 : Option V), σ = [some (.ref a), some (.ref b), some (.int (M73.waysL ((M73.zsOf ids 0 cs).take i))), y3, y4, y5] ∧ Same H1 H2)
      ⟨none, none, none, rfl, Same.refl _⟩ (fun i σ H2 _ ⟨_, _, _, _, s2⟩ => ⟨.of (s2 _ _ (s1 _ _ hA)), .of (s2 _ _ hP)⟩) (fun i x σ H2 H3 hi h hy => ?_) (fun σ H2 h => ?_)⟩
    · obtain ⟨y3, y4, y5, rfl, s2⟩ := h
      obtain ⟨T, x1, x2, rfl, hT, rfl, e1, e2⟩ := hy
      obtain ⟨t, ht, rfl⟩ := ref_get e1
      obtain ⟨u, hu, rfl⟩ := ref_get e2
      obtain ⟨⟨n, c⟩, hc, r⟩ := h2.get ht
      obtain ⟨pt, hpt, rp⟩ := h3.get hu
      have hz := M73.zsOf_get hc hpt
      have s3 : Same H (upd H2 T (.tup [.ref t, .ref u])) := s1.trans (s2.trans (same_upd hT))
      have s4 : Same H1 (upd H2 T (.tup [.ref t, .ref u])) := s2.trans (same_upd hT)
      have r2 : P2 (upd H2 T (.tup [.ref t, .ref u])) t (n, c) := mo s3 r
      have rp2 : IL (upd H2 T (.tup [.ref t, .ref u])) u pt := mo s4 rp
      have lpt : pt.length ≤ ids.length := M73.zs_length cs 0 (n, pt) (List.mem_of_getElem? hz)
      refine ⟨T, _, rfl, .of upd_same, rfl, _, _, rfl, ⟨t, _, rfl, r2.sq, rfl, _, _, rfl, _, _, rfl, rfl, _, _, rfl, rfl, ?_⟩⟩
      refine ⟨_, rfl, _, rfl, _, rfl, u, pt, n, rfl, rp2, by omega, fun H4 s5 => ⟨_, _, rfl, rfl, .inr ?_, some (.int n), some (.int c), some (.ref u), ?_, s4.trans s5⟩⟩
      · have b1 := M73.wayOf_nonneg (n, pt)
        have b2 := M73.wayOf_le (z := (n, pt)) (b := 30) (by show pt.length ≤ 31; omega)
        have b3 : (2 : Int) ^ 30 < 2 ^ 64 := by decide
        exact ⟨by omega, by omega⟩
      · rw [List.take_add_one, hz]
        show [some (V.ref a), some (V.ref b), some (V.int (M73.waysL ((M73.zsOf ids 0 cs).take i) * M73.wayOf (n, pt))), some (V.int n), some (V.int c), some (V.ref u)] = _
        congr 5
        unfold M73.waysL
        rw [List.foldl_append]
        rfl
    · obtain ⟨y3, y4, y5, rfl, s2⟩ := h
      rw [List.take_of_length_le (by rw [M73.zsOf_length]; exact Nat.le_refl _)]
      exact ⟨_, rfl, q H2 (s1.trans s2)⟩
abbrev cWays (P : Program) (w : World) (K : PySem.W.Frag) (mg : Str → Option Value) (base : Heap) : Prop := Cal P w K mg base "ways_in" ["counts", "ids"] [] 3 spWays
/-! ### count_logs -/
theorem sc35 : FnScope ["counts", "ids"] ["counts", "ids"] (defScope (topS 35)) := ⟨rfl, rfl, rfl, by decide +kernel, rfl, by decide +kernel, by decide +kernel⟩
def spCnt : Sp := fun vs H Q _ => ∃ (a b : Addr) (cs : List (Int × Int)) (ids : List Int), vs = [.ref a, .ref b] ∧ CL H a cs ∧ IL H b ids ∧ CntsOk cs ∧ IdsOk ids ∧
  ∀ H', Same H H' → Q (.int ((M73.PL ids cs).length : Nat)) H'
theorem cnt_eq {ids : List Int} {cs : List (Int × Int)} (h : CntsOk cs) : (if M73.fitB ids 0 cs = true then M73.waysL (M73.zsOf ids 0 cs) else 0) = ((M73.PL ids cs).length : Int) := by
  have h0 : ∀ p ∈ cs, 0 ≤ p.1 := fun p hp => (h.2 p hp).1
  split
  · rename_i e
    exact (M73.prod_length cs 0 h0 e).symm
  · rename_i e
    have : M73.prodLogs ids 0 cs = [] := by
      by_cases z : M73.prodLogs ids 0 cs = []
      · exact z
      · exact absurd ((M73.prod_ne cs 0 h0).mpr z) e
    rw [M73.PL, this]
    rfl
theorem c_cnt (D : Df K mg "count_logs" (topS 35) [] []) (cC : cReqC P w K mg base) (cI : cReqI P w K mg base) (cF : cFit P w K mg base) (cW : cWays P w K mg base) : Cal P w K mg base "count_logs" ["counts", "ids"] [] 5 spCnt := by
  refine Cal.of D sc35 (fun _ _ _ _ _ _ us hl => match us, hl with | [_, _], _ => rfl) (fun vs H Q E h => ?_) (fun f cdv A outer s H vs Q E hr h => ⟨_, pss_cons (ps_expr (pe_cal cC (hr.mono (by decide)) (pa_cons (pv 0) pa_nil)))
    (pss_cons (ps_expr (pe_cal cI hr (pa_cons (pv 1) pa_nil)))
    (pss_one (ps_ret (pe_ifExp (pt_val (pe_cal cF (hr.mono (by decide)) (pa_cons (pv 0) (pa_cons (pv 1) pa_nil)))) (pe_cal cW (hr.mono (by decide)) (pa_cons (pv 0) (pa_cons (pv 1) pa_nil))) pe_int)))), ?_⟩)
  · obtain ⟨a, b, cs, ids, rfl, _⟩ := h
    rfl
  · obtain ⟨a, b, cs, ids, rfl, hC, hI, hc, hi, q⟩ := h
    refine ⟨.ref a, rfl, a, cs, rfl, hC, hc, fun H1 s1 => ⟨.ref b, rfl, b, ids, rfl, mo s1 hI, hi, fun H2 s2 => ?_⟩⟩
    have s12 := s1.trans s2
    rw [← cnt_eq hc] at q
    refine ⟨.ref a, rfl, .ref b, rfl, a, b, cs, ids, rfl, mo s12 hC, mo s12 hI, by have := hc.1; omega, by have := hi.1; omega, fun H3 s3 => ⟨_, rfl, ite2 (fun e => ?_) (fun e => ?_)⟩⟩
    · have s123 := s12.trans s3
      rw [if_pos e] at q
      exact ⟨.ref a, rfl, .ref b, rfl, a, b, cs, ids, rfl, mo s123 hC, mo s123 hI, by have := hc.1; omega, by have := hi.1; omega, fun H4 s4 => q H4 (s123.trans s4)⟩
    · rw [if_neg e] at q
      exact q H3 (s12.trans s3)
end
end W73


set_option Elab.async false
set_option linter.all false
set_option maxRecDepth 100000
set_option maxHeartbeats 4000000
namespace W73
open PySem PySem.Spec PyProof.Rows L2
theorem PvA.first {I : Nat → List V → Hp → Prop} {H1 H : Hp} {D : Addr} {i : Nat} (h : PvA I H1 D i H) : ∃ acc, H D = some (.lst acc) ∧ acc.length ≤ i ∧ Same H1 (hid D H) ∧ I i acc (hid D H) := h
section
variable {P : Program} {w : World} {K : PySem.W.Frag} {mg : Str → Option Value} {base : Heap}
/-! ### nth_list -/
theorem sc36 : FnScope ["part", "number", "index", "found", "place", "row", "left", "many"] ["part", "number", "index"] (defScope (topS 36)) := ⟨rfl, rfl, rfl, by decide +kernel, rfl, by decide +kernel, by decide +kernel⟩
def spNthL : Sp := fun vs H Q _ => ∃ (a : Addr) (pt : List Int) (n k : Int), vs = [.ref a, .int n, .int k] ∧ IL H a pt ∧ pt.length ≤ 900 ∧
  ∀ H' p, Same H H' → H p = none → IL H' p (M73.nthGo pt n k) → Q (.ref p) H'
theorem c_nthL (g : Glob mg) (D : Df K mg "nth_list" (topS 36) [] []) (cc : cCh P w K mg base) : Cal P w K mg base "nth_list" ["part", "number", "index"] [] 2 spNthL := by
  refine Cal.of D sc36 (fun _ _ _ _ _ _ us hl => match us, hl with | [_, _, _], _ => rfl) (fun vs H Q E h => ?_) (fun f cdv A outer s H vs Q E hr h => ⟨_, pss_cons (ps_set (i := 3) sc36.nd rfl (.inl rfl) (pe_lst pa_nil))
    (pss_cons (ps_for PassesOwn.never rfl (pi_enum rfl g.enumerate (pa_cons (pv 0) pa_nil)) (pg_tup rfl (pgs_cons (pg_name (i := 4) sc36.nd rfl (.inl rfl)) (pgs_cons (pg_name (i := 5) sc36.nd rfl (.inl rfl)) pgs_nil)))
      (pss_cons (ps_set (i := 6) sc36.nd rfl (.inl rfl) (pe_op op_sub (pv 1) (pe_len g.len (pv 3))))
      (pss_cons (ps_set (i := 7) sc36.nd rfl (.inl rfl) (pe_ifExp (pt_cmpR op_lt (pv 4) (pe_op op_sub (pe_len g.len (pv 0)) pe_int) (nomark _))
        (pe_cal cc hr (pa_cons (pe_op op_sub (pe_op op_sub (pe_len g.len (pv 0)) (pv 4)) pe_int) (pa_cons (pe_op op_sub (pv 6) pe_int) pa_nil))) pe_int))
      (pss_one (ps_if (PW.pt (pw_and (pt_cmpR op_gt (pv 6) pe_int (nomark _)) (pw_and1 (pt_cmpR op_lt (pv 2) (pv 7) (nomark _)))))
        (pss_one (ps_expr (pe_bm PySem.F.plainAttrs_list PySem.F.slot_list_append PySem.F.type_list_append mt_append (pv 3) (pa_cons (pv 5) pa_nil))))
        (pss_one (ps_aug (i := 2) sc36.nd rfl (.inl rfl) (pv 7) ip_sub)))))))
    (pss_one (ps_ret (pv 3)))), ?_⟩)
  · obtain ⟨a, pt, n, k, rfl, _⟩ := h
    rfl
  · obtain ⟨a, pt, n, k, rfl, hI, hl, q⟩ := h
    refine ⟨Nat.zero_le _, fun o no => ?_⟩
    refine ⟨.ref a, rfl, a, _, rfl, (mo (same_upd no) hI).sq, for_it walk_enum
      (fun i σ H2 => ∃ (z : Int) (y4 y5 y6 y7 : Option V), σ = [some (.ref a), some (.int n), some (.int z), some (.ref o), y4, y5, y6, y7] ∧
        PvA (fun i acc _ => ∃ dn : List Int, acc = dn.map V.int ∧ M73.nthGo pt n k = dn ++ M73.nthGo (pt.drop i) (n - dn.length) z) H o i H2)
      ⟨k, none, none, none, none, rfl, PvA.start no ⟨[], rfl, by simp⟩⟩ (fun i σ H2 _ ⟨_, _, _, _, _, _, h⟩ => (mo h.same hI).sq) (fun i x σ H2 H3 hi h hy => ?_) (fun σ H2 h => ?_)⟩
    · obtain ⟨z, y4, y5, y6, y7, rfl, h⟩ := h
      have sH := h.same
      obtain ⟨acc, hO, hle, sm, dn, rfl, hdn⟩ := h
      obtain ⟨T, x1, x2, rfl, hT, rfl, e1, e2⟩ := hy
      have e1' : x1 = .int (i : Int) := (Option.some.inj e1).symm
      subst e1'
      obtain ⟨m, hm, rfl⟩ := int_get e2
      have hi' := (List.getElem?_eq_some_iff.mp hm).1
      rw [drop_cons hm] at hdn
      have sT := same_upd (o := .tup [.int (i : Int), .int m]) hT
      have hO2 : (upd H2 T (.tup [.int (i : Int), .int m])) o = some (.lst (dn.map V.int)) := sT _ _ hO
      have hI2 : IL (upd H2 T (.tup [.int (i : Int), .int m])) a pt := mo (sH.trans sT) hI
      have sm2 := sm.trans (hid_mono (p := o) sT)
      rw [List.length_map] at hle
      refine ⟨T, _, rfl, .of upd_same, rfl, _, _, rfl, _, _, rfl, rfl, _, rfl, _, rfl, o, _, rfl, .inl (.of hO2), _, _, rfl, rfl, ?_⟩
      rw [List.length_map]
      refine ⟨_, rfl, _, rfl, a, _, rfl, .inl hI2.sq, _, _, rfl, rfl, _, _, rfl, rfl, _, rfl, ?_⟩
      rw [List.length_map]
      have hlr : (pt.drop (i + 1)).length = pt.length - (i + 1) := List.length_drop
      -- the two ways behind many
      have fin : ∀ mv : Int, mv = (if pt.drop (i + 1) = [] then 1 else M73.chZ (((pt.drop (i + 1)).length : Int) - 1) ((n - (dn.length : Int)) - 2)) → ∀ H4, H4 = upd H2 T (.tup [.int (i : Int), .int m]) → (tIfS (tAnd (tTest (tOp (rI0 fun i j => V.bl (decide (j < i))) (tVar 6) (tC (V.int 0)))) (tTest (tOp (rI0 fun i j => V.bl (decide (i < j))) (tVar 2) (tVar 7))))
          (tDrop (tBM K "list" rAppend (tVar 3) (tCons (tVar 5) tNil))) (tAug 2 (tVar 7) (ipI fun i j => i - j)))
          { nx := fun σ' H' => ∃ (z : Int) (y4 y5 y6 y7 : Option V), σ' = [some (.ref a), some (.int n), some (.int z), some (.ref o), y4, y5, y6, y7] ∧
              PvA (fun i acc _ => ∃ dn : List Int, acc = dn.map V.int ∧ M73.nthGo pt n k = dn ++ M73.nthGo (pt.drop i) (n - dn.length) z) H o (i + 1) H', rt := Q }
          [some (.ref a), some (.int n), some (.int z), some (.ref o), some (.int (i : Int)), some (.int m), some (.int (n - (dn.length : Int))), some (.int mv)] H4 := by
        rintro mv emv H4 rfl
        refine ⟨_, rfl, _, _, rfl, rfl, _, rfl, ite2 (fun e => ?_) (fun e => ?_)⟩
        · have e' : 0 < n - (dn.length : Int) := of_decide_eq_true e
          refine ⟨_, rfl, _, rfl, _, _, rfl, rfl, _, rfl, ite2 (fun e2 => ?_) (fun e2 => ?_)⟩
          · have e2' : z < mv := of_decide_eq_true e2
            refine ⟨.ref o, rfl, .inl ⟨rfl, _, .of hO2⟩, .int m, rfl, o, _, _, rfl, rfl, hO2, line_small (by rw [List.length_map]; omega), z, _, _, _, _, rfl, ?_⟩
            refine PvA.put hO2 (by rw [List.length_map]; exact hle) sm2 ⟨dn ++ [m], by rw [List.map_append]; rfl, ?_⟩
            rw [hdn, M73.nthGo, if_pos ⟨e', by rw [← emv]; exact e2'⟩, List.append_assoc, List.length_append, List.length_singleton]
            have : n - (dn.length : Int) - 1 = n - ((dn.length + 1 : Nat) : Int) := by omega
            rw [this]
            rfl
          · have e2' : ¬ z < mv := fun h => e2 (decide_eq_true h)
            refine ⟨_, rfl, _, rfl, _, _, rfl, rfl, z - mv, _, _, _, _, rfl, PvA.skip hO2 (by rw [List.length_map]; exact hle) sm2 ⟨dn, rfl, ?_⟩⟩
            rw [hdn, M73.nthGo, if_neg (by rw [← emv]; exact fun h => e2' h.2), ← emv]
        · have e' : ¬ 0 < n - (dn.length : Int) := fun h => e (decide_eq_true h)
          refine iteF ⟨_, rfl, _, rfl, _, _, rfl, rfl, z - mv, _, _, _, _, rfl, PvA.skip hO2 (by rw [List.length_map]; exact hle) sm2 ⟨dn, rfl, ?_⟩⟩
          rw [hdn, M73.nthGo, if_neg (fun h => e' h.1), ← emv]
      refine ite2 (fun e => ?_) (fun e => ?_)
      · have e' : (i : Int) < (pt.length : Int) - 1 := of_decide_eq_true e
        refine ⟨_, rfl, ?_⟩
        refine ⟨a, _, rfl, .inl hI2.sq, _, rfl, _, _, rfl, rfl, _, _, rfl, rfl, _, rfl, _, _, rfl, rfl, _, _, rfl, ?_, ?_⟩
        · rw [List.length_map]
          omega
        · rw [List.length_map]
          refine fin _ ?_ _ rfl
          have hne : ¬ pt.drop (i + 1) = [] := by
            rw [← List.length_eq_zero_iff, hlr]
            omega
          rw [if_neg hne, hlr]
          congr 1
          omega
      · have e' : ¬ (i : Int) < (pt.length : Int) - 1 := fun h => e (decide_eq_true h)
        refine fin 1 ?_ _ rfl
        have hne : pt.drop (i + 1) = [] := by
          rw [← List.length_eq_zero_iff, hlr]
          omega
        rw [if_pos hne]
    · obtain ⟨z, y4, y5, y6, y7, rfl, h⟩ := h
      have sH := h.same
      obtain ⟨acc, hO, hle, sm, dn, rfl, hdn⟩ := h
      rw [List.drop_eq_nil_of_le (by rw [List.length_map]; exact Nat.le_refl _)] at hdn
      refine ⟨.ref o, rfl, q H2 o sH no ?_⟩
      rw [hdn, M73.nthGo, List.append_nil]
      exact hO
end
end W73


set_option Elab.async false
set_option linter.all false
set_option maxRecDepth 100000
set_option maxHeartbeats 4000000
namespace W73
open PySem PySem.Spec PyProof.Rows L2
theorem rev_get {α : Type} {l : List α} {i : Nat} {x : α} (h : l.reverse[i]? = some x) : i < l.length ∧ l[l.length - 1 - i]? = some x := by
  have hi := (List.getElem?_eq_some_iff.mp h).1
  rw [List.length_reverse] at hi
  refine ⟨hi, ?_⟩
  rwa [List.getElem?_reverse hi] at h
section
variable {P : Program} {w : World} {K : PySem.W.Frag} {mg : Str → Option Value} {base : Heap}
abbrev cNthL (P : Program) (w : World) (K : PySem.W.Frag) (mg : Str → Option Value) (base : Heap) : Prop := Cal P w K mg base "nth_list" ["part", "number", "index"] [] 2 spNthL
/-! ### nth_log -/
theorem sc37 : FnScope ["counts", "ids", "number", "found", "many", "cursor", "part", "index"] ["counts", "ids", "number"] (defScope (topS 37)) := ⟨rfl, rfl, rfl, by decide +kernel, rfl, by decide +kernel, by decide +kernel⟩
def spNth : Sp := fun vs H Q _ => ∃ (a b : Addr) (cs : List (Int × Int)) (ids : List Int) (k : Nat), vs = [.ref a, .ref b, .int k] ∧ CL H a cs ∧ IL H b ids ∧ CntsOk cs ∧ IdsOk ids ∧ k < (M73.PL ids cs).length ∧
  ∀ H' p log, Same H H' → H p = none → LL (dif H H') p log → (M73.PL ids cs)[k]? = some log → Q (.ref p) H'
theorem c_nth (g : Glob mg) (D : Df K mg "nth_log" (topS 37) [] []) (cC : cReqC P w K mg base) (cI : cReqI P w K mg base) (c2 : cIsInt2 P w K mg base) (cF : cFit P w K mg base) (cW : cWays P w K mg base) (cp : cParts P w K mg base) (cw : cWay P w K mg base) (cn : cNthL P w K mg base) :
    Cal P w K mg base "nth_log" ["counts", "ids", "number"] [] 5 spNth := by
  refine Cal.of D sc37 (fun _ _ _ _ _ _ us hl => match us, hl with | [_, _, _], _ => rfl) (fun vs H Q E h => ?_) (fun f cdv A outer s H vs Q E hr h => ⟨_, pss_cons (ps_expr (pe_cal cC (hr.mono (by decide)) (pa_cons (pv 0) pa_nil)))
    (pss_cons (ps_expr (pe_cal cI hr (pa_cons (pv 1) pa_nil)))
    (pss_cons (ps_if (PW.pt (pw_or (pt_not (pt_val (pe_cal c2 (hr.mono (by decide)) (pa_cons (pv 2) (pa_cons pe_int pa_nil))))) (pw_or (pt_not (pt_val (pe_cal cF (hr.mono (by decide)) (pa_cons (pv 0) (pa_cons (pv 1) pa_nil)))))
        (pw_or1 (pt_cmpR op_ge (pv 2) (pe_cal cW (hr.mono (by decide)) (pa_cons (pv 0) (pa_cons (pv 1) pa_nil))) (nomark _)))))) (pss_one ps_never) pss_nil)
    (pss_cons (ps_set (i := 3) sc37.nd rfl (.inl rfl) (pe_lst pa_nil))
    (pss_cons (ps_for PassesOwn.never rfl (pi_zip rfl g.zip (pa_cons (pe_revL (pv 0)) (pa_cons (pe_revL (pe_cal cp (hr.mono (by decide)) (pa_cons (pv 0) (pa_cons (pv 1) pa_nil)))) pa_nil)))
        (pg_tup rfl (pgs_cons (pg_tup rfl (pgs_cons (pg_name (i := 4) sc37.nd rfl (.inl rfl)) (pgs_cons (pg_name (i := 5) sc37.nd rfl (.inl rfl)) pgs_nil))) (pgs_cons (pg_name (i := 6) sc37.nd rfl (.inl rfl)) pgs_nil)))
      (pss_cons (ps_asg (pe_callB call_divmod rfl g.divmod bt_divmod (pa_cons (pv 2) (pa_cons (pe_cal cw (hr.mono (by decide)) (pa_cons (pv 6) (pa_cons (pv 4) pa_nil))) pa_nil)))
        (pg_tup rfl (pgs_cons (pg_name (i := 2) sc37.nd rfl (.inl rfl)) (pgs_cons (pg_name (i := 7) sc37.nd rfl (.inl rfl)) pgs_nil))))
      (pss_one (ps_expr (pe_bm PySem.F.plainAttrs_list PySem.F.slot_list_append PySem.F.type_list_append mt_append (pv 3) (pa_cons (pe_cal cn (hr.mono (by decide)) (pa_cons (pv 6) (pa_cons (pv 4) (pa_cons (pv 7) pa_nil)))) pa_nil))))))
    (pss_one (ps_ret (pe_revL (pv 3)))))))), ?_⟩)
  · obtain ⟨a, b, cs, ids, k, rfl, _⟩ := h
    rfl
  · obtain ⟨a, b, cs, ids, k, rfl, hC, hI, hc, hi, hk, q⟩ := h
    have h0 : ∀ p ∈ cs, 0 ≤ p.1 := fun p hp => (hc.2 p hp).1
    have hfit : M73.fitB ids 0 cs = true := by
      rw [M73.prod_ne cs 0 h0]
      intro z
      rw [M73.PL, z] at hk
      simp at hk
    have hw := M73.prod_length cs 0 h0 hfit
    have hdig := M73.dig_get h0 hfit hk
    refine ⟨.ref a, rfl, a, cs, rfl, hC, hc, fun H1 s1 => ⟨.ref b, rfl, b, ids, rfl, mo s1 hI, hi, fun H2 s2 => ?_⟩⟩
    have s12 := s1.trans s2
    refine ⟨_, rfl, (k : Int), 0, .non, rfl, .inl ⟨rfl, ?_⟩⟩
    rw [decide_eq_true (by omega)]
    refine ⟨_, rfl, iteF ⟨.ref a, rfl, .ref b, rfl, a, b, cs, ids, rfl, mo s12 hC, mo s12 hI, by have := hc.1; omega, by have := hi.1; omega, fun H3 s3 => ⟨_, rfl, ?_⟩⟩⟩
    rw [hfit]
    have s123 := s12.trans s3
    refine iteF ⟨_, rfl, .ref a, rfl, .ref b, rfl, a, b, cs, ids, rfl, mo s123 hC, mo s123 hI, by have := hc.1; omega, by have := hi.1; omega, fun H4 s4 => ⟨_, _, rfl, rfl, _, rfl, ?_⟩⟩
    have s14 := s123.trans s4
    rw [decide_eq_false (by rw [← hw]; have : (M73.PL ids cs).length = (M73.prodLogs ids 0 cs).length := rfl; omega)]
    refine iteF ⟨Nat.zero_le _, fun o no => ?_⟩
    obtain ⟨as, hA, h2⟩ := mo s14 hC
    -- the reversed lists
    refine ⟨.ref a, rfl, a, _, rfl, .of (same_upd no _ _ hA), fun r1 nr1 => ⟨.ref a, rfl, .ref b, rfl, a, b, cs, ids, rfl, mo ((s14.trans (same_upd no)).trans (same_upd nr1)) hC, mo ((s14.trans (same_upd no)).trans (same_upd nr1)) hI, by have := hc.1; omega, by have := hi.1; omega, fun H5 pl s5 npl hL => ?_⟩⟩
    obtain ⟨ps, hP, h3⟩ := hL
    refine ⟨pl, _, rfl, .of (dif_same _ _ hP), fun r2 nr2 => ?_⟩
    have sR : Same (upd H4 o (.lst [])) (upd H5 r2 (.lst (ps.map V.ref).reverse)) := (same_upd nr1).trans (s5.trans (same_upd nr2))
    have r1o : r1 ≠ o := ne_new upd_same nr1
    have o5 : H5 o = some (.lst []) := s5 _ _ ((same_upd nr1) _ _ upd_same)
    have r2o : r2 ≠ o := ne_new o5 nr2
    have hoR : (upd H5 r2 (.lst (ps.map V.ref).reverse)) o = some (.lst []) := sR _ _ upd_same
    have hH4 : Same H4 (hid o (upd H5 r2 (.lst (ps.map V.ref).reverse))) := by
      have := hid_mono (p := o) sR
      rwa [hid_upd, hid_free no] at this
    have h2r : All2 (P2 (hid o (upd H5 r2 (.lst (ps.map V.ref).reverse)))) as cs := h2.mono fun _ _ x => mo hH4 x
    have h3r : All2 (IL (hid o (upd H5 r2 (.lst (ps.map V.ref).reverse)))) ps (M73.partsL ids 0 cs) :=
      h3.mono fun _ _ x => mo ((dif_hid ((same_upd nr1) _ _ upd_same)).trans (hid_mono (same_upd nr2))) x
    have hR1 : (hid o (upd H5 r2 (.lst (ps.map V.ref).reverse))) r1 = some (.lst (as.reverse.map V.ref)) := by
      rw [List.map_reverse, hid_ne r1o]
      exact (same_upd nr2) _ _ (s5 _ _ upd_same)
    have hR2 : (hid o (upd H5 r2 (.lst (ps.map V.ref).reverse))) r2 = some (.lst (ps.reverse.map V.ref)) := by
      rw [List.map_reverse, hid_ne r2o]
      exact upd_same
    have lp : ps.length = cs.length := by rw [h3.1, M73.partsL_length]
    generalize upd H5 r2 (.lst (ps.map V.ref).reverse) = HB at *
    have la : as.length = cs.length := h2.1
    refine ⟨r1, r2, as.reverse.map V.ref, ps.reverse.map V.ref, rfl, .of (hid_same _ _ hR1), .of (hid_same _ _ hR2), for_it (walk_zip (n := cs.length) (by rw [List.length_map, List.length_map, List.length_reverse, List.length_reverse, lp, la, Nat.min_self]))
      (fun i σ H' => ∃ (y4 y5 y6 y7 : Option V), σ = [some (.ref a), some (.ref b), some (.int (M73.dig ((M73.zsOf ids 0 cs).drop (cs.length - i)) k).1), some (.ref o), y4, y5, y6, y7] ∧
        PvA (fun i acc G => ∃ qs, acc = qs.map V.ref ∧ (∀ d ∈ qs, H d = none) ∧ All2 (IL G) qs (M73.dig ((M73.zsOf ids 0 cs).drop (cs.length - i)) k).2.reverse) (hid o HB) o i H')
      ⟨none, none, none, none, ?_, [], hoR, Nat.le_refl _, Same.refl _, [], rfl, fun d hd => by simp at hd, ?_⟩ (fun i σ H' _ ⟨_, _, _, _, _, acc, _, _, sm, _⟩ => ⟨.of (hid_same _ _ (sm _ _ hR1)), .of (hid_same _ _ (sm _ _ hR2))⟩) (fun i x σ H' H'' hi' h hy => ?_) (fun σ H' h => ?_)⟩
    · rw [Nat.sub_zero, ← M73.zsOf_length ids 0 cs, List.drop_length]
      rfl
    · rw [Nat.sub_zero, ← M73.zsOf_length ids 0 cs, List.drop_length]
      exact All2.nil
    · obtain ⟨y4, y5, y6, y7, rfl, acc, hO, hle, sm, qs, rfl, hnew, hqs⟩ := h
      obtain ⟨T, x1, x2, rfl, hT, rfl, e1, e2⟩ := hy
      obtain ⟨t, ht, rfl⟩ := ref_get e1
      obtain ⟨u, hu, rfl⟩ := ref_get e2
      obtain ⟨⟨n, c⟩, hcn, r⟩ := h2r.reverse.get ht
      obtain ⟨pt, hpt, rp⟩ := h3r.reverse.get hu
      have g1 := (rev_get hcn).2
      have g2 := (rev_get hpt).2
      rw [M73.partsL_length] at g2
      have hz := M73.zsOf_get g1 g2
      have hz2 := drop_cons hz
      have ej : cs.length - 1 - i = cs.length - (i + 1) := by omega
      have ej2 : cs.length - (i + 1) + 1 = cs.length - i := by omega
      rw [ej, ej2] at hz2
      have hzm := List.mem_of_getElem? hz
      have wpos := M73.way_pos cs 0 h0 hfit _ hzm
      have lpt : pt.length ≤ ids.length := M73.zs_length cs 0 (n, pt) hzm
      have wle := M73.wayOf_le (z := (n, pt)) (b := 29) (by show pt.length ≤ 30; have := hi.1; omega)
      have smT := sm.trans (hid_new (p := o) hT (o := .tup [.ref t, .ref u]))
      have r2' : P2 (upd H' T (.tup [.ref t, .ref u])) t (n, c) := mo (smT.trans hid_same) r
      have hOT : (upd H' T (.tup [.ref t, .ref u])) o = some (.lst (qs.map V.ref)) := keep_at hO hT
      have rp' : IL (upd H' T (.tup [.ref t, .ref u])) u pt := mo (smT.trans hid_same) rp
      have hqT : All2 (IL (hid o (upd H' T (.tup [.ref t, .ref u])))) qs _ := hqs.mono fun _ _ x => mo (hid_new (p := o) hT) x
      refine ⟨T, _, rfl, .of upd_same, rfl, _, _, rfl, ⟨t, _, rfl, r2'.sq, rfl, _, _, rfl, _, _, rfl, rfl, _, _, rfl, rfl, ?_⟩⟩
      generalize upd H' T (.tup [.ref t, .ref u]) = HT at *
      -- number, index = divmod(..)
      refine ⟨_, rfl, _, rfl, _, rfl, u, pt, n, rfl, rp', by have := hi.1; omega, fun H6 s6 => ⟨_, _, rfl, ⟨wpos, by omega⟩, fun d nd => ?_⟩⟩
      have s7 : Same HT (upd H6 d (.tup [.int ((M73.dig ((M73.zsOf ids 0 cs).drop (cs.length - i)) k).1 / M73.wayOf (n, pt)), .int ((M73.dig ((M73.zsOf ids 0 cs).drop (cs.length - i)) k).1 % M73.wayOf (n, pt))])) := s6.trans (same_upd nd)
      refine ⟨d, _, rfl, .of upd_same, rfl, _, _, rfl, _, _, rfl, rfl, ?_⟩
      generalize upd H6 d (.tup [.int ((M73.dig ((M73.zsOf ids 0 cs).drop (cs.length - i)) k).1 / M73.wayOf (n, pt)), .int ((M73.dig ((M73.zsOf ids 0 cs).drop (cs.length - i)) k).1 % M73.wayOf (n, pt))]) = H7 at *
      -- found.append(nth_list(..))
      have hO7 := s7 _ _ hOT
      refine ⟨.ref o, rfl, .inl ⟨rfl, _, .of hO7⟩, _, rfl, _, rfl, _, rfl, u, pt, n, _, rfl, mo s7 rp', by have := hi.1; omega, fun H8 p8 s8 np8 hL8 => ?_⟩
      have hO8 := s8 _ _ hO7
      have p8o : p8 ≠ o := ne_new hO7 np8
      rw [List.length_map] at hle
      refine ⟨o, _, _, rfl, rfl, hO8, line_small (by rw [List.length_map]; have := hc.1; omega), some (.int n), some (.int c), some (.ref u), some (.int ((M73.dig ((M73.zsOf ids 0 cs).drop (cs.length - i)) k).1 % M73.wayOf (n, pt))), ?_, PvA.put hO8 (by rw [List.length_map]; exact hle) (smT.trans (hid_mono (s7.trans s8))) ⟨qs ++ [p8], by rw [List.map_append]; rfl, fun d hd => ?_, ?_⟩⟩
      · rw [hz2]
        rfl
      · rcases List.mem_append.mp hd with z | z
        · exact hnew d z
        · rw [List.mem_singleton.mp z]
          exact (s14.trans (hH4.trans (smT.trans (hid_same.trans s7)))).free np8
      · rw [hz2, M73.dig, List.reverse_cons]
        refine (hqT.mono fun _ _ x => mo (hid_mono (s7.trans s8)) x).snoc ?_
        show hid o H8 p8 = _
        rw [hid_ne p8o]
        exact hL8
    · obtain ⟨y4, y5, y6, y7, rfl, acc, hO, hle, sm, qs, rfl, hnew, hqs⟩ := h
      rw [Nat.sub_self, List.drop_zero] at hqs
      refine ⟨.ref o, rfl, o, _, rfl, .of hO, fun p np => ?_⟩
      have fp : H p = none := s14.free ((hH4.trans (sm.trans hid_same)).free np)
      refine q _ p _ ?_ fp ⟨qs.reverse, by rw [List.map_reverse, dif_at fp]; exact upd_same, ?_⟩ hdig
      · exact s14.trans ((hH4.trans (sm.trans hid_same)).trans (same_upd np))
      · have := hqs.reverse
        rw [List.reverse_reverse] at this
        refine ⟨this.1, fun i d l hd hl => ?_⟩
        show dif H _ d = _
        rw [dif_at (hnew d (List.mem_reverse.mp (List.mem_of_getElem? hd)))]
        exact mo (hid_same.trans (same_upd np)) (this.2 i d l hd hl)
end
end W73


set_option Elab.async false
set_option linter.all false
set_option maxRecDepth 100000
set_option maxHeartbeats 4000000
namespace W73
open PySem PySem.Spec PyProof.Rows L2
/-! ### name = {k: v for ..}, the name a local -/
theorem swD {kx vx : Expr} {gs : List Comprehension} {sc : Scope} {pos py : Pos} {y : Str} {l : Nat} {env : Env} (k1 : env.scope.kind = .function) (k2 : env.scope.names.lookup y = some .local) (k3 : (py.line == pos.line) = true)
    (k4 : (sc.names.any fun (n, k) => n == y && (k == .local || k == .cell)) = false) : swapsWith (.DictComp kx vx gs sc pos) (some (.Name y py)) l env = pure true := by
  have e1 : env.kindOf y = some .local := k2
  have e2 : env.blockKind = .function := by
    unfold Env.blockKind
    rw [k1]
    rfl
  unfold swapsWith
  simp only [e2, e1, k4, Expr.pos, k3]
  rfl
section
variable {X : Cx}
/-- the store of a comprehension's value, behind its block -/
theorem stored_dc {i : Nat} {y : Str} {py : Pos} {D : Ends} {pins : List (Addr × Obj)} {σ : L2.St} (hN : X.N.Nodup) (hy : X.N[i]? = some y) (hl : X.env.scope.names.lookup y = some .local) {L C : Addr} {s' : Shared} {m : Str → Option Value} {H' : Hp}
    (I' : Inv X pins σ H' s') (q : gName i (.ref L) σ H' D.nx) (hn : s'.heap.Ns C m) (f : FpOk X pins H' C) :
    compPost (model X.prog X.w) X.A X.xe (some (assign (.Name y py) X.env)) (fun _ s' => SP X pins D .next s') (.ref L) C (.ok .next) s' := by
  show wpAny _ _ (assign (.Name y py) X.env (.ref L)) _ _ _
  obtain ⟨g0, g1, g2, g3, g4, g5⟩ := f
  refine wpAny_assign_Name (store_ok2 (v := V.ref L) I' hN hy (.inl hl) rfl (fun s2 I2 ⟨a, sb, ha⟩ => ?_) (.inr hl))
  have hCa : C ≠ a := fun e => by
    rcases ha with z | z
    · exact g1 (e.trans z)
    · exact g4 y a z e.symm
  refine ⟨m, hn.sameBut sb hCa, fun h3 sb3 => ⟨_, H', I2.turned (t' := s2.toks) (fun b o hb e => ?_) g0 g1 g3 g4 g5, q⟩⟩
  rw [sb3.2 b hb]
  exact e
variable {kx vx tg iter : Expr} {ifs : List Expr} {scope : Scope} {own : List (Str × Nat)} {wi : TI} {g : TG} {tt : TT} {tk tv : TE}
theorem ps_setDc {i : Nat} {y : Str} {py pos spos : Pos} (hc : X.calm = true) (hN : X.N.Nodup) (hy : X.N[i]? = some y) (hl : X.env.scope.names.lookup y = some .local)
    (hsw : swapsWith (.DictComp kx vx [⟨tg, iter, ifs, 0⟩] scope pos) (some (.Name y py)) spos.line X.env = pure true) (hi : PI X tg iter wi) (ok : BlkOk X.N X.env.scope scope own)
    (hg : ∀ s H C cl fp, PG (X.blk s H scope (compEnvC scope cl C X.env) fp) tg g) (ht : ∀ s H C cl fp, PTs (X.blk s H scope (compEnvC scope cl C X.env) fp) ifs tt)
    (hk : ∀ s H C cl fp, PE (X.blk s H scope (compEnvC scope cl C X.env) fp) kx tk) (he : ∀ s H C cl fp, PE (X.blk s H scope (compEnvC scope cl C X.env) fp) vx tv) (hs : ∀ x, foldedSetIterable iter X.env x = pure x := by intro _; rfl) :
    PS X (.Assign [.Name y py] (.DictComp kx vx [⟨tg, iter, ifs, 0⟩] scope pos) spos) (tAsg (tDc wi g tt tk tv (own.map (·.2))) (gName i)) := by
  refine ⟨fun pins s σ H D I h => ?_⟩
  rw [exec_Assign_Name_used _ _ _ _ hsw]
  refine wpAny_bind (wpAny_standAt (wpAny_bind ?_))
  show wpAny _ X.A (do let _ ← comprehension (.DictComp kx vx [⟨tg, iter, ifs, 0⟩] scope pos) scope X.env (firstIterPos [⟨tg, iter, ifs, 0⟩] pos) newDict false (eval iter X.env) (some (assign (.Name y py) X.env))) _ _ s
  have hh : tDc wi g tt tk tv (own.map (·.2)) σ H (fun x H1 => gName i x σ H1 D.nx) := h
  exact wpAny_bind (thn (dc_core (Qf := fun _ s' => SP X pins D .next s') hc hN I hi ok hg ht hk he hs hh fun L C s' m H' I' q hn f => stored_dc hN hy hl I' q hn f) fun _ s' hq => wpAny_pure (wpAny_pure hq))
end
/-! ### {k: v for .. for ..} -/
section
variable {prog : Program} {w : World} {A : Around} {R : Result → Shared → Prop} {s : Shared} {kx vx t0 i0 t1 i1 : Expr} {f0 f1 : List Expr} {sc : Scope} {pos : Pos} {it : Value} {D : Addr} {env : Env}
abbrev DC2 (kx vx t0 i0 : Expr) (f0 : List Expr) (t1 i1 : Expr) (f1 : List Expr) (sc : Scope) (pos : Pos) : Expr := .DictComp kx vx [⟨t0, i0, f0, 0⟩, ⟨t1, i1, f1, 0⟩] sc pos
/-- a clause's tests, one behind another -/
abbrev testsD (fs : List Expr) (env : Env) : Sem Bool := forIn fs true fun c r => if r = true then do let ok ← isTrue c env (eval c env); pure (ForInStep.yield ok) else pure (ForInStep.yield r)
theorem dturn0 (acc : Value) : compTurn (DC2 kx vx t0 i0 f0 t1 i1 f1 sc pos) 0 it acc env = (do
    standAt i0.pos
    match ← pyNext it with
    | none => pure (.done .next)
    | some v =>
      letOwnedTupleGo t0 it v
      assign t0 env v
      let mut good := true
      for c in f0 do
        if good then good ← isTrue c env (eval c env)
      if good then
        let src ← eval i1 env
        standAt i1.pos
        let src ← foldedSetIterable i1 env src
        let _ ← runOwn (.compStart (DC2 kx vx t0 i0 f0 t1 i1 f1 sc pos) 1 (← holding [src] (pyIter src)) acc env) env
      again (.compLoop (DC2 kx vx t0 i0 f0 t1 i1 f1 sc pos) 0 it acc env)) := by rfl
theorem dturn1 : compTurn (DC2 kx vx t0 i0 f0 t1 i1 f1 sc pos) 1 it (.ref D) env = (do
    standAt i1.pos
    match ← pyNext it with
    | none => pure (.done .next)
    | some v =>
      letOwnedTupleGo t1 it v
      assign t1 env v
      let mut good := true
      for c in f1 do
        if good then good ← isTrue c env (eval c env)
      if good then
        (do
          let key ← eval kx env
          let val ← holding [key] (eval vx env)
          standAt { kx.pos with endLine := vx.pos.endLine, endCol := vx.pos.endCol }
          holding [key, val] (dictSet D key val))
      again (.compLoop (DC2 kx vx t0 i0 f0 t1 i1 f1 sc pos) 1 it (.ref D) env)) := by rfl
/-- what is wanted of a raise -/
abbrev nbE (prog : Program) (w : World) (A : Around) (env : Env) (R : Result → Shared → Prop) : Value → Shared → Prop := notedBy (model prog w) A env fun e s' => R (.error e) s'
theorem dloop0 {acc : Value} (hs : ∀ x, foldedSetIterable i1 env x = pure x) (J : Nat → Shared → Prop)
    (turn : ∀ n s, J n s → wpAny (model prog w) A (pyNext it) (fun r s₁ => match r with
      | none => R (.ok .next) s₁
      | some v => wpAny (model prog w) A (letOwnedTupleGo t0 it v) (fun _ s₂ => wpAny (model prog w) A (assign t0 env v) (fun _ s₃ => wpAny (model prog w) A (testsD f0 env) (fun b s₄ =>
          if b = true then wpAny (model prog w) A (eval i1 env) (fun x s₅ => wpAny (model prog w) A (pyIter x) (fun j s₆ =>
              codeAny (model prog w) A (.compStart (DC2 kx vx t0 i0 f0 t1 i1 f1 sc pos) 1 j acc env) (fun r s' => match r with
                | .ok _ => ∃ m, m < n ∧ J m s'
                | .error _ => False) s₆) (nbE prog w A env R) s₅) (nbE prog w A env R) s₄
          else ∃ m, m < n ∧ J m s₄) (nbE prog w A env R) s₃) (nbE prog w A env R) s₂) (nbE prog w A env R) s₁) (nbE prog w A env R) s)
    (n : Nat) (h : J n s) : codeAny (model prog w) A (.compLoop (DC2 kx vx t0 i0 f0 t1 i1 f1 sc pos) 0 it acc env) R s := by
  refine codeAny_loop rfl J (fun k s hJ => ?_) n h
  show wpAny _ A ((compTurn (DC2 kx vx t0 i0 f0 t1 i1 f1 sc pos) 0 it acc env).onRaise (fun x => do noteFrame x env; theTreesLotGoes x)) _ _ s
  refine wpAny_noted ?_
  rw [dturn0]
  refine wpAny_bind (wpAny_standAt (wpAny_bind (wpAny_mono (turn k s hJ) (fun r s₁ z1 => ?_) fun _ _ z => z)))
  cases r with
  | none => exact wpAny_pure z1
  | some v =>
    refine wpAny_bind (wpAny_mono z1 (fun _ s₂ z2 => wpAny_bind (wpAny_mono z2 (fun _ s₃ z3 => wpAny_bind (wpAny_mono z3 (fun b s₄ z4 => ?_) fun _ _ z => z)) fun _ _ z => z)) fun _ _ z => z)
    cases b with
    | false => exact wpAny_pure ⟨rfl, z4⟩
    | true =>
      refine wpAny_bind (wpAny_mono z4 (fun x s₅ z5 => wpAny_bind (wpAny_standAt (wpAny_bind (wpAny_of_eq (hs x) (wpAny_bind (wpAny_holding (wpAny_mono z5 (fun j s₆ z6 => ?_) fun _ _ z => z))))))) fun _ _ z => z)
      refine wpAny_bind (wpAny_runOwn ?_)
      rw [Around.mark_none]
      refine codeAny_mono z6 fun r s' zr => ?_
      cases r with
      | error e => exact zr.elim
      | ok fl => first | exact wpAny_pure ⟨rfl, zr⟩ | exact wpAny_bind (wpAny_pure (wpAny_pure ⟨rfl, zr⟩))
theorem dloop1 (J : Nat → Shared → Prop)
    (turn : ∀ n s, J n s → wpAny (model prog w) A (pyNext it) (fun r s₁ => match r with
      | none => R (.ok .next) s₁
      | some v => wpAny (model prog w) A (letOwnedTupleGo t1 it v) (fun _ s₂ => wpAny (model prog w) A (assign t1 env v) (fun _ s₃ => wpAny (model prog w) A (testsD f1 env) (fun b s₄ =>
          if b = true then wpAny (model prog w) A (eval kx env) (fun u s₅ => wpAny (model prog w) A (eval vx env) (fun x s₆ =>
              wpAny (model prog w) A (dictSet D u x) (fun _ s₇ => ∃ m, m < n ∧ J m s₇) (nbE prog w A env R) s₆) (nbE prog w A env R) s₅) (nbE prog w A env R) s₄
          else ∃ m, m < n ∧ J m s₄) (nbE prog w A env R) s₃) (nbE prog w A env R) s₂) (nbE prog w A env R) s₁) (nbE prog w A env R) s)
    (n : Nat) (h : J n s) : codeAny (model prog w) A (.compLoop (DC2 kx vx t0 i0 f0 t1 i1 f1 sc pos) 1 it (.ref D) env) R s := by
  refine codeAny_loop rfl J (fun k s hJ => ?_) n h
  show wpAny _ A ((compTurn (DC2 kx vx t0 i0 f0 t1 i1 f1 sc pos) 1 it (.ref D) env).onRaise (fun x => do noteFrame x env; theTreesLotGoes x)) _ _ s
  refine wpAny_noted ?_
  rw [dturn1]
  refine wpAny_bind (wpAny_standAt (wpAny_bind (wpAny_mono (turn k s hJ) (fun r s₁ z1 => ?_) fun _ _ z => z)))
  cases r with
  | none => exact wpAny_pure z1
  | some v =>
    refine wpAny_bind (wpAny_mono z1 (fun _ s₂ z2 => wpAny_bind (wpAny_mono z2 (fun _ s₃ z3 => wpAny_bind (wpAny_mono z3 (fun b s₄ z4 => ?_) fun _ _ z => z)) fun _ _ z => z)) fun _ _ z => z)
    cases b with
    | false => exact wpAny_pure ⟨rfl, z4⟩
    | true =>
      exact wpAny_bind (wpAny_bind (wpAny_mono z4 (fun u s₅ z5 => wpAny_bind (wpAny_holding (wpAny_mono z5 (fun x s₆ z6 => wpAny_bind (wpAny_standAt (wpAny_holding (wpAny_mono z6 (fun _ s₇ z7 => wpAny_pure ⟨rfl, z7⟩) fun _ _ z => z)))) fun _ _ z => z))) fun _ _ z => z))
theorem dstart1 {acc : Value} (h0 : codeAny (model prog w) A (.compLoop (DC2 kx vx t0 i0 f0 t1 i1 f1 sc pos) 1 it acc env) R s)
    (h : wpAny (model prog w) A (pyIter it) (fun j s' => codeAny (model prog w) A (.compLoop (DC2 kx vx t0 i0 f0 t1 i1 f1 sc pos) 1 j acc env) R s') (nbE prog w A env R) s) :
    codeAny (model prog w) A (.compStart (DC2 kx vx t0 i0 f0 t1 i1 f1 sc pos) 1 it acc env) R s := by
  refine codeAny_of_tree ?_
  show wpAny _ _ ((compStart (DC2 kx vx t0 i0 f0 t1 i1 f1 sc pos) 1 it acc env).onRaise (fun x => do noteFrame x env; standAt theWindowsPlace)) _ _ s
  refine wpAny_notedAt ?_
  unfold compStart
  show wpAny _ _ (ask >>= _) _ _ s
  refine wpAny_bind (wpAny_askSetting (wpAny_ite ?_))
  split
  · first | exact wpAny_bind (wpAny_pure (wpAny_pure ⟨rfl, h0⟩)) | exact wpAny_pure ⟨rfl, h0⟩
  · first
      | exact wpAny_bind (wpAny_rule (wpAny_bind (wpAny_standAt (wpAny_bind (wpAny_mono h (fun j s' z => wpAny_pure ⟨rfl, z⟩) fun _ _ z => z)))))
      | (refine wpAny_bind (wpAny_rule ?_); show wpAny _ _ (standAt i1.pos >>= _) _ _ s; exact wpAny_bind (wpAny_standAt (wpAny_bind (wpAny_mono h (fun j s' z => wpAny_pure ⟨rfl, z⟩) fun _ _ z => z))))
end
end W73


set_option Elab.async false
set_option linter.all false
set_option maxRecDepth 100000
set_option maxHeartbeats 4000000
namespace W73
open PySem PySem.Spec PyProof.Rows L2
/-- {k: v for tg in iter for tg1 in iter1}: D the new dict -/
def tDc2 (wi : TI) (g : TG) (wi1 : TI) (g1 : TG) (tk tv : TE) (vs vs1 : List Nat) : TE := fun σ H Q => wi σ H fun J H1 => ∀ D, H1 D = none → ∃ W : Nat → Nat → Hp → Prop, (∃ m, W 0 m (upd H1 D (.dK []))) ∧ ∀ i m H, W i m H →
  (J.stop i H ∧ Q (.ref D) H) ∨ (J.go i H ∧ ∃ Nx : Hp → Prop, (∀ H', Nx H' → ∃ m', m' < m ∧ W (i + 1) m' H') ∧ ∀ x H', J.yld i H x H' → g x (wipe σ vs) H' fun σ2 H2 => wipe σ2 vs = wipe σ vs ∧
    wi1 σ2 H2 fun J1 H4 => ∃ W1 : Nat → Nat → Hp → Prop, (∃ m, W1 0 m H4) ∧ ∀ j k H, W1 j k H →
      (J1.stop j H ∧ Nx H) ∨ (J1.go j H ∧ ∃ Nx1 : Hp → Prop, (∀ H', Nx1 H' → ∃ k', k' < k ∧ W1 (j + 1) k' H') ∧ ∀ x H', J1.yld j H x H' → g1 x (wipe σ2 vs1) H' fun σ3 H5 => wipe σ3 vs1 = wipe σ2 vs1 ∧
        tk σ3 H5 fun y H6 => tv σ3 H6 fun z H7 => ∃ kvs ky, y = kV ky ∧ H7 D = some (.dK kvs) ∧ kvs.length < sizeLine ∧ Nx1 (upd H7 D (.dK (putK kvs ky z)))))
section
variable {X : Cx} {kx vx tg iter tg1 iter1 : Expr} {scope : Scope} {own : List (Str × Nat)} {vs1 : List Nat} {wi wi1 : TI} {g g1 : TG} {tk tv : TE}
theorem dc2_core {pins : List (Addr × Obj)} {s : Shared} {σ : L2.St} {H : Hp} {Q : VK} {pos pos' : Pos} {use : Option (Value → Sem Unit)} {Qf : Value → Shared → Prop} (hc : X.calm = true) (hN : X.N.Nodup) (I : Inv X pins σ H s) (hi : PI X tg iter wi)
    (ok : BlkOk X.N X.env.scope scope own) (hv : ∀ i ∈ vs1, i ∈ own.map (·.2)) (hg : ∀ s H C cl fp, PG (X.blk s H scope (compEnvC scope cl C X.env) fp) tg g) (hs : ∀ x, foldedSetIterable iter X.env x = pure x)
    (hi1 : ∀ s H C cl fp, PI (X.blk s H scope (compEnvC scope cl C X.env) fp) tg1 iter1 wi1) (hg1 : ∀ s H C cl fp, PG (X.blk s H scope (compEnvC scope cl C X.env) fp) tg1 g1)
    (hk : ∀ s H C cl fp, PE (X.blk s H scope (compEnvC scope cl C X.env) fp) kx tk) (he : ∀ s H C cl fp, PE (X.blk s H scope (compEnvC scope cl C X.env) fp) vx tv) (hs1 : ∀ env x, foldedSetIterable iter1 env x = pure x)
    (h : tDc2 wi g wi1 g1 tk tv (own.map (·.2)) vs1 σ H Q)
    (hRR : ∀ D C s' m H', Inv X pins σ H' s' → Q (.ref D) H' → s'.heap.Ns C m → FpOk X pins H' C → compPost (model X.prog X.w) X.A X.xe use Qf (.ref D) C (.ok .next) s') :
    wpAny (model X.prog X.w) X.A (comprehension (DC2 kx vx tg iter [] tg1 iter1 [] scope pos) scope X.env pos' newDict false (eval iter X.env) use) Qf X.xe s := by
  have caught : ∀ y ∈ scope.names, y.2 = .free → ∃ c, X.env.cells.lookup y.1 = some c := fun y hy e => (ok.free y hy e).elim (fun z => I.ok.has _ (.inl z)) (fun z => I.ok.has _ (.inr z))
  refine wpAny_comprehension_free (use := use) rfl hs (closure_ok caught) ok.kind (fun y hy e => by rw [ok.uniq y hy, e]) (thn (hi.run pins s σ H _ I h) fun xv s1 hx => thn hx fun itv s2 h2 => ?_)
  obtain ⟨it, fp, tn, J, H2, rfl, I2, T, b0, fo, q⟩ := h2
  refine wpAny_newObj_type (newEnv_comp ?_)
  generalize hD : s2.heap.objs.size = D
  obtain ⟨W, ⟨m0, w0⟩, turn⟩ := q D (I2.hok.fresh (Nat.le_of_eq hD))
  have I3 : Inv X pins σ (upd H2 D (.dK [])) { s2 with heap := s2.heap.push { cls := .type "dict", data := .dict #[] } } := by
    refine I2.laid (t' := s2.toks) (fun b o e => Heap.get?_push_of_some _ e) (Nat.le_of_eq hD) ?_
    rw [← hD]
    exact dk_empty s2.heap I2.big
  have grown : ∀ b o, s2.heap.get? b = some o → (s2.heap.push { cls := .type "dict", data := .dict #[] }).get? b = some o := fun b o e => Heap.get?_push_of_some _ e
  have fo3 : ∀ b ∈ fp, FpOk X pins (upd H2 D (.dK [])) b ∧ b < (s2.heap.push { cls := .type "dict", data := .dict #[] }).objs.size := fun b hb => by
    obtain ⟨o, e, _⟩ := T.obj _ _ b0 b hb
    have hlt := Heap.lt_size e
    have hne : b ≠ D := by
      rw [← hD]
      exact Nat.ne_of_lt hlt
    refine ⟨⟨by rw [upd_ne hne]; exact (fo b hb).1, (fo b hb).2⟩, ?_⟩
    rw [Heap.size_push]
    exact Nat.lt_succ_of_lt hlt
  have b3 : tn 0 (s2.heap.push { cls := .type "dict", data := .dict #[] }) := T.keep _ _ _ b0 fun b _ o e => grown b o e
  generalize hS3 : ({ s2 with heap := s2.heap.push { cls := .type "dict", data := .dict #[] } } : Shared) = s3 at I3
  have eh3 : s3.heap = s2.heap.push { cls := .type "dict", data := .dict #[] } := by rw [← hS3]
  rw [← eh3] at fo3 b3
  have I4 := block_start I3 ok hN fo3
  have pG := hg s3 (upd H2 D (.dK [])) s3.heap.objs.size (cellsFrom (s3.heap.objs.size + 1) scope.names (cloFrom X.env.cells scope.names [])) fp
  have pG1 := hg1 s3 (upd H2 D (.dK [])) s3.heap.objs.size (cellsFrom (s3.heap.objs.size + 1) scope.names (cloFrom X.env.cells scope.names [])) fp
  have pI1 := hi1 s3 (upd H2 D (.dK [])) s3.heap.objs.size (cellsFrom (s3.heap.objs.size + 1) scope.names (cloFrom X.env.cells scope.names [])) fp
  have pK := hk s3 (upd H2 D (.dK [])) s3.heap.objs.size (cellsFrom (s3.heap.objs.size + 1) scope.names (cloFrom X.env.cells scope.names [])) fp
  have pV := he s3 (upd H2 D (.dK [])) s3.heap.objs.size (cellsFrom (s3.heap.objs.size + 1) scope.names (cloFrom X.env.cells scope.names [])) fp
  show codeAny _ _ (.compStart (DC2 kx vx tg iter [] tg1 iter1 [] scope pos) 0 (.ref it) (.ref D) (compEnvC scope (cellsFrom (s3.heap.objs.size + 1) scope.names (cloFrom X.env.cells scope.names [])) s3.heap.objs.size X.env)) (compPost (model X.prog X.w) X.A X.xe use Qf (.ref D) s3.heap.objs.size)
    { s3 with heap := pushCells (s3.heap.push { cls := .type "dict", data := .dict #[] }) scope.names }
  generalize hE : compEnvC scope (cellsFrom (s3.heap.objs.size + 1) scope.names (cloFrom X.env.cells scope.names [])) s3.heap.objs.size X.env = ce at I4 pG pG1 pI1 pK pV ⊢
  have eL : ce.locals = s3.heap.objs.size := by
    subst hE
    rfl
  have clean : ∀ b ∈ fp, (upd H2 D (.dK [])) b = none := fun b hb => (fo3 b hb).1.1
  generalize upd H2 D (.dK []) = H3 at *
  have b4 : tn 0 (pushCells (s3.heap.push { cls := .type "dict", data := .dict #[] }) scope.names) := T.keep _ _ _ b3 fun b _ o e => pushCells_keeps _ _ _ _ (Heap.get?_push_of_some _ e)
  generalize hS4 : ({ s3 with heap := pushCells (s3.heap.push { cls := .type "dict", data := .dict #[] }) scope.names } : Shared) = s4 at I4 ⊢
  have b4' : tn 0 s4.heap := by
    rw [← hS4]
    exact b4
  -- what the first source's objects need, at any state of the block
  have fpB : ∀ {σ' : L2.St} {H' : Hp} {s' : Shared}, Inv (X.blk s3 H3 scope ce fp) [] σ' H' s' → (∀ b ∈ fp, H' b = none) → ∀ b ∈ fp, FpOk (X.blk s3 H3 scope ce fp) [] H' b := fun {σ' H' s'} I' hn b hb =>
    ⟨hn b hb, (I'.ok.exf b hb).1, I'.ok.exfs b hb, .inl hb, (I'.ok.exf b hb).2, fun p hp => by simp at hp⟩
  have loop : codeAny (model X.prog X.w) X.A (.compLoop (DC2 kx vx tg iter [] tg1 iter1 [] scope pos) 0 (.ref it) (.ref D) ce) (compPost (model X.prog X.w) X.A X.xe use Qf (.ref D) s3.heap.objs.size) s4 := by
    refine dloop0 (hs1 ce) (fun n s' => ∃ i H', Inv (X.blk s3 H3 scope ce fp) [] (wipe σ (own.map (·.2))) H' s' ∧ tn i s'.heap ∧ (∀ b ∈ fp, H' b = none) ∧ W i n H') ?_ m0 ⟨0, H3, I4, b4', clean, w0⟩
    rintro n s5 ⟨i, H5, I5, b5, n5, w5⟩
    rcases turn i n H5 w5 with ⟨stop, fine⟩ | ⟨go, Nx, hNx, step⟩
    · refine thnF (T.done (X.blk s3 H3 scope ce fp) rfl rfl rfl hc i [] s5 _ H5 (fun _ _ => False) I5 (fpB I5 n5) b5 stop) fun r s6 ⟨hr, I6⟩ => ?_
      subst hr
      have I7 : Inv X pins σ H5 s6 := I3.call' (ch := fp) I6.os I6.base I6.hok I6.bare fun b hb => let z := (fo3 b hb).1.2; ⟨z.2.2.1, z.1, z.2.2.2.1, z.2.2.2.2⟩
      have nC : H5 s3.heap.objs.size = none := eL ▸ (show H5 ce.locals = none from I6.free)
      obtain ⟨m, hn, _⟩ := I6.loc
      replace hn : s6.heap.Ns ce.locals m := hn
      rw [eL] at hn
      exact hRR D s3.heap.objs.size s6 m H5 I7 fine hn (I3.fpOk (Nat.le_refl _) nC)
    · refine thnF (T.item (X.blk s3 H3 scope ce fp) rfl rfl rfl hc i [] s5 _ H5 (fun _ _ => False) I5 (fpB I5 n5) b5 go) fun r s6 ⟨u, hr, h6⟩ => ?_
      subst hr
      refine thnF h6 fun _ s7 ⟨x, H7, I7, r7, y7, b7, n7⟩ => ?_
      refine thnF (pG.run _ s7 _ H7 x u _ (I7.pinned (fpB I7 n7) (T.obj _ _ b7)) r7 (step x H7 y7)) fun _ s8 ⟨σ8, H8, I8, e8, q8⟩ => ?_
      refine thnF ((pts_nil (X := X.blk s3 H3 scope ce fp)).run _ s8 σ8 H8 (fun b H9 => b = true ∧ H9 = H8) I8 ⟨rfl, rfl⟩) fun b s9 ⟨H9, I9, eb, eH⟩ => ?_
      subst eb eH
      rw [if_pos rfl]
      -- back at the first source's next turn
      have back : ∀ {σ9 : L2.St} {s' : Shared} {H' : Hp}, Inv (X.blk s3 H3 scope ce fp) ([] ++ pinsAt fp s7.heap) σ9 H' s' → (wipe σ (own.map (·.2))).length = σ9.length → (∀ (j : Nat) v, (wipe σ (own.map (·.2)))[j]? = some (some v) → σ9[j]? = some (some v)) → Nx H' →
          ∃ m, m < n ∧ ∃ i H', Inv (X.blk s3 H3 scope ce fp) [] (wipe σ (own.map (·.2))) H' s' ∧ tn i s'.heap ∧ (∀ b ∈ fp, H' b = none) ∧ W i m H' := fun {σ9 s' H'} I' hl hkk nx => by
        obtain ⟨m', hm, w'⟩ := hNx H' nx
        have still : ∀ b ∈ fp, ∀ o, s7.heap.get? b = some o → s'.heap.get? b = some o ∧ H' b = none := fun b hb o e => by
          have z := I'.pin (b, o) (List.mem_append_right _ (List.mem_append_right _ (mem_pinsAt hb e)))
          exact ⟨z.1, z.2.1⟩
        refine ⟨m', hm, i + 1, H', (I'.unpinned (pins := [])).weak hl hkk, T.keep _ _ _ b7 fun b hb o e => (still b hb o e).1, fun b hb => ?_, w'⟩
        obtain ⟨o, e, _⟩ := T.obj _ _ b7 b hb
        exact (still b hb o e).2
      have len8 : (wipe σ (own.map (·.2))).length = σ8.length := by rw [← e8, wipe_length]
      have keep9 : ∀ (j : Nat) v, (wipe σ (own.map (·.2)))[j]? = some (some v) → (wipe σ8 vs1)[j]? = some (some v) := fun j v e => by
        rw [← e8] at e
        have z := wipe_some e
        rw [wipe_out fun y => z.2 (hv j y)]
        exact z.1
      refine thnF (pI1.run _ s9 σ8 H9 _ I9 q8) fun xv s10 hx => thnF hx fun itv s11 h11 => ?_
      obtain ⟨it1, fp1, tn1, J1, H11, rfl, I11, T1, b11, f11, W1, ⟨m1, w1⟩, turn1⟩ := h11
      have fpC : ∀ {H' : Hp}, (∀ b ∈ fp1, H' b = none) → ∀ b ∈ fp1, FpOk (X.blk s3 H3 scope ce fp) ([] ++ pinsAt fp s7.heap) H' b := fun hn b hb => ⟨hn b hb, (f11 b hb).2⟩
      have loop1 : codeAny (model X.prog X.w) X.A (.compLoop (DC2 kx vx tg iter [] tg1 iter1 [] scope pos) 1 (.ref it1) (.ref D) ce) (fun r s' => match r with
          | .ok _ => ∃ m, m < n ∧ ∃ i H', Inv (X.blk s3 H3 scope ce fp) [] (wipe σ (own.map (·.2))) H' s' ∧ tn i s'.heap ∧ (∀ b ∈ fp, H' b = none) ∧ W i m H'
          | .error _ => False) s11 := by
        refine dloop1 (fun k s' => ∃ j H', Inv (X.blk s3 H3 scope ce fp) ([] ++ pinsAt fp s7.heap) (wipe σ8 vs1) H' s' ∧ tn1 j s'.heap ∧ (∀ b ∈ fp1, H' b = none) ∧ W1 j k H') ?_ m1
          ⟨0, H11, I11.weak (wipe_length _ _) (fun j v e => (wipe_some e).1), b11, fun b hb => (f11 b hb).1, w1⟩
        rintro k s12 ⟨j, H12, I12, b12, n12, w12⟩
        rcases turn1 j k H12 w12 with ⟨stop1, nx1⟩ | ⟨go1, Nx1, hNx1, step1⟩
        · refine thnF (T1.done (X.blk s3 H3 scope ce fp) rfl rfl rfl hc j _ s12 (wipe σ8 vs1) H12 (fun _ _ => False) I12 (fpC n12) b12 stop1) fun r s13 ⟨hr, I13⟩ => ?_
          subst hr
          exact back I13 (len8.trans (wipe_length σ8 vs1).symm) keep9 nx1
        · refine thnF (T1.item (X.blk s3 H3 scope ce fp) rfl rfl rfl hc j _ s12 (wipe σ8 vs1) H12 (fun _ _ => False) I12 (fpC n12) b12 go1) fun r s13 ⟨u1, hr, h13⟩ => ?_
          subst hr
          refine thnF h13 fun _ s14 ⟨x1, H14, I14, r14, y14, b14, n14⟩ => ?_
          refine thnF (pG1.run _ s14 (wipe σ8 vs1) H14 x1 u1 _ (I14.pinned (fpC n14) (T1.obj _ _ b14)) r14 (step1 x1 H14 y14)) fun _ s15 ⟨σ15, H15, I15, e15, q15⟩ => ?_
          refine thnF ((pts_nil (X := X.blk s3 H3 scope ce fp)).run _ s15 σ15 H15 (fun b H9 => b = true ∧ H9 = H15) I15 ⟨rfl, rfl⟩) fun b1 s16 ⟨H16, I16, eb, eH⟩ => ?_
          subst eb eH
          rw [if_pos rfl]
          refine thnF (pK.run _ s16 σ15 H16 _ I16 q15) fun z s17 ⟨yk, H17, I17, r17, q17⟩ => thnF (pV.run _ s17 σ15 H17 _ I17 q17) fun z2 s18 ⟨yv, H18, I18, r18, kvs, ky, ek, hD18, hz18, nx⟩ => ?_
          subst ek
          refine d_dictSet (X := X.blk s3 H3 scope ce fp) I18 hD18 hz18 r17 r18 fun s19 I19 => ?_
          obtain ⟨m', hm, w'⟩ := hNx1 _ nx
          have still : ∀ b ∈ fp1, ∀ o, s14.heap.get? b = some o → s19.heap.get? b = some o ∧ (upd H18 D (.dK (putK kvs ky yv))) b = none := fun b hb o e => by
            have z := I19.pin (b, o) (List.mem_append_right _ (List.mem_append_right _ (mem_pinsAt hb e)))
            exact ⟨z.1, z.2.1⟩
          refine ⟨m', hm, j + 1, _, I19.unpinned.weak (by rw [← e15, wipe_length]) (fun j v e => ?_), T1.keep _ _ _ b14 fun b hb o e => (still b hb o e).1, fun b hb => ?_, w'⟩
          · rw [← e15] at e
            exact (wipe_some e).1
          · obtain ⟨o, e, _⟩ := T1.obj _ _ b14 b hb
            exact (still b hb o e).2
      exact dstart1 loop1 (T1.self X.A 0 _ _ _ b11 loop1)
  exact codeAny_compStart_dict loop (T.self X.A 0 _ _ _ b4' loop)
theorem ps_setDc2 {i : Nat} {y : Str} {py pos spos : Pos} (hc : X.calm = true) (hN : X.N.Nodup) (hy : X.N[i]? = some y) (hl : X.env.scope.names.lookup y = some .local)
    (hsw : swapsWith (DC2 kx vx tg iter [] tg1 iter1 [] scope pos) (some (.Name y py)) spos.line X.env = pure true) (hi : PI X tg iter wi) (ok : BlkOk X.N X.env.scope scope own) (hv : ∀ i ∈ vs1, i ∈ own.map (·.2))
    (hg : ∀ s H C cl fp, PG (X.blk s H scope (compEnvC scope cl C X.env) fp) tg g) (hi1 : ∀ s H C cl fp, PI (X.blk s H scope (compEnvC scope cl C X.env) fp) tg1 iter1 wi1) (hg1 : ∀ s H C cl fp, PG (X.blk s H scope (compEnvC scope cl C X.env) fp) tg1 g1)
    (hk : ∀ s H C cl fp, PE (X.blk s H scope (compEnvC scope cl C X.env) fp) kx tk) (he : ∀ s H C cl fp, PE (X.blk s H scope (compEnvC scope cl C X.env) fp) vx tv)
    (hs : ∀ x, foldedSetIterable iter X.env x = pure x := by intro _; rfl) (hs1 : ∀ env x, foldedSetIterable iter1 env x = pure x := by intro _ _; rfl) :
    PS X (.Assign [.Name y py] (.DictComp kx vx [⟨tg, iter, [], 0⟩, ⟨tg1, iter1, [], 0⟩] scope pos) spos) (tAsg (tDc2 wi g wi1 g1 tk tv (own.map (·.2)) vs1) (gName i)) := by
  refine ⟨fun pins s σ H D I h => ?_⟩
  rw [exec_Assign_Name_used _ _ _ _ hsw]
  refine wpAny_bind (wpAny_standAt (wpAny_bind ?_))
  show wpAny _ X.A (do let _ ← comprehension (DC2 kx vx tg iter [] tg1 iter1 [] scope pos) scope X.env (firstIterPos [⟨tg, iter, [], 0⟩, ⟨tg1, iter1, [], 0⟩] pos) newDict false (eval iter X.env) (some (assign (.Name y py) X.env))) _ _ s
  have hh : tDc2 wi g wi1 g1 tk tv (own.map (·.2)) vs1 σ H (fun x H1 => gName i x σ H1 D.nx) := h
  exact wpAny_bind (thn (dc2_core (Qf := fun _ s' => SP X pins D .next s') hc hN I hi ok hv hg hs hi1 hg1 hk he hs1 hh fun L C s' m H' I' q hn f => stored_dc hN hy hl I' q hn f) fun _ s' hq => wpAny_pure (wpAny_pure hq))
end
end W73


set_option Elab.async false
set_option linter.all false
set_option maxRecDepth 100000
set_option maxHeartbeats 4000000
namespace W73
open PySem PySem.Spec PyProof.Rows L2
/-! ### sets of texts, as the model holds them (told by their members; their walk in any order) -/
def keyS (e : Int × Value) : Str := match e.2 with
  | .str x _ => x
  | _ => Str.empty
def GoodS (w : World) (e : Int × Value) : Prop := ∃ x t, e.2 = Value.str x t ∧ e.1 = hashStr w x
/-- what the object at a holds -/
structure RawS (w : World) (h : Heap) (a : Addr) (o : Obj) (es : Array (Int × Value)) (ep : Nat) (t : SetTable) : Prop where
  at_ : h.get? a = some o
  ex : o.ExactSet
  data : o.data = .set es ep t
  good : ∀ e ∈ es.toList, GoodS w e
  nd : (es.toList.map keyS).Nodup
  few : es.size < scanBound
  fits : t.fits es.size = true
  ris : Ris t.place.toList
  led : w.params.followText "set-order" = true ∨ t.led = true
/-- a set of texts at a: S tells its members, n their number -/
def SetS (w : World) (h : Heap) (a : Addr) (S : Str → Bool) (n : Nat) : Prop := ∃ o es ep t, RawS w h a o es ep t ∧ (∀ k, S k = true ↔ k ∈ es.toList.map keyS) ∧ es.size = n
section
variable {P : Program} {w : World} {h h' : Heap} {a : Addr} {S : Str → Bool} {n : Nat}
theorem SetS.at (R : SetS w h a S n) (k : ∀ o, h.get? a = some o → h'.get? a = some o) : SetS w h' a S n := by
  obtain ⟨o, es, ep, t, r, m, e⟩ := R
  exact ⟨o, es, ep, t, { r with at_ := k o r.at_ }, m, e⟩
theorem SetS.congr {S' : Str → Bool} (R : SetS w h a S n) (e : ∀ k, S' k = S k) : SetS w h a S' n := (funext e : S' = S) ▸ R
theorem elemsS {l : List (Int × Value)} (g : ∀ e ∈ l, GoodS w e) : ElemsOf (PySem.strKind P w) l := fun e he => by
  obtain ⟨x, t, z1, z2⟩ := g e he
  refine ⟨⟨x, ?_, z2⟩, ?_⟩
  · rw [z1]
    exact strKind_is P w x t
  · rw [z1]
    rfl
theorem isS {e : Int × Value} (g : GoodS w e) (k : Str) : (PySem.strKind P w).is k e.2 = true ↔ keyS e = k := by
  obtain ⟨x, t, z1, _⟩ := g
  have ek : keyS e = x := by
    unfold keyS
    rw [z1]
  rw [ek, z1]
  constructor
  · intro q
    obtain ⟨t', q'⟩ := Value.isStrOf_shape (show Value.isStrOf k (.str x t) = true from q)
    exact (Value.str.inj q').1
  · intro q
    rw [q]
    exact strKind_is P w k t
theorem memS {l : List (Int × Value)} (g : ∀ e ∈ l, GoodS w e) (k : Str) : k ∈ l.map keyS ↔ ∃ e ∈ l, (PySem.strKind P w).is k e.2 = true :=
  List.mem_map.trans ⟨fun ⟨e, he, q⟩ => ⟨e, he, (isS (g e he) k).2 q⟩, fun ⟨e, he, q⟩ => ⟨e, he, (isS (g e he) k).1 q⟩⟩
theorem putS {o : Obj} {es es' : Array (Int × Value)} {ep : Nat} {t t' : SetTable} (ho : h.get? a = some o) (hd : o.data = .set es ep t) : (h.update a (Obj.putSet es' t')).get? a = some { o with data := .set es' (ep + 1) t' } := by
  have z := Heap.get?_update_self (Obj.putSet es' t') ho (by rw [putSet_of es' t' hd]; rfl)
  rwa [putSet_of es' t' hd] at z
end
section
variable {P : Program} {w : World} {A : Around} {E : Value → Shared → Prop} {s : Shared} {a : Addr}
/-- the entries are laid, and laid anew where the table is too full -/
theorem layS {say : Bool → Sem Unit} (hsay : ∀ (b : Bool) (s₁ : Shared) (Q' : Unit → Shared → Prop), Q' () s₁ → wpAny (model P w) A (say b) Q' E s₁) {o : Obj} {es : Array (Int × Value)} {ep : Nat} {t : SetTable} (ho : s.heap.get? a = some o) (hx : o.ExactSet)
    (hd : o.data = .set es ep t) {fs : Array (Int × Value)} {u : SetTable} (gf : ∀ e ∈ fs.toList, GoodS w e) (nf : (fs.toList.map keyS).Nodup) (few : fs.size < scanBound) (fu : u.fits fs.size = true) (ru : Ris u.place.toList)
    (lu : w.params.followText "set-order" = true ∨ u.led = true) {dummy : Bool} {R : Option Bool → Shared → Prop}
    (hR : ∀ h' o' fs' ep' u', Heap.SameBut a s.heap h' → RawS w h' a o' fs' ep' u' → fs'.toList.Perm fs.toList → R (some true) { s with heap := h' }) :
    wpAny (model P w) A (do
        storeSet a fs u
        if (!dummy && u.tooFull) = true then do
            say (relayAll u fs (SetTable.grown fs.size)).2.2
            storeSet a (relayAll u fs (SetTable.grown fs.size)).1 (relayAll u fs (SetTable.grown fs.size)).2.1
            pure (some true)
          else pure (some true)) R E s := by
  refine wpAny_bind (wpAny_storeSet_of ho hd ?_ (fits_of_scanBound few))
  have z1 := putS (es' := fs) (t' := u) ho hd
  have sb := Heap.SameBut.update s.heap a (Obj.putSet fs u)
  split
  · have q1 := relayAll_perm u fs (SetTable.grown fs.size)
    have q2 := relayAll_fits u fs (SetTable.grown fs.size)
    have q3 := relayAll_ris u fs (SetTable.grown fs.size)
    have q4 := relayAll_led u fs (SetTable.grown fs.size)
    generalize relayAll u fs (SetTable.grown fs.size) = Z at q1 q2 q3 q4 ⊢
    obtain ⟨gs, v, way⟩ := Z
    dsimp only at q1 q2 q3 q4 ⊢
    have few' : gs.size < scanBound := by
      rw [← Array.length_toList, q1.length_eq, Array.length_toList]
      exact few
    refine wpAny_bind (hsay _ _ _ (wpAny_bind (wpAny_storeSet_of z1 rfl ?_ (fits_of_scanBound few'))))
    exact wpAny_pure (hR _ _ gs _ v (sb.trans (Heap.SameBut.update _ a _)) ⟨putS (es' := gs) (t' := v) z1 rfl, hx, rfl, fun e he => gf e (q1.mem_iff.mp he), (q1.map keyS).nodup_iff.mpr nf, few', q2, q3, lu.imp id fun z => by rw [q4]; exact z⟩ q1)
  · exact wpAny_pure (hR _ _ fs _ u sb ⟨z1, hx, rfl, gf, nf, few, fu, ru, lu⟩ (List.Perm.refl _))
theorem addS {S : Str → Bool} {n : Nat} {x : Str} {tk : Tok} {Q : Bool → Shared → Prop} (R : SetS w s.heap a S n) (room : n + 1 < scanBound)
    (hQ : ∀ h' b, Heap.SameBut a s.heap h' → SetS w h' a (fun j => S j || decide (j = x)) (if S x = true then n else n + 1) → Q b { s with heap := h' }) :
    wpAny (model P w) A (setAddHashed a (.str x tk) ((PySem.strKind P w).hash x)) Q E s := by
  obtain ⟨o, es, ep, t, r, hm, hn⟩ := R
  have isx : (PySem.strKind P w).is x (.str x tk) = true := strKind_is P w x tk
  have scx : (Value.str x tk).scannable = true := rfl
  have el : ElemsOf (PySem.strKind P w) es.toList := elemsS r.good
  unfold setAddHashed setAddHashedIn
  refine wpAny_holding (wpAny_bind (wpAny_setState_of r.at_ r.data r.fits ?_))
  dsimp only
  rw [byScan_of scx r.few el]
  simp only [↓reduceIte]
  unfold setAddByScan
  refine wpAny_bind (wpAny_bind (wpAny_rule (wpAny_bind (wpAny_setScan_of isx r.at_ r.data r.fits el ?_))))
  cases hf : List.findIdx? (fun e => (PySem.strKind P w).is x e.2) es.toList with
  | some j =>
    dsimp only
    obtain ⟨hj, pj, _⟩ := List.findIdx?_eq_some_iff_getElem.mp hf
    have there : S x = true := (hm x).2 ((memS (P := P) r.good x).2 ⟨es.toList[j], List.getElem_mem hj, pj⟩)
    refine wpAny_pure (wpAny_pure (hQ s.heap _ (Heap.SameBut.refl a s.heap) ⟨o, es, ep, t, r, fun i => ?_, by rw [if_pos there]; exact hn⟩))
    rw [Bool.or_eq_true, decide_eq_true_eq, ← hm i]
    exact ⟨fun z => z.elim id fun e => e ▸ there, .inl⟩
  | none =>
    dsimp only
    have out : x ∉ es.toList.map keyS := fun z => by
      obtain ⟨e, he, q⟩ := (memS (P := P) r.good x).1 z
      have := List.findIdx?_eq_none_iff.mp hf e he
      rw [q] at this
      cases this
    have away : ¬ S x = true := fun z => out ((hm x).1 z)
    have says : ∀ (b : Bool) {s₁ : Shared} {Q' : Unit → Shared → Prop}, Q' () s₁ → wpAny (model P w) A (match b with | true => rule "set.scan.the-table-gave-way" | false => pure ()) Q' E s₁ := fun b s₁ Q' q => by
      cases b
      · exact wpAny_pure q
      · exact wpAny_rule q
    have q1 := layNew_perm t es ((PySem.strKind P w).hash x) (.str x tk)
    have q2 := layNew_fits t es ((PySem.strKind P w).hash x) (.str x tk)
    have q3 := layNew_ris t es ((PySem.strKind P w).hash x) (.str x tk) r.ris
    have q4 := layNew_led t es ((PySem.strKind P w).hash x) (.str x tk)
    generalize layNew t es ((PySem.strKind P w).hash x) (.str x tk) = Z at q1 q2 q3 q4 ⊢
    obtain ⟨fs, u, dummy, gave⟩ := Z
    dsimp only at q1 q2 q3 q4 ⊢
    rw [Array.toList_push] at q1
    have pc : fs.toList.Perm (((PySem.strKind P w).hash x, Value.str x tk) :: es.toList) := q1.trans (List.perm_append_singleton _ _)
    have pk : (fs.toList.map keyS).Perm (x :: es.toList.map keyS) := pc.map keyS
    have gf : ∀ e ∈ fs.toList, GoodS w e := fun e he => by
      rcases List.mem_cons.mp (pc.mem_iff.mp he) with z | z
      · rw [z]
        exact ⟨x, tk, rfl, rfl⟩
      · exact r.good e z
    have nf : (fs.toList.map keyS).Nodup := pk.nodup_iff.mpr (List.nodup_cons.mpr ⟨out, r.nd⟩)
    have len : fs.size = n + 1 := by rw [← Array.length_toList, pc.length_eq, List.length_cons, Array.length_toList, hn]
    have few : fs.size < scanBound := by
      rw [len]
      exact room
    have lu : w.params.followText "set-order" = true ∨ u.led = true := r.led.imp id fun z => by
      rw [q4]
      exact z
    have fin : ∀ b h' o' fs' ep' u', Heap.SameBut a s.heap h' → RawS w h' a o' fs' ep' u' → fs'.toList.Perm fs.toList → Q b { s with heap := h' } := fun b h' o' fs' ep' u' sb r' p' => by
      refine hQ h' b sb ⟨o', fs', ep', u', r', fun i => ?_, ?_⟩
      · rw [Bool.or_eq_true, decide_eq_true_eq, hm i, ((p'.map keyS).trans pk).mem_iff, List.mem_cons]
        exact Or.comm
      · rw [if_neg away, ← len, ← Array.length_toList, p'.length_eq, Array.length_toList]
    refine wpAny_bind (says _ ?_)
    split
    · refine wpAny_bind ?_
      rw [hashByValue_scannable 8 scx]
      refine wpAny_pure (layS ?_ r.at_ r.ex r.data gf nf few ?_ ?_ ?_ ?_)
      · intro b s₁ Q' q
        cases b
        · exact wpAny_pure q
        · exact wpAny_rule q
      · first | (split <;> first | exact q2 | exact SetTable.fits_plain_off q2) | exact q2
      · first | (split <;> exact q3) | exact q3
      · first | (split <;> exact lu) | exact lu
      · intro h' o' fs' ep' u' sb r' p'
        dsimp only
        exact wpAny_pure (fin _ h' o' fs' ep' u' sb r' p')
    · refine wpAny_bind (wpAny_pure ?_)
      simp only [↓reduceIte]
      refine layS ?_ r.at_ r.ex r.data gf nf few q2 q3 lu fun h' o' fs' ep' u' sb r' p' => ?_
      · intro b s₁ Q' q
        cases b
        · exact wpAny_pure q
        · exact wpAny_rule q
      · dsimp only
        exact wpAny_pure (fin _ h' o' fs' ep' u' sb r' p')
end
end W73


set_option Elab.async false
set_option linter.all false
set_option maxRecDepth 100000
set_option maxHeartbeats 8000000
namespace W73
open PySem PySem.Spec PyProof.Rows L2 PySem.Calls
abbrev newS (w : World) : Obj := { cls := .type "set", dict := none, data := .set #[] 0 (.fresh 0 0 (!w.params.followText "set-order")) }
section
variable {P : Program} {w : World} {A : Around} {E : Value → Shared → Prop} {s : Shared}
theorem freshS {h : Heap} {a : Addr} (ho : h.get? a = some (newS w)) (xs : List Str) : SetS w h a (fun j => decide (j ∈ xs.take 0)) 0 := by
  refine ⟨_, #[], 0, _, ⟨ho, ⟨rfl, rfl, rfl⟩, rfl, fun e he => by simp at he, by simp, by decide, by rfl, List.Pairwise.nil, ?_⟩, fun k => by simp, rfl⟩
  show _ ∨ (!w.params.followText "set-order") = true
  cases w.params.followText "set-order"
  · exact .inr rfl
  · exact .inl rfl
/-- the loop of set.update over texts -/
theorem updS {I : Addr} {fp wr : List Addr} {G : Array GenState → Array GenState → Prop} {n : Nat} {Pv : Nat → Value → Prop} {St : Nat → Shared → Prop} {R : Result → Shared → Prop} (W : WalksS P w A.in1 I fp wr G n Pv St) (S : Addr) (hSf : S ∉ fp)
    (xs : List Str) (hn : n = xs.length) (few : xs.length + 1 < scanBound) (hval : ∀ i v, Pv i v → ∃ k t, xs[i]? = some k ∧ v = .str k t) :
    ∀ (left i : Nat) (s : Shared), n - i = left → i ≤ n → St i s → (∃ c, c ≤ i ∧ SetS w s.heap S (fun j => decide (j ∈ xs.take i)) c) →
      (∀ s' c, Moved (S :: wr) G s s' → SetS w s'.heap S (fun j => decide (j ∈ xs)) c → R (.ok (.ret .none)) s') → codeAny (model P w) A (.builtin "set.update.loop" ⟨[.ref S, .ref I], []⟩) R s := by
  have hSw : S ∉ wr := fun z => hSf (W.sub _ z)
  have wide : ∀ b ∈ wr, b ∈ S :: wr := fun b z => List.mem_cons_of_mem _ z
  intro left
  induction left with
  | zero =>
    intro i s e0 hi st ⟨c, hc, hS⟩ hR
    obtain rfl : i = n := by omega
    refine codeAny_builtin F.entry_set_update_loop ?_
    rw [Around.under_plainId F.plain_set_update_loop _]
    show wpAny _ A.in1 (pyNext (.ref I) >>= _) _ _ s
    refine wpAny_bind (W.done s _ _ st fun s' hm => ?_)
    show wpAny _ A.in1 (ret Value.none) _ _ s'
    rw [List.take_of_length_le (by omega)] at hS
    exact wpAny_pure (hR s' c (hm.mono wide) (hS.at fun o e => hm.heap S o hSw e))
  | succ left ih =>
    intro i s e0 hi st ⟨c, hc, hS⟩ hR
    have lt : i < n := by omega
    refine codeAny_builtin F.entry_set_update_loop ?_
    rw [Around.under_plainId F.plain_set_update_loop _]
    show wpAny _ A.in1 (pyNext (.ref I) >>= _) _ _ s
    refine wpAny_bind (W.item i s _ _ lt st fun v s' hP st' hm => ?_)
    obtain ⟨x, t, hx, rfl⟩ := hval i v hP
    show wpAny _ A.in1 (holding [Value.str x t] (setAdd S (.str x t)) >>= _) _ _ s'
    refine wpAny_bind (wpAny_holding ?_)
    unfold setAdd
    refine wpAny_holding (wpAny_bind ((PySem.strKind P w).pyHash (k := x) (strKind_is _ _ _ _) ?_))
    refine addS (s := { s' with toks := s'.toks + 1 }) (hS.at fun o e => hm.heap S o hSw e) (by omega) fun h' b sb hS2 => ?_
    have hS3 := hS2.congr (S' := fun j => decide (j ∈ xs.take (i + 1))) fun j => by
      rw [List.take_add_one, hx]
      simp [List.mem_append]
    refine wpAny_pure ⟨plainId_quiet F.plain_set_update_loop _, ih (i + 1) _ (by omega) lt (W.frame _ s' _ _ st' (Nat.le_succ _) fun b hb o e => ?_) ⟨_, by split <;> omega, hS3⟩ fun s'' c2 hm2 hS4 => ?_⟩
    · rw [sb.2 b fun z : b = S => hSf (z ▸ hb)]
      exact e
    · refine hR s'' c2 (Moved.trans W.gtrans ((hm.mono wide).then_heap (Nat.le_succ _) fun b o hb e => ?_) hm2) hS4
      rw [sb.2 b fun z : b = S => hb (z ▸ List.mem_cons_self)]
      exact e
theorem call_setS {l : Addr} {items : Array Value} (xs : List Str) {Q : Value → Shared → Prop} (hh : A.handled = none) (hl : s.heap.IsList l items) (hit : StrsAre items.toList xs) (few : xs.length + 1 < scanBound)
    (h : ∀ (h' : Heap) (tk c : Nat), SetS w h' s.heap.objs.size (fun j => decide (j ∈ xs)) c → (∀ b o, s.heap.get? b = some o → h'.get? b = some o) → Q (.ref s.heap.objs.size) { s with heap := h', toks := tk }) :
    wpAny (model P w) A (call (.type "set") [.ref l]) Q E s := by
  have size : items.size = xs.length := by
    have z := hit.length
    rwa [Array.length_toList] at z
  obtain ⟨c, tl, hmro⟩ := F.called_set.mro
  have hmade := F.called_set.made
  have hsub := F.called_set.sub
  refine wpAny_call (codeAny_of_tree ?_)
  show wpAny _ _ (callAny (.type "set") _) _ _ _
  refine wpAny_pure ⟨Code.quiet_builtin _ (by decide +kernel), codeAny_builtin F.entry_type_call ?_⟩
  rw [Around.under_plain (weight_type_call_type "set" [.ref l] []) rfl]
  have h1 := F.called_set.notType
  have h2 := F.called_set.canCreate
  have hct := F.typeCall_set_1 (.ref l)
  repeat (any_goals (first | assumption | wp_step))
  refine codeAny_mono (code_set_led1 (.ref l) (E := E) (Q₁ := fun obj s₁ => obj = .ref s.heap.objs.size ∧ s₁ = { s with heap := s.heap.push (newS w) }) ⟨rfl, rfl⟩) fun r s₁ hr => ?_
  cases r with
  | error e => exact hr
  | ok fl =>
    cases fl with
    | ret obj =>
      obtain ⟨rfl, rfl⟩ := hr
      have hS : (s.heap.push (newS w)).get? s.heap.objs.size = some (newS w) := Heap.get?_push_size _ rfl
      have hT : Shared.TypeIs { s with heap := s.heap.push (newS w) } (.ref s.heap.objs.size) "set" := ⟨_, hS, rfl⟩
      have hli := F.called_set.init.lookup
      have hbi := F.called_set.init.bind (.ref s.heap.objs.size)
      repeat (any_goals (first | assumption | wp_step))
      refine codeAny_mono (codeAny_call_builtin (R := wants (fun r s₂ => r = .none ∧ ∃ h' tk c, s₂ = { s with heap := h', toks := tk } ∧ SetS w h' s.heap.objs.size (fun j => decide (j ∈ xs)) c ∧ ∀ b o, s.heap.get? b = some o → h'.get? b = some o) E)
        F.called_set.init.plain F.entry_set_init (check_set_init_1 hT ?_)) fun r₂ s₂ hr₂ => ?_
      · obtain ⟨⟨ocls, odict, odata, oslots⟩, hol, hcl, nl, hdl⟩ := hl
        simp only at hcl hdl
        subst hcl
        subst hdl
        have hol' : (s.heap.push (newS w)).get? l = some { cls := .type "list", dict := odict, data := .seq items nl, slots := oslots } := Heap.get?_push_of_some _ hol
        have hsls := F.sub_list_set
        have hslf := F.sub_list_frozenset
        have hne : (Value.type "list" == Value.type "dict") = false := by decide
        have hl1 : (s.heap.push (newS w)).IsList l items := ⟨_, hol', rfl, nl, rfl⟩
        unfold Builtin.«set.__init__» noKeywords Builtin.Frozenset.updateFrom
        generalize hPI : pyIter = PI
        wp_walk
        subst hPI
        refine wpAny_pyIter_list hl1 (wpAny_bind (wpAny_runValue ?_))
        have under : l < s.heap.objs.size := Heap.lt_size hol
        have calm3 : A.in1.in1.in1.handled = none := by simp [hh]
        have grown : (s.heap.push (newS w)).objs.size = s.heap.objs.size + 1 := Heap.size_push ..
        have other : l ≠ (s.heap.push (newS w)).objs.size := by
          rw [grown]
          exact Nat.ne_of_lt (Nat.lt_succ_of_lt under)
        have apart : s.heap.objs.size ∉ [(s.heap.push (newS w)).objs.size, l] := by
          rw [grown]
          simp only [List.mem_cons, List.not_mem_nil, or_false, not_or]
          exact ⟨Nat.ne_of_lt (Nat.lt_succ_self _), Nat.ne_of_gt under⟩
        have hval : ∀ (i : Nat) (v : Value), items[i]? = some v → ∃ k t, xs[i]? = some k ∧ v = .str k t := fun i v hv => by
          have hi : i < xs.length := by
            rw [← size]
            exact (Array.getElem?_eq_some_iff.mp hv).1
          obtain ⟨t, e⟩ := SS.strs_at hit i v (by rw [Array.getElem?_toList]; exact hv)
          refine ⟨xs[i], t, List.getElem?_eq_getElem hi, ?_⟩
          rw [e, List.getD_eq_getElem?_getD, List.getElem?_eq_getElem hi]
          rfl
        refine updS ((Walks.list calm3 _ l other items).toS) s.heap.objs.size apart xs size few hval (items.size - 0) 0 _ (by omega) (Nat.zero_le _) ⟨⟨_, Heap.get?_push_size _ rfl, rfl, rfl⟩, hl1.push _⟩ ⟨0, Nat.le_refl 0, freshS (Heap.get?_push_of_some _ hS) xs⟩ ?_
        intro s' c' hm hS'
        obtain ⟨h', g2, d', tk', os'⟩ := s'
        obtain rfl : g2 = s.gens := hm.gens
        obtain rfl : d' = s.drawn := hm.drawn
        obtain rfl : os' = s.os := hm.os
        show wpAny _ _ _ _ _ _
        refine wpAny_pure ?_
        show wpAny _ _ (ret Value.none) _ _ _
        refine wpAny_pure ⟨rfl, h', tk', c', rfl, hS', fun b o e => ?_⟩
        have b0 : b < s.heap.objs.size := Heap.lt_size e
        have b2 : b ≠ (s.heap.push (newS w)).objs.size := by
          rw [grown]
          exact Nat.ne_of_lt (Nat.lt_succ_of_lt b0)
        exact hm.heap b o (by simp only [List.mem_cons, List.not_mem_nil, or_false, not_or]; exact ⟨Nat.ne_of_lt b0, b2⟩) (Heap.get?_push_of_some _ (Heap.get?_push_of_some _ e))
      · cases r₂ with
        | error e => exact hr₂
        | ok fl₂ =>
          cases fl₂ with
          | ret r =>
            obtain ⟨rfl, h', tk, c', rfl, hS', kept⟩ := hr₂
            repeat (any_goals (first | assumption | wp_step))
            exact h _ _ _ hS' kept
          | _ => exact hr₂.elim
    | _ => exact hr.elim
/-- sorted of a set of texts: some arrangement of its members -/
theorem sortedS2 {a : Addr} {S : Str → Bool} {n : Nat} {Q : Value → Shared → Prop} (R : SetS w s.heap a S n) (hh : A.handled = none) (hu : A.units + 64 < cLine)
    (hQ : ∀ s' p (out : List Value) (c : Nat) (ys : List Str), (∀ b o, s.heap.get? b = some o → s'.heap.get? b = some o) → s'.gens = s.gens → s'.os = s.os → s.heap.objs.size ≤ p → s'.heap.get? p = some (seqObj "list" out.toArray c) →
      Vals (ys.map V.str) out → ys.Nodup → (∀ k, k ∈ ys ↔ S k = true) → ys.length ≤ sizeLine → Q (.ref p) s') : wpAny (model P w) A (call (.builtin "sorted") [.ref a]) Q E s := by
  obtain ⟨o, es, ep, t, r, hm, hn⟩ := R
  refine Calls.call_function_entry kind_sorted plain_sorted entry_sorted (args_sorted1 _) ?_
  unfold Builtin.«sorted»
  refine wpAny_bind (m := checkCount "sorted" 1 1 _) (wpAny_pure (wpAny_bind (collect_set (A := A.in1) hh ⟨o, r.at_, r.ex.1, r.data⟩ r.fits r.few r.ris r.led fun s1 vs k1 hz g1 o1 pm => ?_)))
  have len : vs.length = es.size := by rw [pm.length_eq, List.length_map, Array.length_toList]
  have line : vs.length ≤ sizeLine := by
    rw [len]
    exact fits_of_scanBound r.few
  have texts : ∀ v ∈ vs, ∃ x t, v = Value.str x t := fun v hv => by
    obtain ⟨e, he, q⟩ := List.mem_map.mp (pm.mem_iff.mp hv)
    obtain ⟨x, t, z, _⟩ := r.good e he
    exact ⟨x, t, by rw [← q]; exact z⟩
  have each : ∀ (l : List Value), (∀ v ∈ l, ∃ x t, v = Value.str x t) → PySem.W.EachIs (fun v (b : Str) => ∃ t, v = Value.str b t) l (l.map fun v => keyS (0, v)) := fun l => by
    induction l with
    | nil => intro _; exact .nil
    | cons v l ih =>
      intro h
      obtain ⟨x, t, rfl⟩ := h v List.mem_cons_self
      exact .cons ⟨t, rfl⟩ (ih fun u hu => h u (List.mem_cons_of_mem _ hu))
  have ev := each vs texts
  have pk : (vs.map fun v => keyS (0, v)).Perm (es.toList.map keyS) := by
    have z := pm.map fun v => keyS (0, v)
    rw [List.map_map] at z
    exact z
  refine wpAny_bind (wpAny_newList ?_ line)
  have hoL : (s1.heap.push (seqObj "list" vs.toArray 0)).get? s1.heap.objs.size = some (seqObj "list" vs.toArray 0) := Heap.get?_push_size _ rfl
  refine wpAny_bind (wpAny_holding (PySem.W.list_sort_data (enc := PyData.str) hoL ev (ev.mono fun v b ⟨t, e⟩ => ⟨[], by rw [e]; exact .str _ _, by simp⟩) (PySem.W.AllAlike.of fun b b' => by simp [PySem.W.alike]) (PySem.W.Sortable.others fun b => ⟨by simp, by simp⟩)
    (by rw [List.length_map]; exact line) (fun b hb => by show A.in1.units + 1 + 0 < cLine; have : A.in1.units = A.units + 1 := rfl; omega) fun out ho eo => ?_))
  obtain ⟨c, hc⟩ := sortedHeap_at (vs := vs) (out := out.toArray) hoL
  have pn := (List.mergeSort_perm (vs.map fun v => keyS (0, v)) (PySem.W.dataLe false PyData.str)).trans pk
  have valsOf : ∀ {l : List Value} {ys : List Str}, PySem.W.EachIs (fun v (b : Str) => ∃ t, v = Value.str b t) l ys → Vals (ys.map V.str) l := fun {l ys} h => by
    induction h with
    | nil => exact .nil
    | cons r _ ih => exact .cons r ih
  refine wpAny_pure ⟨_, rfl, hQ _ s1.heap.objs.size out c _ (fun b u e => ?_) g1 o1 hz hc (valsOf eo) (pn.nodup_iff.mpr r.nd) (fun k => by rw [pn.mem_iff, ← hm k]) ?_⟩
  · have q := k1 b u e
    have lt := Heap.lt_size q
    show (sortedHeap (s1.heap.push (seqObj "list" vs.toArray 0)) s1.heap.objs.size vs out.toArray).get? b = some u
    rw [sortedHeap_old (Nat.ne_of_lt lt) (by rw [Heap.size_push]; exact Nat.lt_succ_of_lt lt)]
    exact Heap.get?_push_of_some _ q
  · rw [pn.length_eq, List.length_map, Array.length_toList]
    exact fits_of_scanBound r.few
end
end W73


set_option Elab.async false
set_option linter.all false
set_option maxRecDepth 100000
set_option maxHeartbeats 8000000
namespace W73
open PySem PySem.Spec PyProof.Rows L2 PySem.Calls
def SetSO (w : World) (a : Addr) (S : Str → Bool) (n : Nat) : HO := .ext fun h => SetS w h a S n
theorem setSO_new {w : World} {P : Program} {H : Hp} {h : Heap} {a : Addr} {S : Str → Bool} {n : Nat} (R : SetS w h a S n) : ObjOk P w H h a (SetSO w a S n) := by
  have ⟨o, _, _, _, r, _⟩ := R
  exact ⟨R, ⟨o, r.at_⟩, fun h1 h2 p k => SetS.at p k⟩
section
variable {X : Cx}
/-- set(xs), xs a list of texts -/
def rSetS (K : PySem.W.Frag) (w : World) : List V → Hp → VK → Prop := fun vs H Q => ∃ (l : Addr) (xs : List Str), vs = [.ref l] ∧ SqL K H l (xs.map V.str) ∧ xs.length ≤ 4000 ∧ ∀ p n, H p = none → Q (.ref p) (upd H p (SetSO w p (fun j => decide (j ∈ xs)) n))
theorem cr_setS (hc : X.calm = true) : CallR X (.type "set") (rSetS X.K X.w) := by
  intro pins s σ H vs us Q I r h
  obtain ⟨l, xs, rfl, hs, hl, q⟩ := h
  obtain ⟨its, rv, pl, hz⟩ := I.list hs
  rw [Vals.ref1 r]
  refine call_setS xs (I.ok.hd hc) pl.isList (by simpa using rv.strs) (by unfold scanBound; omega) fun h' tk c hS hk => ?_
  exact ⟨.ref _, upd H s.heap.objs.size (SetSO X.w s.heap.objs.size (fun j => decide (j ∈ xs)) c), I.laid (t' := tk) hk (Nat.le_refl _) (setSO_new hS), rfl, q _ _ (I.hok.fresh (Nat.le_refl _))⟩
/-- sorted(s), s a set of texts -/
def rSortS (w : World) : List V → Hp → VK → Prop := fun vs H Q => ∃ (a : Addr) (S : Str → Bool) (n : Nat), vs = [.ref a] ∧ H a = some (SetSO w a S n) ∧
  ∀ (ys : List Str) (p : Addr), ys.Nodup → (∀ k, k ∈ ys ↔ S k = true) → H p = none → Q (.ref p) (upd H p (.lst (ys.map V.str)))
theorem cr_sortS (hc : X.calm = true) (hu : X.A.units + 64 < cLine) : CallR X (.builtin "sorted") (rSortS X.w) := by
  intro pins s σ H vs us Q I r h
  obtain ⟨a, S, n, rfl, ha, q⟩ := h
  have R : SetS X.w s.heap a S n := (I.hok a _ ha).1
  rw [Vals.ref1 r]
  refine sortedS2 R (I.ok.hd hc) hu fun s' p out c ys k g o hp hg hv hn hm hl => ?_
  have fr : H p = none := I.hok.fresh hp
  have J : Inv X pins σ (upd H p (.lst (ys.map V.str))) { s with heap := s'.heap, gens := s'.gens, drawn := s'.drawn, toks := s'.toks } := by
    refine I.call (ch := []) (Un.laid k hp fr) (I.hok.laid k hp ⟨by rw [List.length_map]; exact hl, out, c, hv, hg⟩) ?_ (fun _ z => nomatch z)
    rw [g]
    exact I.bare
  have e : s' = { s with heap := s'.heap, gens := s'.gens, drawn := s'.drawn, toks := s'.toks } := by
    cases s'
    cases s
    cases o
    rfl
  rw [e]
  exact ⟨.ref p, _, J, rfl, q ys p hn hm fr⟩
/-! ### sorted of logs -/
theorem refsOf : ∀ {as : List Addr} {us : List Value}, Vals (as.map V.ref) us → us = as.map Value.ref
  | [], _, .nil => rfl
  | a :: as, _, .cons r t => by
    have r' : _ = Value.ref a := r
    rw [r', refsOf t]
    rfl
theorem valsRefs : ∀ as : List Addr, Vals (as.map V.ref) (as.map Value.ref)
  | [] => .nil
  | a :: as => .cons rfl (valsRefs as)
theorem each_refs {β : Type} {R : Addr → β → Prop} : ∀ {as : List Addr} {bs : List β}, All2 R as bs → PySem.W.EachIs (fun v b => ∃ a, v = Value.ref a ∧ R a b) (as.map Value.ref) bs
  | [], [], _ => .nil
  | [], _ :: _, x => by simp [All2] at x
  | _ :: _, [], x => by simp [All2] at x
  | a :: as, b :: bs, x => .cons ⟨a, rfl, x.of_cons.1⟩ (each_refs x.of_cons.2)
theorem refs_each {β : Type} {R : Addr → β → Prop} : ∀ {us : List Value} {bs : List β}, PySem.W.EachIs (fun v b => ∃ a, v = Value.ref a ∧ R a b) us bs → ∃ as, us = as.map Value.ref ∧ All2 R as bs
  | _, _, .nil => ⟨[], rfl, All2.nil⟩
  | _, _, .cons ⟨a, e, r⟩ t => by
    obtain ⟨as, e2, x⟩ := refs_each t
    exact ⟨a :: as, by rw [e, e2]; rfl, x.cons r⟩
/-- sorted(logs) -/
def rSortL (K : PySem.W.Frag) : List V → Hp → VK → Prop := fun vs H Q => ∃ (a : Addr) (as : List Addr) (logs : List (List (List Int))), vs = [.ref a] ∧ SqL K H a (as.map V.ref) ∧ All2 (LL H) as logs ∧
  ∀ (bs : List Addr) (p : Addr), All2 (LL H) bs (logs.mergeSort fun x y => decide (x ≤ y)) → H p = none → Q (.ref p) (upd H p (.lst (bs.map V.ref)))
theorem cr_sortL (hu : X.A.units + 64 < cLine) : CallR X (.builtin "sorted") (rSortL X.K) := by
  intro pins s σ H vs us Q I r h
  obtain ⟨a, as, logs, rfl, hs, h2, q⟩ := h
  obtain ⟨its, rv, pl, hz⟩ := I.list hs
  rw [Vals.ref1 r]
  have ei := refsOf rv
  subst ei
  have ev := each_refs h2
  have line : logs.length ≤ sizeLine := by
    rw [← h2.1]
    rwa [List.length_map] at hz
  have er : PySem.W.EachIs (fun v b => ∃ as, Reads s.heap v (dL b) as) (as.map Value.ref) logs := ev.mono fun v b hx => by
    obtain ⟨x, e, z⟩ := hx
    rw [e]
    exact Dp.reads I (dL b) (.ref x) (.ref x) (dp_LL z) rfl
  refine PySem.W.sorted_data (enc := dL) pl.isList ev er (PySem.W.AllAlike.of alike_L) (PySem.W.Sortable.others fun b => ⟨by simp [dL], by simp [dL]⟩) line (fun b _ => by have := dep_L b; omega) fun out ho eo => ?_
  rw [dataLe_logs] at eo
  obtain ⟨bs, rfl, hb⟩ := refs_each eo
  obtain ⟨ep, hc⟩ := PyProof.Rows.sortedAll_at s.heap (as.map Value.ref) (bs.map Value.ref).toArray
  have lb : (bs.map V.ref).length ≤ sizeLine := by
    rw [List.length_map, hb.1, List.length_mergeSort]
    exact line
  exact ⟨.ref _, upd H (s.heap.objs.size + 1) (.lst (bs.map V.ref)), I.laid (t' := s.toks) (fun _ _ => PyProof.Rows.sortedAll_old) (Nat.le_succ _) ⟨lb, _, ep, valsRefs bs, hc⟩, rfl, q bs _ hb (I.hok.fresh (Nat.le_succ _))⟩
end
end W73


set_option Elab.async false
set_option linter.all false
set_option maxRecDepth 100000
set_option maxHeartbeats 4000000
namespace W73
open PySem PySem.Spec PyProof.Rows L2
def s4 : M73.S4 → Str
  | .rd => "read"
  | .ls => "lost"
  | .op => "open"
  | .un => "unknown"
theorem s4_inj {a b : M73.S4} (h : s4 a = s4 b) : a = b := by
  cases a <;> cases b <;> first | rfl | (exact absurd h (by decide +kernel))
theorem putK_map {ids : List Int} {f : Int → M73.S4} {x : Int} {v : M73.S4} (hx : x ∈ ids) :
    putK (ids.map fun y => ((Sum.inl y : Key), V.str (s4 (f y)))) (Sum.inl x) (V.str (s4 v)) = ids.map fun y => ((Sum.inl y : Key), V.str (s4 (if y = x then v else f y))) := by
  unfold putK
  rw [if_pos]
  · rw [List.map_map]
    apply List.map_congr_left
    intro y _
    by_cases e : y = x
    · subst e
      simp
    · have e' : ¬ (Sum.inl y : Key) = Sum.inl x := fun z => e (Sum.inl.inj z)
      simp [e, e']
  · rw [List.any_eq_true]
    exact ⟨_, List.mem_map.mpr ⟨x, hx, rfl⟩, by simp⟩
theorem putK_snoc {xs : List Int} {f : Int → V} {x : Int} {v : V} (hx : x ∉ xs) : putK (xs.map fun y => ((Sum.inl y : Key), f y)) (Sum.inl x) v = (xs.map fun y => ((Sum.inl y : Key), f y)) ++ [((Sum.inl x : Key), v)] := by
  unfold putK
  rw [if_neg]
  rw [List.any_eq_true]
  rintro ⟨p, hp, e⟩
  obtain ⟨y, hy, rfl⟩ := List.mem_map.mp hp
  have e' : (Sum.inl y : Key) = Sum.inl x := of_decide_eq_true e
  exact hx (Sum.inl.inj e' ▸ hy)
theorem valV_map_of {ids : List Int} {f : Int → V} {x : Int} (hx : x ∈ ids) : valV (ids.map fun y => ((Sum.inl y : Key), f y)) (Sum.inl x) = some (f x) := by
  induction ids with
  | nil => simp at hx
  | cons y ids ih =>
    rw [List.map_cons]
    by_cases e : y = x
    · subst e
      exact valV_pos rfl
    · rw [valV_neg fun z => e (Sum.inl.inj z)]
      exact ih ((List.mem_cons.mp hx).resolve_left fun z => e z.symm)
/-- over a list that stays: a dict comprehension -/
theorem dc_list {K : PySem.W.Frag} {a : Addr} {xs : List V} {g : TG} {tt : TT} {tk tv : TE} {vs : List Nat} {σ : L2.St} {H1 : Hp} {D : Addr} {Qd : Hp → Prop} (Pv : Nat → Hp → Prop) (h0 : Pv 0 (upd H1 D (.dK []))) (hl : ∀ i H, i ≤ xs.length → Pv i H → SqL K H a xs)
    (hs : ∀ i x H, xs[i]? = some x → Pv i H → g x (wipe σ vs) H fun σ2 H2 => wipe σ2 vs = wipe σ vs ∧ tt σ2 H2 fun b H3 =>
      if b = true then tk σ2 H3 fun y H4 => tv σ2 H4 fun z H5 => ∃ kvs k, y = kV k ∧ H5 D = some (.dK kvs) ∧ kvs.length < sizeLine ∧ Pv (i + 1) (upd H5 D (.dK (putK kvs k z))) else Pv (i + 1) H3) (hd : ∀ H, Pv xs.length H → Qd H) :
    ∃ W : Nat → Nat → Hp → Prop, (∃ m, W 0 m (upd H1 D (.dK []))) ∧ ∀ i m H, W i m H → ((Itl K a).stop i H ∧ Qd H) ∨ ((Itl K a).go i H ∧ ∃ Nx : Hp → Prop, (∀ H', Nx H' → ∃ m', m' < m ∧ W (i + 1) m' H') ∧
      ∀ x H', (Itl K a).yld i H x H' → g x (wipe σ vs) H' fun σ2 H2 => wipe σ2 vs = wipe σ vs ∧ tt σ2 H2 fun b H3 =>
        if b = true then tk σ2 H3 fun y H4 => tv σ2 H4 fun z H5 => ∃ kvs k, y = kV k ∧ H5 D = some (.dK kvs) ∧ kvs.length < sizeLine ∧ Nx (upd H5 D (.dK (putK kvs k z))) else Nx H3) := by
  refine ⟨fun i m H => i + m = xs.length ∧ Pv i H, ⟨xs.length, by omega, h0⟩, ?_⟩
  rintro i m H ⟨e, p⟩
  have sq := hl i H (by omega) p
  by_cases lt : i < xs.length
  · refine .inr ⟨⟨xs, _, sq, List.getElem?_eq_getElem lt⟩, Pv (i + 1), fun H' p' => ⟨m - 1, by omega, by omega, p'⟩, fun x H' hy => ?_⟩
    obtain ⟨rfl, hy⟩ := hy
    exact hs i x _ (hy xs sq) p
  · have : i = xs.length := by omega
    subst this
    exact .inl ⟨⟨xs, sq, Nat.le_refl _⟩, hd H p⟩
section
variable {X : Cx} {e : Expr} {te : TE} {pos p : Pos}
theorem pe_lenK {K : PySem.W.Frag} (g : X.mg "len" = none) (he : PE X e te) (hK : X.K = K := by rfl) (hg : Gl X "len" := by rfl) (h1 : starEach [e] X.env = (false, eval e X.env) :: starEach [] X.env := by rfl) (h3 : (backTo pos (starEach [] X.env)).any (·.1) = false := by rfl) :
    PE X (.Call (.Name "len" p) [e] [] pos) (tCB (fun xs H Q => ∃ p ys, xs = [.ref p] ∧ (SqL K H p ys ∨ SqT K H p ys) ∧ Q (.int ys.length) H) (tCons te tNil)) := hK ▸ pe_len g he hg h1 h3
end
section
variable {P : Program} {w : World} {K : PySem.W.Frag} {mg : Str → Option Value} {base : Heap}
abbrev cReqF (P : Program) (w : World) (K : PySem.W.Frag) (mg : Str → Option Value) (base : Heap) : Prop := Cal P w K mg base "require_fit" ["counts", "ids"] [] 5 spReqFit
/-! ### lost_numbers -/
theorem sc29 : FnScope ["counts", "ids", "number", "cursor", "part"] ["counts", "ids"] (defScope (topS 29)) := ⟨rfl, rfl, rfl, by decide +kernel, rfl, by decide +kernel, by decide +kernel⟩
def spLost : Sp := fun vs H Q _ => ∃ (a b : Addr) (cs : List (Int × Int)) (ids : List Int), vs = [.ref a, .ref b] ∧ CL H a cs ∧ IL H b ids ∧ CntsOk cs ∧ IdsOk ids ∧ M73.fitB ids 0 cs = true ∧
  ∀ H' p, Same H H' → H p = none → IL H' p ((M73.zsOf ids 0 cs).map fun z => (z.2.length : Int) - z.1) → Q (.ref p) H'
theorem c_lost (g : Glob mg) (D : Df K mg "lost_numbers" (topS 29) [] []) (cR : cReqF P w K mg base) (cp : cParts P w K mg base) : Cal P w K mg base "lost_numbers" ["counts", "ids"] [] 6 spLost := by
  refine Cal.of D sc29 (fun _ _ _ _ _ _ us hl => match us, hl with | [_, _], _ => rfl) (fun vs H Q E h => ?_) (fun f cdv A outer s H vs Q E hr h => ⟨_, pss_cons (ps_expr (pe_cal cR hr (pa_cons (pv 0) (pa_cons (pv 1) pa_nil))))
    (pss_one (ps_ret (pe_lc (own := [("number", 2), ("cursor", 3), ("part", 4)]) (g := gPair K (gPair K (gName 2) (gName 3)) (gName 4)) rfl sc29.nd (pi_zip rfl g.zip (pa_cons (pv 0) (pa_cons (pe_cal cp (hr.mono (by decide)) (pa_cons (pv 0) (pa_cons (pv 1) pa_nil))) pa_nil)))
        (blkOk_by (N := ["counts", "ids", "number", "cursor", "part"]) (sc := defScope (topS 29)) (by decide +kernel))
        (fun _ _ _ _ _ => pg_tup rfl (pgs_cons (pg_tup rfl (pgs_cons (pg_name (i := 2) sc29.nd rfl (.inl rfl)) (pgs_cons (pg_name (i := 3) sc29.nd rfl (.inl rfl)) pgs_nil))) (pgs_cons (pg_name (i := 4) sc29.nd rfl (.inl rfl)) pgs_nil)))
        (fun _ _ _ _ _ => pts_nil) (fun _ _ _ _ _ => pe_op op_sub (pe_lenK (K := K) g.len (pv 4)) (pv 2))))), ?_⟩)
  · obtain ⟨a, b, cs, ids, rfl, _⟩ := h
    rfl
  · obtain ⟨a, b, cs, ids, rfl, hC, hI, hc, hi, hf, q⟩ := h
    refine ⟨.ref a, rfl, .ref b, rfl, a, b, cs, ids, rfl, hC, hI, hc, hi, hf, fun H0 s0 => ?_⟩
    refine ⟨.ref a, rfl, .ref a, rfl, .ref b, rfl, a, b, cs, ids, rfl, mo s0 hC, mo s0 hI, by have := hc.1; omega, by have := hi.1; omega, fun H1 p s1 np hL => ?_⟩
    obtain ⟨as, hA, h2⟩ := mo (s0.trans s1) hC
    obtain ⟨ps, hP, h3⟩ := mo dif_same hL
    have lp : ps.length = as.length := by rw [h3.1, M73.partsL_length, h2.1]
    refine ⟨a, p, as.map V.ref, ps.map V.ref, rfl, .of hA, .of hP, fun D hD => lc_it (walk_zip (n := cs.length) (by rw [List.length_map, List.length_map, lp, Nat.min_self, h2.1]))
      (PvA (fun i acc _ => acc = (((M73.zsOf ids 0 cs).take i).map fun z => (z.2.length : Int) - z.1).map V.int) H1 D) (PvA.start hD rfl) (fun i H2 _ h => ⟨.of (h.same _ _ hA), .of (h.same _ _ hP)⟩) (fun i x H2 H3 hi' h hy => ?_) (fun H2 h => ?_)⟩
    · have sH := h.same
      obtain ⟨acc, hD2, hle, sm, rfl⟩ := h
      obtain ⟨T, x1, x2, rfl, hT, rfl, e1, e2⟩ := hy
      obtain ⟨t, ht, rfl⟩ := ref_get e1
      obtain ⟨u, hu, rfl⟩ := ref_get e2
      obtain ⟨⟨n, c⟩, hcn, r⟩ := h2.get ht
      obtain ⟨pt, hpt, rp⟩ := h3.get hu
      have hz := M73.zsOf_get hcn hpt
      have sT := sH.trans (same_upd (o := .tup [.ref t, .ref u]) hT)
      refine ⟨T, _, rfl, .of upd_same, rfl, _, _, rfl, ⟨t, _, rfl, (mo sT r).sq, rfl, _, _, rfl, _, _, rfl, rfl, _, _, rfl, rfl, rfl, .ref u, rfl, u, _, rfl, .inl (mo sT rp).sq, _, rfl, _, _, rfl, rfl, ?_⟩⟩
      rw [List.length_map]
      refine PvA.snoc (by have := hc.1; omega) (keep_at hD2 hT) hle (sm.trans (hid_new hT)) ?_
      rw [List.take_add_one, hz, List.map_append, List.map_append]
      rfl
    · have sH := h.same
      obtain ⟨acc, hD2, hle, sm, rfl⟩ := h
      rw [List.take_of_length_le (by rw [M73.zsOf_length]; exact Nat.le_refl _)] at hD2
      exact q H2 D ((s0.trans s1).trans sH) ((s0.trans s1).free hD) hD2
/-! ### state_in -/
theorem sc30 : FnScope ["part", "number", "row"] ["part", "number", "row"] (defScope (topS 30)) := ⟨rfl, rfl, rfl, by decide +kernel, rfl, by decide +kernel, by decide +kernel⟩
def spStIn : Sp := fun vs H Q _ => ∃ (a : Addr) (pt : List Int) (n x : Int), vs = [.ref a, .int n, .int x] ∧ IL H a pt ∧ pt ≠ [] ∧ Q (.str (s4 (M73.stateIn pt n x))) H
theorem c_stIn (g : Glob mg) (D : Df K mg "state_in" (topS 30) [] []) : Cal P w K mg base "state_in" ["part", "number", "row"] [] 1 spStIn := by
  refine Cal.of D sc30 (fun _ _ _ _ _ _ us hl => match us, hl with | [_, _, _], _ => rfl) (fun vs H Q E h => ?_) (fun f cdv A outer s H vs Q E hr h => ⟨_, pss_cons
    (ps_if (PW.pt (pw_or (pt_cmpR op_eq (pv 2) (pe_ix ix_list (pv 0) (pe_un un_neg pe_int) (fun _ _ => rfl)) (nomark _)) (pw_or1 (pt_cmpR op_eq (pv 1) (pe_len g.len (pv 0)) (nomark _))))) (pss_one (ps_ret pe_str)) pss_nil)
    (pss_one (ps_ret (pe_ifExp (pt_cmpR op_eq (pv 1) pe_int (nomark _)) pe_str pe_str))), ?_⟩)
  · obtain ⟨a, pt, n, x, rfl, _⟩ := h
    rfl
  · obtain ⟨a, pt, n, x, rfl, hI, hne, q⟩ := h
    obtain ⟨z, hz⟩ : ∃ z, pt.getLast? = some z := by
      rw [List.getLast?_eq_some_getLast hne]
      exact ⟨_, rfl⟩
    unfold M73.stateIn at q
    rw [hz] at q
    have fin : ∀ b : Bool, b = decide (some z = some x ∨ n = (pt.length : Int)) → b = false → tIf (tTest (tOp rEq (tVar 1) (tC (.int 1)))) (tC (.str "lost")) (tC (.str "unknown")) [some (.ref a), some (.int n), some (.int x)] H Q := fun b e1 e2 => by
      rw [e2] at e1
      have := of_decide_eq_false e1.symm
      rw [if_neg this] at q
      refine ⟨_, rfl, rfl, _, rfl, ite2 (fun e => ?_) (fun e => ?_)⟩
      · rw [if_pos (V.int.inj (of_decide_eq_true e))] at q
        exact q
      · rw [if_neg fun z => e (decide_eq_true (by rw [z]))] at q
        exact q
    refine ⟨_, rfl, _, rfl, 1, rfl, a, _, -1, _, rfl, rfl, hI.sq, at_last hz, rfl, _, rfl, ite2 (fun e => ?_) (fun e => ?_)⟩
    · have : x = z := V.int.inj (of_decide_eq_true e)
      rw [if_pos (.inl (by rw [this]))] at q
      exact iteT q
    · have ne : ¬ some z = some x := fun k => e (decide_eq_true (by rw [Option.some.inj k]))
      refine ⟨_, rfl, .ref a, rfl, a, _, rfl, .inl hI.sq, rfl, _, rfl, ite2 (fun e2 => ?_) (fun e2 => ?_)⟩
      · have e2' := V.int.inj (of_decide_eq_true e2)
        rw [List.length_map] at e2'
        rw [if_pos (.inr e2')] at q
        exact q
      · refine fin _ rfl (decide_eq_false fun k => k.elim ne fun k => e2 (decide_eq_true ?_))
        rw [List.length_map, k]
end
end W73


set_option Elab.async false
set_option linter.all false
set_option maxRecDepth 100000
set_option maxHeartbeats 4000000
namespace W73
open PySem PySem.Spec PyProof.Rows L2
theorem told_snoc : ∀ (l : List (Int × List Int)) (z : Int × List Int) (f : Int → M73.S4) (x : Int), M73.told (l ++ [z]) f x = if x ∈ z.2 then M73.stateIn z.2 z.1 x else M73.told l f x
  | [], z, f, x => rfl
  | a :: l, z, f, x => told_snoc l z _ x
theorem parts_sub (ids : List Int) : ∀ (cs : M73.Cnt) (c : Int), ∀ p ∈ M73.partsL ids c cs, ∀ x ∈ p, x ∈ ids
  | [], _, p, hp, x, hx => by simp [M73.partsL] at hp
  | (_, d) :: r, c, p, hp, x, hx => by
    rcases List.mem_cons.mp hp with e | e
    · subst e
      exact (List.mem_filter.mp hx).1
    · exact parts_sub ids r d p e x hx
theorem nodup_take {α : Type} {xs : List α} {i : Nat} {x : α} (nd : xs.Nodup) (h : xs[i]? = some x) : x ∉ xs.take i := by
  intro hm
  obtain ⟨hi, e⟩ := List.getElem?_eq_some_iff.mp h
  obtain ⟨j, hj, e2⟩ := List.getElem_of_mem hm
  rw [List.length_take] at hj
  rw [List.getElem_take] at e2
  exact List.pairwise_iff_getElem.mp nd j i (by omega) hi (by omega) (e2.trans e.symm)
theorem u1 {n : Nat} (h : n + 64 < cLine) : n + 1 < cLine := by omega
/-- a dict of texts by ids -/
def DS (H : Hp) (D : Addr) (ids : List Int) (f : Int → M73.S4) : Prop := H D = some (.dK (ids.map fun y => ((Sum.inl y : Key), V.str (s4 (f y)))))
section
variable {P : Program} {w : World} {K : PySem.W.Frag} {mg : Str → Option Value} {base : Heap}
abbrev cStIn (P : Program) (w : World) (K : PySem.W.Frag) (mg : Str → Option Value) (base : Heap) : Prop := Cal P w K mg base "state_in" ["part", "number", "row"] [] 1 spStIn
theorem sc31 : FnScope ["counts", "ids", "found", "number", "cursor", "part", "row"] ["counts", "ids"] (defScope (topS 31)) := ⟨rfl, rfl, rfl, by decide +kernel, rfl, by decide +kernel, by decide +kernel⟩
def spStates : Sp := fun vs H Q _ => ∃ (a b : Addr) (cs : List (Int × Int)) (ids : List Int), vs = [.ref a, .ref b] ∧ CL H a cs ∧ IL H b ids ∧ CntsOk cs ∧ IdsOk ids ∧ M73.fitB ids 0 cs = true ∧
  ∀ H' p, Same H H' → H p = none → DS H' p ids (M73.told (M73.zsOf ids 0 cs) fun _ => .op) → Q (.ref p) H'
theorem c_states (g : Glob mg) (D : Df K mg "states_by" (topS 31) [] []) (cR : cReqF P w K mg base) (cp : cParts P w K mg base) (cS : cStIn P w K mg base) : Cal P w K mg base "states_by" ["counts", "ids"] [] 6 spStates := by
  refine Cal.of D sc31 (fun _ _ _ _ _ _ us hl => match us, hl with | [_, _], _ => rfl) (fun vs H Q E h => ?_) (fun f cdv A outer s H vs Q E hr h => ⟨_, pss_cons (ps_expr (pe_cal cR hr (pa_cons (pv 0) (pa_cons (pv 1) pa_nil))))
    (pss_cons (ps_setDc (i := 2) (own := [("row", 6)]) (g := gName 6) rfl sc31.nd rfl rfl (swD rfl rfl rfl (by decide +kernel)) (pi_list (pv 1)) (blkOk_by (N := ["counts", "ids", "found", "number", "cursor", "part", "row"]) (sc := defScope (topS 31)) (by decide +kernel))
      (fun _ _ _ _ _ => pg_name (i := 6) sc31.nd rfl (.inl rfl)) (fun _ _ _ _ _ => pts_nil) (fun _ _ _ _ _ => pv 6) (fun _ _ _ _ _ => pe_str))
    (pss_cons (ps_for PassesOwn.never rfl (pi_zip rfl g.zip (pa_cons (pv 0) (pa_cons (pe_cal cp (hr.mono (by decide)) (pa_cons (pv 0) (pa_cons (pv 1) pa_nil))) pa_nil)))
        (pg_tup rfl (pgs_cons (pg_tup rfl (pgs_cons (pg_name (i := 3) sc31.nd rfl (.inl rfl)) (pgs_cons (pg_name (i := 4) sc31.nd rfl (.inl rfl)) pgs_nil))) (pgs_cons (pg_name (i := 5) sc31.nd rfl (.inl rfl)) pgs_nil)))
        (pss_one (ps_for PassesOwn.never rfl (pi_list (pv 5)) (pg_name (i := 6) sc31.nd rfl (.inl rfl)) (pss_one (ps_dput (u1 hr.units) (pv 2) (pv 6) (pe_cal cS (hr.mono (by decide)) (pa_cons (pv 5) (pa_cons (pv 3) (pa_cons (pv 6) pa_nil)))) rfl)))))
    (pss_one (ps_ret (pv 2))))), ?_⟩)
  · obtain ⟨a, b, cs, ids, rfl, _⟩ := h
    rfl
  · obtain ⟨a, b, cs, ids, rfl, hC, hI, hc, hi, hf, q⟩ := h
    refine ⟨.ref a, rfl, .ref b, rfl, a, b, cs, ids, rfl, hC, hI, hc, hi, hf, fun H0 s0 => ?_⟩
    have nd : ids.Nodup := hi.2.2.imp (fun h => by omega)
    refine ⟨.ref b, rfl, b, rfl, ⟨_, (mo s0 hI).sq⟩, fun o no => dc_list (K := K) (a := b) (xs := ids.map V.int)
      (fun i H2 => H2 o = some (.dK ((ids.take i).map fun y => ((Sum.inl y : Key), V.str "open"))) ∧ Same H0 (hid o H2)) ⟨upd_same, by rw [hid_upd, hid_free no]; exact Same.refl _⟩ (fun i H2 _ h => (mo (h.2.trans hid_same) (mo s0 hI)).sq) (fun i x H2 hx h => ?_) (fun H2 h => ?_)⟩
    · obtain ⟨y, hy, rfl⟩ := int_get hx
      obtain ⟨hD, hS⟩ := h
      have hlt := (List.getElem?_eq_some_iff.mp hy).1
      have ly := hi.1
      refine ⟨rfl, .int y, rfl, _, Sum.inl y, rfl, hD, line_small (by rw [List.length_map, List.length_take]; omega), ?_, ?_⟩
      · rw [upd_same, putK_snoc (nodup_take nd hy)]
        rw [List.take_add_one, hy, List.map_append]
        rfl
      · rw [hid_upd]
        exact hS
    · obtain ⟨hD, hS⟩ := h
      rw [List.length_map, List.take_length] at hD
      have sX : Same H H2 := s0.trans (hS.trans hid_same)
      refine ⟨.ref a, rfl, .ref a, rfl, .ref b, rfl, a, b, cs, ids, rfl, mo sX hC, mo sX hI, by have := hc.1; omega, by have := hi.1; omega, fun H1 p s1 np hL => ?_⟩
      have hD1 : H1 o = some (.dK (ids.map fun y => ((Sum.inl y : Key), V.str "open"))) := s1 _ _ hD
      have hpo : p ≠ o := ne_new hD np
      have hL' : LL (hid o H1) p (M73.partsL ids 0 cs) := mo (dif_hid hD) hL
      have hC' : CL (hid o H1) a cs := mo (hid_mono s1) (mo hS (mo s0 hC))
      obtain ⟨as, hA, h2⟩ := hC'
      obtain ⟨ps, hP, h3⟩ := hL'
      have lp : ps.length = as.length := by rw [h3.1, M73.partsL_length, h2.1]
      have no0 : H o = none := s0.free no
      refine ⟨a, p, as.map V.ref, ps.map V.ref, rfl, .of (hid_same _ _ hA), .of (hid_same _ _ hP), for_it (walk_zip (n := cs.length) (by rw [List.length_map, List.length_map, lp, Nat.min_self, h2.1]))
        (fun i σ H3 => ∃ (y3 y4 y5 y6 : Option V), σ = [some (.ref a), some (.ref b), some (.ref o), y3, y4, y5, y6] ∧ Same (hid o H1) (hid o H3) ∧
          DS H3 o ids (M73.told ((M73.zsOf ids 0 cs).take i) fun _ => .op)) ⟨_, _, _, _, rfl, Same.refl _, hD1⟩
        (fun i σ H3 _ ⟨_, _, _, _, _, s3, _⟩ => ⟨.of (hid_same _ _ (s3 _ _ hA)), .of (hid_same _ _ (s3 _ _ hP))⟩) (fun i x σ H3 H4 hi' h hy => ?_) (fun σ H3 h => ?_)⟩
      · obtain ⟨y3, y4, y5, y6, rfl, s3, hO⟩ := h
        obtain ⟨T, x1, x2, rfl, hT, rfl, e1, e2⟩ := hy
        obtain ⟨t, ht, rfl⟩ := ref_get e1
        obtain ⟨u, hu, rfl⟩ := ref_get e2
        obtain ⟨⟨n, c⟩, hcn, r⟩ := h2.get ht
        obtain ⟨pt, hpt, rp⟩ := h3.get hu
        have hz := M73.zsOf_get hcn hpt
        have sT : Same (hid o H1) (hid o (upd H3 T (.tup [.ref t, .ref u]))) := s3.trans (hid_new hT)
        have hsub := parts_sub ids cs 0 pt (List.mem_of_getElem? hpt)
        refine ⟨T, _, rfl, .of upd_same, rfl, _, _, rfl, ⟨t, _, rfl, (mo hid_same (mo sT r)).sq, rfl, _, _, rfl, _, _, rfl, rfl, _, _, rfl, rfl, ?_⟩⟩
        refine ⟨.ref u, rfl, u, rfl, ⟨_, (mo hid_same (mo sT rp)).sq⟩, for_list (K := K) (a := u) (xs := pt.map V.int)
          (fun j σ H5 => ∃ y6 : Option V, σ = [some (.ref a), some (.ref b), some (.ref o), some (.int n), some (.int c), some (.ref u), y6] ∧ Same (hid o H1) (hid o H5) ∧
            DS H5 o ids (fun y => if y ∈ pt.take j then M73.stateIn pt n y else M73.told ((M73.zsOf ids 0 cs).take i) (fun _ => .op) y)) ⟨_, rfl, sT, ?_⟩
          (fun j σ H5 _ ⟨_, _, s5, _⟩ => (mo hid_same (mo s5 rp)).sq) (fun j x σ H5 hx h => ?_) (fun σ H5 h => ?_)⟩
        · show (upd H3 T _) o = _
          rw [keep_at hO hT]
          simp
        · obtain ⟨y6, rfl, s5, hO5⟩ := h
          obtain ⟨row, hrow, rfl⟩ := int_get hx
          have hm := List.mem_of_getElem? hrow
          refine ⟨.ref u, rfl, .int n, rfl, .int row, rfl, u, pt, n, row, rfl, mo hid_same (mo s5 rp), List.ne_nil_of_mem hm, .ref o, rfl, .int row, rfl, o, _, rfl, DPut.k (k := Sum.inl row) hO5 (line_small ?_), _, rfl, ?_, ?_⟩
          · rw [List.length_map]
            have := hi.1
            omega
          · rw [hid_upd]
            exact s5
          · show (upd H5 o _) o = _
            rw [upd_same, putK_map (hsub row hm)]
            refine congrArg (fun l => some (HO.dK l)) (List.map_congr_left fun y _ => ?_)
            rw [List.take_add_one, hrow]
            dsimp only
            by_cases e : y = row
            · subst e
              rw [if_pos rfl, if_pos (List.mem_append_right _ (by simp))]
            · rw [if_neg e]
              simp only [List.mem_append, Option.toList_some, List.mem_singleton, e, or_false]
        · obtain ⟨y6, rfl, s5, hO5⟩ := h
          refine ⟨_, _, _, _, rfl, s5, ?_⟩
          rw [List.length_map, List.take_length] at hO5
          rw [List.take_add_one, hz]
          show H5 o = _
          rw [show H5 o = _ from hO5]
          refine congrArg (fun l => some (HO.dK l)) (List.map_congr_left fun y _ => ?_)
          dsimp only
          rw [Option.toList_some, told_snoc]
      · obtain ⟨y3, y4, y5, y6, rfl, s3, hO⟩ := h
        refine ⟨.ref o, rfl, q H3 o ?_ no0 ?_⟩
        · refine (s0.trans (hS.trans ((hid_mono s1).trans s3))).trans hid_same
        · rw [List.take_of_length_le (by rw [M73.zsOf_length]; exact Nat.le_refl _)] at hO
          exact hO
end
end W73


set_option Elab.async false
set_option linter.all false
set_option maxRecDepth 100000
set_option maxHeartbeats 4000000
namespace W73
open PySem PySem.Spec PyProof.Rows L2
/-! ### d.update(d2) -/
def rUpdK : V → List V → Hp → VK → Prop := fun x xs H Q => ∃ (d o : Addr) (kvs more : List (Key × V)), x = .ref d ∧ xs = [.ref o] ∧ d ≠ o ∧ H d = some (.dK kvs) ∧ H o = some (.dK more) ∧ kvs.length + more.length ≤ sizeLine ∧ (mergeK kvs more).length ≤ sizeLine ∧
  Q .non (upd H d (.dK (mergeK kvs more)))
theorem mt_updK {X : Cx} : MtR X "dict.update" rUpdK := by
  intro pins s σ H x xs v us Q I rx rv h
  obtain ⟨d, o, kvs, more, rfl, rfl, hne, e1, e2, hsz, hm, q⟩ := h
  obtain rfl : v = Value.ref d := rx
  obtain ⟨u, rfl, ru⟩ := rv.one
  obtain rfl : u = Value.ref o := ru
  obtain ⟨z1, n1, vs1, r1, d1⟩ := dk_of I.hok e1
  obtain ⟨z2, n2, vs2, r2, d2⟩ := dk_of I.hok e2
  refine call_meetsIn PySem.F.slot_dict_update d1.typeIs PySem.F.entry_dict_update (PySem.F.args_dict_update_2 _ _) (meets_dict_update (mixKind X.prog X.w) d o hne n2) ⟨vs1, vs2, d1, d2, by rw [← r1.length, ← r2.length]; exact hsz, fun h' t _ hs => ?_⟩
  obtain ⟨ob, _, _, hq, _⟩ := id t
  exact ⟨.non, _, d_write (t' := s.toks) I (by rw [e1]; exact True.intro) hs ⟨ob, hq⟩ (dk_new hm n1 (KV.merge r2 r1) t), rfl, q⟩
section
variable {P : Program} {w : World} {K : PySem.W.Frag} {mg : Str → Option Value} {base : Heap}
/-! ### require_kind, of a plain reader -/
theorem sc42 : FnScope ["overlap", "wait", "page"] ["overlap", "wait", "page"] (defScope (topS 42)) := ⟨rfl, rfl, rfl, by decide +kernel, rfl, by decide +kernel, by decide +kernel⟩
def spReqKind : Sp := fun vs H Q _ => vs = [.int 1, .int 0, .non] ∧ ∀ H', Same H H' → Q .non H'
theorem c_reqKind (g : Glob mg) (D : Df K mg "require_kind" (topS 42) [] []) (c2 : cIsInt2 P w K mg base) : Cal P w K mg base "require_kind" ["overlap", "wait", "page"] [] 2 spReqKind := by
  refine Cal.of D sc42 (fun _ _ _ _ _ _ us hl => match us, hl with | [_, _, _], _ => rfl) (fun vs H Q E h => ?_) (fun f cdv A outer s H vs Q E hr h => ⟨_, pss_cons
    (ps_if (PW.pt (pw_or (pt_not (pt_val (pe_cal c2 hr (pa_cons (pv 0) (pa_cons pe_int pa_nil))))) (pw_or (pt_not (pt_val (pe_cal c2 hr (pa_cons (pv 1) (pa_cons pe_int pa_nil)))))
        (pw_or1 (PW.pt (pw_and (pt_cmp (pc_notN (pv 2))) (pw_and1 (pt_not (pt_val (pe_cal c2 hr (pa_cons (pv 2) (pa_cons pe_int pa_nil))))))))))))
      (pss_one ps_never) pss_nil)
    (pss_one (ps_if (pt_cmpR op_gt (pe_bm PySem.F.plainAttrs_list PySem.F.slot_list_count PySem.F.type_list_count mt_countF (pe_lst (pa_cons (pe_cmpR op_eq (pv 0) pe_int (nomark _)) (pa_cons (pe_cmpR op_eq (pv 1) pe_int (nomark _)) (pa_cons (pe_cmpR op_isN (pv 2) pe_non (nomark _)) pa_nil)))) (pa_cons pe_bl pa_nil)) pe_int (nomark _))
      (pss_one ps_never) pss_nil)), ?_⟩)
  · obtain ⟨rfl, _⟩ := h
    rfl
  · obtain ⟨rfl, q⟩ := h
    refine ⟨_, rfl, 1, 1, .non, rfl, .inl ⟨rfl, _, rfl, ?_⟩⟩
    refine iteF ⟨_, rfl, 0, 0, .non, rfl, .inl ⟨rfl, _, rfl, ?_⟩⟩
    refine iteF ⟨_, rfl, _, rfl, iteF ?_⟩
    refine iteF ⟨_, rfl, rfl, _, rfl, rfl, _, rfl, rfl, by decide +kernel, fun p hp => ?_⟩
    refine ⟨.inl ⟨rfl, _, .of upd_same⟩, p, [.bl true, .bl true, .bl true], .bl false, rfl, rfl, .of upd_same, rfl, rfl, _, _, rfl, rfl, _, rfl, ?_⟩
    exact iteF (q _ (same_upd hp))
abbrev cReqKind (P : Program) (w : World) (K : PySem.W.Frag) (mg : Str → Option Value) (base : Heap) : Prop := Cal P w K mg base "require_kind" ["overlap", "wait", "page"] [] 2 spReqKind
/-! ### require_reader -/
theorem sc43 : FnScope ["order", "polls", "overlap", "wait", "page"] ["order", "polls", "overlap", "wait", "page"] (defScope (topS 43)) := ⟨rfl, rfl, rfl, by decide +kernel, rfl, by decide +kernel, by decide +kernel⟩
def spReqReader : Sp := fun vs H Q _ => ∃ (a b : Addr) (ns ps : List Int), vs = [.ref a, .ref b, .int 1, .int 0, .non] ∧ IL H a ns ∧ IL H b ps ∧ OrderOk ns ∧ PollsOk ns.length ps ∧ ∀ H', Same H H' → Q .non H'
theorem c_reqReader (D : Df K mg "require_reader" (topS 43) [] []) (cO : Cal P w K mg base "require_order" ["order"] [] 4 spReqOrder) (cP : Cal P w K mg base "require_polls" ["order", "polls"] [] 2 spReqPolls) (cK : cReqKind P w K mg base) :
    Cal P w K mg base "require_reader" ["order", "polls", "overlap", "wait", "page"] [] 5 spReqReader := by
  refine Cal.of D sc43 (fun _ _ _ _ _ _ us hl => match us, hl with | [_, _, _, _, _], _ => rfl) (fun vs H Q E h => ?_) (fun f cdv A outer s H vs Q E hr h => ⟨_, pss_cons (ps_expr (pe_cal cO hr (pa_cons (pv 0) pa_nil)))
    (pss_cons (ps_expr (pe_cal cP (hr.mono (by decide)) (pa_cons (pv 0) (pa_cons (pv 1) pa_nil)))) (pss_one (ps_expr (pe_cal cK (hr.mono (by decide)) (pa_cons (pv 2) (pa_cons (pv 3) (pa_cons (pv 4) pa_nil))))))), ?_⟩)
  · obtain ⟨a, b, ns, ps, rfl, _⟩ := h
    rfl
  · obtain ⟨a, b, ns, ps, rfl, hI, hJ, ho, hp, q⟩ := h
    exact ⟨_, rfl, a, ns, rfl, hI, ho, fun H1 s1 => ⟨_, rfl, _, rfl, a, b, ns, ps, rfl, mo s1 hI, mo s1 hJ, hp, _, rfl, _, rfl, _, rfl, rfl, fun H2 s2 => q H2 (s1.trans s2)⟩⟩
/-! ### was_passed, without ranges -/
theorem sc44 : FnScope ["row", "ranges", "low", "high"] ["row", "ranges"] (defScope (topS 44)) := ⟨rfl, rfl, rfl, by decide +kernel, rfl, by decide +kernel, by decide +kernel⟩
def spPassed : Sp := fun vs H Q _ => ∃ (a : Addr) (x : Int), vs = [.int x, .ref a] ∧ H a = some (.lst []) ∧ ∀ H', Same H H' → Q (.bl false) H'
theorem c_passed (g : Glob mg) (D : Df K mg "was_passed" (topS 44) [] []) : Cal P w K mg base "was_passed" ["row", "ranges"] [] 1 spPassed := by
  refine Cal.of D sc44 (fun _ _ _ _ _ _ us hl => match us, hl with | [_, _], _ => rfl) (fun vs H Q E h => ?_) (fun f cdv A outer s H vs Q E hr h => ⟨_, pss_one
    (ps_ret (pe_callB (cr_any rfl) rfl g.any bt_any (pa_cons (pe_lc (own := [("low", 2), ("high", 3)]) (g := gPair K (gName 2) (gName 3)) rfl sc44.nd (pi_list (pv 1)) (blkOk_by (N := ["row", "ranges", "low", "high"]) (sc := defScope (topS 44)) (by decide +kernel))
      (fun _ _ _ _ _ => pg_tup rfl (pgs_cons (pg_name (i := 2) sc44.nd rfl (.inl rfl)) (pgs_cons (pg_name (i := 3) sc44.nd rfl (.inl rfl)) pgs_nil))) (fun _ _ _ _ _ => pts_nil)
      (fun _ _ _ _ _ => pe_chain op_lt op_lt (pv 2) (pv 0) (pv 3))) pa_nil))), ?_⟩)
  · obtain ⟨a, x, rfl, _⟩ := h
    rfl
  · obtain ⟨a, x, rfl, hA, q⟩ := h
    refine ⟨.ref a, rfl, a, rfl, ⟨_, .of hA⟩, fun D hD => lc_list (K := K) (a := a) (xs := []) (fun i H2 => i = 0 ∧ H2 = upd H D (.lst [])) ⟨rfl, rfl⟩ (fun i H2 _ ⟨_, e⟩ => by rw [e]; exact .of (same_upd hD _ _ hA)) (fun i y H2 hy h => by simp at hy) (fun H2 h => ?_)⟩
    obtain ⟨_, rfl⟩ := h
    exact ⟨D, [], rfl, .of upd_same, q _ (same_upd hD)⟩
abbrev cPassed (P : Program) (w : World) (K : PySem.W.Frag) (mg : Str → Option Value) (base : Heap) : Prop := Cal P w K mg base "was_passed" ["row", "ranges"] [] 1 spPassed
end
end W73


set_option Elab.async false
set_option linter.all false
set_option maxRecDepth 100000
set_option maxHeartbeats 4000000
namespace W73
open PySem PySem.Spec PyProof.Rows L2
/-! ### several hidden places -/
def hids (l : List Addr) (H : Hp) : Hp := fun b => if b ∈ l then none else H b
section
variable {H H' : Hp} {p q : Addr} {o : HO} {l : List Addr}
theorem hids_ne (h : q ∉ l) : hids l H q = H q := if_neg h
theorem hids_at (h : q ∈ l) : hids l H q = none := if_pos h
theorem hids_same : Same (hids l H) H := fun b x e => by
  by_cases h : b ∈ l
  · rw [hids_at h] at e
    cases e
  · rw [hids_ne h] at e
    exact e
theorem hids_mono (h : Same H H') : Same (hids l H) (hids l H') := fun b x e => by
  by_cases f : b ∈ l
  · rw [hids_at f] at e
    cases e
  · rw [hids_ne f] at e ⊢
    exact h b x e
theorem hids_upd (h : q ∈ l) : hids l (upd H q o) = hids l H := by
  funext b
  by_cases f : b ∈ l
  · rw [hids_at f, hids_at f]
  · rw [hids_ne f, hids_ne f, upd_ne]
    exact fun e => f (e ▸ h)
theorem hids_free (h : ∀ b ∈ l, H b = none) : hids l H = H := by
  funext b
  by_cases f : b ∈ l
  · rw [hids_at f, h b f]
  · rw [hids_ne f]
end
theorem sIx_int {n d : Nat} {k : Int} (h : 0 ≤ k) : HT.sIx n d (some k) = min k.toNat n := by
  show (if k < 0 then (k + (n : Int)).toNat else min k.toNat n) = min k.toNat n
  rw [if_neg (by omega)]
theorem cut_to {ns : List Int} {m : Int} (h : 0 ≤ m) : cutV (ns.map V.int) none (some m) = (ns.take m.toNat).map V.int := by
  unfold cutV
  rw [HT.sIx_none, sIx_int h, List.drop_zero, Nat.sub_zero, List.length_map, List.map_take]
  rcases Nat.le_total m.toNat ns.length with k | k
  · rw [Nat.min_eq_left k]
  · rw [Nat.min_eq_right k, List.take_of_length_le (by rw [List.length_map]; exact Nat.le_refl _), List.take_of_length_le (by rw [List.length_map]; exact k)]
theorem cut_end {xs : List V} : cutV xs (some (xs.length : Int)) none = [] := by
  unfold cutV
  rw [HT.sIx_nat, Nat.min_self, List.drop_length, List.take_nil]
theorem at_snoc {α : Type} {xs : List α} {x : α} : atI (xs ++ [x]) (-1) = some x := by
  have e : ixN (xs ++ [x]).length (-1) = some xs.length := by
    unfold ixN
    rw [List.length_append, List.length_singleton]
    first | (rw [if_neg (by omega), if_pos (by omega)]; congr 1; omega) | (simp; try omega)
  unfold atI
  rw [e]
  show (xs ++ [x])[xs.length]? = some x
  rw [List.getElem?_append_right (Nat.le_refl _), Nat.sub_self]
  rfl
/-- a dict of Trues by ids -/
def tds (xs : List Int) : List (Key × V) := xs.map fun y => ((Sum.inl y : Key), V.bl true)
theorem valV_tds {xs : List Int} {x : Int} : (valV (tds xs) (Sum.inl x)).isSome = decide (x ∈ xs) := by
  by_cases h : x ∈ xs
  · rw [tds, valV_map_of h, decide_eq_true h]
    rfl
  · rw [decide_eq_false h]
    induction xs with
    | nil => rfl
    | cons y xs ih =>
      rw [List.mem_cons, not_or] at h
      rw [tds, List.map_cons, valV_neg fun z => h.1 (Sum.inl.inj z).symm]
      exact ih h.2
theorem merge_tds {xs : List Int} : ∀ {ys : List Int}, (∀ y ∈ ys, y ∉ xs) → ys.Nodup → mergeK (tds xs) (tds ys) = tds (xs ++ ys) := by
  intro ys
  induction ys generalizing xs with
  | nil =>
    intro _ _
    rw [List.append_nil]
    rfl
  | cons y ys ih =>
    intro h nd
    rw [List.nodup_cons] at nd
    show mergeK (putK (tds xs) (Sum.inl y) (V.bl true)) (tds ys) = _
    have e : putK (tds xs) (Sum.inl y) (V.bl true) = tds (xs ++ [y]) := by
      rw [tds, putK_snoc (h y (List.mem_cons_self ..)), tds, List.map_append]
      rfl
    rw [e, ih (fun z hz => ?_) nd.2, List.append_assoc]
    · rfl
    · rw [List.mem_append, List.mem_singleton]
      rintro (k | k)
      · exact h z (List.mem_cons_of_mem _ hz) k
      · exact nd.1 (k ▸ hz)
section
variable {P : Program} {w : World} {K : PySem.W.Frag} {mg : Str → Option Value} {base : Heap}
theorem sc45 : FnScope ["order", "polls", "overlap", "wait", "page", "found", "returned", "ranges", "cursor", "moment", "recent", "rows", "row"] ["order", "polls", "overlap", "wait", "page"] (defScope (topS 45)) := ⟨rfl, rfl, rfl, by decide +kernel, rfl, by decide +kernel, by decide +kernel⟩
def spLists : Sp := fun vs H Q _ => ∃ (a b : Addr) (ns ps : List Int), vs = [.ref a, .ref b, .int 1, .int 0, .non] ∧ IL H a ns ∧ IL H b ps ∧ OrderOk ns ∧ PollsOk ns.length ps ∧
  ∀ H' p, Same H H' → H p = none → LL H' p (M73.readLog ns ps) → Q (.ref p) H'
/-- what stands between two polls -/
def IvL (H : Hp) (a b : Addr) (ns ps : List Int) (o5 o6 o7 : Addr) (i : Nat) (σ : L2.St) (G : Hp) : Prop := ∃ (cur : Int) (ret : List Int) (ds rs : List Addr) (dn : List (List Int)) (y9 y10 y11 y12 : Option V),
  σ = [some (.ref a), some (.ref b), some (.int 1), some (.int 0), some .non, some (.ref o5), some (.ref o6), some (.ref o7), some (.int cur), y9, y10, y11, y12] ∧
  G o5 = some (.lst (ds.map V.ref)) ∧ G o6 = some (.dK (tds ret)) ∧ G o7 = some (.lst (rs.map V.ref)) ∧ Same H (hids [o5, o6, o7] G) ∧ All2 (IL (hids [o5, o6, o7] G)) ds dn ∧
  ds.length = i ∧ rs.length = i ∧ ret.length ≤ 30 * i ∧ M73.readLog ns ps = dn ++ M73.readGo ns (ps.drop i) ret cur
theorem c_lists (g : Glob mg) (D : Df K mg "lists_of" (topS 45) [] []) (cW : cPassed P w K mg base) : Cal P w K mg base "lists_of" ["order", "polls", "overlap", "wait", "page"] [] 2 spLists := by
  refine Cal.of D sc45 (fun _ _ _ _ _ _ us hl => match us, hl with | [_, _, _, _, _], _ => rfl) (fun vs H Q E h => ?_) (fun f cdv A outer s H vs Q E hr h => ⟨_, pss_cons
    (ps_asg (pe_tup (pa_cons (pe_lst pa_nil) (pa_cons pe_dnewK (pa_cons (pe_lst pa_nil) (pa_cons pe_int pa_nil)))))
      (pg_tup rfl (pgs_cons (pg_name (i := 5) sc45.nd rfl (.inl rfl)) (pgs_cons (pg_name (i := 6) sc45.nd rfl (.inl rfl)) (pgs_cons (pg_name (i := 7) sc45.nd rfl (.inl rfl)) (pgs_cons (pg_name (i := 8) sc45.nd rfl (.inl rfl)) pgs_nil))))))
    (pss_cons (ps_for PassesOwn.never rfl (pi_list (pv 1)) (pg_name (i := 9) sc45.nd rfl (.inl rfl))
      (pss_cons (ps_set (i := 10) sc45.nd rfl (.inl rfl) (pe_slice sl_list (pv 7) (po_some (pe_callB (call_max2 rfl) rfl g.max bt_max (pa_cons pe_int (pa_cons (pe_op op_sub (pe_len g.len (pv 7)) (pv 3)) pa_nil)))) po_none))
      (pss_cons (ps_set (i := 11) sc45.nd rfl (.inl rfl) (pe_lst pa_nil))
      (pss_cons (ps_for PassesOwn.never rfl (pi_list (pe_callB cr_sorted rfl g.sorted bt_sorted (pa_cons (pe_slice sl_list (pv 0) po_none (po_some (pv 9))) pa_nil))) (pg_name (i := 12) sc45.nd rfl (.inl rfl))
        (pss_one (ps_if (PW.pt (pw_and (pt_cmp (pc_dnotin (u1 hr.units) (pv 12) (pv 6))) (pw_and1 (PW.pt (pw_or (pt_cmpR op_gt (pv 12) (pe_op op_sub (pv 8) (pv 2)) (nomark _)) (pw_or1 (pt_val (pe_cal cW hr (pa_cons (pv 12) (pa_cons (pv 10) pa_nil))))))))))
          (pss_one (ps_expr (pe_bm PySem.F.plainAttrs_list PySem.F.slot_list_append PySem.F.type_list_append mt_append (pv 11) (pa_cons (pv 12) pa_nil)))) pss_nil)))
      (pss_cons (ps_if (pt_cmp (pc_notN (pv 4))) (pss_one ps_never) pss_nil)
      (pss_cons (ps_expr (pe_bm PySem.F.plainAttrs_dict PySem.F.slot_dict_update PySem.F.type_dict_update mt_updK (pv 6) (pa_cons
          (pe_dc (own := [("row", 12)]) (g := gName 12) rfl sc45.nd (pi_list (pv 11)) (blkOk_by (N := ["order", "polls", "overlap", "wait", "page", "found", "returned", "ranges", "cursor", "moment", "recent", "rows", "row"]) (sc := defScope (topS 45)) (by decide +kernel))
            (fun _ _ _ _ _ => pg_name (i := 12) sc45.nd rfl (.inl rfl)) (fun _ _ _ _ _ => pts_nil) (fun _ _ _ _ _ => pv 12) (fun _ _ _ _ _ => pe_bl)) pa_nil)))
      (pss_cons (ps_expr (pe_bm PySem.F.plainAttrs_list PySem.F.slot_list_append PySem.F.type_list_append mt_append (pv 7) (pa_cons
          (pe_tup (pa_cons (pv 8) (pa_cons (pe_callB (cr_max rfl) rfl g.max bt_max (pa_cons (pe_op op_cat (pe_lst (pa_cons (pv 8) pa_nil)) (pv 11)) pa_nil)) pa_nil))) pa_nil)))
      (pss_cons (ps_set (i := 8) sc45.nd rfl (.inl rfl) (pe_ix ix_tup (pe_ix ix_list (pv 7) (pe_un un_neg pe_int) (fun _ _ => rfl)) pe_int (fun _ _ => rfl)))
      (pss_one (ps_expr (pe_bm PySem.F.plainAttrs_list PySem.F.slot_list_append PySem.F.type_list_append mt_append (pv 5) (pa_cons (pv 11) pa_nil))))))))))))
    (pss_one (ps_ret (pv 5)))), ?_⟩)
  · obtain ⟨a, b, ns, ps, rfl, _⟩ := h
    rfl
  · obtain ⟨a, b, ns, ps, rfl, hI, hJ, ho, hp, q⟩ := h
    refine ⟨Nat.zero_le _, fun o5 n5 o6 n6 => ⟨Nat.zero_le _, fun o7 n7 => ⟨line_le (by simp), fun oT nT => ?_⟩⟩⟩
    refine ⟨oT, _, rfl, .of upd_same, rfl, _, _, rfl, _, _, rfl, _, _, rfl, _, _, rfl, rfl, ?_⟩
    have d56 : o6 ≠ o5 := ne_new upd_same n6
    have d57 : o7 ≠ o5 := ne_new (same_upd n6 _ _ upd_same) n7
    have d67 : o7 ≠ o6 := ne_new upd_same n7
    have f6 : H o6 = none := (same_upd n5).free n6
    have f7 : H o7 = none := ((same_upd n5).trans (same_upd n6)).free n7
    have dT5 : oT ≠ o5 := ne_new (same_upd n7 _ _ (same_upd n6 _ _ upd_same)) nT
    have dT6 : oT ≠ o6 := ne_new (same_upd n7 _ _ upd_same) nT
    have dT7 : oT ≠ o7 := ne_new upd_same nT
    have fr : ∀ z ∈ [o5, o6, o7], H z = none := fun z hz => by
      rcases List.mem_cons.mp hz with e | e
      · exact e ▸ n5
      · rcases List.mem_cons.mp e with e | e
        · exact e ▸ f6
        · exact (List.mem_singleton.mp e) ▸ f7
    have nT' : H oT = none := ((same_upd n5).trans ((same_upd n6).trans (same_upd n7))).free nT
    refine ⟨.ref b, rfl, b, rfl, ⟨_, (mo ((same_upd n5).trans ((same_upd n6).trans ((same_upd n7).trans (same_upd nT)))) hJ).sq⟩, for_list (K := K) (a := b) (xs := ps.map V.int) (IvL H a b ns ps o5 o6 o7) ?_
      (fun i σ G _ ⟨_, _, _, _, _, _, _, _, _, _, _, _, _, sG, _⟩ => (mo (sG.trans hids_same) hJ).sq) (fun i x σ G hx h => ?_) (fun σ G h => ?_)⟩
    · refine ⟨0, [], [], [], [], none, none, none, none, rfl, ?_, ?_, ?_, ?_, All2.nil, rfl, rfl, Nat.zero_le _, rfl⟩
      · rw [upd_ne dT5.symm, upd_ne d57.symm, upd_ne d56.symm]
        exact upd_same
      · rw [upd_ne dT6.symm, upd_ne d67.symm]
        exact upd_same
      · rw [upd_ne dT7.symm]
        exact upd_same
      · have e1 : Same (hids [o5, o6, o7] H) (hids [o5, o6, o7] (upd (upd (upd (upd H o5 (.lst [])) o6 (.dK [])) o7 (.lst [])) oT (.tup [.ref o5, .ref o6, .ref o7, .int 0]))) := hids_mono ((same_upd n5).trans ((same_upd n6).trans ((same_upd n7).trans (same_upd nT))))
        rw [hids_free fr] at e1
        exact e1
    · obtain ⟨cur, ret, ds, rs, dn, y9, y10, y11, y12, rfl, h5, h6, h7, sG, hds, ld, lr, lret, hlog⟩ := h
      obtain ⟨m, hm, rfl⟩ := int_get hx
      have li : i < ps.length := (List.getElem?_eq_some_iff.mp hm).1
      have hm0 := (hp.2.2 m (List.mem_of_getElem? hm)).1
      have lps := hp.1
      have lns := ho.1
      rw [drop_cons hm] at hlog
      -- recent
      refine ⟨.ref o7, rfl, .ref o7, rfl, o7, _, rfl, .inl (.of h7), .int 0, rfl, _, _, rfl, rfl, 0, _, rfl, ?_⟩
      refine ⟨_, rfl, o7, _, rfl, .of h7, fun o10 n10 => ?_⟩
      have e10 : cutV (rs.map V.ref) (some (if ((rs.map V.ref).length : Int) - 0 > 0 then ((rs.map V.ref).length : Int) - 0 else 0)) none = [] := by
        have : (if ((rs.map V.ref).length : Int) - 0 > 0 then ((rs.map V.ref).length : Int) - 0 else 0) = ((rs.map V.ref).length : Int) := by
          split <;> omega
        rw [this, cut_end]
      rw [e10]
      refine ⟨Nat.zero_le _, fun o11 n11 => ?_⟩
      have sr : Same G (upd G o10 (.lst [])) := same_upd n10
      have d5 : o11 ≠ o5 := ne_new (sr _ _ h5) n11
      have d6 : o11 ≠ o6 := ne_new (sr _ _ h6) n11
      have d7 : o11 ≠ o7 := ne_new (sr _ _ h7) n11
      have sa : Same G (upd (upd G o10 (.lst [])) o11 (.lst [])) := sr.trans (same_upd n11)
      have hIG : IL G a ns := mo (sG.trans hids_same) hI
      refine ⟨.ref a, rfl, .int m, rfl, m, rfl, a, _, rfl, (mo sa hIG).sq, fun o13 n13 => ?_⟩
      rw [cut_to hm0]
      refine ⟨o13, ns.take m.toNat, rfl, .of upd_same, by rw [List.length_take]; omega, fun S o14 hS1 hS2 n14 => ?_⟩
      have eS := M73.sortI_of hS1 hS2
      have lS : S.length ≤ 30 := by
        rw [hS1.length_eq, List.length_take]
        omega
      have ndS : S.Nodup := (hS1.nodup_iff).mpr (ho.2.2.sublist (List.take_sublist _ _))
      rw [M73.readGo, ← eS] at hlog
      have kd : ∀ (o : Addr) (x : HO), G o = some x → upd (upd (upd (upd G o10 (.lst [])) o11 (.lst [])) o13 (.lst ((ns.take m.toNat).map V.int))) o14 (.lst (S.map V.int)) o = some x := fun o x h => (same_upd n14) _ _ ((same_upd n13) _ _ (sa _ _ h))
      have k11 : upd (upd (upd (upd G o10 (.lst [])) o11 (.lst [])) o13 (.lst ((ns.take m.toNat).map V.int))) o14 (.lst (S.map V.int)) o11 = some (.lst []) := (same_upd n14) _ _ ((same_upd n13) _ _ upd_same)
      have k10 : upd (upd (upd (upd G o10 (.lst [])) o11 (.lst [])) o13 (.lst ((ns.take m.toNat).map V.int))) o14 (.lst (S.map V.int)) o10 = some (.lst []) := (same_upd n14) _ _ ((same_upd n13) _ _ ((same_upd n11) _ _ upd_same))
      have d1110 : o11 ≠ o10 := ne_new upd_same n11
      have d1114 : o14 ≠ o11 := ne_new ((same_upd n13) _ _ upd_same) n14
      generalize hHs : upd (upd (upd (upd G o10 (.lst [])) o11 (.lst [])) o13 (.lst ((ns.take m.toNat).map V.int))) o14 (.lst (S.map V.int)) = Hs at kd k11 k10 ⊢
      have k14 : Hs o14 = some (.lst (S.map V.int)) := by
        rw [← hHs]
        exact upd_same
      have n11G : G o11 = none := sr.free n11
      have gB : Same G (hid o11 Hs) := fun b x hb => by
        have : b ≠ o11 := fun e => by
          rw [e, n11G] at hb
          cases hb
        rw [hid_ne this]
        exact kd b x hb
      have sq14 : IL (hid o11 Hs) o14 S := by
        show hid o11 Hs o14 = _
        rw [hid_ne d1114]
        exact k14
      have h10B : hid o11 Hs o10 = some (.lst []) := by
        rw [hid_ne d1110.symm]
        exact k10
      let pr : Int → Bool := fun x => decide (x ∉ ret) && decide (cur - 1 < x)
      refine ⟨o14, rfl, ⟨_, .of k14⟩, for_list (K := K) (a := o14) (xs := S.map V.int)
        (fun j σ H6 => ∃ y12 : Option V, σ = [some (.ref a), some (.ref b), some (.int 1), some (.int 0), some .non, some (.ref o5), some (.ref o6), some (.ref o7), some (.int cur), some (.int m), some (.ref o10), some (.ref o11), y12] ∧
          PvA (fun j acc _ => acc = ((S.take j).filter pr).map V.int) (hid o11 Hs) o11 j H6) ⟨y12, rfl, [], k11, Nat.zero_le _, Same.refl _, rfl⟩
        (fun j σ H6 _ ⟨_, _, h⟩ => (mo h.same sq14).sq) (fun j x σ H6 hx h => ?_) (fun σ H6 h => ?_)⟩
      · obtain ⟨y12, rfl, h⟩ := h
        have sB := h.same
        obtain ⟨acc, hO, hle, sm, rfl⟩ := h
        obtain ⟨x, hxx, rfl⟩ := int_get hx
        have lj := (List.getElem?_eq_some_iff.mp hxx).1
        have put : pr x = true → ∀ H7, Same H6 H7 → PvA (fun j acc _ => acc = ((S.take j).filter pr).map V.int) (hid o11 Hs) o11 (j + 1) (upd H7 o11 (.lst (((S.take j).filter pr).map V.int ++ [.int x]))) := fun e H7 s7 => by
          refine PvA.put (s7 _ _ hO) hle (sm.trans (hid_mono s7)) ?_
          rw [List.take_add_one, hxx, List.filter_append, List.map_append]
          simp [e]
        have skip : pr x = false → ∀ H7, Same H6 H7 → PvA (fun j acc _ => acc = ((S.take j).filter pr).map V.int) (hid o11 Hs) o11 (j + 1) H7 := fun e H7 s7 => by
          refine PvA.skip (s7 _ _ hO) hle (sm.trans (hid_mono s7)) ?_
          rw [List.take_add_one, hxx, List.filter_append]
          simp [e]
        refine ⟨.int x, rfl, .ref o6, rfl, o6, _, rfl, DGet.k (k := Sum.inl x) (sB _ _ (gB _ _ h6)), _, rfl, ?_⟩
        rw [valV_tds]
        refine ite2 (fun e => ?_) (fun e => ?_)
        · have e1 : x ∉ ret := by simpa using e
          refine ⟨.int x, rfl, .int cur, rfl, .int 1, rfl, _, _, rfl, rfl, _, _, rfl, rfl, _, rfl, ite2 (fun e2 => ?_) (fun e2 => ?_)⟩
          · have e2' : cur - 1 < x := of_decide_eq_true e2
            have ex : pr x = true := by
              show (decide (x ∉ ret) && decide (cur - 1 < x)) = true
              rw [decide_eq_true e1, decide_eq_true e2']
              rfl
            refine iteT ⟨.ref o11, rfl, .inl ⟨rfl, _, .of hO⟩, .int x, rfl, o11, _, _, rfl, rfl, hO, line_small (by omega), _, rfl, put ex H6 (Same.refl _)⟩
          · have e2' : ¬ cur - 1 < x := fun z => e2 (decide_eq_true z)
            have ex : pr x = false := by
              show (decide (x ∉ ret) && decide (cur - 1 < x)) = false
              rw [decide_eq_false e2', Bool.and_false]
            exact ⟨_, rfl, _, rfl, o10, x, rfl, sB _ _ h10B, fun H7 s7 => ⟨_, rfl, iteF ⟨_, rfl, skip ex H7 s7⟩⟩⟩
        · have e1 : ¬ x ∉ ret := by simpa using e
          have ex : pr x = false := by
            show (decide (x ∉ ret) && decide (cur - 1 < x)) = false
            rw [decide_eq_false e1, Bool.false_and]
          exact iteF ⟨_, rfl, skip ex H6 (Same.refl _)⟩
      · obtain ⟨y12, rfl, h⟩ := h
        have sB := h.same
        obtain ⟨acc, hO, hle, sm, rfl⟩ := h
        rw [List.length_map, List.take_length] at hO
        have g6 : Same G H6 := gB.trans sB
        have hR : IL H6 o11 (S.filter pr) := hO
        have lR : (S.filter pr).length ≤ 30 := Nat.le_trans (List.length_filter_le _ _) lS
        have ndR : (S.filter pr).Nodup := ndS.sublist List.filter_sublist
        have apart : ∀ y ∈ S.filter pr, y ∉ ret := fun y hy => by
          have := (List.mem_filter.mp hy).2
          exact of_decide_eq_true (Bool.and_eq_true_iff.mp this).1
        generalize S.filter pr = rows at hlog hR lR ndR apart
        clear hO hle sm
        refine ⟨_, rfl, _, rfl, iteF ⟨.ref o6, rfl, .inr (.inr (.inl ⟨rfl, .inl ⟨_, g6 _ _ h6⟩⟩)), .ref o11, rfl, o11, rfl, ⟨_, hR.sq⟩, fun D nD => dc_list (K := K) (a := o11) (xs := rows.map V.int)
          (fun j H7 => H7 D = some (.dK (tds (rows.take j))) ∧ Same H6 (hid D H7)) ⟨upd_same, by rw [hid_upd, hid_free nD]; exact Same.refl _⟩ (fun j H7 _ h => (mo (h.2.trans hid_same) hR).sq) (fun j x H7 hx h => ?_) (fun H7 h => ?_)⟩⟩
        · obtain ⟨y, hy, rfl⟩ := int_get hx
          obtain ⟨hD, hS⟩ := h
          refine ⟨rfl, .int y, rfl, _, Sum.inl y, rfl, hD, line_small (by rw [tds, List.length_map, List.length_take]; omega), ?_, ?_⟩
          · rw [upd_same, tds, putK_snoc (nodup_take ndR hy), tds, List.take_add_one, hy, List.map_append]
            rfl
          · rw [hid_upd]
            exact hS
        · obtain ⟨hD, hS⟩ := h
          rw [List.length_map, List.take_length] at hD
          have s7 : Same H6 H7 := hS.trans hid_same
          have g7 : Same G H7 := g6.trans s7
          have dD6 : o6 ≠ D := (ne_new (g6 _ _ h6) nD).symm
          have lret2 : (ret ++ rows).length ≤ 30 * (i + 1) := by
            rw [List.length_append]
            omega
          rw [List.length_append] at lret2
          refine ⟨o6, D, tds ret, tds rows, rfl, rfl, dD6, g7 _ _ h6, hD, line_le ?_, line_le ?_, ?_⟩
          · rw [tds, tds, List.length_map, List.length_map]
            omega
          · rw [merge_tds apart ndR, tds, List.length_map, List.length_append]
            omega
          · rw [merge_tds apart ndR]
            have k5 : upd H7 o6 (.dK (tds (ret ++ rows))) o5 = some (.lst (ds.map V.ref)) := by
              rw [upd_ne d56.symm]
              exact g7 _ _ h5
            have k7 : upd H7 o6 (.dK (tds (ret ++ rows))) o7 = some (.lst (rs.map V.ref)) := by
              rw [upd_ne d67]
              exact g7 _ _ h7
            have kR : IL (upd H7 o6 (.dK (tds (ret ++ rows)))) o11 rows := by
              show upd H7 o6 _ o11 = _
              rw [upd_ne d6]
              exact s7 _ _ hR
            have k6 : upd H7 o6 (.dK (tds (ret ++ rows))) o6 = some (.dK (tds (ret ++ rows))) := upd_same
            have kh : Same (hids [o5, o6, o7] G) (hids [o5, o6, o7] (upd H7 o6 (.dK (tds (ret ++ rows))))) := by
              rw [hids_upd (by simp)]
              exact hids_mono g7
            generalize upd H7 o6 (.dK (tds (ret ++ rows))) = H8 at k5 k7 kR k6 kh ⊢
            refine ⟨.ref o7, rfl, .inl ⟨rfl, _, .of k7⟩, .int cur, rfl, .int cur, rfl, line_le (by simp), fun o15 n15 => ?_⟩
            refine ⟨.ref o11, rfl, o15, o11, _, _, rfl, rfl, upd_same, same_upd n15 _ _ kR, line_le (by rw [List.length_map, List.length_singleton]; omega), fun o16 n16 => ?_⟩
            refine ⟨o16, cur :: rows, rfl, .of upd_same, Nat.succ_pos _, fun mx hm1 hm2 => ⟨line_le (by simp), fun oP nP => ?_⟩⟩
            have emx := M73.maxL_of hm1 hm2
            have s11 : Same H8 (upd (upd (upd H8 o15 (.lst [.int cur])) o16 (.lst ([.int cur] ++ rows.map V.int))) oP (.tup [.int cur, .int mx])) := (same_upd n15).trans ((same_upd n16).trans (same_upd nP))
            have kP : upd (upd (upd H8 o15 (.lst [.int cur])) o16 (.lst ([.int cur] ++ rows.map V.int))) oP (.tup [.int cur, .int mx]) oP = some (.tup [.int cur, .int mx]) := upd_same
            have dP7 : oP ≠ o7 := ne_new (((same_upd n15).trans (same_upd n16)) _ _ k7) nP
            generalize upd (upd (upd H8 o15 (.lst [.int cur])) o16 (.lst ([.int cur] ++ rows.map V.int))) oP (.tup [.int cur, .int mx]) = H11 at s11 kP ⊢
            refine ⟨o7, _, _, rfl, rfl, s11 _ _ k7, line_small (by rw [List.length_map]; omega), ?_⟩
            refine ⟨.ref o7, rfl, 1, rfl, o7, _, -1, _, rfl, rfl, .of upd_same, at_snoc, oP, _, 1, _, rfl, rfl, .of (by rw [upd_ne dP7]; exact kP), rfl, ?_⟩
            have k5' : upd H11 o7 (.lst (rs.map V.ref ++ [.ref oP])) o5 = some (.lst (ds.map V.ref)) := by
              rw [upd_ne d57.symm]
              exact s11 _ _ k5
            refine ⟨.ref o5, rfl, .inl ⟨rfl, _, .of k5'⟩, .ref o11, rfl, o5, _, _, rfl, rfl, k5', line_small (by rw [List.length_map]; omega), ?_⟩
            have kh2 : Same (hids [o5, o6, o7] G) (hids [o5, o6, o7] (upd (upd H11 o7 (.lst (rs.map V.ref ++ [.ref oP]))) o5 (.lst (ds.map V.ref ++ [.ref o11])))) := by
              rw [hids_upd (by simp), hids_upd (by simp)]
              exact kh.trans (hids_mono s11)
            refine ⟨mx, ret ++ rows, ds ++ [o11], rs ++ [oP], dn ++ [rows], _, _, _, _, rfl, ?_, ?_, ?_, sG.trans kh2, ?_, ?_, ?_, ?_, ?_⟩
            · rw [List.map_append]
              exact upd_same
            · rw [upd_ne d56, upd_ne d67.symm]
              exact s11 _ _ k6
            · rw [upd_ne d57, List.map_append]
              exact upd_same
            · refine (hds.mono fun _ _ r => mo kh2 r).snoc ?_
              show hids _ _ o11 = _
              rw [hids_ne (by simp [d5, d6, d7]), upd_ne d5, upd_ne d7]
              exact s11 _ _ kR
            · rw [List.length_append, ld]
              rfl
            · rw [List.length_append, lr]
              rfl
            · rw [List.length_append]
              omega
            · rw [hlog, emx, List.append_assoc]
              rfl
    · obtain ⟨cur, ret, ds, rs, dn, y9, y10, y11, y12, rfl, h5, h6, h7, sG, hds, ld, lr, lret, hlog⟩ := h
      rw [List.length_map, List.drop_length] at hlog
      refine ⟨.ref o5, rfl, q G o5 (sG.trans hids_same) n5 ⟨ds, h5, ?_⟩⟩
      rw [hlog]
      show All2 _ _ (dn ++ [])
      rw [List.append_nil]
      exact hds.mono fun _ _ r => mo hids_same r
end
end W73


set_option Elab.async false
set_option linter.all false
set_option maxRecDepth 100000
set_option maxHeartbeats 4000000
namespace W73
open PySem PySem.Spec PyProof.Rows L2
/-- over a list that stays: the inner clause of a dict comprehension -/
theorem dc_in {K : PySem.W.Frag} {a : Addr} {xs : List V} {g : TG} {tk tv : TE} {vs : List Nat} {σ : L2.St} {H1 : Hp} {D : Addr} {Qd : Hp → Prop} (Pv : Nat → Hp → Prop) (h0 : Pv 0 H1) (hl : ∀ i H, i ≤ xs.length → Pv i H → SqL K H a xs)
    (hs : ∀ i x H, xs[i]? = some x → Pv i H → g x (wipe σ vs) H fun σ2 H2 => wipe σ2 vs = wipe σ vs ∧ tk σ2 H2 fun y H4 => tv σ2 H4 fun z H5 => ∃ kvs k, y = kV k ∧ H5 D = some (.dK kvs) ∧ kvs.length < sizeLine ∧ Pv (i + 1) (upd H5 D (.dK (putK kvs k z))))
    (hd : ∀ H, Pv xs.length H → Qd H) :
    ∃ W1 : Nat → Nat → Hp → Prop, (∃ m, W1 0 m H1) ∧ ∀ j k H, W1 j k H → ((Itl K a).stop j H ∧ Qd H) ∨ ((Itl K a).go j H ∧ ∃ Nx1 : Hp → Prop, (∀ H', Nx1 H' → ∃ k', k' < k ∧ W1 (j + 1) k' H') ∧
      ∀ x H', (Itl K a).yld j H x H' → g x (wipe σ vs) H' fun σ3 H5 => wipe σ3 vs = wipe σ vs ∧ tk σ3 H5 fun y H6 => tv σ3 H6 fun z H7 => ∃ kvs ky, y = kV ky ∧ H7 D = some (.dK kvs) ∧ kvs.length < sizeLine ∧ Nx1 (upd H7 D (.dK (putK kvs ky z)))) := by
  refine ⟨fun i m H => i + m = xs.length ∧ Pv i H, ⟨xs.length, by omega, h0⟩, ?_⟩
  rintro i m H ⟨e, p⟩
  have sq := hl i H (by omega) p
  by_cases lt : i < xs.length
  · refine .inr ⟨⟨xs, _, sq, List.getElem?_eq_getElem lt⟩, Pv (i + 1), fun H' p' => ⟨m - 1, by omega, by omega, p'⟩, fun x H' hy => ?_⟩
    obtain ⟨rfl, hy⟩ := hy
    exact hs i x _ (hy xs sq) p
  · have : i = xs.length := by omega
    subst this
    exact .inl ⟨⟨xs, sq, Nat.le_refl _⟩, hd H p⟩
theorem pi_listK {X : Cx} {tg e : Expr} {te : TE} {K : PySem.W.Frag} (he : PE X e te) (hK : X.K = K := by rfl) : PI X tg e (iList K te) := hK ▸ pi_list he
theorem keys_tds {xs : List Int} : (tds xs).map (fun kv => kV kv.1) = xs.map V.int := by
  rw [tds, List.map_map]
  rfl
section
variable {P : Program} {w : World} {K : PySem.W.Frag} {mg : Str → Option Value} {base : Heap}
theorem sc46 : FnScope ["order", "lists", "returned", "cursor", "found", "row", "rows"] ["order", "lists"] (defScope (topS 46)) := ⟨rfl, rfl, rfl, by decide +kernel, rfl, by decide +kernel, by decide +kernel⟩
def spStIns : Sp := fun vs H Q _ => ∃ (a b : Addr) (ns : List Int) (log : List (List Int)), vs = [.ref a, .ref b] ∧ IL H a ns ∧ LL H b log ∧ OrderOk ns ∧ log.flatten.Nodup ∧ log.flatten.length ≤ 1000 ∧
  ∀ H' p, Same H H' → H p = none → DS H' p (M73.sortI ns) (fun x => M73.lawState log (M73.maxL 0 log.flatten) x) → Q (.ref p) H'
theorem c_stIns (g : Glob mg) (D : Df K mg "states_in" (topS 46) [] []) : Cal P w K mg base "states_in" ["order", "lists"] [] 1 spStIns := by
  obtain ⟨t1, g1⟩ := g.READ
  obtain ⟨t2, g2⟩ := g.LOST
  obtain ⟨t3, g3⟩ := g.OPEN
  refine Cal.of D sc46 (fun _ _ _ _ _ _ us hl => match us, hl with | [_, _], _ => rfl) (fun vs H Q E h => ?_) (fun f cdv A outer s H vs Q E hr h => ⟨_, pss_cons
    (ps_setDc2 (i := 2) (own := [("rows", 6), ("row", 5)]) (vs1 := [5]) (g := gName 6) (g1 := gName 5) rfl sc46.nd rfl rfl (swD rfl rfl rfl (by decide +kernel)) (pi_list (pv 1))
      (blkOk_by (N := ["order", "lists", "returned", "cursor", "found", "row", "rows"]) (sc := defScope (topS 46)) (by decide +kernel)) (by decide) (fun _ _ _ _ _ => pg_name (i := 6) sc46.nd rfl (.inl rfl)) (fun _ _ _ _ _ => pi_listK (K := K) (pv 6))
      (fun _ _ _ _ _ => pg_name (i := 5) sc46.nd rfl (.inl rfl)) (fun _ _ _ _ _ => pv 5) (fun _ _ _ _ _ => pe_bl))
    (pss_cons (ps_set (i := 3) sc46.nd rfl (.inl rfl) (pe_callB (cr_max rfl) rfl g.max bt_max (pa_cons (pe_op op_cat (pe_lst (pa_cons pe_int pa_nil)) (pe_callTy (call_list_dK rfl) rfl g.list bt_list (pa_cons (pv 2) pa_nil))) pa_nil)))
    (pss_cons (ps_set (i := 4) sc46.nd rfl (.inl rfl) pe_dnewK)
    (pss_cons (ps_for PassesOwn.never rfl (pi_list (pe_callB cr_sorted rfl g.sorted bt_sorted (pa_cons (pv 0) pa_nil))) (pg_name (i := 5) sc46.nd rfl (.inl rfl))
      (pss_one (ps_if (pt_cmp (pc_din (u1 hr.units) (pv 5) (pv 2))) (pss_one (ps_dput (u1 hr.units) (pv 4) (pv 5) (pe_glob (v := .str "read") rfl g1 ⟨t1, rfl⟩) rfl))
        (pss_one (ps_dput (u1 hr.units) (pv 4) (pv 5) (pe_ifExp (pt_cmpR op_lt (pv 5) (pv 3) (nomark _)) (pe_glob (v := .str "lost") rfl g2 ⟨t2, rfl⟩) (pe_glob (v := .str "open") rfl g3 ⟨t3, rfl⟩)) rfl)))))
    (pss_one (ps_ret (pv 4)))))), ?_⟩)
  · obtain ⟨a, b, ns, log, rfl, _⟩ := h
    rfl
  · obtain ⟨a, b, ns, log, rfl, hI, ⟨as, hA, hL⟩, ho, hn, hl, q⟩ := h
    refine ⟨.ref b, rfl, b, rfl, ⟨_, .of hA⟩, fun o2 n2 => ?_⟩
    refine ⟨fun i m H2 => i + m = log.length ∧ H2 o2 = some (.dK (tds (log.take i).flatten)) ∧ Same H (hid o2 H2), ⟨log.length, by omega, upd_same, by rw [hid_upd, hid_free n2]; exact Same.refl _⟩, ?_⟩
    rintro i m H2 ⟨e, hD, hS⟩
    have sH : Same H H2 := hS.trans hid_same
    have sq : SqL K H2 b (as.map V.ref) := .of (sH _ _ hA)
    by_cases lt : i < log.length
    · refine .inr ⟨⟨_, _, sq, List.getElem?_eq_getElem (by rw [List.length_map, hL.1]; exact lt)⟩, fun H3 => H3 o2 = some (.dK (tds (log.take (i + 1)).flatten)) ∧ Same H (hid o2 H3), fun H' p' => ⟨m - 1, by omega, by omega, p'⟩, fun x H' hy => ?_⟩
      obtain ⟨rfl, hy⟩ := hy
      obtain ⟨t, ht, rfl⟩ := ref_get (hy _ sq)
      obtain ⟨rows, hrows, rr⟩ := hL.get ht
      have eT : (log.take (i + 1)).flatten = (log.take i).flatten ++ rows := by
        rw [List.take_add_one, hrows]
        simp
      have eF : log.flatten = (log.take i).flatten ++ (rows ++ (log.drop (i + 1)).flatten) := by
        rw [← List.append_assoc, ← eT, ← List.flatten_append, List.take_append_drop]
      rw [eF] at hn hl
      rw [List.length_append, List.length_append] at hl
      refine ⟨rfl, .ref t, rfl, t, rfl, ⟨_, (mo sH rr).sq⟩, dc_in (K := K) (a := t) (xs := rows.map V.int) (fun j H3 => H3 o2 = some (.dK (tds ((log.take i).flatten ++ rows.take j))) ∧ Same H (hid o2 H3)) ⟨by rw [List.take_zero, List.append_nil]; exact hD, hS⟩
        (fun j H3 _ h => (mo (h.2.trans hid_same) rr).sq) (fun j x H3 hx h => ?_) (fun H3 h => ?_)⟩
      · obtain ⟨hD3, hS3⟩ := h
        obtain ⟨y, hy, rfl⟩ := int_get hx
        have hfr : y ∉ (log.take i).flatten ++ rows.take j := by
          rw [List.mem_append, not_or]
          rw [List.nodup_append] at hn
          refine ⟨fun z => hn.2.2 y z y (List.mem_append_left _ (List.mem_of_getElem? hy)) rfl, ?_⟩
          have := hn.2.1
          rw [List.nodup_append] at this
          exact nodup_take this.1 hy
        refine ⟨rfl, .int y, rfl, _, Sum.inl y, rfl, hD3, line_small ?_, ?_, ?_⟩
        · rw [tds, List.length_map, List.length_append, List.length_take]
          omega
        · rw [upd_same, tds, putK_snoc hfr, tds, List.take_add_one, hy, ← List.append_assoc]
          simp only [List.map_append]
          rfl
        · rw [hid_upd]
          exact hS3
      · obtain ⟨hD3, hS3⟩ := h
        rw [List.length_map, List.take_length] at hD3
        rw [eT]
        exact ⟨hD3, hS3⟩
    · have ei : i = log.length := by omega
      subst ei
      rw [List.take_length] at hD
      refine .inl ⟨⟨_, sq, by rw [List.length_map, hL.1]; exact Nat.le_refl _⟩, ?_⟩
      refine ⟨line_le (by simp), fun o6 n6 => ⟨.ref o2, rfl, o2, _, rfl, same_upd n6 _ _ hD, fun o7 n7 => ?_⟩⟩
      rw [keys_tds]
      refine ⟨o6, o7, _, _, rfl, rfl, same_upd n7 _ _ upd_same, upd_same, line_le (by rw [List.length_map, List.length_singleton]; omega), fun o8 n8 => ⟨o8, 0 :: log.flatten, rfl, .of upd_same, Nat.succ_pos _, fun mx hm1 hm2 => ?_⟩⟩
      have emx := M73.maxL_of hm1 hm2
      have s3 : Same H2 (upd (upd (upd H2 o6 (.lst [.int 0])) o7 (.lst (log.flatten.map V.int))) o8 (.lst ([.int 0] ++ log.flatten.map V.int))) := (same_upd n6).trans ((same_upd n7).trans (same_upd n8))
      generalize upd (upd (upd H2 o6 (.lst [.int 0])) o7 (.lst (log.flatten.map V.int))) o8 (.lst ([.int 0] ++ log.flatten.map V.int)) = H3 at s3 ⊢
      refine fun o4 n4 => ?_
      have hs3 : Same H H3 := sH.trans s3
      have hI4 : IL (upd H3 o4 (.dK [])) a ns := mo (hs3.trans (same_upd n4)) hI
      refine ⟨.ref a, rfl, a, ns, rfl, hI4.sq, Nat.lt_of_le_of_lt ho.1 (by omega), fun S o9 hS1 hS2 n9 => ?_⟩
      have eS := M73.sortI_of hS1 hS2
      have ndS : S.Nodup := hS1.nodup_iff.mpr ho.2.2
      have lS : S.length ≤ 30 := by
        rw [hS1.length_eq]
        exact ho.1
      have d94 : o9 ≠ o4 := ne_new upd_same n9
      have n9' : H3 o9 = none := (same_upd n4).free n9
      have hD4 : H3 o2 = some (.dK (tds log.flatten)) := s3 _ _ hD
      have d24 : o4 ≠ o2 := ne_new hD4 n4
      have n4H : H o4 = none := hs3.free n4
      refine ⟨o9, rfl, ⟨_, .of upd_same⟩, for_list (K := K) (a := o9) (xs := S.map V.int)
        (fun j σ H5 => ∃ y5 y6 : Option V, σ = [some (.ref a), some (.ref b), some (.ref o2), some (.int mx), some (.ref o4), y5, y6] ∧ Same (upd H3 o9 (.lst (S.map V.int))) (hid o4 H5) ∧ DS H5 o4 (S.take j) (fun x => M73.lawState log (M73.maxL 0 log.flatten) x))
        ⟨_, _, rfl, ?_, ?_⟩ (fun j σ H5 _ ⟨_, _, _, s5, _⟩ => .of (hid_same _ _ (s5 _ _ upd_same))) (fun j x σ H5 hx h => ?_) (fun σ H5 h => ?_)⟩
      · rw [hid_upd_ne d94, hid_upd, hid_free n4]
        exact Same.refl _
      · show upd _ _ _ o4 = _
        rw [upd_ne d94.symm]
        exact upd_same
      · obtain ⟨y5, y6, rfl, s5, hO⟩ := h
        obtain ⟨x, hxx, rfl⟩ := int_get hx
        have hk : H5 o2 = some (.dK (tds log.flatten)) := hid_same _ _ (s5 _ _ (same_upd n9' _ _ hD4))
        have put : ∀ st, st = M73.lawState log (M73.maxL 0 log.flatten) x → Same (upd H3 o9 (.lst (S.map V.int))) (hid o4 (upd H5 o4 (.dK (putK ((S.take j).map fun y => ((Sum.inl y : Key), V.str (s4 (M73.lawState log (M73.maxL 0 log.flatten) y)))) (Sum.inl x) (.str (s4 st)))))) ∧
            DS (upd H5 o4 (.dK (putK ((S.take j).map fun y => ((Sum.inl y : Key), V.str (s4 (M73.lawState log (M73.maxL 0 log.flatten) y)))) (Sum.inl x) (.str (s4 st))))) o4 (S.take (j + 1)) (fun x => M73.lawState log (M73.maxL 0 log.flatten) x) := fun st e => by
          refine ⟨by rw [hid_upd]; exact s5, ?_⟩
          show upd H5 o4 _ o4 = _
          rw [upd_same, putK_snoc (nodup_take ndS hxx), List.take_add_one, hxx, List.map_append, e]
          rfl
        have lj : ((S.take j).map fun y => ((Sum.inl y : Key), V.str (s4 (M73.lawState log (M73.maxL 0 log.flatten) y)))).length < sizeLine := line_small (by rw [List.length_map, List.length_take]; omega)
        refine ⟨.int x, rfl, .ref o2, rfl, o2, _, rfl, DGet.k (k := Sum.inl x) hk, _, rfl, ?_⟩
        rw [valV_tds]
        refine ite2 (fun e => ?_) (fun e => ?_)
        · have e1 : x ∈ log.flatten := of_decide_eq_true e
          have p := put .rd (by rw [M73.lawState, if_pos e1])
          exact ⟨.ref o4, rfl, .int x, rfl, o4, _, rfl, DPut.k (k := Sum.inl x) hO lj, _, _, rfl, p.1, p.2⟩
        · have e1 : x ∉ log.flatten := fun z => e (decide_eq_true z)
          refine ⟨_, rfl, _, rfl, _, _, rfl, rfl, _, rfl, ite2 (fun e2 => ?_) (fun e2 => ?_)⟩
          · have e2' : x < mx := of_decide_eq_true e2
            have p := put .ls (by rw [M73.lawState, if_neg e1, emx, if_pos e2'])
            exact ⟨.ref o4, rfl, .int x, rfl, o4, _, rfl, DPut.k (k := Sum.inl x) hO lj, _, _, rfl, p.1, p.2⟩
          · have e2' : ¬ x < mx := fun z => e2 (decide_eq_true z)
            have p := put .op (by rw [M73.lawState, if_neg e1, emx, if_neg e2'])
            exact ⟨.ref o4, rfl, .int x, rfl, o4, _, rfl, DPut.k (k := Sum.inl x) hO lj, _, _, rfl, p.1, p.2⟩
      · obtain ⟨y5, y6, rfl, s5, hO⟩ := h
        rw [List.length_map, List.take_length, eS] at hO
        exact ⟨.ref o4, rfl, q H5 o4 (hs3.trans ((same_upd n9').trans (s5.trans hid_same))) n4H hO⟩
abbrev cStIns (P : Program) (w : World) (K : PySem.W.Frag) (mg : Str → Option Value) (base : Heap) : Prop := Cal P w K mg base "states_in" ["order", "lists"] [] 1 spStIns
abbrev cLists (P : Program) (w : World) (K : PySem.W.Frag) (mg : Str → Option Value) (base : Heap) : Prop := Cal P w K mg base "lists_of" ["order", "polls", "overlap", "wait", "page"] [] 2 spLists
abbrev cReqReader (P : Program) (w : World) (K : PySem.W.Frag) (mg : Str → Option Value) (base : Heap) : Prop := Cal P w K mg base "require_reader" ["order", "polls", "overlap", "wait", "page"] [] 5 spReqReader
end
end W73


set_option Elab.async false
set_option linter.all false
set_option maxRecDepth 100000
set_option maxHeartbeats 4000000
namespace W73
open PySem PySem.Spec PyProof.Rows L2
section
variable {P : Program} {w : World} {K : PySem.W.Frag} {mg : Str → Option Value} {base : Heap}
abbrev rdKw : List (Str × V) := [("overlap", .int 1), ("wait", .int 0), ("page", .non)]
theorem sc47 : FnScope ["order", "polls", "overlap", "wait", "page"] ["order", "polls", "overlap", "wait", "page"] (defScope (topS 47)) := ⟨rfl, rfl, rfl, by decide +kernel, rfl, by decide +kernel, by decide +kernel⟩
theorem sc48 : FnScope ["order", "polls", "overlap", "wait", "page"] ["order", "polls", "overlap", "wait", "page"] (defScope (topS 48)) := ⟨rfl, rfl, rfl, by decide +kernel, rfl, by decide +kernel, by decide +kernel⟩
theorem c_read (D : Df K mg "read" (topS 47) [] rdKw) (cR : cReqReader P w K mg base) (cL : cLists P w K mg base) : Cal P w K mg base "read" ["order", "polls", "overlap", "wait", "page"] [.int 1, .int 0, .non] 6 spLists := by
  obtain ⟨f, fd, F, gm⟩ := D.ex
  obtain ⟨ds, hv, hb⟩ := F.binds0 (ps := ["order", "polls", "overlap", "wait", "page"]) 2 (by simp) rfl fun T doc pm an cdv ct us ks hl hl2 => match us, hl, ks, hl2 with
    | [_, _], _, [_, _, _], _ => ⟨_, _, _, _, _, _, rfl, rfl, _, _, _, _, _, _, rfl, rfl, _, _, _, _, _, _, rfl, rfl, rfl⟩
  refine ⟨f, fd, ds, ?_, gm, F.kp, hb, hv⟩
  refine F.ok sc47 (fun vs H Q E h => ?_) (fun cdv A outer s H vs Q E hr h => ⟨_, PSs.nox (pss_cons (ps_expr (pe_cal cR hr (pa_cons (pv 0) (pa_cons (pv 1) (pa_cons (pv 2) (pa_cons (pv 3) (pa_cons (pv 4) pa_nil)))))))
    (pss_one (ps_ret (pe_cal cL (hr.mono (by decide)) (pa_cons (pv 0) (pa_cons (pv 1) (pa_cons (pv 2) (pa_cons (pv 3) (pa_cons (pv 4) pa_nil))))))))), ?_⟩)
  · obtain ⟨a, b, ns, ps, rfl, _⟩ := h
    rfl
  · obtain ⟨a, b, ns, ps, rfl, hI, hJ, ho, hp, q⟩ := h
    exact ⟨_, rfl, _, rfl, _, rfl, _, rfl, _, rfl, a, b, ns, ps, rfl, hI, hJ, ho, hp, fun H1 s1 => ⟨_, rfl, _, rfl, _, rfl, _, rfl, _, rfl, a, b, ns, ps, rfl, mo s1 hI, mo s1 hJ, ho, hp, fun H2 p s2 n2 hL => q H2 p (s1.trans s2) (s1.free n2) hL⟩⟩
def spStsR : Sp := fun vs H Q _ => ∃ (a b : Addr) (ns ps : List Int), vs = [.ref a, .ref b, .int 1, .int 0, .non] ∧ IL H a ns ∧ IL H b ps ∧ OrderOk ns ∧ PollsOk ns.length ps ∧
  ∀ H' p, Same H H' → H p = none → DS H' p (M73.sortI ns) (fun x => M73.lawState (M73.readLog ns ps) (M73.maxL 0 (M73.readLog ns ps).flatten) x) → Q (.ref p) H'
theorem c_stsR (D : Df K mg "states" (topS 48) [] rdKw) (cR : cReqReader P w K mg base) (cL : cLists P w K mg base) (cS : cStIns P w K mg base) : Cal P w K mg base "states" ["order", "polls", "overlap", "wait", "page"] [.int 1, .int 0, .non] 6 spStsR := by
  obtain ⟨f, fd, F, gm⟩ := D.ex
  obtain ⟨ds, hv, hb⟩ := F.binds0 (ps := ["order", "polls", "overlap", "wait", "page"]) 2 (by simp) rfl fun T doc pm an cdv ct us ks hl hl2 => match us, hl, ks, hl2 with
    | [_, _], _, [_, _, _], _ => ⟨_, _, _, _, _, _, rfl, rfl, _, _, _, _, _, _, rfl, rfl, _, _, _, _, _, _, rfl, rfl, rfl⟩
  refine ⟨f, fd, ds, ?_, gm, F.kp, hb, hv⟩
  refine F.ok sc48 (fun vs H Q E h => ?_) (fun cdv A outer s H vs Q E hr h => ⟨_, PSs.nox (pss_cons (ps_expr (pe_cal cR hr (pa_cons (pv 0) (pa_cons (pv 1) (pa_cons (pv 2) (pa_cons (pv 3) (pa_cons (pv 4) pa_nil)))))))
    (pss_one (ps_ret (pe_cal cS (hr.mono (by decide)) (pa_cons (pv 0) (pa_cons (pe_cal cL (hr.mono (by decide)) (pa_cons (pv 0) (pa_cons (pv 1) (pa_cons (pv 2) (pa_cons (pv 3) (pa_cons (pv 4) pa_nil)))))) pa_nil)))))), ?_⟩)
  · obtain ⟨a, b, ns, ps, rfl, _⟩ := h
    rfl
  · obtain ⟨a, b, ns, ps, rfl, hI, hJ, ho, hp, q⟩ := h
    have sub := M73.readLog_sub ho.2.2 (fun x hx => (ho.2.1 x hx).1) ps
    have nd := ((M73.sortI_perm ns).nodup_iff.mpr ho.2.2).sublist sub
    have ln : (M73.readLog ns ps).flatten.length ≤ 1000 := by
      have := sub.length_le
      rw [M73.sortI_length] at this
      have := ho.1
      omega
    exact ⟨_, rfl, _, rfl, _, rfl, _, rfl, _, rfl, a, b, ns, ps, rfl, hI, hJ, ho, hp, fun H1 s1 => ⟨_, rfl, _, rfl, _, rfl, _, rfl, _, rfl, _, rfl, a, b, ns, ps, rfl, mo s1 hI, mo s1 hJ, ho, hp, fun H2 p s2 n2 hL =>
      ⟨a, p, ns, _, rfl, mo (s1.trans s2) hI, hL, ho, nd, ln, fun H3 p3 s3 n3 hD => q H3 p3 ((s1.trans s2).trans s3) ((s1.trans s2).free n3) hD⟩⟩⟩
end
end W73


set_option Elab.async false
set_option linter.all false
set_option maxRecDepth 100000
set_option maxHeartbeats 4000000
namespace W73
open PySem PySem.Spec PyProof.Rows L2
/-- a source of draws: a list of three ints -/
def SrcAt (H : Hp) (s : Addr) (n : Int) : Prop := ∃ A B C : Int, H s = some (.lst [.int A, .int B, .int C]) ∧ 0 ≤ A ∧ 0 ≤ B ∧ B < 2 ^ 140 ∧ 0 ≤ C ∧ C ≤ n
theorem SrcAt.le {H : Hp} {s : Addr} {n m : Int} (h : SrcAt H s n) (e : n ≤ m) : SrcAt H s m := by
  obtain ⟨A, B, C, h1, h2, h3, h4, h5, h6⟩ := h
  exact ⟨A, B, C, h1, h2, h3, h4, h5, Int.le_trans h6 e⟩
theorem SrcAt.mono {H H' : Hp} {s : Addr} {n : Int} (h : SrcAt H s n) (e : Same H H') : SrcAt H' s n := by
  obtain ⟨A, B, C, h1, h2⟩ := h
  exact ⟨A, B, C, e _ _ h1, h2⟩
theorem SrcAt.cell {H : Hp} {s : Addr} {n : Int} (h : SrcAt H s n) : ∃ o, H s = some o := by
  obtain ⟨A, B, C, h1, h2⟩ := h
  exact ⟨_, h1⟩
section
variable {P : Program} {w : World} {K : PySem.W.Frag} {mg : Str → Option Value} {base : Heap}
/-! ### _law_source -/
theorem sc50 : FnScope ["_law_script", "_law_k", "_law_cell"] ["_law_script", "_law_k"] (defScope (topS 50)) := ⟨rfl, rfl, rfl, by decide +kernel, rfl, by decide +kernel, by decide +kernel⟩
def spSource : Sp := fun vs H Q _ => ∃ (a : Addr) (k : Int) (ns : List Int), vs = [.ref a, .int k] ∧ SqL K H a (ns.map V.int) ∧ 0 ≤ k ∧ k < 4 ∧ ∀ r H', H r = none → Same H H' → SrcAt H' r 0 → Q (.ref r) H'
theorem c_source (g : Glob mg) (D : Df K mg "_law_source" (topS 50) [] []) : Cal P w K mg base "_law_source" ["_law_script", "_law_k"] [] 1 (spSource (K := K)) := by
  refine Cal.of D sc50 (fun _ _ _ _ _ _ us hl => match us, hl with | [_, _], _ => rfl) (fun vs H Q E h => ?_) (fun f cdv A outer s H vs Q E hr h => ⟨_, pss_cons
    (ps_set (i := 2) sc50.nd rfl (.inl rfl) (pe_ifExp (pt_cmpR op_lt (pv 1) (pe_len g.len (pv 0)) (nomark _)) (pe_ix ix_list (pv 0) (pv 1) (fun _ _ => rfl)) pe_int))
    (pss_one (ps_ret (pe_lst (pa_cons (pe_callB (call_max2 rfl) rfl g.max bt_max (pa_cons pe_int (pa_cons (pe_op op_sub (pv 2) (pe_op op_powW pe_int pe_int)) pa_nil)))
      (pa_cons (pe_op op_add (pe_op op_mul (pe_op op_add (pe_op op_mod (pv 2) (pe_op op_add (pe_op op_powW pe_int pe_int) pe_int)) pe_int) pe_int) (pv 1)) (pa_cons pe_int pa_nil)))))), ?_⟩)
  · obtain ⟨a, k, ns, rfl, _⟩ := h
    rfl
  · obtain ⟨a, k, ns, rfl, hS, h0, h4, q⟩ := h
    have fin : ∀ cell : Int, (tLst (tCons (tCB (fun xs H Q => ∃ i j, xs = [V.int i, V.int j] ∧ Q (V.int (if j > i then j else i)) H) (tCons (tC (.int 0)) (tCons (tOp (rI0 fun i j => .int (i - j)) (tVar 2) (tOp (rI CPowW fun i j => .int (i ^ j.toNat)) (tC (.int 10)) (tC (.int 18)))) tNil)))
        (tCons (tOp (rI0 fun i j => .int (i + j)) (tOp (rI CMul fun i j => .int (i * j)) (tOp (rI0 fun i j => .int (i + j)) (tOp (rI (fun _ j => 0 < j) fun i j => .int (i % j)) (tVar 2) (tOp (rI0 fun i j => .int (i + j)) (tOp (rI CPowW fun i j => .int (i ^ j.toNat)) (tC (.int 10)) (tC (.int 38))) (tC (.int 133)))) (tC (.int 1))) (tC (.int 64))) (tVar 1)) (tCons (tC (.int 0)) tNil)))) [some (.ref a), some (.int k), some (.int cell)] H Q := fun cell => by
      have e18 : CPowW 10 18 := powW_of (a := 4) (by decide) (by decide) (by decide) (by decide)
      have e38 : CPowW 10 38 := powW_of (a := 4) (by decide) (by decide) (by decide) (by decide)
      refine ⟨.int cell, rfl, 10, 18, rfl, rfl, e18, cell, _, rfl, rfl, 0, _, rfl, ?_⟩
      refine ⟨.int cell, rfl, 10, 38, rfl, rfl, e38, _, _, rfl, rfl, cell, _, rfl, rfl, (show (0 : Int) < 10 ^ (38 : Int).toNat + 133 from by decide), _, _, rfl, rfl, _, _, rfl, rfl, .inr (by decide), _, rfl, _, _, rfl, rfl, line_le (by simp), fun r nr => ?_⟩
      refine q r _ nr (same_upd nr) ⟨_, _, _, upd_same, ?_, ?_, ?_, Int.le_refl _, Int.le_refl _⟩
      · split <;> omega
      · have := Int.emod_nonneg cell (b := (10 : Int) ^ (38 : Int).toNat + 133) (by decide)
        omega
      · have h1 := Int.emod_lt_of_pos cell (b := (10 : Int) ^ (38 : Int).toNat + 133) (by decide)
        have h2 : ((10 : Int) ^ (38 : Int).toNat + 133) * 64 + 100 < 2 ^ 140 := by decide
        omega
    refine ⟨_, rfl, .ref a, rfl, a, _, rfl, .inl hS, _, _, rfl, rfl, _, rfl, ite2 (fun e => ?_) (fun e => ?_)⟩
    · have e' := of_decide_eq_true e
      rw [List.length_map] at e'
      have hk : (ns.map V.int)[k.toNat]? = some (.int (ns[k.toNat]'(by omega))) := int_at (List.getElem?_eq_getElem (by omega))
      have hk2 := atI_nat hk
      rw [Int.toNat_of_nonneg h0] at hk2
      exact ⟨.ref a, rfl, .int k, rfl, a, _, k, _, rfl, rfl, hS, hk2, fin _⟩
    · exact fin 0
end
end W73


set_option Elab.async false
set_option linter.all false
set_option maxRecDepth 100000
set_option maxHeartbeats 4000000
namespace W73
open PySem PySem.Spec PyProof.Rows L2
theorem nab {x : Int} {a : Nat} (h0 : 0 ≤ x) (h : x < 2 ^ a) : x.natAbs < 2 ^ a := by
  have e : ((x.natAbs : Nat) : Int) < ((2 ^ a : Nat) : Int) := by
    rw [Int.natAbs_of_nonneg h0, Int.natCast_pow]
    exact h
  exact_mod_cast e
section
variable {P : Program} {w : World} {K : PySem.W.Frag} {mg : Str → Option Value} {base : Heap}
theorem sc51 : FnScope ["_law_source_here", "_law_limit", "_law_result", "_law_mixed"] ["_law_source_here", "_law_limit"] (defScope (topS 51)) := ⟨rfl, rfl, rfl, by decide +kernel, rfl, by decide +kernel, by decide +kernel⟩
def spDraw : Sp := fun vs H Q _ => ∃ (s : Addr) (n lim : Int), vs = [.ref s, .int lim] ∧ SrcAt H s n ∧ n ≤ 1000000 ∧ 0 < lim ∧ lim < 2 ^ 110 ∧
  ∀ r H', 0 ≤ r → r < lim → Same (hid s H) (hid s H') → SrcAt H' s (n + 1) → Q (.int r) H'
theorem c_draw (D : Df K mg "_law_draw" (topS 51) [] []) : Cal P w K mg base "_law_draw" ["_law_source_here", "_law_limit"] [] 1 spDraw := by
  refine Cal.of D sc51 (fun _ _ _ _ _ _ us hl => match us, hl with | [_, _], _ => rfl) (fun vs H Q E h => ?_) (fun f cdv A outer s H vs Q E hr h => ⟨_, pss_cons
    (ps_if (pt_cmpR op_gt (pe_ix ix_list (pv 0) pe_int (fun _ _ => rfl)) pe_int (nomark _))
      (pss_cons (ps_set (i := 2) sc51.nd rfl (.inl rfl) (pe_op op_mod (pe_ix ix_list (pv 0) pe_int (fun _ _ => rfl)) (pv 1)))
      (pss_cons (ps_asg (pe_op op_fdivW (pe_ix ix_list (pv 0) pe_int (fun _ _ => rfl)) (pv 1)) (pg_sub (pv 0) pe_int set_list)) (pss_one (ps_ret (pv 2))))) pss_nil)
    (pss_cons (ps_asg (pe_op op_add (pe_ix ix_list (pv 0) pe_int (fun _ _ => rfl)) pe_int) (pg_sub (pv 0) pe_int set_list))
    (pss_cons (ps_set (i := 3) sc51.nd rfl (.inl rfl) (pe_op op_mod (pe_op op_powW (pe_op op_add (pe_ix ix_list (pv 0) pe_int (fun _ _ => rfl)) (pe_op op_mul pe_int (pe_ix ix_list (pv 0) pe_int (fun _ _ => rfl)))) pe_int) (pe_op op_add (pe_op op_powW pe_int pe_int) pe_int)))
    (pss_cons (ps_set (i := 3) sc51.nd rfl (.inl rfl) (pe_op op_mod (pe_op op_powW (pe_op op_add (pv 3) (pe_op op_mul pe_int (pe_ix ix_list (pv 0) pe_int (fun _ _ => rfl)))) pe_int) (pe_op op_add (pe_op op_powW pe_int pe_int) pe_int)))
    (pss_one (ps_ret (pe_op op_mod (pe_op op_fdivW (pv 3) (pe_op op_powW pe_int pe_int)) (pv 1))))))), ?_⟩)
  · obtain ⟨s, n, lim, rfl, _⟩ := h
    rfl
  · obtain ⟨a, n, lim, rfl, ⟨x, y, z, hS, hx, hy, hy2, hz, hzn⟩, hn, hl0, hl1, q⟩ := h
    have sq : SqL K H a [.int x, .int y, .int z] := .of hS
    refine ⟨.ref a, rfl, a, _, 0, _, rfl, rfl, sq, rfl, _, _, rfl, rfl, _, rfl, ite2 (fun e => ?_) (fun e => ?_)⟩
    · refine ⟨.ref a, rfl, a, _, 0, _, rfl, rfl, sq, rfl, .int lim, rfl, x, lim, rfl, rfl, hl0, ?_⟩
      refine ⟨.ref a, rfl, a, _, 0, _, rfl, rfl, sq, rfl, .int lim, rfl, x, lim, rfl, rfl, wide_div hl0 (nab (Int.le_of_lt hl0) hl1) (by decide) (by decide), ?_⟩
      refine ⟨.ref a, rfl, a, _, 0, 0, rfl, rfl, hS, rfl, .int (x % lim), rfl, q _ _ (Int.emod_nonneg _ (by omega)) (Int.emod_lt_of_pos _ hl0) (by rw [hid_upd]; exact Same.refl _) ⟨x / lim, y, z, upd_same, Int.ediv_nonneg hx (by omega), hy, hy2, hz, by omega⟩⟩
    · refine ⟨.ref a, rfl, a, _, 2, _, rfl, rfl, sq, rfl, z, 1, rfl, rfl, .ref a, rfl, a, _, 2, 2, rfl, rfl, hS, rfl, ?_⟩
      have hS2 : upd H a (.lst ([V.int x, V.int y, V.int z].set 2 (V.int (z + 1)))) a = some (.lst [.int x, .int y, .int (z + 1)]) := upd_same
      have sq2 : SqL K (upd H a (.lst ([V.int x, V.int y, V.int z].set 2 (V.int (z + 1))))) a [.int x, .int y, .int (z + 1)] := .of hS2
      have e39 : CPowW 10 39 := powW_of (a := 4) (by decide) (by decide) (by decide) (by decide)
      have e37 : CPowW 10 37 := powW_of (a := 4) (by decide) (by decide) (by decide) (by decide)
      have e7 : CPowW 10 7 := powW_of (a := 4) (by decide) (by decide) (by decide) (by decide)
      have p1 : CPowW (y + 67867979 * (z + 1)) 3 := powW_of (a := 141) (by decide) (nab (by omega) (by omega)) (by decide) (by decide)
      refine ⟨.ref a, rfl, a, _, 1, _, rfl, rfl, sq2, rfl, .ref a, rfl, a, _, 2, _, rfl, rfl, sq2, rfl, _, _, rfl, rfl, .inl (by decide), _, _, rfl, rfl, _, _, rfl, rfl, p1, 10, 39, rfl, rfl, e39, _, _, rfl, rfl, _, _, rfl, rfl, (show (0 : Int) < 10 ^ (39 : Int).toNat + 3 from by decide), ?_⟩
      have m0 := Int.emod_nonneg ((y + 67867979 * (z + 1)) ^ (3 : Int).toNat) (b := (10 : Int) ^ (39 : Int).toNat + 3) (by decide)
      have m1 := Int.emod_lt_of_pos ((y + 67867979 * (z + 1)) ^ (3 : Int).toNat) (b := (10 : Int) ^ (39 : Int).toNat + 3) (by decide)
      obtain ⟨m, em⟩ : ∃ m : Int, m = ((y + 67867979 * (z + 1)) ^ (3 : Int).toNat) % ((10 : Int) ^ (39 : Int).toNat + 3) := ⟨_, rfl⟩
      rw [← em] at m0 m1
      have m2 : m < 2 ^ 140 := Int.lt_trans m1 (by decide)
      have p2 : CPowW (m + 982451707 * (z + 1)) 2 := powW_of (a := 141) (by decide) (nab (by omega) (by omega)) (by decide) (by decide)
      refine ⟨.int m, (by rw [em]; rfl), .ref a, rfl, a, _, 2, _, rfl, rfl, sq2, rfl, _, _, rfl, rfl, .inl (by decide), _, _, rfl, rfl, _, _, rfl, rfl, p2, 10, 37, rfl, rfl, e37, _, _, rfl, rfl, _, _, rfl, rfl, (show (0 : Int) < 10 ^ (37 : Int).toNat + 43 from by decide), ?_⟩
      refine ⟨_, rfl, 10, 7, rfl, rfl, e7, _, _, rfl, rfl, wide_div (b := 30) (by decide) (by decide) (by decide) (by decide), .int lim, rfl, _, _, rfl, rfl, hl0, ?_⟩
      exact q _ _ (Int.emod_nonneg _ (by omega)) (Int.emod_lt_of_pos _ hl0) (by rw [hid_upd]; exact Same.refl _) ⟨x, y, z + 1, hS2, hx, hy, hy2, by omega, by omega⟩
abbrev cDraw (P : Program) (w : World) (K : PySem.W.Frag) (mg : Str → Option Value) (base : Heap) : Prop := Cal P w K mg base "_law_draw" ["_law_source_here", "_law_limit"] [] 1 spDraw
end
end W73


set_option Elab.async false
set_option linter.all false
set_option maxRecDepth 100000
set_option maxHeartbeats 4000000
namespace W73
open PySem PySem.Spec PyProof.Rows L2
theorem hids_of {H H' : Hp} {s : Addr} {l : List Addr} (h : Same (hid s H) (hid s H')) (m : s ∈ l) : Same (hids l H) (hids l H') := fun b x e => by
  by_cases f : b ∈ l
  · rw [hids_at f] at e
    cases e
  · have ne : b ≠ s := fun z => f (z ▸ m)
    rw [hids_ne f] at e ⊢
    have := h b x (by rw [hid_ne ne]; exact e)
    rwa [hid_ne ne] at this
theorem hids_sub {H H' : Hp} {l l' : List Addr} (h : Same (hids l H) (hids l H')) (m : ∀ x ∈ l, x ∈ l') : Same (hids l' H) (hids l' H') := fun b x e => by
  by_cases f : b ∈ l'
  · rw [hids_at f] at e
    cases e
  · have ne : b ∉ l := fun z => f (m _ z)
    rw [hids_ne f] at e ⊢
    have := h b x (by rw [hids_ne ne]; exact e)
    rwa [hids_ne ne] at this
/-- new places need not be hidden -/
theorem hid_back {H H' : Hp} {s : Addr} {l : List Addr} (h : Same (hids (s :: l) H) (hids (s :: l) H')) (m : ∀ x ∈ l, H x = none) : Same (hid s H) (hid s H') := fun b x e => by
  by_cases f : b = s
  · rw [f, hid_at] at e
    cases e
  · rw [hid_ne f] at e ⊢
    have ne : b ∉ s :: l := by
      rw [List.mem_cons, not_or]
      refine ⟨f, fun z => ?_⟩
      rw [m b z] at e
      cases e
    have := h b x (by rw [hids_ne ne]; exact e)
    rwa [hids_ne ne] at this
theorem hid_keep {H H' : Hp} {s p : Addr} {o : HO} (h : Same (hid s H) (hid s H')) (ne : p ≠ s) (e : H p = some o) : H' p = some o := by
  have := h p o (by rw [hid_ne ne]; exact e)
  rwa [hid_ne ne] at this
theorem hids_keep {H H' : Hp} {l : List Addr} {p : Addr} {o : HO} (h : Same (hids l H) (hids l H')) (ne : p ∉ l) (e : H p = some o) : H' p = some o := by
  have := h p o (by rw [hids_ne ne]; exact e)
  rwa [hids_ne ne] at this
theorem erase_perm {α : Type} : ∀ (xs : List α) (k : Nat) (y : α), xs[k]? = some y → (y :: xs.eraseIdx k).Perm xs
  | [], k, y, h => by simp at h
  | x :: xs, 0, y, h => by
    have : x = y := by simpa using h
    subst this
    exact List.Perm.refl _
  | x :: xs, k + 1, y, h => by
    rw [List.eraseIdx_cons_succ]
    exact (List.Perm.swap x y _).trans ((erase_perm xs k y (by simpa using h)).cons x)
theorem map_erase {α β : Type} (f : α → β) : ∀ (xs : List α) (k : Nat), (xs.map f).eraseIdx k = (xs.eraseIdx k).map f
  | [], k => by simp
  | x :: xs, 0 => rfl
  | x :: xs, k + 1 => by
    rw [List.map_cons, List.eraseIdx_cons_succ, List.eraseIdx_cons_succ, List.map_cons, map_erase f xs k]
theorem hid_was {H H' : Hp} {s p : Addr} {o : HO} (h : Same (hid s H) (hid s H')) (hs : H' s = some o) (n : H' p = none) : H p = none := by
  cases e : H p with
  | none => rfl
  | some x =>
    have ne : p ≠ s := ne_new hs n
    rw [hid_keep h ne e] at n
    cases n
theorem SrcAt.put {H : Hp} {s p : Addr} {n : Int} {o : HO} (h : SrcAt H s n) (ne : p ≠ s) : SrcAt (upd H p o) s n := by
  obtain ⟨A, B, C, h1, h2⟩ := h
  exact ⟨A, B, C, by rw [upd_ne (Ne.symm ne)]; exact h1, h2⟩
theorem seq_mid {tA tB : TS} {D : Ends} {σ : L2.St} {G : Hp} (Pm : L2.St → Hp → Prop) (h2 : ∀ σ G, Pm σ G → tB D σ G) (h1 : ∀ R : L2.St → Hp → Prop, (∀ σ G, Pm σ G → R σ G) → tA { D with nx := R } σ G) : tSeq tA tB D σ G := h1 (tB D) h2
section
variable {P : Program} {w : World} {K : PySem.W.Frag} {mg : Str → Option Value} {base : Heap}
theorem sc52 : FnScope ["_law_source_here", "_law_most", "_law_size", "_law_style", "_law_left", "_law_last", "_law_step", "_law_turn", "_law_found"] ["_law_source_here", "_law_most"] (defScope (topS 52)) := ⟨rfl, rfl, rfl, by decide +kernel, rfl, by decide +kernel, by decide +kernel⟩
def spOrder : Sp := fun vs H Q _ => ∃ (s : Addr) (n most : Int), vs = [.ref s, .int most] ∧ SrcAt H s n ∧ n ≤ 900000 ∧ 0 ≤ most ∧ most ≤ 8 ∧
  ∀ p H' ns, H p = none → Same (hid s H) (hid s H') → SrcAt H' s (n + 30) → IL H' p ns → ns.Nodup → (∀ x ∈ ns, IdOk x) → (ns.length : Int) ≤ most → Q (.ref p) H'
/-- a list of ids, none twice -/
def Few (xs : List Int) : Prop := xs.Nodup ∧ ∀ x ∈ xs, IdOk x
/-- while ids are left -/
def IvW (H : Hp) (a o4 o8 : Addr) (n most size style stp : Int) (m : Nat) (σ : L2.St) (G : Hp) : Prop := ∃ (xs ys : List Int) (y5 y7 : Option V),
  σ = [some (.ref a), some (.int most), some (.int size), some (.int style), some (.ref o4), y5, some (.int stp), y7, some (.ref o8)] ∧ m = xs.length ∧ IL G o4 xs ∧ IL G o8 ys ∧ Few (xs ++ ys) ∧
  xs.length + ys.length = size.toNat ∧ SrcAt G a (n + 4 + size.toNat + ys.length) ∧ Same (hids [a, o4, o8] H) (hids [a, o4, o8] G)
theorem c_order (g : Glob mg) (D : Df K mg "_law_order" (topS 52) [] []) (cD : cDraw P w K mg base) : Cal P w K mg base "_law_order" ["_law_source_here", "_law_most"] [] 2 spOrder := by
  refine Cal.of D sc52 (fun _ _ _ _ _ _ us hl => match us, hl with | [_, _], _ => rfl) (fun vs H Q E h => ?_) (fun f cdv A outer s H vs Q E hr h => ⟨_, pss_cons
    (ps_asg (pe_tup (pa_cons (pe_cal cD hr (pa_cons (pv 0) (pa_cons (pe_op op_add (pv 1) pe_int) pa_nil))) (pa_cons (pe_cal cD hr (pa_cons (pv 0) (pa_cons pe_int pa_nil))) (pa_cons (pe_lst pa_nil) (pa_cons pe_int pa_nil)))))
      (pg_tup rfl (pgs_cons (pg_name (i := 2) sc52.nd rfl (.inl rfl)) (pgs_cons (pg_name (i := 3) sc52.nd rfl (.inl rfl)) (pgs_cons (pg_name (i := 4) sc52.nd rfl (.inl rfl)) (pgs_cons (pg_name (i := 5) sc52.nd rfl (.inl rfl)) pgs_nil))))))
    (pss_cons (ps_set (i := 6) sc52.nd rfl (.inl rfl) (pe_ix ix_list (pe_lst (pa_cons pe_int (pa_cons pe_int (pa_cons (pe_op op_mul pe_int (pe_op op_powW pe_int pe_int)) pa_nil)))) (pe_cal cD hr (pa_cons (pv 0) (pa_cons pe_int pa_nil))) (fun _ _ => rfl)))
    (pss_cons (ps_for PassesOwn.never rfl (pi_range1 rfl g.range (pa_cons (pv 2) pa_nil)) (pg_name (i := 7) sc52.nd rfl (.inl rfl))
      (pss_cons (ps_set (i := 5) sc52.nd rfl (.inl rfl) (pe_op op_add (pe_op op_add (pv 5) pe_int) (pe_cal cD hr (pa_cons (pv 0) (pa_cons (pv 6) pa_nil)))))
      (pss_one (ps_expr (pe_bm PySem.F.plainAttrs_list PySem.F.slot_list_append PySem.F.type_list_append mt_append (pv 4) (pa_cons (pv 5) pa_nil))))))
    (pss_cons (ps_if (PW.pt (pw_and (pt_cmpR (op_neD hr.units) (pv 4) (pe_lst pa_nil) (nomark _)) (pw_and1 (pt_cmpR op_eq (pe_cal cD hr (pa_cons (pv 0) (pa_cons pe_int pa_nil))) pe_int (nomark _)))))
      (pss_one (ps_asg (pe_op op_powW pe_int pe_int) (pg_sub (pv 4) (pe_un un_neg pe_int) set_list))) pss_nil)
    (pss_cons (ps_set (i := 8) sc52.nd rfl (.inl rfl) (pe_lst pa_nil))
    (pss_cons (ps_while PassesOwn.never (pt_cmpR (op_neD hr.units) (pv 4) (pe_lst pa_nil) (nomark _))
      (pss_one (ps_expr (pe_bm PySem.F.plainAttrs_list PySem.F.slot_list_append PySem.F.type_list_append mt_append (pv 8) (pa_cons
        (pe_bm PySem.F.plainAttrs_list PySem.F.slot_list_pop PySem.F.type_list_pop mt_popAt (pv 4) (pa_cons
          (pe_cal cD hr (pa_cons (pv 0) (pa_cons (pe_callB (call_min2 rfl) rfl g.min bt_min (pa_cons (pe_ix ix_list (pe_lst (pa_cons pe_int (pa_cons pe_int (pa_cons pe_int (pa_cons pe_int pa_nil))))) (pv 3) (fun _ _ => rfl)) (pa_cons (pe_len g.len (pv 4)) pa_nil))) pa_nil))) pa_nil)) pa_nil)))))
    (pss_one (ps_ret (pv 8)))))))), ?_⟩)
  · obtain ⟨s, n, most, rfl, _⟩ := h
    rfl
  · obtain ⟨a, n, most, rfl, hS, hn, h0, h8, q⟩ := h
    obtain ⟨oa, ha⟩ := hS.cell
    refine ⟨.ref a, rfl, _, rfl, _, _, rfl, rfl, a, n, _, rfl, hS, by omega, by omega, by omega, fun size H1 z0 z1 s1 S1 => ?_⟩
    refine ⟨.ref a, rfl, a, n + 1, _, rfl, S1, by omega, by decide, by decide, fun style H2 y0 y1 s2 S2 => ?_⟩
    refine ⟨Nat.zero_le _, fun o4 n4 => ⟨line_le (by simp), fun oT nT => ⟨oT, _, rfl, .of upd_same, rfl, _, _, rfl, _, _, rfl, _, _, rfl, _, _, rfl, rfl, ?_⟩⟩⟩
    have d4 : o4 ≠ a := ne_new (S2.cell).choose_spec n4
    have f4 : H o4 = none := hid_was s1 S1.cell.choose_spec (hid_was s2 S2.cell.choose_spec n4)
    have g4 : upd (upd H2 o4 (.lst [])) oT (.tup [.int size, .int style, .ref o4, .int 0]) o4 = some (.lst []) := same_upd nT _ _ upd_same
    have S3 : SrcAt (upd (upd H2 o4 (.lst [])) oT (.tup [.int size, .int style, .ref o4, .int 0])) a (n + 1 + 1) := (S2.mono (same_upd n4)).mono (same_upd nT)
    have s3 : Same (hid a H) (hid a (upd (upd H2 o4 (.lst [])) oT (.tup [.int size, .int style, .ref o4, .int 0]))) := s1.trans (s2.trans ((hid_new n4).trans (hid_new nT)))
    generalize upd (upd H2 o4 (.lst [])) oT (.tup [.int size, .int style, .ref o4, .int 0]) = G0 at g4 S3 s3 ⊢
    have e27 : CPowW 10 27 := powW_of (a := 4) (by decide) (by decide) (by decide) (by decide)
    refine ⟨10, 27, rfl, rfl, e27, 33, _, rfl, rfl, .inl (by decide), line_le (by simp), fun t1 nt1 => ⟨.ref a, rfl, a, n + 1 + 1, 3, rfl, S3.mono (same_upd nt1), by omega, by decide, by decide, fun r G1 r0 r1 s4 S4 => ?_⟩⟩
    obtain ⟨stp, hat, p1, p2⟩ : ∃ stp, atI [V.int 1, V.int 3, V.int (33 * 10 ^ (27 : Int).toNat)] r = some (.int stp) ∧ 1 ≤ stp ∧ stp ≤ 33000000000000000000000000000 := by
      have : r = 0 ∨ r = 1 ∨ r = 2 := by omega
      rcases this with rfl | rfl | rfl
      · exact ⟨1, rfl, by decide, by decide⟩
      · exact ⟨3, rfl, by decide, by decide⟩
      · exact ⟨33 * 10 ^ (27 : Int).toNat, rfl, by decide, by decide⟩
    have dt1 : t1 ≠ a := ne_new S3.cell.choose_spec nt1
    refine ⟨t1, _, r, _, rfl, rfl, .of (hid_keep s4 dt1 upd_same), hat, ?_⟩
    have s5 : Same (hid a H) (hid a G1) := s3.trans ((hid_new nt1).trans s4)
    have g5 : G1 o4 = some (.lst []) := hid_keep s4 d4 (same_upd nt1 _ _ g4)
    refine ⟨.int size, rfl, size, rfl, by omega, by omega, for_range (lo := 0) (n := size.toNat) (fun i σ G => ∃ (z : Int) (xs : List Int) (y7 : Option V), σ = [some (.ref a), some (.int most), some (.int size), some (.int style), some (.ref o4), some (.int z), some (.int stp), y7, none] ∧
      IL G o4 xs ∧ SrcAt G a (n + 3 + i) ∧ Same (hids [a, o4] H) (hids [a, o4] G) ∧ xs.length = i ∧ 0 ≤ z ∧ z ≤ i * 33000000000000000000000000000 ∧ xs.Pairwise (· < ·) ∧ ∀ x ∈ xs, 1 ≤ x ∧ x ≤ z)
      ⟨0, [], none, rfl, g5, S4.le (by omega), hids_of s5 (by simp), rfl, by omega, by omega, .nil, fun x hx => by simp at hx⟩ (fun i σ G hi h => ?_) (fun σ G h => ?_)⟩
    · obtain ⟨z, xs, y7, rfl, hx, hs, sG, lx, z0', z1', px, bx⟩ := h
      refine ⟨.int z, rfl, z, 1, rfl, rfl, .ref a, rfl, .int stp, rfl, a, n + 3 + i, stp, rfl, hs, by omega, by omega, by omega, fun d G2 d0 d1 sd Sd => ⟨_, d, rfl, rfl, ?_⟩⟩
      have hx2 : IL G2 o4 xs := hid_keep sd d4 hx
      refine ⟨.ref o4, rfl, .inl ⟨rfl, _, hx2.sq⟩, .int (z + 1 + d), rfl, o4, _, _, rfl, rfl, hx2, line_small (by rw [List.length_map]; omega), ?_⟩
      refine ⟨z + 1 + d, xs ++ [z + 1 + d], _, rfl, ?_, (Sd.put d4).le (by omega), ?_, by rw [List.length_append, lx]; rfl, by omega, by omega, ?_, fun x hx => ?_⟩
      · show upd G2 o4 _ o4 = _
        rw [upd_same, List.map_append]
        rfl
      · rw [hids_upd (by simp)]
        exact sG.trans (hids_of sd (by simp))
      · rw [List.pairwise_append]
        refine ⟨px, List.pairwise_singleton _ _, fun u hu v hv => ?_⟩
        rw [List.mem_singleton.mp hv]
        have := (bx u hu).2
        omega
      · rcases List.mem_append.mp hx with k | k
        · have := bx x k
          omega
        · rw [List.mem_singleton.mp k]
          omega
    · obtain ⟨z, xs, y7, rfl, hx, hs, sG, lx, z0', z1', px, bx⟩ := h
      have big0 : big = 1000000000000000000000000000000 := rfl
      have fx : Few xs := ⟨px.imp (fun h => by omega), fun x hx => ⟨(bx x hx).1, by have := (bx x hx).2; rw [big0]; omega⟩⟩
      dsimp only
      refine seq_mid (fun σ G => ∃ (xs : List Int), σ = [some (.ref a), some (.int most), some (.int size), some (.int style), some (.ref o4), some (.int z), some (.int stp), y7, none] ∧ IL G o4 xs ∧ Few xs ∧ xs.length = size.toNat ∧ SrcAt G a (n + 4 + size.toNat) ∧ Same (hids [a, o4] H) (hids [a, o4] G)) (fun σ G h => ?_) (fun R hR => ?_)
      · obtain ⟨xs, rfl, hx, fx, lx, hs, sG⟩ := h
        refine ⟨Nat.zero_le _, fun o8 n8 => ?_⟩
        have d8a : o8 ≠ a := ne_new hs.cell.choose_spec n8
        have d84 : o8 ≠ o4 := ne_new hx n8
        have f8 : H o8 = none := by
          cases e : H o8 with
          | none => rfl
          | some x =>
            have := sG o8 x (by rw [hids_ne (by simp [d8a, d84])]; exact e)
            rw [hids_ne (by simp [d8a, d84]), n8] at this
            cases this
        refine ⟨IvW H a o4 o8 n most size style stp, ⟨xs.length, xs, [], _, _, rfl, rfl, mo (same_upd n8) hx, upd_same, by rw [List.append_nil]; exact fx, by simp [lx], (hs.mono (same_upd n8)).le (by simp), ?_⟩, fun m σ G h => ?_⟩
        · refine (hids_sub sG (by simp)).trans (hids_mono (same_upd n8))
        · obtain ⟨xs, ys, y5, y7, rfl, rfl, hx, hy, fxy, lxy, hs, sG⟩ := h
          refine ⟨.ref o4, rfl, Nat.zero_le _, fun l nl => ⟨dI xs, .list [], dp_IL (mo (same_upd nl) hx), dp_nil upd_same, shp_I _, shp_nil, _, rfl, ?_⟩⟩
          rw [eqv_nilI]
          have sl := same_upd (o := .lst []) nl
          by_cases e : xs = []
          · rw [decide_eq_true e]
            subst e
            refine iteF ⟨.ref o8, rfl, q o8 _ ys f8 ?_ ((hs.mono sl).le ?_) (mo sl hy) ?_ ?_ ?_⟩
            · exact hid_back (l := [o4, o8]) (sG.trans (hids_mono sl)) (fun x hx => by
                rcases List.mem_cons.mp hx with e | e
                · exact e ▸ f4
                · exact (List.mem_singleton.mp e) ▸ f8)
            · rw [List.length_nil] at lxy
              omega
            · exact fxy.1
            · exact fxy.2
            · rw [List.length_nil] at lxy
              omega
          · rw [decide_eq_false e]
            have lpos : 0 < xs.length := List.length_pos_iff.mpr e
            refine iteT ⟨fun σ' G' => ∃ m', m' < xs.length ∧ IvW H a o4 o8 n most size style stp m' σ' G', fun _ _ h => h, ?_⟩
            have hx1 := mo sl hx
            have hy1 := mo sl hy
            have hs1 := hs.mono sl
            have sG1 := sG.trans (hids_mono (l := [a, o4, o8]) sl)
            generalize upd G l (.lst []) = G1 at hx1 hy1 hs1 sG1 ⊢
            refine ⟨.ref o8, rfl, .inl ⟨rfl, _, hy1.sq⟩, .ref o4, rfl, .inl ⟨rfl, _, hx1.sq⟩, .ref a, rfl, line_le (by simp), fun l2 nl2 => ?_⟩
            obtain ⟨lm, hat2, lm1, lm2⟩ : ∃ lm, atI [V.int 1, V.int 2, V.int 4, V.int 30] style = some (.int lm) ∧ 1 ≤ lm ∧ lm ≤ 30 := by
              have : style = 0 ∨ style = 1 ∨ style = 2 ∨ style = 3 := by omega
              rcases this with rfl | rfl | rfl | rfl
              · exact ⟨1, rfl, by decide, by decide⟩
              · exact ⟨2, rfl, by decide, by decide⟩
              · exact ⟨4, rfl, by decide, by decide⟩
              · exact ⟨30, rfl, by decide, by decide⟩
            have s2 := same_upd (o := .lst [.int 1, .int 2, .int 4, .int 30]) nl2
            refine ⟨.int style, rfl, l2, _, style, _, rfl, rfl, .of upd_same, hat2, .ref o4, rfl, o4, _, rfl, .inl (mo s2 hx1).sq, lm, _, rfl, a, _, _, rfl, hs1.mono s2, ?_, ?_, ?_, fun r G5 r0 r1 s5 S5 => ?_⟩
            · omega
            · rw [List.length_map]
              split <;> omega
            · rw [List.length_map]
              split <;> omega
            · have rl : r < (xs.length : Int) := by
                rw [List.length_map] at r1
                split at r1 <;> omega
              have hx5 : IL G5 o4 xs := hid_keep s5 d4 (mo s2 hx1)
              have hy5 : IL G5 o8 ys := hid_keep s5 d8a (mo s2 hy1)
              obtain ⟨k, hk1, hk2, hk3, _, _⟩ := atI_get (atI_nat (int_at (List.getElem?_eq_getElem (l := xs) (i := r.toNat) (by omega))))
              rw [Int.toNat_of_nonneg r0] at hk1
              obtain ⟨y, hy0, ey⟩ := int_get hk2
              refine ⟨o4, _, r, k, _, rfl, rfl, hx5, by omega, by omega, hk1, hk2, ?_⟩
              rw [map_erase]
              have hy6 : IL (upd G5 o4 (.lst ((xs.eraseIdx k).map V.int))) o8 ys := by
                show upd G5 o4 _ o8 = _
                rw [upd_ne d84]
                exact hy5
              refine ⟨o8, _, _, rfl, rfl, hy6, line_small (by rw [List.length_map]; omega), (xs.eraseIdx k).length, ?_, xs.eraseIdx k, ys ++ [y], _, _, rfl, rfl, ?_, ?_, ?_, ?_, ?_, ?_⟩
              · have := (erase_perm xs k y hy0).length_eq
                rw [List.length_cons] at this
                omega
              · show upd (upd G5 o4 _) o8 _ o4 = _
                rw [upd_ne d84.symm]
                exact upd_same
              · show upd (upd G5 o4 _) o8 _ o8 = _
                rw [upd_same, List.map_append, ey]
                rfl
              · have pm : (xs.eraseIdx k ++ (ys ++ [y])).Perm (xs ++ ys) := by
                  have p1 : (xs.eraseIdx k ++ (ys ++ [y])).Perm ((ys ++ [y]) ++ xs.eraseIdx k) := List.perm_append_comm
                  rw [List.append_assoc, List.singleton_append] at p1
                  exact p1.trans (((erase_perm xs k y hy0).append_left ys).trans List.perm_append_comm)
                exact ⟨pm.nodup_iff.mpr fxy.1, fun x hx => fxy.2 x (pm.mem_iff.mp hx)⟩
              · have := (erase_perm xs k y hy0).length_eq
                rw [List.length_cons] at this
                rw [List.length_append, List.length_singleton]
                omega
              · refine (((S5.put d4).put d8a)).le ?_
                rw [List.length_append, List.length_singleton]
                omega
              · rw [hids_upd (by simp), hids_upd (by simp)]
                exact sG1.trans ((hids_mono s2).trans (hids_of s5 (by simp)))
      · refine ⟨.ref o4, rfl, Nat.zero_le _, fun l nl => ⟨dI xs, .list [], dp_IL (mo (same_upd nl) hx), dp_nil upd_same, shp_I _, shp_nil, _, rfl, ?_⟩⟩
        rw [eqv_nilI]
        have sl := same_upd (o := .lst []) nl
        by_cases e : xs = []
        · rw [decide_eq_true e]
          exact iteF (iteF (hR _ _ ⟨xs, rfl, mo sl hx, fx, lx, (hs.mono sl).le (by omega), sG.trans (hids_mono sl)⟩))
        · rw [decide_eq_false e]
          refine iteT ⟨.ref a, rfl, a, _, 4, rfl, hs.mono sl, by omega, by decide, by decide, fun r G5 r0 r1 s5 S5 => ?_⟩
          have hx5 : IL G5 o4 xs := hid_keep s5 d4 (mo sl hx)
          have sG5 : Same (hids [a, o4] H) (hids [a, o4] G5) := sG.trans ((hids_mono sl).trans (hids_of s5 (by simp)))
          refine ⟨rfl, _, rfl, ite2 (fun e2 => ?_) (fun e2 => ?_)⟩
          · obtain ⟨ini, lst, rfl⟩ : ∃ ini lst, xs = ini ++ [lst] := ⟨_, _, (List.dropLast_concat_getLast e).symm⟩
            have e30 : CPowW 10 30 := powW_of (a := 4) (by decide) (by decide) (by decide) (by decide)
            have ix : ixN ((ini ++ [lst]).map V.int).length (-1) = some ini.length := by
              rw [List.length_map, List.length_append, List.length_singleton]
              unfold ixN
              rw [if_neg (by omega), if_pos (by omega)]
              congr 1
              omega
            have es : ((ini ++ [lst]).map V.int).set ini.length (.int (10 ^ (30 : Int).toNat)) = (ini ++ [big]).map V.int := by
              rw [List.map_append, List.map_append]
              have hl : ini.length = (ini.map V.int).length := by rw [List.length_map]
              rw [hl, List.set_append_right _ _ (Nat.le_refl _), Nat.sub_self]
              rfl
            refine ⟨10, 30, rfl, rfl, e30, .ref o4, rfl, 1, rfl, o4, _, -1, _, rfl, rfl, hx5, ix, ?_⟩
            rw [es]
            refine hR _ _ ⟨ini ++ [big], rfl, upd_same, ⟨?_, fun x hx => ?_⟩, by rw [← lx, List.length_append, List.length_append]; rfl, (S5.put d4).le (by omega), by rw [hids_upd (by simp)]; exact sG5⟩
            · have h1 := fx.1
              rw [List.nodup_append] at h1 ⊢
              refine ⟨h1.1, List.pairwise_singleton _ _, fun u hu v hv e => ?_⟩
              rw [List.mem_singleton.mp hv] at e
              have := (bx u (List.mem_append_left _ hu)).2
              rw [e, big0] at this
              omega
            · rcases List.mem_append.mp hx with k | k
              · exact fx.2 x (List.mem_append_left _ k)
              · rw [List.mem_singleton.mp k]
                exact ⟨by decide, Int.le_refl _⟩
          · exact hR _ _ ⟨xs, rfl, hx5, fx, lx, S5.le (by omega), sG5⟩
end
end W73


set_option Elab.async false
set_option linter.all false
set_option maxRecDepth 100000
set_option maxHeartbeats 4000000
namespace W73
open PySem PySem.Spec PyProof.Rows L2
section
variable {P : Program} {w : World} {K : PySem.W.Frag} {mg : Str → Option Value} {base : Heap}
abbrev cOrder (P : Program) (w : World) (K : PySem.W.Frag) (mg : Str → Option Value) (base : Heap) : Prop := Cal P w K mg base "_law_order" ["_law_source_here", "_law_most"] [] 2 spOrder
/-! ### _law_ids -/
theorem sc53 : FnScope ["_law_source_here", "_law_most"] ["_law_source_here", "_law_most"] (defScope (topS 53)) := ⟨rfl, rfl, rfl, by decide +kernel, rfl, by decide +kernel, by decide +kernel⟩
def spIds : Sp := fun vs H Q _ => ∃ (s : Addr) (n most : Int), vs = [.ref s, .int most] ∧ SrcAt H s n ∧ n ≤ 900000 ∧ 0 ≤ most ∧ most ≤ 8 ∧
  ∀ p H' ns, H p = none → Same (hid s H) (hid s H') → SrcAt H' s (n + 30) → IL H' p ns → ns.Pairwise (· < ·) → (∀ x ∈ ns, IdOk x) → (ns.length : Int) ≤ most → Q (.ref p) H'
theorem c_ids (g : Glob mg) (D : Df K mg "_law_ids" (topS 53) [] []) (cO : cOrder P w K mg base) : Cal P w K mg base "_law_ids" ["_law_source_here", "_law_most"] [] 3 spIds := by
  refine Cal.of D sc53 (fun _ _ _ _ _ _ us hl => match us, hl with | [_, _], _ => rfl) (fun vs H Q E h => ?_) (fun f cdv A outer s H vs Q E hr h => ⟨_, pss_one
    (ps_ret (pe_callB cr_sorted rfl g.sorted bt_sorted (pa_cons (pe_cal cO hr (pa_cons (pv 0) (pa_cons (pv 1) pa_nil))) pa_nil))), ?_⟩)
  · obtain ⟨s, n, most, rfl, _⟩ := h
    rfl
  · obtain ⟨a, n, most, rfl, hS, hn, h0, h8, q⟩ := h
    refine ⟨.ref a, rfl, _, rfl, a, n, most, rfl, hS, hn, h0, h8, fun p H1 ns np s1 S1 hI nd hid2 hl => ?_⟩
    refine ⟨p, ns, rfl, hI.sq, by omega, fun S o hp hle no => ?_⟩
    refine q o _ S (hid_was s1 S1.cell.choose_spec no) (s1.trans (hid_new no)) (S1.mono (same_upd no)) upd_same (M73.asc_of_le hle (hp.nodup_iff.mpr nd)) (fun x hx => hid2 x (hp.mem_iff.mp hx)) (by rw [hp.length_eq]; exact hl)
/-! ### _law_counted -/
theorem sc55 : FnScope ["_law_log_here", "_law_found", "_law_cursor", "_law_rows"] ["_law_log_here"] (defScope (topS 55)) := ⟨rfl, rfl, rfl, by decide +kernel, rfl, by decide +kernel, by decide +kernel⟩
def spCounted : Sp := fun vs H Q _ => ∃ (a : Addr) (log : List (List Int)), vs = [.ref a] ∧ LL H a log ∧ log.length ≤ 1000 ∧ (∀ r ∈ log, r.length ≤ 1000) ∧ ∀ H' p, Same H H' → H p = none → CL H' p (M73.countedFrom 0 log) → Q (.ref p) H'
theorem c_counted (g : Glob mg) (D : Df K mg "_law_counted" (topS 55) [] []) : Cal P w K mg base "_law_counted" ["_law_log_here"] [] 1 spCounted := by
  refine Cal.of D sc55 (fun _ _ _ _ _ _ us hl => match us, hl with | [_], _ => rfl) (fun vs H Q E h => ?_) (fun f cdv A outer s H vs Q E hr h => ⟨_, pss_cons
    (ps_par (i := 1) (j := 2) rfl sc55.nd rfl rfl (by decide) rfl rfl (pa_cons (pe_lst pa_nil) (pa_cons pe_int pa_nil)) rfl)
    (pss_cons (ps_for PassesOwn.never rfl (pi_list (pv 0)) (pg_name (i := 3) sc55.nd rfl (.inl rfl))
      (pss_cons (ps_set (i := 2) sc55.nd rfl (.inl rfl) (pe_callB (cr_max rfl) rfl g.max bt_max (pa_cons (pe_op op_cat (pe_lst (pa_cons (pv 2) pa_nil)) (pv 3)) pa_nil)))
      (pss_one (ps_expr (pe_bm PySem.F.plainAttrs_list PySem.F.slot_list_append PySem.F.type_list_append mt_append (pv 1) (pa_cons (pe_tup (pa_cons (pe_len g.len (pv 3)) (pa_cons (pv 2) pa_nil))) pa_nil))))))
    (pss_one (ps_ret (pv 1)))), ?_⟩)
  · obtain ⟨a, log, rfl, _⟩ := h
    rfl
  · obtain ⟨a, log, rfl, ⟨as, hA, hL⟩, ll, lr, q⟩ := h
    refine ⟨Nat.zero_le _, fun o1 n1 => ⟨_, _, rfl, ?_⟩⟩
    refine ⟨.ref a, rfl, a, rfl, ⟨_, .of (same_upd n1 _ _ hA)⟩, for_list (K := K) (a := a) (xs := as.map V.ref)
      (fun i σ G => ∃ (cur : Int) (y3 : Option V), σ = [some (.ref a), some (.ref o1), some (.int cur), y3] ∧ PvA (fun i acc G => ∃ ts dn, acc = ts.map V.ref ∧ All2 (P2 G) ts dn ∧ M73.countedFrom 0 log = dn ++ M73.countedFrom cur (log.drop i)) H o1 i G)
      ⟨0, none, rfl, PvA.start n1 ⟨[], [], rfl, All2.nil, rfl⟩⟩ (fun i σ G _ ⟨_, _, _, h⟩ => .of (h.same _ _ hA)) (fun i x σ G hx h => ?_) (fun σ G h => ?_)⟩
    · obtain ⟨cur, y3, rfl, h⟩ := h
      have sG := h.same
      obtain ⟨acc, hO, hle, sm, ts, dn, rfl, hts, hdn⟩ := h
      obtain ⟨t, ht, rfl⟩ := ref_get hx
      obtain ⟨rows, hrows, rr⟩ := hL.get ht
      have li := (List.getElem?_eq_some_iff.mp hrows).1
      have lrow := lr rows (List.mem_of_getElem? hrows)
      have rG : IL G t rows := mo sG rr
      rw [drop_cons hrows] at hdn
      refine ⟨.int cur, rfl, line_le (by simp), fun o5 n5 => ⟨.ref t, rfl, o5, t, _, _, rfl, rfl, upd_same, mo (same_upd n5) rG, line_le (by rw [List.length_map, List.length_singleton]; omega), fun o6 n6 => ⟨o6, cur :: rows, rfl, .of upd_same, Nat.succ_pos _, fun mx hm1 hm2 => ?_⟩⟩⟩
      have emx := M73.maxL_of hm1 hm2
      have s6 : Same G (upd (upd G o5 (.lst [.int cur])) o6 (.lst ([.int cur] ++ rows.map V.int))) := (same_upd n5).trans (same_upd n6)
      generalize upd (upd G o5 (.lst [.int cur])) o6 (.lst ([.int cur] ++ rows.map V.int)) = G1 at s6 ⊢
      refine ⟨.ref o1, rfl, .inl ⟨rfl, _, .of (s6 _ _ hO)⟩, .ref t, rfl, t, _, rfl, .inl (mo s6 rG).sq, .int mx, rfl, line_le (by simp), fun oP nP => ?_⟩
      rw [List.length_map]
      have hO2 := same_upd (o := .tup [.int rows.length, .int mx]) nP _ _ (s6 _ _ hO)
      have dP : oP ≠ o1 := ne_new (s6 _ _ hO) nP
      refine ⟨o1, _, _, rfl, rfl, hO2, line_small (by omega), mx, _, rfl, ?_⟩
      have sm2 : Same (hid o1 G) (hid o1 (upd G1 oP (.tup [.int rows.length, .int mx]))) := hid_mono (s6.trans (same_upd nP))
      refine PvA.put hO2 hle (sm.trans sm2) ⟨ts ++ [oP], dn ++ [((rows.length : Int), mx)], by rw [List.map_append]; rfl, (hts.mono fun _ _ r => mo sm2 r).snoc ?_, ?_⟩
      · show hid o1 _ oP = _
        rw [hid_ne dP]
        exact upd_same
      · rw [hdn, List.append_assoc, M73.countedFrom, emx]
        rfl
    · obtain ⟨cur, y3, rfl, h⟩ := h
      have sG := h.same
      obtain ⟨acc, hO, hle, sm, ts, dn, rfl, hts, hdn⟩ := h
      rw [List.drop_eq_nil_of_le (by rw [List.length_map, hL.1]; exact Nat.le_refl _)] at hdn
      refine ⟨.ref o1, rfl, q G o1 sG n1 ⟨ts, hO, ?_⟩⟩
      rw [hdn]
      show All2 _ _ (dn ++ [])
      rw [List.append_nil]
      exact hts.mono fun _ _ r => mo hid_same r
end
end W73


set_option Elab.async false
set_option linter.all false
set_option maxRecDepth 100000
set_option maxHeartbeats 4000000
namespace W73
open PySem PySem.Spec PyProof.Rows L2
/-- [x for x in objects if ..] -/
theorem lc_objs {β : Type} {R : Hp → Addr → β → Prop} [Mono R] {K : PySem.W.Frag} {a : Addr} {bs : List β} {g : TG} {tt : TT} {te : TE} {vs : List Nat} {σ : L2.St} {H1 : Hp} {D : Addr} {Qd : Hp → Prop} (p : β → Bool) (hI : RL R H1 a bs) (hD : H1 D = none) (hl : bs.length ≤ 1000000)
    (hs : ∀ (t : Addr) (b : β) (H : Hp) (A : V → Hp → Prop) (B : Hp → Prop), b ∈ bs → R H1 t b → Same H1 H → (p b = true → ∀ H', Same H H' → A (.ref t) H') → (p b = false → ∀ H', Same H H' → B H') →
      g (.ref t) (wipe σ vs) H fun σ2 H2 => wipe σ2 vs = wipe σ vs ∧ tt σ2 H2 fun b H3 => if b = true then te σ2 H3 A else B H3)
    (hd : ∀ H ts, Same H1 (hid D H) → H D = some (.lst (ts.map V.ref)) → All2 (R H1) ts (bs.filter p) → Qd H) :
    ∃ W : Nat → Nat → Hp → Prop, (∃ m, W 0 m (upd H1 D (.lst []))) ∧ ∀ i m H, W i m H →
      ((Itl K a).stop i H ∧ Qd H) ∨ ((Itl K a).go i H ∧ ∃ Nx : Hp → Prop, (∀ H', Nx H' → ∃ m', m' < m ∧ W (i + 1) m' H') ∧ ∀ x H', (Itl K a).yld i H x H' → g x (wipe σ vs) H' fun σ2 H2 => wipe σ2 vs = wipe σ vs ∧ tt σ2 H2 fun b H3 =>
        if b = true then te σ2 H3 fun y H4 => ∃ acc, H4 D = some (.lst acc) ∧ acc.length < sizeLine ∧ Nx (upd H4 D (.lst (acc ++ [y]))) else Nx H3) := by
  obtain ⟨as, hA, hB⟩ := hI
  refine lc_list (K := K) (a := a) (xs := as.map V.ref) (PvA (fun i acc _ => ∃ ts, acc = ts.map V.ref ∧ All2 (R H1) ts ((bs.take i).filter p)) H1 D) (PvA.start hD ⟨[], rfl, All2.nil⟩) (fun i H _ h => .of (h.same _ _ hA)) (fun i x H2 hx h => ?_) (fun H2 h => ?_)
  · have sH := h.same
    obtain ⟨acc, hD2, hle, sm, ts, rfl, hts⟩ := h
    obtain ⟨t, ht, rfl⟩ := ref_get hx
    obtain ⟨b, hb, rb⟩ := hB.get ht
    have hi := (List.getElem?_eq_some_iff.mp hb).1
    have et : bs.take (i + 1) = bs.take i ++ [b] := by rw [List.take_add_one, hb]; rfl
    refine hs t b H2 _ _ (List.mem_of_getElem? hb) rb sH (fun e H' s' => PvA.snoc (by omega) (s' _ _ hD2) hle (sm.trans (hid_mono s')) ⟨ts ++ [t], by rw [List.map_append]; rfl, ?_⟩) (fun e H' s' => PvA.skip (s' _ _ hD2) hle (sm.trans (hid_mono s')) ⟨ts, rfl, ?_⟩)
    · rw [et, List.filter_append, List.filter_cons, if_pos e]
      exact hts.snoc rb
    · rw [et, List.filter_append, List.filter_cons, if_neg (by rw [e]; exact Bool.false_ne_true), List.filter_nil, List.append_nil]
      exact hts
  · obtain ⟨acc, hD2, hle, sm, ts, rfl, hts⟩ := h
    rw [List.take_of_length_le (by rw [List.length_map, hB.1]; exact Nat.le_refl _)] at hts
    exact hd H2 ts sm hD2 hts
/-- [x for x in ints if ..], where the test makes objects -/
theorem lc_ints {K : PySem.W.Frag} {a : Addr} {ns : List Int} {g : TG} {tt : TT} {te : TE} {vs : List Nat} {σ : L2.St} {H1 : Hp} {D : Addr} {Qd : Hp → Prop} (p : Int → Bool) (hI : IL H1 a ns) (hD : H1 D = none) (hl : ns.length ≤ 1000000)
    (hs : ∀ (n : Int) (H : Hp) (A : V → Hp → Prop) (B : Hp → Prop), n ∈ ns → Same H1 H → (p n = true → ∀ H', Same H H' → A (.int n) H') → (p n = false → ∀ H', Same H H' → B H') →
      g (.int n) (wipe σ vs) H fun σ2 H2 => wipe σ2 vs = wipe σ vs ∧ tt σ2 H2 fun b H3 => if b = true then te σ2 H3 A else B H3)
    (hd : ∀ H, Same H1 (hid D H) → IL H D (ns.filter p) → Qd H) :
    ∃ W : Nat → Nat → Hp → Prop, (∃ m, W 0 m (upd H1 D (.lst []))) ∧ ∀ i m H, W i m H →
      ((Itl K a).stop i H ∧ Qd H) ∨ ((Itl K a).go i H ∧ ∃ Nx : Hp → Prop, (∀ H', Nx H' → ∃ m', m' < m ∧ W (i + 1) m' H') ∧ ∀ x H', (Itl K a).yld i H x H' → g x (wipe σ vs) H' fun σ2 H2 => wipe σ2 vs = wipe σ vs ∧ tt σ2 H2 fun b H3 =>
        if b = true then te σ2 H3 fun y H4 => ∃ acc, H4 D = some (.lst acc) ∧ acc.length < sizeLine ∧ Nx (upd H4 D (.lst (acc ++ [y]))) else Nx H3) := by
  refine lc_list (K := K) (a := a) (xs := ns.map V.int) (PvA (fun i acc _ => acc = ((ns.take i).filter p).map V.int) H1 D) (PvA.start hD rfl) (fun i H _ h => (mo h.same hI).sq) (fun i x H2 hx h => ?_) (fun H2 h => ?_)
  · have sH := h.same
    obtain ⟨acc, hD2, hle, sm, rfl⟩ := h
    obtain ⟨n, hn, rfl⟩ := int_get hx
    have hi := (List.getElem?_eq_some_iff.mp hn).1
    have et : ns.take (i + 1) = ns.take i ++ [n] := by rw [List.take_add_one, hn]; rfl
    refine hs n H2 _ _ (List.mem_of_getElem? hn) sH (fun e H' s' => PvA.snoc (by omega) (s' _ _ hD2) hle (sm.trans (hid_mono s')) ?_) (fun e H' s' => PvA.skip (s' _ _ hD2) hle (sm.trans (hid_mono s')) ?_)
    · rw [et, List.filter_append, List.map_append, List.filter_cons, if_pos e]
      rfl
    · rw [et, List.filter_append, List.filter_cons, if_neg (by rw [e]; exact Bool.false_ne_true), List.filter_nil, List.append_nil]
  · obtain ⟨acc, hD2, hle, sm, rfl⟩ := h
    rw [List.length_map, List.take_length] at hD2
    exact hd H2 sm hD2
section
variable {X : Cx} {K : PySem.W.Frag}
theorem op_inK (h : X.K = K := by rfl) : OpR X (compareOp .In) (rIn K false) := h ▸ op_in_seq
theorem op_neDK (hu : X.A.units + 64 < cLine) (h : X.K = K := by rfl) : OpR X (compareOp .NotEq) (rNeD K) := h ▸ op_neD hu
theorem op_eqDK (hu : X.A.units + 64 < cLine) (h : X.K = K := by rfl) : OpR X (compareOp .Eq) (rEqD K) := h ▸ op_eqD hu
theorem ix_listK (h : X.K = K := by rfl) : IxR X (rIxL K) := h ▸ ix_list
theorem ix_tupK (h : X.K = K := by rfl) : IxR X (rIxT K) := h ▸ ix_tup
end
theorem inV_ints {x : Int} {ns : List Int} : inV (.int x) (ns.map V.int) = decide (x ∈ ns) := by
  induction ns with
  | nil => rfl
  | cons n ns ih =>
    unfold inV at ih ⊢
    rw [List.map_cons, List.any_cons, ih]
    have e : eqV (.int n) (.int x) = decide (n = x) := by
      first | rfl | simp [eqV]
    rw [e]
    by_cases h : n = x
    · simp [h]
    · have h' : ¬ x = n := fun z => h z.symm
      simp [h, h']
theorem flat_ints {ns : List Int} : (ns.map V.int).all flatV = true := by
  rw [List.all_eq_true]
  intro y hy
  obtain ⟨n, _, rfl⟩ := List.mem_map.mp hy
  rfl
section
variable {P : Program} {w : World} {K : PySem.W.Frag} {mg : Str → Option Value} {base : Heap}
/-! ### _law_state -/
theorem sc60 : FnScope ["_law_log_here", "_law_cursor", "_law_row", "_law_rows"] ["_law_log_here", "_law_cursor", "_law_row"] (defScope (topS 60)) := ⟨rfl, rfl, rfl, by decide +kernel, rfl, by decide +kernel, by decide +kernel⟩
def spLState : Sp := fun vs H Q _ => ∃ (a : Addr) (cur x : Int) (log : List (List Int)), vs = [.ref a, .int cur, .int x] ∧ LL H a log ∧ log.length ≤ 1000 ∧ ∀ H', Same H H' → Q (.str (s4 (M73.lawState log cur x))) H'
theorem c_lstate (D : Df K mg "_law_state" (topS 60) [] []) : Cal P w K mg base "_law_state" ["_law_log_here", "_law_cursor", "_law_row"] [] 1 spLState := by
  refine Cal.of D sc60 (fun _ _ _ _ _ _ us hl => match us, hl with | [_, _, _], _ => rfl) (fun vs H Q E h => ?_) (fun f cdv A outer s H vs Q E hr h => ⟨_, pss_cons
    (ps_if (pt_cmpR (op_neD hr.units) (pe_lc (own := [("_law_rows", 3)]) (g := gName 3) rfl sc60.nd (pi_list (pv 0)) (blkOk_by (N := ["_law_log_here", "_law_cursor", "_law_row", "_law_rows"]) (sc := defScope (topS 60)) (by decide +kernel))
        (fun _ _ _ _ _ => pg_name (i := 3) sc60.nd rfl (.inl rfl)) (fun _ _ _ _ _ => pts_one (pt_cmpR (op_inK (K := K)) (pv 2) (pv 3) rfl)) (fun _ _ _ _ _ => pv 3)) (pe_lst pa_nil) (nomark _)) (pss_one (ps_ret pe_str)) pss_nil)
    (pss_one (ps_ret (pe_ifExp (pt_cmpR op_lt (pv 2) (pv 1) (nomark _)) pe_str pe_str))), ?_⟩)
  · obtain ⟨a, cur, x, log, rfl, _⟩ := h
    rfl
  · obtain ⟨a, cur, x, log, rfl, hL, hl, q⟩ := h
    refine ⟨.ref a, rfl, a, rfl, ⟨_, .of hL.choose_spec.1⟩, fun D hD => lc_objs (K := K) (R := IL) (a := a) (fun rows => decide (x ∈ rows)) hL hD (by omega) (fun t rows H3 A B hm rt s3 hA hB => ?_) (fun H3 ts s3 hF hts => ?_)⟩
    · refine ⟨rfl, .int x, rfl, .ref t, rfl, t, _, rfl, .inl (mo s3 rt).sq, rfl, flat_ints, _, rfl, ?_⟩
      show if inV _ _ = true then _ else _
      rw [inV_ints]
      exact ite2 (fun e => ⟨.ref t, rfl, hA e H3 (Same.refl _)⟩) (fun e => hB (bf e) H3 (Same.refl _))
    · have s4' : Same H H3 := s3.trans hid_same
      refine ⟨Nat.zero_le _, fun l nl => ?_⟩
      have sl := same_upd (o := .lst []) nl
      refine ⟨dL (log.filter fun rows => decide (x ∈ rows)), .list [], dp_LL ⟨ts, sl _ _ hF, hts.mono fun _ _ r => mo (s4'.trans sl) r⟩, dp_nil upd_same, shp_L _, shp_nil, _, rfl, ?_⟩
      rw [eqv_nilL]
      have ef : (log.filter fun rows => decide (x ∈ rows)) = [] ↔ x ∉ log.flatten := by
        rw [List.filter_eq_nil_iff, List.mem_flatten]
        constructor
        · rintro h ⟨l, hl, hx⟩
          exact h l hl (decide_eq_true hx)
        · intro h l hl hx
          exact h ⟨l, hl, of_decide_eq_true hx⟩
      by_cases e : x ∈ log.flatten
      · rw [decide_eq_false (fun z => ef.mp z e)]
        have := q (upd H3 l (.lst [])) (s4'.trans sl)
        rw [M73.lawState, if_pos e] at this
        exact iteT this
      · rw [decide_eq_true (ef.mpr e)]
        have := q (upd H3 l (.lst [])) (s4'.trans sl)
        rw [M73.lawState, if_neg e] at this
        refine iteF ⟨.int x, rfl, .int cur, rfl, _, _, rfl, rfl, _, rfl, ite2 (fun e2 => ?_) (fun e2 => ?_)⟩
        · rw [if_pos (of_decide_eq_true e2)] at this
          exact this
        · rw [if_neg (fun z => e2 (decide_eq_true z))] at this
          exact this
end
end W73


set_option Elab.async false
set_option linter.all false
set_option maxRecDepth 100000
set_option maxHeartbeats 4000000
namespace W73
open PySem PySem.Spec PyProof.Rows L2
/-! ### the plain part -/
theorem flat_ne : ∀ {l : List (List Int)} {i : Nat} {r : List Int}, l[i]? = some r → r ≠ [] → l.flatten ≠ [] := by
  intro l i r h hr e
  obtain ⟨x, xs, rfl⟩ : ∃ x xs, r = x :: xs := by
    cases r with
    | nil => exact absurd rfl hr
    | cons x xs => exact ⟨x, xs, rfl⟩
  have : x ∈ l.flatten := List.mem_flatten.mpr ⟨_, List.mem_of_getElem? h, List.mem_cons_self ..⟩
  rw [e] at this
  simp at this
theorem lastP_ub : ∀ {l : List (List Int)} {i : Nat} {r : List Int}, l[i]? = some r → r ≠ [] → i ≤ M73.lastP l
  | [], i, r, h, _ => by simp at h
  | _ :: l, 0, r, h, hr => Nat.zero_le _
  | _ :: l, i + 1, r, h, hr => by
    have h' : l[i]? = some r := by simpa using h
    have := lastP_ub h' hr
    rw [M73.lastP, if_neg (flat_ne h' hr)]
    omega
theorem lastP_in : ∀ {l : List (List Int)}, l.flatten ≠ [] → ∃ r, l[M73.lastP l]? = some r ∧ r ≠ []
  | [], h => absurd rfl h
  | r :: l, h => by
    rw [M73.lastP]
    by_cases e : l.flatten = []
    · rw [if_pos e]
      refine ⟨r, rfl, fun z => h ?_⟩
      rw [List.flatten_cons, e, z]
      rfl
    · rw [if_neg e]
      obtain ⟨r', h1, h2⟩ := lastP_in e
      exact ⟨r', by simpa using h1, h2⟩
theorem lastP_lt {l : List (List Int)} (h : 0 < l.length) : M73.lastP l < l.length := by
  by_cases e : l.flatten = []
  · rw [M73.lastP_zero e]
    exact h
  · obtain ⟨r, h1, _⟩ := lastP_in e
    exact (List.getElem?_eq_some_iff.mp h1).1
/-- the places with an id -/
def spotsOf (l : List (List Int)) (n : Nat) : List Int := ((List.range n).filter fun i => decide (l[i]? ≠ some [])).map fun (i : Nat) => (i : Int)
theorem last_of {l : List (List Int)} {m : Int} (h1 : m ∈ 0 :: spotsOf l l.length) (h2 : ∀ y ∈ 0 :: spotsOf l l.length, y ≤ m) : m = (M73.lastP l : Int) := by
  have a : (M73.lastP l : Int) ≤ m := by
    by_cases e : l.flatten = []
    · rw [M73.lastP_zero e]
      exact h2 0 (List.mem_cons_self ..)
    · obtain ⟨r, k1, k2⟩ := lastP_in e
      refine h2 _ (List.mem_cons_of_mem _ (List.mem_map.mpr ⟨M73.lastP l, List.mem_filter.mpr ⟨List.mem_range.mpr (List.getElem?_eq_some_iff.mp k1).1, ?_⟩, rfl⟩))
      rw [k1]
      exact decide_eq_true fun z => k2 (Option.some.inj z)
  rcases List.mem_cons.mp h1 with e | e
  · omega
  · obtain ⟨i, hi, rfl⟩ := List.mem_map.mp e
    obtain ⟨k1, k2⟩ := List.mem_filter.mp hi
    have lt := List.mem_range.mp k1
    have e2 := List.getElem?_eq_getElem lt
    have ne := of_decide_eq_true k2
    rw [e2] at ne
    have := lastP_ub e2 (fun z => ne (by rw [z]))
    omega
theorem addAt_get (x : Int) : ∀ (l : List (List Int)) (p i : Nat), (M73.addAt l p x)[i]? = (l[i]?).map fun r => if i = p then r ++ [x] else r
  | [], p, i => by simp [M73.addAt]
  | r :: l, 0, 0 => by simp [M73.addAt]
  | r :: l, 0, i + 1 => by
    simp only [M73.addAt, List.getElem?_cons_succ]
    cases l[i]? with
    | none => rfl
    | some r => simp
  | r :: l, p + 1, 0 => by simp [M73.addAt]
  | r :: l, p + 1, i + 1 => by
    simp only [M73.addAt, List.getElem?_cons_succ, Nat.add_right_cancel_iff]
    exact addAt_get x l p i
theorem allLogs_snoc (polls : Nat) (ids : List Int) (x : Int) : M73.allLogs polls (ids ++ [x]) = (M73.allLogs polls ids).flatMap (M73.stepL polls x) := by
  unfold M73.allLogs
  rw [List.foldl_append]
  rfl
theorem stepL_len (polls : Nat) (x : Int) (l : List (List Int)) : (M73.stepL polls x l).length = polls - M73.lastP l + 1 := by
  unfold M73.stepL
  rw [List.length_cons, List.length_map, List.length_range']
end W73


set_option Elab.async false
set_option linter.all false
set_option maxRecDepth 100000
set_option maxHeartbeats 4000000
namespace W73
open PySem PySem.Spec PyProof.Rows L2
theorem dif_mono {H G G' : Hp} (s : Same G G') : Same (dif H G) (dif H G') := fun b x e => by
  cases h : H b with
  | none =>
    rw [dif_at h] at e ⊢
    exact s b x e
  | some o =>
    rw [dif_old h] at e
    cases e
theorem dif_hidc {H G : Hp} {o : Addr} : dif H (hid o G) = hid o (dif H G) := by
  funext b
  cases h : H b with
  | none =>
    rw [dif_at h]
    by_cases e : b = o
    · rw [e, hid_at, hid_at]
    · rw [hid_ne e, hid_ne e, dif_at h]
  | some x =>
    rw [dif_old h]
    by_cases e : b = o
    · rw [e, hid_at]
    · rw [hid_ne e, dif_old h]
theorem dif_put {H G : Hp} {o : Addr} {x : HO} : hid o (dif H (upd G o x)) = hid o (dif H G) := by
  rw [← dif_hidc, hid_upd, dif_hidc]
theorem dif_hm {H G G' : Hp} {o : Addr} (s : Same G G') : Same (hid o (dif H G)) (hid o (dif H G')) := hid_mono (dif_mono s)
theorem dif_hh {H G G' : Hp} {o : Addr} (s : Same G (hid o G')) : Same (dif H G) (hid o (dif H G')) := by
  rw [← dif_hidc]
  exact dif_mono s
/-- a growing list of logs at o, all of them new -/
def Gv (H Hb : Hp) (o : Addr) (ls : List (List (List Int))) (G : Hp) : Prop := ∃ ts : List Addr, G o = some (.lst (ts.map V.ref)) ∧ Same Hb (hid o G) ∧ All2 (LL (hid o (dif H G))) ts ls
theorem Gv.put {H Hb G G' : Hp} {o t : Addr} {ls : List (List (List Int))} {l : List (List Int)} (h : Gv H Hb o ls G) (s : Same G G') (r : LL (hid o (dif H G')) t l) : ∃ acc, G' o = some (.lst acc) ∧ acc.length = ls.length ∧ Gv H Hb o (ls ++ [l]) (upd G' o (.lst (acc ++ [.ref t]))) := by
  obtain ⟨ts, h1, h2, h3⟩ := h
  refine ⟨_, s _ _ h1, by rw [List.length_map, h3.1], ts ++ [t], ?_, ?_, ?_⟩
  · rw [upd_same, List.map_append]
    rfl
  · rw [hid_upd]
    exact h2.trans (hid_mono s)
  · rw [dif_put]
    exact (h3.mono fun _ _ r => mo (dif_hm s) r).snoc r
theorem Gv.same {H Hb G : Hp} {o : Addr} {ls : List (List (List Int))} (h : Gv H Hb o ls G) : Same Hb G := by
  obtain ⟨ts, h1, h2, h3⟩ := h
  exact h2.trans hid_same
theorem Gv.obj {H Hb G : Hp} {o : Addr} {ls : List (List (List Int))} (h : Gv H Hb o ls G) : ∃ x, G o = some x := by
  obtain ⟨ts, h1, h2, h3⟩ := h
  exact ⟨_, h1⟩
section
variable {P : Program} {w : World} {K : PySem.W.Frag} {mg : Str → Option Value} {base : Heap}
abbrev N59 : List Str := ["_law_ids_here", "_law_polls", "_law_found", "_law_row", "_law_longer", "_law_log_here", "_law_last", "_law_poll", "_law_spot"]
theorem sc59 : FnScope N59 ["_law_ids_here", "_law_polls"] (defScope (topS 59)) := ⟨rfl, rfl, rfl, by decide +kernel, rfl, by decide +kernel, by decide +kernel⟩
def spAll : Sp := fun vs H Q _ => ∃ (a : Addr) (ids : List Int) (m : Nat), vs = [.ref a, .int m] ∧ IL H a ids ∧ ids.length ≤ 7 ∧ m ≤ 3 ∧ ∀ H' p, Same H H' → H p = none → GL (dif H H') p (M73.allLogs m ids) → Q (.ref p) H'
theorem pow_le7 {m k : Nat} (h : m ≤ 3) (h2 : k ≤ 7) : (m + 1) ^ k ≤ 16384 := by
  have h1 : (m + 1) ^ k ≤ 4 ^ k := Nat.pow_le_pow_left (by omega) k
  have h3 : 4 ^ k ≤ 4 ^ 7 := Nat.pow_le_pow_right (by omega) h2
  have : (4 : Nat) ^ 7 = 16384 := by decide
  omega
theorem c_all (g : Glob mg) (D : Df K mg "_law_all_logs" (topS 59) [] []) : Cal P w K mg base "_law_all_logs" ["_law_ids_here", "_law_polls"] [] 1 spAll := by
  refine Cal.of D sc59 (fun _ _ _ _ _ _ us hl => match us, hl with | [_, _], _ => rfl) (fun vs H Q E h => ?_) (fun f cdv A outer s H vs Q E hr h => ⟨_, pss_cons
    (ps_set (i := 2) sc59.nd rfl (.inl rfl) (pe_lst (pa_cons (pe_lc (own := [("_law_poll", 7)]) (g := gName 7) rfl sc59.nd (pi_range1 rfl g.range (pa_cons (pv 1) pa_nil)) (blkOk_by (N := N59) (sc := defScope (topS 59)) (by decide +kernel))
      (fun _ _ _ _ _ => pg_name (i := 7) sc59.nd rfl (.inl rfl)) (fun _ _ _ _ _ => pts_nil) (fun _ _ _ _ _ => pe_lst pa_nil)) pa_nil)))
    (pss_cons (ps_for PassesOwn.never rfl (pi_list (pv 0)) (pg_name (i := 3) sc59.nd rfl (.inr rfl))
      (pss_cons (ps_set (i := 4) sc59.nd rfl (.inl rfl) (pe_lst pa_nil))
      (pss_cons (ps_for PassesOwn.never rfl (pi_list (pv 2)) (pg_name (i := 5) sc59.nd rfl (.inr rfl))
        (pss_cons (ps_set (i := 6) sc59.nd rfl (.inl rfl) (pe_callB (cr_max rfl) rfl g.max bt_max (pa_cons (pe_op op_cat (pe_lst (pa_cons pe_int pa_nil))
          (pe_lc (own := [("_law_poll", 7)]) (g := gName 7) rfl sc59.nd (pi_range1 rfl g.range (pa_cons (pv 1) pa_nil)) (blkOk_by (N := N59) (sc := defScope (topS 59)) (by decide +kernel))
            (fun _ _ _ _ _ => pg_name (i := 7) sc59.nd rfl (.inl rfl)) (fun _ _ _ _ _ => pts_one (pt_cmpR (op_neDK (K := K) hr.units) (pe_ix (ix_listK (K := K)) (pv 5) (pv 7) (fun _ _ => rfl)) (pe_lst pa_nil) (nomark _))) (fun _ _ _ _ _ => pv 7))) pa_nil)))
        (pss_cons (ps_expr (pe_bm PySem.F.plainAttrs_list PySem.F.slot_list_append PySem.F.type_list_append mt_append (pv 4) (pa_cons (pv 5) pa_nil)))
        (pss_one (ps_for PassesOwn.never rfl (pi_range2 rfl g.range (pa_cons (pv 6) (pa_cons (pv 1) pa_nil))) (pg_name (i := 7) sc59.nd rfl (.inr rfl))
          (pss_one (ps_expr (pe_bm PySem.F.plainAttrs_list PySem.F.slot_list_append PySem.F.type_list_append mt_append (pv 4) (pa_cons
            (pe_lc (own := [("_law_spot", 8)]) (g := gName 8) rfl sc59.nd (pi_range1 rfl g.range (pa_cons (pv 1) pa_nil)) (blkOk_by (N := N59) (sc := defScope (topS 59)) (by decide +kernel))
              (fun _ _ _ _ _ => pg_name (i := 8) sc59.nd rfl (.inl rfl)) (fun _ _ _ _ _ => pts_nil)
              (fun _ _ _ _ _ => pe_op op_cat (pe_ix (ix_listK (K := K)) (pv 5) (pv 8) (fun _ _ => rfl)) (pe_op op_rep (pe_lst (pa_cons (pv 3) pa_nil)) (pe_callTy call_int1 rfl g.int bt_int (pa_cons (pe_cmpR op_eq (pv 8) (pv 7) (nomark _)) pa_nil))))) pa_nil)))))))))
      (pss_one (ps_set (i := 2) sc59.nd rfl (.inl rfl) (pv 4))))))
    (pss_one (ps_ret (pv 2)))), ?_⟩)
  · obtain ⟨a, ids, m, rfl, _⟩ := h
    rfl
  · obtain ⟨a, ids, m, rfl, hI, li, hm, q⟩ := h
    refine ⟨.int m, rfl, (m : Int), rfl, by omega, by omega, fun D nD => lc_range (lo := 0) (n := (m : Int).toNat)
      (fun i G => ∃ ts : List Addr, G D = some (.lst (ts.map V.ref)) ∧ ts.length = i ∧ Same H (hid D G) ∧ All2 (IL (hid D (dif H G))) ts (List.replicate i []))
      ⟨[], upd_same, rfl, by rw [hid_upd, hid_free nD]; exact Same.refl _, All2.nil⟩ (fun i G hi h => ?_) (fun G h => ?_)⟩
    · obtain ⟨ts, hD, lt, sG, hts⟩ := h
      refine ⟨rfl, Nat.zero_le _, fun t nt => ⟨_, same_upd nt _ _ hD, line_small (by rw [List.length_map]; omega), ts ++ [t], ?_, ?_, ?_, ?_⟩⟩
      · rw [upd_same, List.map_append]
        rfl
      · rw [List.length_append, lt]
        rfl
      · rw [hid_upd]
        exact sG.trans (hid_new nt)
      · rw [dif_put, List.replicate_succ']
        refine (hts.mono fun _ _ r => mo (dif_hm (same_upd nt)) r).snoc ?_
        show hid D _ t = _
        rw [hid_ne (ne_new hD nt), dif_at ((sG.trans hid_same).free nt)]
        exact upd_same
    · obtain ⟨ts, hD, lt, sG, hts⟩ := h
      rw [Int.toNat_natCast] at lt hts
      refine ⟨line_le (by simp), fun o0 n0 => ?_⟩
      have s0 := same_upd (o := .lst [.ref D]) n0
      have sH : Same H (upd G o0 (.lst [.ref D])) := sG.trans (hid_same.trans s0)
      have f0 : H o0 = none := (sG.trans hid_same).free n0
      have h0 : GL (dif H (upd G o0 (.lst [.ref D]))) o0 (M73.allLogs m (ids.take 0)) := by
        refine ⟨[D], by rw [dif_at f0]; exact upd_same, All2.cons ⟨ts, by rw [dif_at nD]; exact s0 _ _ hD, hts.mono fun _ _ r => mo (hid_same.trans (dif_mono s0)) r⟩ All2.nil⟩
      generalize upd G o0 (.lst [.ref D]) = G0 at sH h0 ⊢
      refine ⟨.ref a, rfl, a, rfl, ⟨_, (mo sH hI).sq⟩, for_list (K := K) (a := a) (xs := ids.map V.int)
        (fun i σ G => ∃ (o : Addr) (y3 y4 y5 y6 y7 y8 : Option V), σ = [some (.ref a), some (.int m), some (.ref o), y3, y4, y5, y6, y7, y8] ∧ Same H G ∧ H o = none ∧ GL (dif H G) o (M73.allLogs m (ids.take i)))
        ⟨o0, _, _, _, _, _, _, rfl, sH, f0, h0⟩ (fun i σ G _ ⟨_, _, _, _, _, _, _, _, s1, _⟩ => (mo s1 hI).sq) (fun i x σ G hx h => ?_) (fun σ G h => ?_)⟩
      · obtain ⟨o, y3, y4, y5, y6, y7, y8, rfl, sG, fo, as, hA0, hAL⟩ := h
        have hA : G o = some (.lst (as.map V.ref)) := dif_same _ _ hA0
        obtain ⟨x, hxx, rfl⟩ := int_get hx
        have lti := (List.getElem?_eq_some_iff.mp hxx).1
        have eL : M73.allLogs m (ids.take (i + 1)) = (M73.allLogs m (ids.take i)).flatMap (M73.stepL m x) := by
          rw [List.take_add_one, hxx]
          exact allLogs_snoc m _ x
        have lenL : (M73.allLogs m (ids.take (i + 1))).length ≤ 16384 := Nat.le_trans (M73.allLogs_length m _) (pow_le7 hm (by rw [List.length_take]; omega))
        have memL : ∀ log ∈ M73.allLogs m (ids.take i), log.length = m ∧ log.flatten.length ≤ 7 := fun log hl => by
          obtain ⟨h1, h2⟩ := (M73.mem_allLogs m _ log).mp hl
          refine ⟨h1, ?_⟩
          have := h2.length_le
          rw [List.length_take] at this
          omega
        rw [eL] at lenL
        rw [eL]
        generalize M73.allLogs m (ids.take i) = L at hAL lenL memL eL ⊢
        refine ⟨Nat.zero_le _, fun oN nN => ?_⟩
        have fN : H oN = none := sG.free nN
        refine ⟨.ref o, rfl, o, rfl, ⟨_, .of (same_upd nN _ _ hA)⟩, for_list (K := K) (a := o) (xs := as.map V.ref)
          (fun j σ G2 => ∃ (y5 y6 y7 y8 : Option V), σ = [some (.ref a), some (.int m), some (.ref o), some (.int x), some (.ref oN), y5, y6, y7, y8] ∧ Gv H G oN ((L.take j).flatMap (M73.stepL m x)) G2)
          ⟨_, _, _, _, rfl, [], upd_same, by rw [hid_upd, hid_free nN]; exact Same.refl _, All2.nil⟩ (fun j σ G2 _ ⟨_, _, _, _, _, h⟩ => .of (h.same _ _ hA)) (fun j y σ G2 hy h => ?_) (fun σ G2 h => ?_)⟩
        · obtain ⟨y5, y6, y7, y8, rfl, hv⟩ := h
          obtain ⟨t, ht, rfl⟩ := ref_get hy
          obtain ⟨log, hlog, rl⟩ := hAL.get ht
          obtain ⟨llog, lflat⟩ := memL log (List.mem_of_getElem? hlog)
          have eT : (L.take (j + 1)).flatMap (M73.stepL m x) = (L.take j).flatMap (M73.stepL m x) ++ M73.stepL m x log := by
            rw [List.take_add_one, hlog, List.flatMap_append]
            simp
          have lenJ : ((L.take j).flatMap (M73.stepL m x)).length + (M73.stepL m x log).length ≤ 16384 := by
            have e1 : L.flatMap (M73.stepL m x) = (L.take (j + 1)).flatMap (M73.stepL m x) ++ (L.drop (j + 1)).flatMap (M73.stepL m x) := by
              rw [← List.flatMap_append, List.take_append_drop]
            rw [e1, eT, List.length_append, List.length_append] at lenL
            omega
          rw [stepL_len] at lenJ
          rw [eT]
          generalize hls : (L.take j).flatMap (M73.stepL m x) = ls at hv lenJ ⊢
          have rowl : ∀ r ∈ log, r.length ≤ 7 := fun r hr => by
            have : r.length ≤ log.flatten.length := (List.sublist_flatten_of_mem hr).length_le
            omega
          obtain ⟨rs, hR0, hRL0⟩ := rl
          have hR : G t = some (.lst (rs.map V.ref)) := dif_same _ _ hR0
          have hRL : All2 (IL G) rs log := hRL0.mono fun _ _ r => mo dif_same r
          have hRo := hv.same _ _ hR
          have sv := hv.same
          obtain ⟨xo, hxo⟩ := hv.obj
          -- the last poll with an id
          refine ⟨line_le (by simp), fun o1 n1 => ⟨.int m, rfl, (m : Int), rfl, by omega, by omega, fun D nD => lc_range (lo := 0) (n := (m : Int).toNat)
            (PvA (fun k acc _ => acc = (spotsOf log k).map V.int) (upd G2 o1 (.lst [.int 0])) D) (PvA.start nD rfl) (fun k G3 hk h => ?_) (fun G3 h => ?_)⟩⟩
          · have s3 := h.same
            obtain ⟨acc, hD, hle, sm, rfl⟩ := h
            rw [Int.toNat_natCast] at hk
            have kl : k < log.length := by omega
            obtain ⟨r, hr, rr⟩ := hRL.get' (List.getElem?_eq_getElem kl)
            have sX : Same G G3 := sv.trans ((same_upd n1).trans s3)
            have e0 : (0 : Int) + (k : Int) = (k : Int) := by omega
            rw [e0]
            have sN : spotsOf log (k + 1) = spotsOf log k ++ if log[k]? ≠ some [] then [(k : Int)] else [] := by
              unfold spotsOf
              rw [List.range_succ, List.filter_append, List.map_append]
              by_cases e : log[k]? = some []
              · simp [e]
              · simp [e]
            refine ⟨rfl, .ref t, rfl, .int k, rfl, t, _, _, .ref r, rfl, rfl, .of (sX _ _ hR), atI_nat (ref_at hr), Nat.zero_le _, fun l nl => ?_⟩
            have sl := same_upd (o := .lst []) nl
            refine ⟨dI log[k], .list [], dp_IL (mo (sX.trans sl) rr), dp_nil upd_same, shp_I _, shp_nil, _, rfl, ?_⟩
            rw [eqv_nilI]
            by_cases e : log[k] = []
            · rw [decide_eq_true e]
              refine iteF (PvA.skip (sl _ _ hD) hle (sm.trans (hid_mono sl)) ?_)
              rw [sN, List.getElem?_eq_getElem kl, e]
              simp
            · rw [decide_eq_false e]
              refine iteT ⟨.int k, rfl, PvA.snoc (by omega) (sl _ _ hD) hle (sm.trans (hid_mono sl)) ?_⟩
              rw [sN, List.getElem?_eq_getElem kl, if_pos (fun z => e (Option.some.inj z)), List.map_append]
              rfl
          · have s3 := h.same
            obtain ⟨acc, hD, hle, sm, rfl⟩ := h
            rw [Int.toNat_natCast, ← llog] at hD hle
            refine ⟨o1, D, _, _, rfl, rfl, s3 _ _ upd_same, hD, line_le (by rw [List.length_singleton]; omega), fun o2 n2 => ⟨o2, 0 :: spotsOf log log.length, rfl, .of upd_same, Nat.succ_pos _, fun mx h1 h2 => ?_⟩⟩
            have emx := last_of h1 h2
            have sg : Same G2 (upd G3 o2 (.lst ([.int 0] ++ (spotsOf log log.length).map V.int))) := (same_upd n1).trans (s3.trans (same_upd n2))
            generalize upd G3 o2 (.lst ([.int 0] ++ (spotsOf log log.length).map V.int)) = G4 at sg ⊢
            have sGG4 : Same G G4 := sv.trans sg
            have dtN : t ≠ oN := fun e => by
              rw [e, nN] at hR
              cases hR
            have lt : LL (hid oN (dif H G4)) t log := by
              obtain ⟨_, _, hh, _⟩ := hv
              have s4 := (dif_hh (H := H) hh).trans (dif_hm sg)
              exact ⟨rs, s4 _ _ hR0, hRL0.mono fun _ _ r => mo s4 r⟩
            obtain ⟨acc, ha1, ha2, hv2⟩ := hv.put sg lt
            have mxm : (M73.lastP log : Int) ≤ m := by
              by_cases z : 0 < log.length
              · have := lastP_lt z
                omega
              · have : log = [] := List.length_eq_zero_iff.mp (by omega)
                rw [this]
                show ((0 : Nat) : Int) ≤ m
                omega
            refine ⟨.ref oN, rfl, .inl ⟨rfl, _, .of ha1⟩, .ref t, rfl, oN, _, _, rfl, rfl, ha1, line_small (by omega), ?_⟩
            have en : ((m : Int) - mx).toNat = m - M73.lastP log := by omega
            refine ⟨.int mx, rfl, .int m, rfl, mx, m, rfl, ⟨by omega, by omega, by omega, by omega⟩, for_range (lo := mx) (n := ((m : Int) - mx).toNat)
              (fun p σ G5 => ∃ (y7 y8 : Option V), σ = [some (.ref a), some (.int m), some (.ref o), some (.int x), some (.ref oN), some (.ref t), some (.int mx), y7, y8] ∧
                Gv H G oN (ls ++ log :: ((List.range' (M73.lastP log) (m - M73.lastP log)).take p).map fun p => M73.addAt log p x) G5) ⟨_, _, rfl, hv2⟩ (fun p σ G5 hp h => ?_) (fun σ G5 h => ?_)⟩
            · obtain ⟨y7, y8, rfl, hv5⟩ := h
              rw [en] at hp
              have sv5 := hv5.same
              obtain ⟨xo5, hxo5⟩ := hv5.obj
              have ep : (mx + (p : Int)) = ((M73.lastP log + p : Nat) : Int) := by omega
              have lpp : M73.lastP log + p < m := by omega
              have eR : (List.range' (M73.lastP log) (m - M73.lastP log)).take (p + 1) = (List.range' (M73.lastP log) (m - M73.lastP log)).take p ++ [M73.lastP log + p] := by
                rw [List.take_add_one, List.getElem?_range' (by omega)]
                simp
              have lenT : ((List.range' (M73.lastP log) (m - M73.lastP log)).take p).length = p := by
                rw [List.length_take, List.length_range']
                omega
              refine ⟨.ref oN, rfl, .inl ⟨rfl, _, .of hv5.choose_spec.1⟩, .int m, rfl, (m : Int), rfl, by omega, by omega, fun D5 nD5 => lc_range (lo := 0) (n := (m : Int).toNat)
                (fun s G6 => ∃ us : List Addr, G6 D5 = some (.lst (us.map V.ref)) ∧ us.length = s ∧ Same G5 (hid D5 G6) ∧ All2 (IL (hid D5 G6)) us ((M73.addAt log (M73.lastP log + p) x).take s) ∧ ∀ u ∈ us, G5 u = none)
                ⟨[], upd_same, rfl, by rw [hid_upd, hid_free nD5]; exact Same.refl _, All2.nil, fun u hu => by simp at hu⟩ (fun s G6 hs h => ?_) (fun G6 h => ?_)⟩
              · obtain ⟨us, hD6, lus, s6, hus, fus⟩ := h
                rw [Int.toNat_natCast] at hs
                have sl : s < log.length := by omega
                obtain ⟨r, hr, rr⟩ := hRL.get' (List.getElem?_eq_getElem sl)
                have sX : Same G G6 := sv5.trans (s6.trans hid_same)
                have e0 : (0 : Int) + (s : Int) = (s : Int) := by omega
                rw [e0, ep]
                have lr := rowl _ (List.getElem_mem sl)
                refine ⟨rfl, .ref t, rfl, .int s, rfl, t, _, _, .ref r, rfl, rfl, .of (sX _ _ hR), atI_nat (ref_at hr), .int x, rfl, line_le (by simp), fun l1 nl1 => ?_⟩
                have ev : (List.replicate (if decide (V.int (s : Int) = V.int ((M73.lastP log + p : Nat) : Int)) = true then (1 : Int) else 0).toNat [V.int x]).flatten = (if s = M73.lastP log + p then [x] else []).map V.int := by
                  by_cases e : s = M73.lastP log + p
                  · rw [if_pos e, e, decide_eq_true rfl]
                    rfl
                  · rw [if_neg e, decide_eq_false (fun z => e (by have := V.int.inj z; omega))]
                    rfl
                have sT : (M73.addAt log (M73.lastP log + p) x).take (s + 1) = (M73.addAt log (M73.lastP log + p) x).take s ++ [log[s] ++ if s = M73.lastP log + p then [x] else []] := by
                  rw [List.take_add_one, addAt_get, List.getElem?_eq_getElem sl]
                  by_cases e : s = M73.lastP log + p
                  · simp [e]
                  · simp [e]
                refine ⟨.int s, rfl, .int ((M73.lastP log + p : Nat) : Int), rfl, rfl, .inr ⟨_, rfl, l1, _, _, rfl, rfl, upd_same, ?_, ?_, ?_, ?_⟩⟩
                · split <;> omega
                · split <;> omega
                · refine line_le ?_
                  rw [List.length_singleton]
                  split <;> simp
                · rw [ev]
                  refine fun l2 nl2 => ⟨r, l2, _, _, rfl, rfl, ((same_upd nl1).trans (same_upd nl2)) _ _ (mo sX rr), upd_same, line_le ?_, ?_⟩
                  · rw [List.length_map, List.length_map]
                    split <;> simp <;> omega
                  · rw [← List.map_append]
                    refine fun l3 nl3 => ?_
                    have sA : Same G6 (upd (upd (upd G6 l1 (.lst [.int x])) l2 (.lst ((if s = M73.lastP log + p then [x] else []).map V.int))) l3 (.lst ((log[s] ++ if s = M73.lastP log + p then [x] else []).map V.int))) := (same_upd nl1).trans ((same_upd nl2).trans (same_upd nl3))
                    have hl3 : upd (upd (upd G6 l1 (.lst [.int x])) l2 (.lst ((if s = M73.lastP log + p then [x] else []).map V.int))) l3 (.lst ((log[s] ++ if s = M73.lastP log + p then [x] else []).map V.int)) l3 = some (.lst ((log[s] ++ if s = M73.lastP log + p then [x] else []).map V.int)) := upd_same
                    have d3 : l3 ≠ D5 := ne_new (((same_upd nl1).trans (same_upd nl2)) _ _ hD6) nl3
                    have f3 : G5 l3 = none := (s6.trans (hid_same.trans ((same_upd nl1).trans (same_upd nl2)))).free nl3
                    generalize upd (upd (upd G6 l1 (.lst [.int x])) l2 (.lst ((if s = M73.lastP log + p then [x] else []).map V.int))) l3 (.lst ((log[s] ++ if s = M73.lastP log + p then [x] else []).map V.int)) = G7 at sA hl3 ⊢
                    refine ⟨_, sA _ _ hD6, line_small (by rw [List.length_map]; omega), us ++ [l3], ?_, ?_, ?_, ?_, ?_⟩
                    · rw [upd_same, List.map_append]
                      rfl
                    · rw [List.length_append, lus]
                      rfl
                    · rw [hid_upd]
                      exact s6.trans (hid_mono sA)
                    · rw [hid_upd, sT]
                      refine (hus.mono fun _ _ r => mo (hid_mono sA) r).snoc ?_
                      show hid D5 _ l3 = _
                      rw [hid_ne d3]
                      exact hl3
                    · intro u hu
                      rcases List.mem_append.mp hu with z | z
                      · exact fus u z
                      · rw [List.mem_singleton.mp z]
                        exact f3
              · obtain ⟨us, hD6, lus, s6, hus, fus⟩ := h
                rw [Int.toNat_natCast, List.take_of_length_le (by rw [M73.addAt_length]; omega)] at hus
                have s56 : Same G5 G6 := s6.trans hid_same
                have dDN : D5 ≠ oN := ne_new hxo5 nD5
                have lt5 : LL (hid oN (dif H G6)) D5 (M73.addAt log (M73.lastP log + p) x) := by
                  have sH5 : Same H G5 := sG.trans sv5
                  refine ⟨us, by rw [hid_ne dDN, dif_at (sH5.free nD5)]; exact hD6, hus.1, fun i u l hu hl => ?_⟩
                  have h1 := hus.2 i u l hu hl
                  have ne : u ≠ oN := fun e => by
                    have := fus u (List.mem_of_getElem? hu)
                    rw [e, hxo5] at this
                    cases this
                  show hid oN (dif H G6) u = _
                  rw [hid_ne ne, dif_at (sH5.free (fus u (List.mem_of_getElem? hu)))]
                  exact hid_same _ _ h1
                obtain ⟨acc, hb1, hb2, hv6⟩ := hv5.put s56 lt5
                refine ⟨oN, _, _, rfl, rfl, hb1, line_small ?_, _, _, rfl, ?_⟩
                · rw [hb2, List.length_append, List.length_cons, List.length_map, lenT]
                  omega
                · rw [eR, List.map_append]
                  rw [List.append_assoc] at hv6
                  exact hv6
            · obtain ⟨y7, y8, rfl, hv5⟩ := h
              rw [en, List.take_of_length_le (by rw [List.length_range']; exact Nat.le_refl _)] at hv5
              exact ⟨_, _, _, _, rfl, hv5⟩
        · obtain ⟨y5, y6, y7, y8, rfl, hv⟩ := h
          rw [List.take_of_length_le (by rw [List.length_map, hAL.1]; exact Nat.le_refl _)] at hv
          obtain ⟨ts, k1, k2, k3⟩ := hv
          exact ⟨.ref oN, rfl, oN, _, _, _, _, _, _, rfl, sG.trans (k2.trans hid_same), fN, ts, by rw [dif_at fN]; exact k1, k3.mono fun _ _ r => mo hid_same r⟩
      · obtain ⟨o, y3, y4, y5, y6, y7, y8, rfl, sG, fo, hG⟩ := h
        rw [List.length_map, List.take_length] at hG
        exact ⟨.ref o, rfl, q G o sG fo hG⟩
end
end W73


set_option Elab.async false
set_option linter.all false
set_option maxRecDepth 100000
set_option maxHeartbeats 4000000
namespace W73
open PySem PySem.Spec PyProof.Rows L2
/-- the heap behind some draws from s -/
structure Bk (s : Addr) (H G : Hp) (k : Int) : Prop where
  sm : Same (hid s H) (hid s G)
  src : SrcAt G s k
section
variable {s o : Addr} {H G G' : Hp} {k : Int} {x : HO}
theorem Bk.ne (b : Bk s H G k) (n : G o = none) : o ≠ s := ne_new b.src.cell.choose_spec n
theorem Bk.was (b : Bk s H G k) (n : G o = none) : H o = none := hid_was b.sm b.src.cell.choose_spec n
theorem Bk.new (b : Bk s H G k) (n : G o = none) : Bk s H (upd G o x) k := ⟨b.sm.trans (hid_new n), b.src.mono (same_upd n)⟩
theorem Bk.draw (b : Bk s H G k) (h : Same (hid s G) (hid s G')) (h2 : SrcAt G' s (k + 1)) : Bk s H G' (k + 1) := ⟨b.sm.trans h, h2⟩
theorem Bk.at (b : Bk s H G k) (n : G o = none) : hid s (upd G o x) o = some x := by
  rw [hid_ne (b.ne n)]
  exact upd_same
end
theorem same_put {A B : Hp} {p : Addr} {x : HO} (h : Same A B) (n : A p = none) : Same A (upd B p x) := fun b y e => by
  rw [upd_ne (ne_of_none e n)]
  exact h b y e
theorem cutT {xs : List V} {m : Int} (h : 0 ≤ m) : cutV xs none (some m) = xs.take m.toNat := by
  unfold cutV
  rw [HT.sIx_none, sIx_int h, List.drop_zero, Nat.sub_zero]
  rcases Nat.le_total m.toNat xs.length with k | k
  · rw [Nat.min_eq_left k]
  · rw [Nat.min_eq_right k, List.take_of_length_le (Nat.le_refl _), List.take_of_length_le k]
theorem cutF {xs : List V} {m : Int} (h : 0 ≤ m) : cutV xs (some m) none = xs.drop m.toNat := by
  unfold cutV
  rw [HT.sIx_none, sIx_int h]
  rcases Nat.le_total m.toNat xs.length with k | k
  · rw [Nat.min_eq_left k, List.take_of_length_le (by rw [List.length_drop]; exact Nat.le_refl _)]
  · rw [Nat.min_eq_right k, List.drop_length, List.take_nil, List.drop_eq_nil_of_le k]
theorem cutB {xs : List V} {m : Int} (h : 0 ≤ m) (h2 : m.toNat < xs.length) : cutV xs (some m) (some (m + 1)) = (xs.drop m.toNat).take 1 := by
  unfold cutV
  rw [sIx_int h, sIx_int (by omega)]
  have e : min (m + 1).toNat xs.length - min m.toNat xs.length = 1 := by omega
  rw [e, Nat.min_eq_left (by omega)]
theorem pickI {ns : List Int} {r : Int} (h0 : 0 ≤ r) (h1 : r < (ns.length : Int)) : ∃ v, atI (ns.map V.int) r = some (.int v) ∧ v ∈ ns := by
  have hk : r.toNat < ns.length := by omega
  refine ⟨ns[r.toNat], ?_, List.getElem_mem hk⟩
  have := atI_nat (int_at (List.getElem?_eq_getElem hk))
  rwa [Int.toNat_of_nonneg h0] at this
theorem pickR {β : Type} {R : Addr → β → Prop} {as : List Addr} {bs : List β} (h : All2 R as bs) {r : Int} (h0 : 0 ≤ r) (h1 : r < (bs.length : Int)) : ∃ t b, atI (as.map V.ref) r = some (.ref t) ∧ bs[r.toNat]? = some b ∧ R t b := by
  have hk : r.toNat < bs.length := by omega
  obtain ⟨t, ht, rt⟩ := h.get' (List.getElem?_eq_getElem hk)
  refine ⟨t, _, ?_, List.getElem?_eq_getElem hk, rt⟩
  have := atI_nat (ref_at ht)
  rwa [Int.toNat_of_nonneg h0] at this
/-- what is known at G -/
structure Fx (s : Addr) (H : Hp) (o3 : Addr) (as : List Addr) (cs : List (Int × Int)) (b : Addr) (ids : List Int) (G : Hp) (k : Int) : Prop where
  bk : Bk s H G k
  k3 : hid s G o3 = some (.lst (as.map V.ref))
  kC : All2 (P2 (hid s G)) as cs
  kB : IL (hid s G) b ids
section
variable {s o3 o b : Addr} {H G G' : Hp} {k k' : Int} {x : HO} {as : List Addr} {cs : List (Int × Int)} {ids : List Int}
theorem Fx.to (f : Fx s H o3 as cs b ids G k) (h : Same (hid s G) (hid s G')) (h2 : SrcAt G' s k') : Fx s H o3 as cs b ids G' k' :=
  ⟨⟨f.bk.sm.trans h, h2⟩, h _ _ f.k3, f.kC.mono fun _ _ r => mo h r, mo h f.kB⟩
theorem Fx.new (f : Fx s H o3 as cs b ids G k) (n : G o = none) : Fx s H o3 as cs b ids (upd G o x) k := f.to (hid_new n) (f.bk.src.mono (same_upd n))
theorem Fx.sq {K : PySem.W.Frag} (f : Fx s H o3 as cs b ids G k) : SqL K G o3 (as.map V.ref) := .of (hid_same _ _ f.k3)
theorem Fx.il (f : Fx s H o3 as cs b ids G k) : IL G b ids := mo hid_same f.kB
end
section
variable {P : Program} {w : World} {K : PySem.W.Frag} {mg : Str → Option Value} {base : Heap}
abbrev N58 : List Str := ["_law_source_here", "_law_counts", "_law_ids_here", "_law_found", "_law_spot", "_law_number", "_law_cursor", "_law_some", "_law_one", "_law_way"]
theorem sc58 : FnScope N58 ["_law_source_here", "_law_counts", "_law_ids_here"] (defScope (topS 58)) := ⟨rfl, rfl, rfl, by decide +kernel, rfl, by decide +kernel, by decide +kernel⟩
def spBent : Sp := fun vs H Q _ => ∃ (s a b : Addr) (n : Int) (cs : List (Int × Int)) (ids : List Int), vs = [.ref s, .ref a, .ref b] ∧ SrcAt H s n ∧ n ≤ 900000 ∧ CL (hid s H) a cs ∧ CntsOk cs ∧ IL (hid s H) b ids ∧ ids.length ≤ 8 ∧ (∀ x ∈ ids, IdOk x) ∧
  ∀ p H' cs', H p = none → Same (hid s H) (hid s H') → SrcAt H' s (n + 6) → CL (hid s H') p cs' → CntsOk cs' → Q (.ref p) H'
theorem c_bent (g : Glob mg) (D : Df K mg "_law_bent" (topS 58) [] []) (cD : cDraw P w K mg base) : Cal P w K mg base "_law_bent" ["_law_source_here", "_law_counts", "_law_ids_here"] [] 2 spBent := by
  refine Cal.of D sc58 (fun _ _ _ _ _ _ us hl => match us, hl with | [_, _, _], _ => rfl) (fun vs H Q E h => ?_) (fun f cdv A outer s H vs Q E hr h => ⟨_, pss_cons
    (ps_set (i := 3) sc58.nd rfl (.inl rfl) (pe_callTy call_list_of rfl g.list bt_list (pa_cons (pv 1) pa_nil)))
    (pss_cons (ps_if (pt_cmpR (op_eqD hr.units) (pv 3) (pe_lst pa_nil) (nomark _))
      (pss_one (ps_ret (pe_lst (pa_cons (pe_tup (pa_cons (pe_cal cD hr (pa_cons (pv 0) (pa_cons pe_int pa_nil)))
        (pa_cons (pe_ix ix_list (pe_op op_cat (pe_lst (pa_cons pe_int (pa_cons pe_int pa_nil))) (pv 2)) (pe_cal cD hr (pa_cons (pv 0) (pa_cons (pe_op op_add pe_int (pe_len g.len (pv 2))) pa_nil))) (fun _ _ => rfl)) pa_nil))) pa_nil)))) pss_nil)
    (pss_cons (ps_set (i := 4) sc58.nd rfl (.inl rfl) (pe_cal cD hr (pa_cons (pv 0) (pa_cons (pe_len g.len (pv 3)) pa_nil))))
    (pss_cons (ps_asg (pe_ix ix_list (pv 3) (pv 4) (fun _ _ => rfl)) (pg_tup rfl (pgs_cons (pg_name (i := 5) sc58.nd rfl (.inl rfl)) (pgs_cons (pg_name (i := 6) sc58.nd rfl (.inl rfl)) pgs_nil))))
    (pss_cons (ps_set (i := 7) sc58.nd rfl (.inl rfl) (pe_lst (pa_cons (pe_tup (pa_cons (pe_op op_add (pv 5) pe_int) (pa_cons (pv 6) pa_nil)))
      (pa_cons (pe_tup (pa_cons (pe_callB (call_max2 rfl) rfl g.max bt_max (pa_cons pe_int (pa_cons (pe_op op_sub (pv 5) pe_int) pa_nil))) (pa_cons (pv 6) pa_nil)))
      (pa_cons (pe_tup (pa_cons (pv 5) (pa_cons (pe_op op_add (pv 6) pe_int) pa_nil)))
      (pa_cons (pe_tup (pa_cons (pv 5) (pa_cons (pe_callB (call_max2 rfl) rfl g.max bt_max (pa_cons pe_int (pa_cons (pe_op op_sub (pv 6) pe_int) pa_nil))) pa_nil))) pa_nil))))))
    (pss_cons (ps_set (i := 7) sc58.nd rfl (.inl rfl) (pe_op op_cat (pv 7) (pe_lst (pa_cons (pe_tup (pa_cons (pv 5) (pa_cons
        (pe_ix ix_list (pe_op op_cat (pe_lst (pa_cons pe_int (pa_cons (pe_op op_powW pe_int pe_int) pa_nil))) (pv 2)) (pe_cal cD hr (pa_cons (pv 0) (pa_cons (pe_op op_add pe_int (pe_len g.len (pv 2))) pa_nil))) (fun _ _ => rfl)) pa_nil)))
      (pa_cons (pe_tup (pa_cons pe_int (pa_cons (pv 6) pa_nil))) (pa_cons (pe_tup (pa_cons pe_int (pa_cons (pv 6) pa_nil))) pa_nil))))))
    (pss_cons (ps_expr (pe_bm PySem.F.plainAttrs_list PySem.F.slot_list_append PySem.F.type_list_append mt_append (pv 7) (pa_cons
      (pe_tup (pa_cons (pe_callB (call_min2 rfl) rfl g.min bt_min (pa_cons pe_int (pa_cons (pe_op op_add (pv 5) (pe_cal cD hr (pa_cons (pv 0) (pa_cons pe_int pa_nil)))) pa_nil))) (pa_cons (pv 6) pa_nil))) pa_nil)))
    (pss_cons (ps_set (i := 8) sc58.nd rfl (.inl rfl) (pe_ix ix_list (pv 7) (pe_cal cD hr (pa_cons (pv 0) (pa_cons pe_int pa_nil))) (fun _ _ => rfl)))
    (pss_cons (ps_set (i := 9) sc58.nd rfl (.inl rfl) (pe_cal cD hr (pa_cons (pv 0) (pa_cons pe_int pa_nil))))
    (pss_cons (ps_if (pt_cmpR op_eq (pv 9) pe_int (nomark _))
      (pss_one (ps_ret (pe_op op_cat (pe_slice sl_list (pv 3) po_none (po_some (pv 4))) (pe_slice sl_list (pv 3) (po_some (pe_op op_add (pv 4) pe_int)) po_none)))) pss_nil)
    (pss_cons (ps_if (pt_cmpR op_eq (pv 9) pe_int (nomark _))
      (pss_one (ps_ret (pe_slice sl_list (pe_op op_cat (pe_op op_cat (pe_slice sl_list (pv 3) po_none (po_some (pv 4))) (pe_slice sl_list (pv 3) (po_some (pv 4)) (po_some (pe_op op_add (pv 4) pe_int)))) (pe_slice sl_list (pv 3) (po_some (pv 4)) po_none)) po_none (po_some pe_int)))) pss_nil)
    (pss_one (ps_ret (pe_op op_cat (pe_op op_cat (pe_slice sl_list (pv 3) po_none (po_some (pv 4))) (pe_lst (pa_cons (pe_tup (pa_cons (pe_callB (call_min2 rfl) rfl g.min bt_min (pa_cons pe_int (pa_cons (pe_ix ix_tup (pv 8) pe_int (fun _ _ => rfl)) pa_nil)))
      (pa_cons (pe_callB (call_min2 rfl) rfl g.min bt_min (pa_cons (pe_op op_powW pe_int pe_int) (pa_cons (pe_ix ix_tup (pv 8) pe_int (fun _ _ => rfl)) pa_nil))) pa_nil))) pa_nil))) (pe_slice sl_list (pv 3) (po_some (pe_op op_add (pv 4) pe_int)) po_none)))))))))))))), ?_⟩)
  · obtain ⟨s, a, b, n, cs, ids, rfl, _⟩ := h
    rfl
  · obtain ⟨s, a, b, n, cs, ids, rfl, hS, hn, ⟨as, hA, hC⟩, hc, hB, lB, okB, q⟩ := h
    have e30 : CPowW 10 30 := powW_of (a := 4) (by decide) (by decide) (by decide) (by decide)
    have big0 : big = 1000000000000000000000000000000 := rfl
    refine ⟨.ref a, rfl, a, _, rfl, .inl (.of (hid_same _ _ hA)), fun o3 n3 => ?_⟩
    have b0 : Bk s H H n := ⟨Same.refl _, hS⟩
    have F1 : Fx s H o3 as cs b ids (upd H o3 (.lst (as.map V.ref))) n := ⟨b0.new n3, b0.at n3, hC.mono fun _ _ r => mo (hid_new n3) r, mo (hid_new n3) hB⟩
    generalize upd H o3 (.lst (as.map V.ref)) = G1 at F1 ⊢
    refine ⟨.ref o3, rfl, Nat.zero_le _, fun l nl => ⟨dC cs, .list [], dp_CL ⟨as, (same_upd nl) _ _ (hid_same _ _ F1.k3), F1.kC.mono fun _ _ r => mo (hid_same.trans (same_upd nl)) r⟩, dp_nil upd_same, shp_C _, shp_nil, _, rfl, ?_⟩⟩
    rw [eqv_nilC]
    have F2 : Fx s H o3 as cs b ids (upd G1 l (.lst [])) n := F1.new nl
    generalize upd G1 l (.lst []) = G2 at F2 ⊢
    have las : as.length = cs.length := hC.1
    by_cases ec : cs = []
    · rw [decide_eq_true ec]
      refine iteT ⟨.ref s, rfl, s, n, 2, rfl, F2.bk.src, by omega, by decide, by decide, fun r1 G3 q0 q1 s3 S3 => ?_⟩
      have F3 := F2.to s3 S3
      refine ⟨line_le (by simp), fun o5 n5 => ⟨.ref b, rfl, o5, b, _, _, rfl, rfl, upd_same, (F3.new n5).il, line_le (by rw [List.length_map]; simp; omega), fun o6 n6 => ?_⟩⟩
      have F5 := (F3.new (x := .lst [.int 0, .int 5]) n5).new (x := .lst ([.int 0, .int 5] ++ ids.map V.int)) n6
      have k6 := (F3.new (x := .lst [.int 0, .int 5]) n5).bk.at (x := .lst ([.int 0, .int 5] ++ ids.map V.int)) n6
      generalize upd (upd G3 o5 (.lst [.int 0, .int 5])) o6 (.lst ([.int 0, .int 5] ++ ids.map V.int)) = G5 at F5 k6 ⊢
      refine ⟨.ref s, rfl, .ref b, rfl, b, _, rfl, .inl F5.il.sq, 2, _, rfl, rfl, s, n + 1, _, rfl, F5.bk.src, by omega, by omega, by rw [List.length_map]; omega, fun r2 G6 q2 q3 s6 S6 => ?_⟩
      rw [List.length_map] at q3
      have F6 := F5.to s6 S6
      obtain ⟨v, hv, mv⟩ := pickI (ns := 0 :: 5 :: ids) q2 (by simp only [List.length_cons]; omega)
      refine ⟨o6, _, r2, _, rfl, rfl, .of (hid_same _ _ (s6 _ _ k6)), hv, line_le (by simp), fun T nT => ⟨line_le (by simp), fun p np => ?_⟩⟩
      have F7 := F6.new (x := .tup [.int r1, .int v]) nT
      have F8 := F7.new (x := .lst [.ref T]) np
      have hv0 : 0 ≤ v ∧ v ≤ big := by
        rcases List.mem_cons.mp mv with rfl | mv
        · exact ⟨Int.le_refl _, by decide⟩
        · rcases List.mem_cons.mp mv with rfl | mv
          · exact ⟨by decide, by decide⟩
          · exact ⟨by have := (okB v mv).1; omega, (okB v mv).2⟩
      refine q p _ [(r1, v)] (F7.bk.was np) F8.bk.sm (F8.bk.src.le (by omega)) ⟨[T], F7.bk.at np, All2.cons (mo (hid_new np) (F6.bk.at nT)) All2.nil⟩ ⟨by simp, fun x hx => ?_⟩
      rw [List.mem_singleton.mp hx]
      exact ⟨q0, by show r1 ≤ 30; omega, hv0.1, hv0.2⟩
    · rw [decide_eq_false ec]
      have lc := hc.1
      have lpos : 0 < cs.length := List.length_pos_iff.mpr ec
      refine iteF ⟨.ref s, rfl, .ref o3, rfl, o3, _, rfl, .inl F2.sq, s, n, _, rfl, F2.bk.src, by omega, by rw [List.length_map]; omega, by rw [List.length_map]; omega, fun sp G3 p0 p1 s3 S3 => ?_⟩
      rw [List.length_map, las] at p1
      have F3 := F2.to s3 S3
      obtain ⟨t, ⟨nu, cu⟩, hat, hcs, rt⟩ := pickR F3.kC p0 p1
      have okc := hc.2 _ (List.mem_of_getElem? hcs)
      obtain ⟨c1, c2, c3, c4⟩ := okc
      dsimp only at c1 c2 c3 c4
      refine ⟨.ref o3, rfl, .int sp, rfl, o3, _, sp, _, rfl, rfl, F3.sq, hat, t, _, rfl, (mo hid_same rt).sq, rfl, _, _, rfl, _, _, rfl, rfl, ?_⟩
      -- the first four
      refine ⟨.int nu, rfl, nu, 1, rfl, rfl, .int cu, rfl, line_le (by simp), fun T1 m1 => ?_⟩
      have F4 := F3.new (x := .tup [.int (nu + 1), .int cu]) m1
      have g1 : P2 (hid s (upd G3 T1 (.tup [.int (nu + 1), .int cu]))) T1 (nu + 1, cu) := F3.bk.at m1
      generalize upd G3 T1 (.tup [.int (nu + 1), .int cu]) = G4 at F4 g1 ⊢
      obtain ⟨u2, hu2⟩ : ∃ u : Int, u = if nu - 1 > 0 then nu - 1 else 0 := ⟨_, rfl⟩
      refine ⟨.int nu, rfl, nu, 1, rfl, rfl, 0, _, rfl, ?_⟩
      rw [← hu2]
      refine ⟨.int cu, rfl, line_le (by simp), fun T2 m2 => ?_⟩
      have s5 := hid_new (p := s) (o := .tup [.int u2, .int cu]) m2
      have F5 := F4.new (x := .tup [.int u2, .int cu]) m2
      have g2 : P2 (hid s (upd G4 T2 (.tup [.int u2, .int cu]))) T2 (u2, cu) := F4.bk.at m2
      replace g1 := mo s5 g1
      generalize upd G4 T2 (.tup [.int u2, .int cu]) = G5 at F5 g1 g2 ⊢
      refine ⟨.int nu, rfl, .int cu, rfl, cu, 1, rfl, rfl, line_le (by simp), fun T3 m3 => ?_⟩
      have s6 := hid_new (p := s) (o := .tup [.int nu, .int (cu + 1)]) m3
      have F6 := F5.new (x := .tup [.int nu, .int (cu + 1)]) m3
      have g3 : P2 (hid s (upd G5 T3 (.tup [.int nu, .int (cu + 1)]))) T3 (nu, cu + 1) := F5.bk.at m3
      replace g1 := mo s6 g1
      replace g2 := mo s6 g2
      generalize upd G5 T3 (.tup [.int nu, .int (cu + 1)]) = G6 at F6 g1 g2 g3 ⊢
      obtain ⟨u4, hu4⟩ : ∃ u : Int, u = if cu - 1 > 0 then cu - 1 else 0 := ⟨_, rfl⟩
      refine ⟨.int nu, rfl, .int cu, rfl, cu, 1, rfl, rfl, 0, _, rfl, ?_⟩
      rw [← hu4]
      refine ⟨line_le (by simp), fun T4 m4 => ?_⟩
      have s7 := hid_new (p := s) (o := .tup [.int nu, .int u4]) m4
      have F7 := F6.new (x := .tup [.int nu, .int u4]) m4
      have g4 : P2 (hid s (upd G6 T4 (.tup [.int nu, .int u4]))) T4 (nu, u4) := F6.bk.at m4
      have CL4 : All2 (P2 (hid s (upd G6 T4 (.tup [.int nu, .int u4])))) [T1, T2, T3, T4] [(nu + 1, cu), (u2, cu), (nu, cu + 1), (nu, u4)] := .cons (mo s7 g1) (.cons (mo s7 g2) (.cons (mo s7 g3) (.cons g4 .nil)))
      clear g1 g2 g3 g4
      generalize upd G6 T4 (.tup [.int nu, .int u4]) = G7 at F7 CL4 ⊢
      refine ⟨line_le (by simp), fun o7 m7 => ?_⟩
      have F8 := F7.new (x := .lst [.ref T1, .ref T2, .ref T3, .ref T4]) m7
      have k7 := F7.bk.at (x := .lst [.ref T1, .ref T2, .ref T3, .ref T4]) m7
      replace CL4 : All2 (P2 (hid s (upd G7 o7 (.lst [.ref T1, .ref T2, .ref T3, .ref T4])))) [T1, T2, T3, T4] [(nu + 1, cu), (u2, cu), (nu, cu + 1), (nu, u4)] := CL4.mono fun _ _ r => mo (hid_new m7) r
      generalize upd G7 o7 (.lst [.ref T1, .ref T2, .ref T3, .ref T4]) = G8 at F8 k7 CL4 ⊢
      -- the next three
      refine ⟨.ref o7, rfl, .int nu, rfl, 10, 30, rfl, rfl, e30, line_le (by simp), fun o8 m8 => ?_⟩
      refine ⟨.ref b, rfl, o8, b, _, _, rfl, rfl, upd_same, (F8.new m8).il, line_le (by rw [List.length_map]; simp; omega), fun o9 m9 => ?_⟩
      have s9 := (hid_new (p := s) (o := .lst [.int 0, .int (10 ^ (30 : Int).toNat)]) m8).trans (hid_new (p := s) (o := .lst ([.int 0, .int (10 ^ (30 : Int).toNat)] ++ ids.map V.int)) m9)
      have F9 := F8.to s9 ((F8.bk.src.mono (same_upd m8)).mono (same_upd m9))
      have k9 := (F8.new (x := .lst [.int 0, .int (10 ^ (30 : Int).toNat)]) m8).bk.at (x := .lst ([.int 0, .int (10 ^ (30 : Int).toNat)] ++ ids.map V.int)) m9
      replace k7 := s9 _ _ k7
      replace CL4 := CL4.mono fun _ _ r => mo s9 r
      generalize upd (upd G8 o8 (.lst [.int 0, .int (10 ^ (30 : Int).toNat)])) o9 (.lst ([.int 0, .int (10 ^ (30 : Int).toNat)] ++ ids.map V.int)) = G9 at F9 k9 k7 CL4 ⊢
      refine ⟨.ref s, rfl, .ref b, rfl, b, _, rfl, .inl F9.il.sq, 2, _, rfl, rfl, s, n + 1, _, rfl, F9.bk.src, by omega, by omega, by rw [List.length_map]; omega, fun r2 G10 q2 q3 s10 S10 => ?_⟩
      rw [List.length_map] at q3
      have F10 := F9.to s10 S10
      obtain ⟨v, hv, mv⟩ := pickI (ns := 0 :: big :: ids) q2 (by simp only [List.length_cons]; omega)
      have hv0 : 0 ≤ v := by
        rcases List.mem_cons.mp mv with rfl | mv
        · exact Int.le_refl _
        · rcases List.mem_cons.mp mv with rfl | mv
          · decide
          · have := (okB v mv).1
            omega
      replace k7 := s10 _ _ k7
      replace CL4 := CL4.mono fun _ _ r => mo s10 r
      refine ⟨o9, _, r2, _, rfl, rfl, .of (hid_same _ _ (s10 _ _ k9)), hv, line_le (by simp), fun T5 m5 => ?_⟩
      have s11 := hid_new (p := s) (o := .tup [.int nu, .int v]) m5
      have F11 := F10.new (x := .tup [.int nu, .int v]) m5
      have g5 : P2 (hid s (upd G10 T5 (.tup [.int nu, .int v]))) T5 (nu, v) := F10.bk.at m5
      replace k7 := s11 _ _ k7
      replace CL4 := CL4.mono fun _ _ r => mo s11 r
      generalize upd G10 T5 (.tup [.int nu, .int v]) = G11 at F11 g5 k7 CL4 ⊢
      refine ⟨.int cu, rfl, line_le (by simp), fun T6 m6 => ?_⟩
      have s12 := hid_new (p := s) (o := .tup [.int 0, .int cu]) m6
      have F12 := F11.new (x := .tup [.int 0, .int cu]) m6
      have g6 : P2 (hid s (upd G11 T6 (.tup [.int 0, .int cu]))) T6 (0, cu) := F11.bk.at m6
      replace k7 := s12 _ _ k7
      replace CL4 := CL4.mono fun _ _ r => mo s12 r
      replace g5 := mo s12 g5
      generalize upd G11 T6 (.tup [.int 0, .int cu]) = G12 at F12 g5 g6 k7 CL4 ⊢
      refine ⟨.int cu, rfl, line_le (by simp), fun T7 m7' => ?_⟩
      have s13 := hid_new (p := s) (o := .tup [.int 30, .int cu]) m7'
      have F13 := F12.new (x := .tup [.int 30, .int cu]) m7'
      have g7 : P2 (hid s (upd G12 T7 (.tup [.int 30, .int cu]))) T7 (30, cu) := F12.bk.at m7'
      replace k7 := s13 _ _ k7
      have CL7 := (CL4.mono fun _ _ r => mo s13 r).append (.cons (mo s13 g5) (.cons (mo s13 g6) (.cons g7 .nil)))
      clear CL4 g5 g6 g7
      generalize upd G12 T7 (.tup [.int 30, .int cu]) = G13 at F13 k7 CL7 ⊢
      refine ⟨line_le (by simp), fun oL mL => ⟨o7, oL, _, _, rfl, rfl, same_upd mL _ _ (hid_same _ _ k7), upd_same, line_le (by simp), fun oS mS => ?_⟩⟩
      have s14 := hid_new (p := s) (o := .lst [.ref T5, .ref T6, .ref T7]) mL
      have F14 := F13.new (x := .lst [.ref T5, .ref T6, .ref T7]) mL
      replace CL7 := CL7.mono fun _ _ r => mo s14 r
      generalize upd G13 oL (.lst [.ref T5, .ref T6, .ref T7]) = G14 at F14 CL7 mS ⊢
      -- the list of some, which grows once more: Gs stands before it
      have dS : oS ≠ s := F14.bk.ne mS
      have nS : hid s G14 oS = none := hid_none mS
      have F15 := F14.new (x := .lst ([.ref T1, .ref T2, .ref T3, .ref T4] ++ [.ref T5, .ref T6, .ref T7])) mS
      have k15 := F14.bk.at (x := .lst ([.ref T1, .ref T2, .ref T3, .ref T4] ++ [.ref T5, .ref T6, .ref T7])) mS
      have s15 := hid_new (p := s) (o := .lst ([.ref T1, .ref T2, .ref T3, .ref T4] ++ [.ref T5, .ref T6, .ref T7])) mS
      generalize upd G14 oS (.lst ([.ref T1, .ref T2, .ref T3, .ref T4] ++ [.ref T5, .ref T6, .ref T7])) = G15 at F15 k15 s15 ⊢
      refine ⟨.ref oS, rfl, .inl ⟨rfl, _, .of (hid_same _ _ k15)⟩, .int nu, rfl, .ref s, rfl, s, n + 1 + 1, 4, rfl, F15.bk.src, by omega, by decide, by decide, fun r3 G16 q4 q5 s16 S16 => ⟨nu, r3, rfl, rfl, 30, _, rfl, ?_⟩⟩
      obtain ⟨u8, hu8⟩ : ∃ u : Int, u = if nu + r3 < 30 then nu + r3 else 30 := ⟨_, rfl⟩
      rw [← hu8]
      refine ⟨.int cu, rfl, line_le (by simp), fun T8 m8' => ?_⟩
      have F16 := F15.to s16 S16
      have s17 := hid_new (p := s) (o := .tup [.int u8, .int cu]) m8'
      have F17 := F16.new (x := .tup [.int u8, .int cu]) m8'
      have g8 : P2 (hid s (upd G16 T8 (.tup [.int u8, .int cu]))) T8 (u8, cu) := F16.bk.at m8'
      have k17 := s17 _ _ (s16 _ _ k15)
      have s1417 := s15.trans (s16.trans s17)
      generalize upd G16 T8 (.tup [.int u8, .int cu]) = G17 at F17 g8 k17 s1417 ⊢
      refine ⟨oS, _, _, rfl, rfl, hid_same _ _ k17, line_small (by simp), ?_⟩
      have eS : ([.ref T1, .ref T2, .ref T3, .ref T4] ++ [.ref T5, .ref T6, .ref T7] ++ [.ref T8] : List V) = [T1, T2, T3, T4, T5, T6, T7, T8].map V.ref := rfl
      rw [eS]
      have s18 : Same (hid s G14) (hid s (upd G17 oS (.lst ([T1, T2, T3, T4, T5, T6, T7, T8].map V.ref)))) := by
        rw [hid_upd_ne dS]
        exact same_put s1417 nS
      have F18 := F14.to s18 (F17.bk.src.put dS)
      have k18 : hid s (upd G17 oS (.lst ([T1, T2, T3, T4, T5, T6, T7, T8].map V.ref))) oS = some (.lst ([T1, T2, T3, T4, T5, T6, T7, T8].map V.ref)) := by
        rw [hid_ne dS]
        exact upd_same
      have dT8 : T8 ≠ oS := fun e => by
        have g8' : hid s G17 T8 = _ := g8
        rw [e, k17] at g8'
        cases g8'
      have g8' : P2 (hid s (upd G17 oS (.lst ([T1, T2, T3, T4, T5, T6, T7, T8].map V.ref)))) T8 (u8, cu) := by
        show hid s _ T8 = _
        rw [hid_upd_ne dS, upd_ne dT8]
        exact g8
      have CL8 := (CL7.mono fun _ _ r => mo s18 r).snoc g8'
      clear CL7 g8 g8' k17
      generalize upd G17 oS (.lst ([T1, T2, T3, T4, T5, T6, T7, T8].map V.ref)) = G18 at F18 k18 CL8 ⊢
      -- one of them
      refine ⟨.ref oS, rfl, .ref s, rfl, s, n + 1 + 1 + 1, 8, rfl, F18.bk.src, by omega, by decide, by decide, fun r4 G19 q6 q7 s19 S19 => ?_⟩
      have F19 := F18.to s19 S19
      obtain ⟨t9, ⟨n9, c9⟩, hat9, hcs9, rt9⟩ := pickR CL8 q6 (by simp; omega)
      have m9' := List.mem_of_getElem? hcs9
      have ok9 : 0 ≤ n9 ∧ 0 ≤ c9 := by
        have hu2' : 0 ≤ u2 := by rw [hu2]; split <;> omega
        have hu4' : 0 ≤ u4 := by rw [hu4]; split <;> omega
        have hu8' : 0 ≤ u8 := by rw [hu8]; split <;> omega
        have : ∀ z ∈ ([(nu + 1, cu), (u2, cu), (nu, cu + 1), (nu, u4)] ++ [(nu, v), (0, cu), (30, cu)] ++ [(u8, cu)] : List (Int × Int)), 0 ≤ z.1 ∧ 0 ≤ z.2 := by
          intro z hz
          simp only [List.cons_append, List.nil_append, List.mem_cons, List.not_mem_nil, or_false] at hz
          rcases hz with rfl | rfl | rfl | rfl | rfl | rfl | rfl | rfl <;> refine ⟨?_, ?_⟩ <;> dsimp only <;> omega
        exact this _ m9'
      refine ⟨oS, _, r4, _, rfl, rfl, .of (hid_same _ _ (s19 _ _ k18)), hat9, ?_⟩
      replace rt9 := mo s19 rt9
      refine ⟨.ref s, rfl, s, n + 1 + 1 + 1 + 1, 3, rfl, F19.bk.src, by omega, by decide, by decide, fun wy G20 q8 q9 s20 S20 => ?_⟩
      have F20 := F19.to s20 S20
      replace rt9 := mo s20 rt9
      have lsp : sp.toNat < cs.length := by omega
      refine ⟨.int wy, rfl, rfl, _, rfl, ite2 (fun e => ?_) (fun e => ?_)⟩
      · refine ⟨.ref o3, rfl, .int sp, rfl, sp, rfl, o3, _, rfl, F20.sq, fun x1 w1 => ?_⟩
        rw [cutT p0]
        have F21 := F20.new (x := .lst ((as.map V.ref).take sp.toNat)) w1
        have j1 := F20.bk.at (x := .lst ((as.map V.ref).take sp.toNat)) w1
        generalize upd G20 x1 (.lst ((as.map V.ref).take sp.toNat)) = G21 at F21 j1 ⊢
        refine ⟨.ref o3, rfl, .int sp, rfl, sp, 1, rfl, rfl, _, rfl, o3, _, rfl, F21.sq, ?_⟩
        rw [cutF (by omega)]
        refine fun x2 w2 => ?_
        have F22 := F21.new (x := .lst ((as.map V.ref).drop (sp + 1).toNat)) w2
        have j2 := F21.bk.at (x := .lst ((as.map V.ref).drop (sp + 1).toNat)) w2
        replace j1 := hid_new (o := .lst ((as.map V.ref).drop (sp + 1).toNat)) w2 _ _ j1
        generalize upd G21 x2 (.lst ((as.map V.ref).drop (sp + 1).toNat)) = G22 at F22 j1 j2 ⊢
        refine ⟨x1, x2, _, _, rfl, rfl, hid_same _ _ j1, hid_same _ _ j2, line_le (by simp; omega), ?_⟩
        rw [← List.map_take, ← List.map_drop, ← List.map_append]
        refine fun x3 w3 => ?_
        refine q x3 _ (cs.take sp.toNat ++ cs.drop (sp + 1).toNat) (F22.bk.was w3) (F22.new w3).bk.sm ((F22.new w3).bk.src.le (by omega)) ⟨_, F22.bk.at w3, ((F22.new w3).kC.take _).append ((F22.new w3).kC.drop _)⟩ ⟨?_, fun x hx => ?_⟩
        · rw [List.length_append, List.length_take, List.length_drop]
          omega
        · rcases List.mem_append.mp hx with z | z
          · exact hc.2 x (List.mem_of_mem_take z)
          · exact hc.2 x (List.mem_of_mem_drop z)
      · refine ⟨.int wy, rfl, rfl, _, rfl, ite2 (fun e2 => ?_) (fun e2 => ?_)⟩
        · refine ⟨.ref o3, rfl, .int sp, rfl, sp, rfl, o3, _, rfl, F20.sq, fun x1 w1 => ?_⟩
          rw [cutT p0]
          have F21 := F20.new (x := .lst ((as.map V.ref).take sp.toNat)) w1
          have j1 := F20.bk.at (x := .lst ((as.map V.ref).take sp.toNat)) w1
          generalize upd G20 x1 (.lst ((as.map V.ref).take sp.toNat)) = G21 at F21 j1 ⊢
          refine ⟨.ref o3, rfl, .int sp, rfl, sp, rfl, .int sp, rfl, sp, 1, rfl, rfl, _, rfl, o3, _, rfl, F21.sq, ?_⟩
          rw [cutB p0 (by rw [List.length_map]; omega)]
          refine fun x2 w2 => ?_
          have F22 := F21.new (x := .lst (((as.map V.ref).drop sp.toNat).take 1)) w2
          have j2 := F21.bk.at (x := .lst (((as.map V.ref).drop sp.toNat).take 1)) w2
          replace j1 := hid_new (o := .lst (((as.map V.ref).drop sp.toNat).take 1)) w2 _ _ j1
          generalize upd G21 x2 (.lst (((as.map V.ref).drop sp.toNat).take 1)) = G22 at F22 j1 j2 ⊢
          refine ⟨x1, x2, _, _, rfl, rfl, hid_same _ _ j1, hid_same _ _ j2, line_le (by simp; omega), fun x3 w3 => ?_⟩
          have F23 := F22.new (x := .lst ((as.map V.ref).take sp.toNat ++ ((as.map V.ref).drop sp.toNat).take 1)) w3
          have j3 := F22.bk.at (x := .lst ((as.map V.ref).take sp.toNat ++ ((as.map V.ref).drop sp.toNat).take 1)) w3
          generalize upd G22 x3 (.lst ((as.map V.ref).take sp.toNat ++ ((as.map V.ref).drop sp.toNat).take 1)) = G23 at F23 j3 ⊢
          refine ⟨.ref o3, rfl, .int sp, rfl, sp, rfl, o3, _, rfl, F23.sq, ?_⟩
          rw [cutF p0]
          refine fun x4 w4 => ?_
          have F24 := F23.new (x := .lst ((as.map V.ref).drop sp.toNat)) w4
          have j4 := F23.bk.at (x := .lst ((as.map V.ref).drop sp.toNat)) w4
          replace j3 := hid_new (o := .lst ((as.map V.ref).drop sp.toNat)) w4 _ _ j3
          generalize upd G23 x4 (.lst ((as.map V.ref).drop sp.toNat)) = G24 at F24 j3 j4 ⊢
          refine ⟨x3, x4, _, _, rfl, rfl, hid_same _ _ j3, hid_same _ _ j4, line_le (by simp; omega), fun x5 w5 => ?_⟩
          have F25 := F24.new (x := .lst ((as.map V.ref).take sp.toNat ++ ((as.map V.ref).drop sp.toNat).take 1 ++ (as.map V.ref).drop sp.toNat)) w5
          have j5 := F24.bk.at (x := .lst ((as.map V.ref).take sp.toNat ++ ((as.map V.ref).drop sp.toNat).take 1 ++ (as.map V.ref).drop sp.toNat)) w5
          generalize upd G24 x5 (.lst ((as.map V.ref).take sp.toNat ++ ((as.map V.ref).drop sp.toNat).take 1 ++ (as.map V.ref).drop sp.toNat)) = G25 at F25 j5 ⊢
          refine ⟨12, rfl, x5, _, rfl, .of (hid_same _ _ j5), ?_⟩
          rw [cutT (by decide)]
          have el : ((as.map V.ref).take sp.toNat ++ ((as.map V.ref).drop sp.toNat).take 1 ++ (as.map V.ref).drop sp.toNat).take (12 : Int).toNat = ((as.take sp.toNat ++ (as.drop sp.toNat).take 1 ++ as.drop sp.toNat).take 12).map V.ref := by
            simp only [List.map_take, List.map_append, List.map_drop]
            rfl
          rw [el]
          refine fun x6 w6 => ?_
          have kf := (F25.new (x := .lst (((as.take sp.toNat ++ (as.drop sp.toNat).take 1 ++ as.drop sp.toNat).take 12).map V.ref)) w6).kC
          refine q x6 _ ((cs.take sp.toNat ++ (cs.drop sp.toNat).take 1 ++ cs.drop sp.toNat).take 12) (F25.bk.was w6) (F25.new w6).bk.sm ((F25.new w6).bk.src.le (by omega)) ⟨_, F25.bk.at w6, (((kf.take _).append ((kf.drop _).take 1)).append (kf.drop _)).take 12⟩ ⟨?_, fun x hx => ?_⟩
          · rw [List.length_take]
            omega
          · have hx := List.mem_of_mem_take hx
            rcases List.mem_append.mp hx with z | z
            · rcases List.mem_append.mp z with z | z
              · exact hc.2 x (List.mem_of_mem_take z)
              · exact hc.2 x (List.mem_of_mem_drop (List.mem_of_mem_take z))
            · exact hc.2 x (List.mem_of_mem_drop z)
        · refine ⟨.ref o3, rfl, .int sp, rfl, sp, rfl, o3, _, rfl, F20.sq, fun x1 w1 => ?_⟩
          rw [cutT p0]
          have F21 := F20.new (x := .lst ((as.map V.ref).take sp.toNat)) w1
          have j1 := F20.bk.at (x := .lst ((as.map V.ref).take sp.toNat)) w1
          replace rt9 := mo (hid_new (o := .lst ((as.map V.ref).take sp.toNat)) w1) rt9
          generalize upd G20 x1 (.lst ((as.map V.ref).take sp.toNat)) = G21 at F21 j1 rt9 ⊢
          obtain ⟨w30, hw30⟩ : ∃ u : Int, u = if n9 < 30 then n9 else 30 := ⟨_, rfl⟩
          obtain ⟨wbig, hwbig⟩ : ∃ u : Int, u = if c9 < 10 ^ (30 : Int).toNat then c9 else 10 ^ (30 : Int).toNat := ⟨_, rfl⟩
          refine ⟨.ref t9, rfl, t9, _, 0, _, rfl, rfl, (mo hid_same rt9).sq, rfl, 30, n9, rfl, 10, 30, rfl, rfl, e30, .ref t9, rfl, t9, _, 1, _, rfl, rfl, (mo hid_same rt9).sq, rfl, _, c9, rfl, ?_⟩
          rw [← hw30, ← hwbig]
          refine ⟨line_le (by simp), fun x2 w2 => ?_⟩
          have F22 := F21.new (x := .tup [.int w30, .int wbig]) w2
          have j2 : P2 (hid s (upd G21 x2 (.tup [.int w30, .int wbig]))) x2 (w30, wbig) := F21.bk.at w2
          replace j1 := hid_new (o := .tup [.int w30, .int wbig]) w2 _ _ j1
          generalize upd G21 x2 (.tup [.int w30, .int wbig]) = G22 at F22 j1 j2 ⊢
          refine ⟨line_le (by simp), fun x3 w3 => ?_⟩
          have F23 := F22.new (x := .lst [.ref x2]) w3
          have j3 := F22.bk.at (x := .lst [.ref x2]) w3
          replace j1 := hid_new (o := .lst [.ref x2]) w3 _ _ j1
          replace j2 := mo (hid_new (o := .lst [.ref x2]) w3) j2
          generalize upd G22 x3 (.lst [.ref x2]) = G23 at F23 j1 j2 j3 ⊢
          refine ⟨x1, x3, _, _, rfl, rfl, hid_same _ _ j1, hid_same _ _ j3, line_le (by simp; omega), fun x4 w4 => ?_⟩
          have F24 := F23.new (x := .lst ((as.map V.ref).take sp.toNat ++ [.ref x2])) w4
          have j4 := F23.bk.at (x := .lst ((as.map V.ref).take sp.toNat ++ [.ref x2])) w4
          replace j2 := mo (hid_new (o := .lst ((as.map V.ref).take sp.toNat ++ [.ref x2])) w4) j2
          generalize upd G23 x4 (.lst ((as.map V.ref).take sp.toNat ++ [.ref x2])) = G24 at F24 j2 j4 ⊢
          refine ⟨.ref o3, rfl, .int sp, rfl, sp, 1, rfl, rfl, _, rfl, o3, _, rfl, F24.sq, ?_⟩
          rw [cutF (by omega)]
          refine fun x5 w5 => ?_
          have F25 := F24.new (x := .lst ((as.map V.ref).drop (sp + 1).toNat)) w5
          have j5 := F24.bk.at (x := .lst ((as.map V.ref).drop (sp + 1).toNat)) w5
          replace j4 := hid_new (o := .lst ((as.map V.ref).drop (sp + 1).toNat)) w5 _ _ j4
          replace j2 := mo (hid_new (o := .lst ((as.map V.ref).drop (sp + 1).toNat)) w5) j2
          generalize upd G24 x5 (.lst ((as.map V.ref).drop (sp + 1).toNat)) = G25 at F25 j2 j4 j5 ⊢
          refine ⟨x4, x5, _, _, rfl, rfl, hid_same _ _ j4, hid_same _ _ j5, line_le (by simp; omega), ?_⟩
          have el : (as.map V.ref).take sp.toNat ++ [.ref x2] ++ (as.map V.ref).drop (sp + 1).toNat = (as.take sp.toNat ++ [x2] ++ as.drop (sp + 1).toNat).map V.ref := by
            simp only [List.map_take, List.map_append, List.map_drop]
            rfl
          rw [el]
          refine fun x6 w6 => ?_
          have kf := (F25.new (x := .lst ((as.take sp.toNat ++ [x2] ++ as.drop (sp + 1).toNat).map V.ref)) w6).kC
          refine q x6 _ (cs.take sp.toNat ++ [(w30, wbig)] ++ cs.drop (sp + 1).toNat) (F25.bk.was w6) (F25.new w6).bk.sm ((F25.new w6).bk.src.le (by omega)) ⟨_, F25.bk.at w6, ((kf.take _).append (.cons (mo (hid_new w6) j2) .nil)).append (kf.drop _)⟩ ⟨?_, fun x hx => ?_⟩
          · rw [List.length_append, List.length_append, List.length_take, List.length_drop, List.length_singleton]
            omega
          · rcases List.mem_append.mp hx with z | z
            · rcases List.mem_append.mp z with z | z
              · exact hc.2 x (List.mem_of_mem_take z)
              · rw [List.mem_singleton.mp z]
                have e10 : (10 : Int) ^ (30 : Int).toNat = big := rfl
                rw [e10] at hwbig
                refine ⟨?_, ?_, ?_, ?_⟩
                · show 0 ≤ w30
                  rw [hw30]
                  split <;> omega
                · show w30 ≤ 30
                  rw [hw30]
                  split <;> omega
                · show 0 ≤ wbig
                  rw [hwbig, big0]
                  split <;> omega
                · show wbig ≤ big
                  rw [hwbig]
                  split <;> omega
            · exact hc.2 x (List.mem_of_mem_drop z)
end
end W73


set_option Elab.async false
set_option linter.all false
set_option maxRecDepth 100000
set_option maxHeartbeats 4000000
namespace M73
theorem subsE_small : ∀ (l : List Int) (n : Nat), (subsE l n).length ≤ 2 ^ l.length
  | [], n => by simp [subsE]
  | [x], n => by
    simp only [subsE]
    split <;> simp
  | x :: y :: r, 0 => by simp [subsE]
  | x :: y :: r, n + 1 => by
    have h1 := subsE_small (y :: r) n
    have h2 := subsE_small (y :: r) (n + 1)
    simp only [subsE, List.length_append, List.length_map]
    rw [List.length_cons, Nat.pow_succ]
    omega
theorem prod_small {ids : List Int} (hA : Asc ids) : ∀ (counts : Cnt) (c : Int), (prodLogs ids c counts).length ≤ 2 ^ (above c ids).length
  | [], c => by
    show 1 ≤ _
    exact Nat.one_le_two_pow
  | (n, d) :: r, c => by
    have ih := prod_small hA r d
    simp only [prodLogs]
    rw [flatMap_map_length]
    unfold rowsOf
    by_cases h1 : d = c
    · subst h1
      rw [if_pos rfl]
      split
      · simpa using ih
      · simp
    · rw [if_neg h1]
      by_cases h2 : d < c
      · rw [if_pos h2]
        simp
      · rw [if_neg h2]
        split
        · have e := above_split (by omega : c ≤ d) hA
          have := subsE_small (part c d ids) n.toNat
          rw [e, List.length_append, Nat.pow_add]
          exact Nat.mul_le_mul this ih
        · simp
theorem PL_small {ids : List Int} (hA : Asc ids) (h1 : ∀ x ∈ ids, 1 ≤ x) (counts : Cnt) (h : ids.length ≤ 8) : (PL ids counts).length ≤ 256 := by
  have := prod_small hA counts 0
  rw [above_zero h1] at this
  have h2 : 2 ^ ids.length ≤ 2 ^ 8 := Nat.pow_le_pow_right (by omega) h
  have e : (2 : Nat) ^ 8 = 256 := by decide
  show (prodLogs ids 0 counts).length ≤ 256
  omega
end M73


set_option Elab.async false
set_option linter.all false
set_option maxRecDepth 100000
set_option maxHeartbeats 8000000
namespace W73
open PySem PySem.Spec PyProof.Rows L2
theorem op_ninK {X : Cx} {K : PySem.W.Frag} (h : X.K = K := by rfl) : OpR X (compareOp .NotIn) (rIn K true) := h ▸ op_notIn_seq
theorem bt_set : bootBuiltins "set" = some (.type "set") := by decide +kernel
def inv4 (k : Str) : M73.S4 := if k = s4 .rd then .rd else if k = s4 .ls then .ls else if k = s4 .op then .op else .un
theorem inv4_s4 (x : M73.S4) : inv4 (s4 x) = x := by
  cases x <;> decide +kernel
theorem cur_last : ∀ (cs : List (Int × Int)) (c : Int), (c :: cs.map (·.2)).getLast? = some (M73.curOf c cs)
  | [], c => rfl
  | (n, d) :: r, c => by
    rw [List.map_cons, List.getLast?_cons_cons]
    exact cur_last r d
section
variable {P : Program} {w : World} {K : PySem.W.Frag} {mg : Str → Option Value} {base : Heap}
abbrev cCounted (P : Program) (w : World) (K : PySem.W.Frag) (mg : Str → Option Value) (base : Heap) : Prop := Cal P w K mg base "_law_counted" ["_law_log_here"] [] 1 spCounted
abbrev cLState (P : Program) (w : World) (K : PySem.W.Frag) (mg : Str → Option Value) (base : Heap) : Prop := Cal P w K mg base "_law_state" ["_law_log_here", "_law_cursor", "_law_row"] [] 1 spLState
abbrev cCFit (P : Program) (w : World) (K : PySem.W.Frag) (mg : Str → Option Value) (base : Heap) : Prop := Cal P w K mg base "counts_fit" ["counts", "ids"] [] 5 spCFit
abbrev cCnt (P : Program) (w : World) (K : PySem.W.Frag) (mg : Str → Option Value) (base : Heap) : Prop := Cal P w K mg base "count_logs" ["counts", "ids"] [] 5 spCnt
abbrev cNth (P : Program) (w : World) (K : PySem.W.Frag) (mg : Str → Option Value) (base : Heap) : Prop := Cal P w K mg base "nth_log" ["counts", "ids", "number"] [] 5 spNth
abbrev cStates (P : Program) (w : World) (K : PySem.W.Frag) (mg : Str → Option Value) (base : Heap) : Prop := Cal P w K mg base "states_by" ["counts", "ids"] [] 6 spStates
abbrev cLost (P : Program) (w : World) (K : PySem.W.Frag) (mg : Str → Option Value) (base : Heap) : Prop := Cal P w K mg base "lost_numbers" ["counts", "ids"] [] 6 spLost
abbrev N61 : List Str := ["_law_counts", "_law_ids_here", "_law_logs", "_law_good", "_law_cursor", "_law_told", "_law_row", "_law_here", "_law_log_here", "_law_old", "_law_due", "_law_rows", "_law_pair", "_law_number"]
theorem sc61 : FnScope N61 ["_law_counts", "_law_ids_here", "_law_logs"] (defScope (topS 61)) := ⟨rfl, rfl, rfl, by decide +kernel, rfl, by decide +kernel, by decide +kernel⟩
def spRight : Sp := fun vs H Q _ => ∃ (a b c : Addr) (cs : List (Int × Int)) (ids : List Int), vs = [.ref a, .ref b, .ref c] ∧ CL H a cs ∧ IL H b ids ∧ GL H c (M73.allLogs cs.length ids) ∧ CntsOk cs ∧ IdsOk ids ∧ ids.length ≤ 7 ∧ cs.length ≤ 3 ∧ ∀ H', Same H H' → Q (.bl true) H'
theorem c_right (g : Glob mg) (D : Df K mg "_law_right" (topS 61) [] []) (cC : cCounted P w K mg base) (cF : cCFit P w K mg base) (cT : cCnt P w K mg base) (cN : cNth P w K mg base) (cS : cStates P w K mg base) (cL : cLState P w K mg base) (cO : cLost P w K mg base) :
    Cal P w K mg base "_law_right" ["_law_counts", "_law_ids_here", "_law_logs"] [] 7 spRight := by
  refine Cal.of D sc61 (fun _ _ _ _ _ _ us hl => match us, hl with | [_, _, _], _ => rfl) (fun vs H Q E h => ?_) (fun f cdv A outer s H vs Q E hr h => ⟨_, pss_cons
    (ps_set (i := 3) sc61.nd rfl (.inl rfl) (pe_callB (cr_sortL hr.units) rfl g.sorted bt_sorted (pa_cons (pe_lc (own := [("_law_log_here", 8)]) (g := gName 8) rfl sc61.nd (pi_list (pv 2)) (blkOk_by (N := N61) (sc := defScope (topS 61)) (by decide +kernel))
      (fun _ _ _ _ _ => pg_name (i := 8) sc61.nd rfl (.inl rfl)) (fun _ _ _ _ _ => pts_one (pt_cmpR (op_eqDK (K := K) hr.units) (pe_cal cC (hr.mono (by decide)) (pa_cons (pv 8) pa_nil)) (pv 0) (nomark _))) (fun _ _ _ _ _ => pv 8)) pa_nil)))
    (pss_cons (ps_if (PW.pt (pw_or (pt_cmpR op_ne (pe_cal cF (hr.mono (by decide)) (pa_cons (pv 0) (pa_cons (pv 1) pa_nil))) (pe_cmpR (op_neD hr.units) (pv 3) (pe_lst pa_nil) (nomark _)) (nomark _))
        (pw_or1 (pt_cmpR op_ne (pe_cal cT (hr.mono (by decide)) (pa_cons (pv 0) (pa_cons (pv 1) pa_nil))) (pe_len g.len (pv 3)) (nomark _))))) (pss_one (ps_ret pe_bl)) pss_nil)
    (pss_cons (ps_if (pt_cmpR (op_eqD hr.units) (pv 3) (pe_lst pa_nil) (nomark _)) (pss_one (ps_ret pe_bl)) pss_nil)
    (pss_cons (ps_if (pt_cmpR (op_neD hr.units) (pe_lc (own := [("_law_number", 13)]) (g := gName 13) rfl sc61.nd (pi_range1 rfl g.range (pa_cons (pe_len g.len (pv 3)) pa_nil)) (blkOk_by (N := N61) (sc := defScope (topS 61)) (by decide +kernel))
        (fun _ _ _ _ _ => pg_name (i := 13) sc61.nd rfl (.inl rfl)) (fun _ _ _ _ _ => pts_nil) (fun _ _ _ _ _ => pe_cal cN (hr.mono (by decide)) (pa_cons (pv 0) (pa_cons (pv 1) (pa_cons (pv 13) pa_nil))))) (pv 3) (nomark _)) (pss_one (ps_ret pe_bl)) pss_nil)
    (pss_cons (ps_asg (pe_tup (pa_cons (pe_ix ix_list (pe_op op_cat (pe_lst (pa_cons pe_int pa_nil)) (pe_lc (own := [("_law_pair", 12)]) (g := gName 12) rfl sc61.nd (pi_list (pv 0)) (blkOk_by (N := N61) (sc := defScope (topS 61)) (by decide +kernel))
          (fun _ _ _ _ _ => pg_name (i := 12) sc61.nd rfl (.inl rfl)) (fun _ _ _ _ _ => pts_nil) (fun _ _ _ _ _ => pe_ix (ix_tupK (K := K)) (pv 12) pe_int (fun _ _ => rfl)))) (pe_un un_neg pe_int) (fun _ _ => rfl))
        (pa_cons (pe_cal cS hr (pa_cons (pv 0) (pa_cons (pv 1) pa_nil))) pa_nil))) (pg_tup rfl (pgs_cons (pg_name (i := 4) sc61.nd rfl (.inr rfl)) (pgs_cons (pg_name (i := 5) sc61.nd rfl (.inl rfl)) pgs_nil))))
    (pss_cons (ps_for PassesOwn.never rfl (pi_list (pv 1)) (pg_name (i := 6) sc61.nd rfl (.inr rfl))
      (pss_cons (ps_set (i := 7) sc61.nd rfl (.inl rfl) (pe_callB (cr_sortS rfl hr.units) rfl g.sorted bt_sorted (pa_cons (pe_callTy (cr_setS rfl) rfl g.set bt_set (pa_cons
          (pe_lc (own := [("_law_log_here", 8)]) (g := gName 8) rfl sc61.nd (pi_list (pv 3)) (blkOk_by (N := N61) (sc := defScope (topS 61)) (by decide +kernel))
            (fun _ _ _ _ _ => pg_name (i := 8) sc61.nd rfl (.inl rfl)) (fun _ _ _ _ _ => pts_nil) (fun _ _ _ _ _ => pe_cal cL (hr.mono (by decide)) (pa_cons (pv 8) (pa_cons (pv 4) (pa_cons (pv 6) pa_nil))))) pa_nil)) pa_nil)))
      (pss_one (ps_if (pt_cmpR op_ne (pe_dget (u1 hr.units) (pv 5) (pv 6) (fun _ _ => rfl)) (pe_ifExp (pt_cmpR op_eq (pe_len g.len (pv 7)) pe_int (nomark _)) (pe_ix ix_list (pv 7) pe_int (fun _ _ => rfl)) pe_str) (nomark _)) (pss_one (ps_ret pe_bl)) pss_nil))))
    (pss_cons (ps_for PassesOwn.never rfl (pi_list (pv 3)) (pg_name (i := 8) sc61.nd rfl (.inl rfl))
      (pss_cons (ps_asg (pe_tup (pa_cons pe_int (pa_cons (pe_lst pa_nil) pa_nil))) (pg_tup rfl (pgs_cons (pg_name (i := 9) sc61.nd rfl (.inr rfl)) (pgs_cons (pg_name (i := 10) sc61.nd rfl (.inl rfl)) pgs_nil))))
      (pss_cons (ps_for PassesOwn.never rfl (pi_zip rfl g.zip (pa_cons (pv 8) (pa_cons (pv 0) pa_nil))) (pg_tup rfl (pgs_cons (pg_name (i := 11) sc61.nd rfl (.inr rfl)) (pgs_cons (pg_name (i := 12) sc61.nd rfl (.inr rfl)) pgs_nil)))
        (pss_cons (ps_expr (pe_bm PySem.F.plainAttrs_list PySem.F.slot_list_append PySem.F.type_list_append mt_append (pv 10) (pa_cons
            (pe_len g.len (pe_lc (own := [("_law_row", 6)]) (g := gName 6) rfl sc61.nd (pi_list (pv 1)) (blkOk_by (N := N61) (sc := defScope (topS 61)) (by decide +kernel))
              (fun _ _ _ _ _ => pg_name (i := 6) sc61.nd rfl (.inl rfl)) (fun _ _ _ _ _ => pts_one (PW.pt (pw_and (pt_chain op_lt op_le (pv 9) (pv 6) (pe_ix (ix_tupK (K := K)) (pv 12) pe_int (fun _ _ => rfl))) (pw_and1 (pt_cmpR (op_ninK (K := K)) (pv 6) (pv 11) rfl)))))
              (fun _ _ _ _ _ => pv 6))) pa_nil)))
        (pss_one (ps_set (i := 9) sc61.nd rfl (.inr rfl) (pe_ix ix_tup (pv 12) pe_int (fun _ _ => rfl))))))
      (pss_one (ps_if (pt_cmpR (op_neD hr.units) (pe_cal cO hr (pa_cons (pv 0) (pa_cons (pv 1) pa_nil))) (pv 10) (nomark _)) (pss_one (ps_ret pe_bl)) pss_nil)))))
    (pss_one (ps_ret pe_bl)))))))), ?_⟩)
  · obtain ⟨a, b, c, cs, ids, rfl, _⟩ := h
    rfl
  · obtain ⟨a, b, c, cs, ids, rfl, hC, hI, hG, hc, hi, l7, l3, q⟩ := h
    have asc : M73.Asc ids := hi.2.2
    have ge1 : ∀ x ∈ ids, 1 ≤ x := fun x hx => (hi.2.1 x hx).1
    have h0 : ∀ p ∈ cs, 0 ≤ p.1 := fun p hp => (hc.2 p hp).1
    have lenA : (M73.allLogs cs.length ids).length ≤ 16384 := Nat.le_trans (M73.allLogs_length _ _) (pow_le7 l3 l7)
    have memA : ∀ log ∈ M73.allLogs cs.length ids, log.length = cs.length ∧ ∀ r ∈ log, r.length ≤ 7 := fun log hl => by
      obtain ⟨h1, h2⟩ := (M73.mem_allLogs _ _ log).mp hl
      refine ⟨h1, fun r hr => ?_⟩
      have e1 : r.length ≤ log.flatten.length := (List.sublist_flatten_of_mem hr).length_le
      have := h2.length_le
      omega
    have memP : ∀ log ∈ M73.PL ids cs, log.length = cs.length := fun log hl => (memA log (List.mem_filter.mp ((M73.good_mem asc ge1 cs log).mpr hl)).1).1
    have lenP := M73.PL_small asc ge1 cs (by omega)
    have fitI := M73.prod_ne (ids := ids) cs 0 h0
    refine ⟨.ref c, rfl, c, rfl, ⟨_, .of hG.choose_spec.1⟩, fun D nD => lc_objs (K := K) (R := LL) (a := c) (fun log => decide (M73.countedFrom 0 log = cs)) hG nD (by omega) (fun t log H3 A B hm rt s3 hA hB => ?_) (fun H3 ts s3 hF hts => ?_)⟩
    · obtain ⟨k1, k2⟩ := memA log hm
      refine ⟨rfl, .ref t, rfl, t, log, rfl, mo s3 rt, by omega, fun r hr => by have := k2 r hr; omega, fun H4 p t4 np hCt => ⟨.ref a, rfl, dC (M73.countedFrom 0 log), dC cs, dp_CL hCt, dp_CL (mo (s3.trans t4) hC), shp_C _, shp_C _, _, rfl, ?_⟩⟩
      rw [eqv_C]
      exact ite2 (fun e => ⟨.ref t, rfl, hA e H4 t4⟩) (fun e => hB (bf e) H4 t4)
    · have s3' : Same H H3 := s3.trans hid_same
      refine ⟨D, ts, _, rfl, .of hF, hts.mono fun _ _ r => mo s3' r, fun bs og hbs no => ?_⟩
      rw [M73.good_sorted asc ge1 cs] at hbs
      have t4 : Same H (upd H3 og (.lst (bs.map V.ref))) := s3'.trans (same_upd no)
      have hog : upd H3 og (.lst (bs.map V.ref)) og = some (.lst (bs.map V.ref)) := upd_same
      replace hbs := hbs.mono fun _ _ r => mo (same_upd (o := .lst (bs.map V.ref)) no) r
      generalize upd H3 og (.lst (bs.map V.ref)) = H4 at t4 hog hbs ⊢
      have lbs : bs.length = (M73.PL ids cs).length := hbs.1
      -- fit
      refine ⟨.ref a, rfl, .ref b, rfl, a, b, cs, ids, rfl, mo t4 hC, mo t4 hI, hc, hi, fun H5 s5 => ⟨.ref og, rfl, Nat.zero_le _, fun l nl => ?_⟩⟩
      have s5' := s5.trans (same_upd (o := .lst []) nl)
      refine ⟨dG (M73.PL ids cs), .list [], dp_GL ⟨bs, s5' _ _ hog, hbs.mono fun _ _ r => mo s5' r⟩, dp_nil upd_same, shp_G _, shp_nil, rfl, _, rfl, ?_⟩
      rw [eqv_nilG]
      have efit : decide (V.bl (M73.fitB ids 0 cs) = V.bl (!decide (M73.PL ids cs = []))) = true := by
        apply decide_eq_true
        by_cases e : M73.PL ids cs = []
        · have : M73.fitB ids 0 cs = false := by
            cases z : M73.fitB ids 0 cs with
            | false => rfl
            | true => exact absurd e (fitI.mp z)
          rw [this, decide_eq_true e]
          rfl
        · rw [fitI.mpr e, decide_eq_false e]
          rfl
      rw [efit]
      replace hog := s5' _ _ hog
      replace hbs := hbs.mono fun _ _ r => mo s5' r
      replace t4 := t4.trans s5'
      clear s5 s5'
      generalize upd H5 l (.lst []) = H6 at t4 hog hbs ⊢
      refine iteF ⟨.ref a, rfl, .ref b, rfl, a, b, cs, ids, rfl, mo t4 hC, mo t4 hI, hc, hi, fun H7 s7 => ⟨.ref og, rfl, og, _, rfl, .inl (.of (s7 _ _ hog)), rfl, _, rfl, ?_⟩⟩
      rw [List.length_map, lbs, decide_eq_true rfl]
      replace hog := s7 _ _ hog
      replace hbs := hbs.mono fun _ _ r => mo s7 r
      replace t4 := t4.trans s7
      refine iteF ⟨.ref og, rfl, Nat.zero_le _, fun l2 nl2 => ?_⟩
      have s8 := same_upd (o := .lst []) nl2
      refine ⟨dG (M73.PL ids cs), .list [], dp_GL ⟨bs, s8 _ _ hog, hbs.mono fun _ _ r => mo s8 r⟩, dp_nil upd_same, shp_G _, shp_nil, _, rfl, ?_⟩
      rw [eqv_nilG]
      replace hog := s8 _ _ hog
      replace hbs := hbs.mono fun _ _ r => mo s8 r
      replace t4 := t4.trans s8
      generalize upd H7 l2 (.lst []) = H8 at t4 hog hbs ⊢
      refine ite2 (fun e => q H8 t4) (fun e => ?_)
      have egl : M73.PL ids cs ≠ [] := fun z => e (decide_eq_true z)
      have hfit := fitI.mpr egl
      -- the numbers
      refine ⟨.ref og, rfl, og, _, rfl, .inl (.of hog), _, rfl, ?_, ?_, fun D nD => lc_range (lo := 0) (n := (((bs.map V.ref).length : Nat) : Int).toNat)
        (fun i G => ∃ ts : List Addr, G D = some (.lst (ts.map V.ref)) ∧ ts.length = i ∧ Same H8 (hid D G) ∧ All2 (LL (hid D G)) ts ((M73.PL ids cs).take i))
        ⟨[], upd_same, rfl, by rw [hid_upd, hid_free nD]; exact Same.refl _, All2.nil⟩ (fun i G hi' h => ?_) (fun G h => ?_)⟩
      · rw [List.length_map]
        omega
      · rw [List.length_map]
        omega
      · obtain ⟨ts, hD, lt, sG, hts2⟩ := h
        rw [List.length_map, lbs, Int.toNat_natCast] at hi'
        have e0 : (0 : Int) + (i : Int) = (i : Int) := by omega
        rw [e0]
        have sX : Same H G := t4.trans (sG.trans hid_same)
        refine ⟨rfl, .ref a, rfl, .ref b, rfl, .int i, rfl, a, b, cs, ids, i, rfl, mo sX hC, mo sX hI, hc, hi, hi', fun H' p log s' np hL hk => ⟨_, s' _ _ hD, line_small (by rw [List.length_map]; omega), ts ++ [p], ?_, ?_, ?_, ?_⟩⟩
        · rw [upd_same, List.map_append]
          rfl
        · rw [List.length_append, lt]
          rfl
        · rw [hid_upd]
          exact sG.trans (hid_mono s')
        · rw [hid_upd, List.take_add_one, hk]
          exact (hts2.mono fun _ _ r => mo (hid_mono s') r).snoc (mo (dif_hid hD) hL)
      · obtain ⟨ts, hD, lt, sG, hts2⟩ := h
        rw [List.length_map, lbs, Int.toNat_natCast, List.take_length] at hts2
        have s9 : Same H8 G := sG.trans hid_same
        refine ⟨.ref og, rfl, dG (M73.PL ids cs), dG (M73.PL ids cs), dp_GL ⟨ts, hD, hts2.mono fun _ _ r => mo hid_same r⟩, dp_GL ⟨bs, s9 _ _ hog, hbs.mono fun _ _ r => mo s9 r⟩, shp_G _, shp_G _, _, rfl, ?_⟩
        rw [eqv_G, decide_eq_true rfl]
        replace hog := s9 _ _ hog
        replace hbs := hbs.mono fun _ _ r => mo s9 r
        replace t4 := t4.trans s9
        clear hts2 hD lt sG
        -- cursor, told
        refine iteF ⟨line_le (by simp), fun o1 n1 => ⟨.ref a, rfl, a, rfl, ⟨_, .of ((t4.trans (same_upd n1)) _ _ hC.choose_spec.1)⟩, fun D2 nD2 => ?_⟩⟩
        obtain ⟨as, hA, hP⟩ := hC
        have hC : CL H a cs := ⟨as, hA, hP⟩
        refine lc_list (K := K) (a := a) (xs := as.map V.ref) (PvA (fun i acc _ => acc = ((cs.map (·.2)).take i).map V.int) (upd G o1 (.lst [.int 0])) D2) (PvA.start nD2 rfl) (fun i H9 _ h => .of (((t4.trans (same_upd n1)).trans h.same) _ _ hA)) (fun i x H9 hx h => ?_) (fun H9 h => ?_)
        · have sH := (t4.trans (same_upd n1)).trans h.same
          obtain ⟨acc, hD2, hle, sm, rfl⟩ := h
          obtain ⟨t, ht, rfl⟩ := ref_get hx
          obtain ⟨⟨n, d⟩, hcn, r⟩ := hP.get ht
          have li := (List.getElem?_eq_some_iff.mp hcn).1
          refine ⟨rfl, .ref t, rfl, t, _, 1, _, rfl, rfl, (mo sH r).sq, rfl, PvA.snoc (by omega) hD2 hle sm ?_⟩
          rw [List.take_add_one, List.getElem?_map, hcn, List.map_append]
          rfl
        · have sH := h.same
          obtain ⟨acc, hD2, hle, sm, rfl⟩ := h
          rw [List.take_of_length_le (by rw [List.length_map, List.length_map, hP.1]; exact Nat.le_refl _)] at hD2
          refine ⟨o1, D2, _, _, rfl, rfl, sH _ _ upd_same, hD2, line_le (by simp; omega), fun o3 n3 => ?_⟩
          have s10 : Same G (upd H9 o3 (.lst ([.int 0] ++ (cs.map (·.2)).map V.int))) := (same_upd n1).trans (sH.trans (same_upd n3))
          have hlast := at_last (cur_last cs 0)
          have k3 : upd H9 o3 (.lst ([.int 0] ++ (cs.map (·.2)).map V.int)) o3 = some (.lst ((0 :: cs.map (·.2)).map V.int)) := upd_same
          generalize upd H9 o3 (.lst ([.int 0] ++ (cs.map (·.2)).map V.int)) = H10 at s10 k3 ⊢
          replace hog := s10 _ _ hog
          replace hbs := hbs.mono fun _ _ r => mo s10 r
          replace t4 := t4.trans s10
          refine ⟨1, rfl, o3, _, -1, _, rfl, rfl, .of k3, hlast, .ref a, rfl, .ref b, rfl, a, b, cs, ids, rfl, mo t4 hC, mo t4 hI, hc, hi, hfit, fun H11 tp s11 ntp hTp => ⟨line_le (by simp), fun T nT => ⟨T, _, rfl, .of upd_same, rfl, _, _, rfl, _, _, rfl, rfl, ?_⟩⟩⟩
          have s12 := s11.trans (same_upd (o := .tup [.int (M73.curOf 0 cs), .ref tp]) nT)
          replace hTp : DS (upd H11 T (.tup [.int (M73.curOf 0 cs), .ref tp])) tp ids (M73.told (M73.zsOf ids 0 cs) fun _ => .op) := same_upd nT _ _ hTp
          replace hog := s12 _ _ hog
          replace hbs := hbs.mono fun _ _ r => mo s12 r
          replace t4 := t4.trans s12
          generalize upd H11 T (.tup [.int (M73.curOf 0 cs), .ref tp]) = H12 at hTp hog hbs t4 ⊢
          -- the ids
          refine ⟨.ref b, rfl, b, rfl, ⟨_, (mo t4 hI).sq⟩, for_list (K := K) (a := b) (xs := ids.map V.int)
            (fun i σ G => ∃ (y6 y7 y8 y9 y10 y11 y12 y13 : Option V), σ = [some (.ref a), some (.ref b), some (.ref c), some (.ref og), some (.int (M73.curOf 0 cs)), some (.ref tp), y6, y7, y8, y9, y10, y11, y12, y13] ∧ Same H12 G)
            ⟨_, _, _, _, _, _, _, _, rfl, Same.refl _⟩ (fun i σ G _ ⟨_, _, _, _, _, _, _, _, _, sG⟩ => (mo (t4.trans sG) hI).sq) (fun i x σ G hx h => ?_) (fun σ G h => ?_)⟩
          · obtain ⟨y6, y7, y8, y9, y10, y11, y12, y13, rfl, sG⟩ := h
            obtain ⟨x, hxx, rfl⟩ := int_get hx
            have mx := List.mem_of_getElem? hxx
            refine ⟨.ref og, rfl, og, rfl, ⟨_, .of (sG _ _ hog)⟩, fun D5 nD5 => lc_list (K := K) (a := og) (xs := bs.map V.ref)
              (PvA (fun i acc _ => acc = (((M73.PL ids cs).map fun log => s4 (M73.lawState log (M73.curOf 0 cs) x)).take i).map V.str) G D5) (PvA.start nD5 rfl) (fun i G2 _ h => .of ((sG.trans h.same) _ _ hog)) (fun i y G2 hy h => ?_) (fun G2 h => ?_)⟩
            · have sH2 := h.same
              obtain ⟨acc, hD5, hle, sm, rfl⟩ := h
              obtain ⟨t, ht, rfl⟩ := ref_get hy
              obtain ⟨log, hlog, rl⟩ := hbs.get ht
              have li := (List.getElem?_eq_some_iff.mp hlog).1
              have ll := memP log (List.mem_of_getElem? hlog)
              refine ⟨rfl, .ref t, rfl, .int (M73.curOf 0 cs), rfl, .int x, rfl, t, _, x, log, rfl, mo (sG.trans sH2) rl, by omega, fun G3 s3 => PvA.snoc (by omega) (s3 _ _ hD5) hle (sm.trans (hid_mono s3)) ?_⟩
              rw [List.take_add_one, List.getElem?_map, hlog, List.map_append]
              rfl
            · have sH2 := h.same
              obtain ⟨acc, hD5, hle, sm, rfl⟩ := h
              rw [List.take_of_length_le (by rw [List.length_map, List.length_map, lbs]; exact Nat.le_refl _)] at hD5
              refine ⟨D5, _, rfl, .of hD5, by rw [List.length_map]; omega, fun p n np => ⟨p, _, n, rfl, upd_same, fun ys o hnd hmem no => ?_⟩⟩
              have s5 : Same G (upd (upd G2 p (SetSO w p (fun j => decide (j ∈ (M73.PL ids cs).map fun log => s4 (M73.lawState log (M73.curOf 0 cs) x))) n)) o (.lst (ys.map V.str))) := sH2.trans ((same_upd np).trans (same_upd no))
              have ko : upd (upd G2 p (SetSO w p (fun j => decide (j ∈ (M73.PL ids cs).map fun log => s4 (M73.lawState log (M73.curOf 0 cs) x))) n)) o (.lst (ys.map V.str)) o = some (.lst (ys.map V.str)) := upd_same
              have kT : DGet (upd (upd G2 p (SetSO w p (fun j => decide (j ∈ (M73.PL ids cs).map fun log => s4 (M73.lawState log (M73.curOf 0 cs) x))) n)) o (.lst (ys.map V.str))) tp (kV (Sum.inl x)) (some (.str (s4 (M73.told (M73.zsOf ids 0 cs) (fun _ => .op) x)))) := by
                have := DGet.k (k := Sum.inl x) ((sG.trans s5) _ _ hTp)
                rwa [valV_map_of mx] at this
              -- what told_all says
              have inY : ∀ k ∈ ys, ∃ log ∈ M73.PL ids cs, k = s4 (M73.lawState log (M73.curOf 0 cs) x) := fun k hk => by
                have := of_decide_eq_true ((hmem k).mp hk)
                obtain ⟨log, h1, h2⟩ := List.mem_map.mp this
                exact ⟨log, h1, h2.symm⟩
              have back : (ys.map inv4).map s4 = ys := by
                rw [List.map_map]
                conv => rhs; rw [← List.map_id ys]
                refine List.map_congr_left fun k hk => ?_
                obtain ⟨log, _, e⟩ := inY k hk
                show s4 (inv4 k) = k
                rw [e, inv4_s4]
              have nd4 : (ys.map inv4).Nodup := by
                have h1 : ((ys.map inv4).map s4).Nodup := by rw [back]; exact hnd
                exact (List.pairwise_map.mp h1).imp fun h e => h (by rw [e])
              have mem4 : ∀ s, s ∈ ys.map inv4 ↔ ∃ log ∈ M73.PL ids cs, M73.lawState log (M73.curOf 0 cs) x = s := fun s => by
                constructor
                · intro h
                  obtain ⟨k, hk, e⟩ := List.mem_map.mp h
                  obtain ⟨log, hl, e2⟩ := inY k hk
                  exact ⟨log, hl, by rw [← e, e2, inv4_s4]⟩
                · rintro ⟨log, hl, e⟩
                  refine List.mem_map.mpr ⟨s4 s, (hmem _).mpr (decide_eq_true (List.mem_map.mpr ⟨log, hl, by rw [← e]⟩)), inv4_s4 s⟩
              obtain ⟨ta1, ta2⟩ := M73.told_all asc ge1 cs h0 hfit mx (ys.map inv4) nd4 mem4
              rw [List.length_map] at ta1 ta2
              refine ⟨.ref tp, rfl, .int x, rfl, tp, _, rfl, kT, .ref o, rfl, o, _, rfl, .inl (.of ko), rfl, _, rfl, ?_⟩
              rw [List.length_map]
              refine ite2 (fun e => ?_) (fun e => ?_)
              · have e' : ys.length = 1 := by
                  have := V.int.inj (of_decide_eq_true e)
                  omega
                obtain ⟨s, hs, ht⟩ := ta1 e'
                have ey : ys = [s4 s] := by
                  rw [← back, hs]
                  rfl
                subst ey
                refine ⟨.ref o, rfl, o, _, 0, _, rfl, rfl, .of ko, rfl, rfl, _, rfl, ?_⟩
                rw [ht, decide_eq_true rfl]
                exact iteF ⟨_, _, _, _, _, _, _, _, rfl, sG.trans s5⟩
              · have e' : ys.length ≠ 1 := fun z => e (decide_eq_true (by rw [z]; rfl))
                rw [ta2 e']
                exact ⟨rfl, _, rfl, iteF ⟨_, _, _, _, _, _, _, _, rfl, sG.trans s5⟩⟩
          · obtain ⟨y6, y7, y8, y9, y10, y11, y12, y13, rfl, sG⟩ := h
            replace hog := sG _ _ hog
            replace hbs := hbs.mono fun _ _ r => mo sG r
            replace t4 := t4.trans sG
            -- the good logs
            refine ⟨.ref og, rfl, og, rfl, ⟨_, .of hog⟩, for_list (K := K) (a := og) (xs := bs.map V.ref)
              (fun i σ G2 => ∃ (y6 y7 y8 y9 y10 y11 y12 y13 : Option V), σ = [some (.ref a), some (.ref b), some (.ref c), some (.ref og), some (.int (M73.curOf 0 cs)), some (.ref tp), y6, y7, y8, y9, y10, y11, y12, y13] ∧ Same G G2)
              ⟨_, _, _, _, _, _, _, _, rfl, Same.refl _⟩ (fun i σ G2 _ ⟨_, _, _, _, _, _, _, _, _, s2⟩ => .of (s2 _ _ hog)) (fun i x σ G2 hx h => ?_) (fun σ G2 h => ?_)⟩
            · obtain ⟨z6, z7, z8, z9, z10, z11, z12, z13, rfl, s2⟩ := h
              obtain ⟨t, ht, rfl⟩ := ref_get hx
              obtain ⟨log, hlog, rl⟩ := hbs.get ht
              have mlog := List.mem_of_getElem? hlog
              have ll := memP log mlog
              have edue := M73.due_ok asc cs 0 log mlog
              refine ⟨Nat.zero_le _, fun oD nD => ⟨line_le (by simp), fun T2 nT2 => ⟨T2, _, rfl, .of upd_same, rfl, _, _, rfl, _, _, rfl, rfl, ?_⟩⟩⟩
              have dT2 : T2 ≠ oD := ne_new upd_same nT2
              have kD : upd (upd G2 oD (.lst [])) T2 (.tup [.int 0, .ref oD]) oD = some (.lst []) := same_upd nT2 _ _ upd_same
              have sB : Same G2 (hid oD (upd (upd G2 oD (.lst [])) T2 (.tup [.int 0, .ref oD]))) := by
                rw [hid_upd_ne dT2, hid_upd, hid_free nD]
                exact same_upd ((same_upd nD).free nT2)
              generalize upd (upd G2 oD (.lst [])) T2 (.tup [.int 0, .ref oD]) = G3 at kD sB ⊢
              have sGB : Same G (hid oD G3) := s2.trans sB
              obtain ⟨rs, hR, hRL⟩ := mo sGB rl
              have hA3 : hid oD G3 a = some (.lst (as.map V.ref)) := (t4.trans sGB) _ _ hA
              have hP3 : All2 (P2 (hid oD G3)) as cs := hP.mono fun _ _ r => mo (t4.trans sGB) r
              have hI3 : IL (hid oD G3) b ids := mo (t4.trans sGB) hI
              refine ⟨.ref t, rfl, .ref a, rfl, t, a, rs.map V.ref, as.map V.ref, rfl, .of (hid_same _ _ hR), .of (hid_same _ _ hA3), for_it (walk_zip (n := cs.length) (by rw [List.length_map, List.length_map, hRL.1, hP3.1, ll, Nat.min_self]))
                (fun i σ G4 => ∃ (old : Int) (y6 y7 y11 y12 y13 : Option V), σ = [some (.ref a), some (.ref b), some (.ref c), some (.ref og), some (.int (M73.curOf 0 cs)), some (.ref tp), y6, y7, some (.ref t), some (.int old), some (.ref oD), y11, y12, y13] ∧
                  PvA (fun i acc _ => ∃ dn, acc = dn.map V.int ∧ M73.dueL ids 0 log cs = dn ++ M73.dueL ids old (log.drop i) (cs.drop i)) (hid oD G3) oD i G4)
                ⟨0, _, _, _, _, _, rfl, [], kD, Nat.le_refl _, Same.refl _, [], rfl, rfl⟩ (fun i σ G4 _ ⟨_, _, _, _, _, _, _, h⟩ => ⟨.of (h.same _ _ hR), .of (h.same _ _ hA3)⟩) (fun i x σ G4 G5 hi' h hy => ?_) (fun σ G4 h => ?_)⟩
              · obtain ⟨old, y6, y7, y11, y12, y13, rfl, h⟩ := h
                obtain ⟨acc, hO, hle, sm, dn, rfl, hdn⟩ := h
                obtain ⟨T, x1, x2, rfl, hT, rfl, e1, e2⟩ := hy
                obtain ⟨r1, hr1, rfl⟩ := ref_get e1
                obtain ⟨u, hu, rfl⟩ := ref_get e2
                obtain ⟨rows, hrows, rr⟩ := hRL.get hr1
                obtain ⟨⟨n, d⟩, hcn, rp⟩ := hP3.get hu
                rw [drop_cons hrows, drop_cons hcn, M73.dueL] at hdn
                have sT : Same (hid oD G3) (hid oD (upd G4 T (.tup [.ref r1, .ref u]))) := sm.trans (hid_new hT)
                have sT' := sT.trans hid_same
                have hOT : upd G4 T (.tup [.ref r1, .ref u]) oD = some (.lst (dn.map V.int)) := keep_at hO hT
                refine ⟨T, _, rfl, .of upd_same, rfl, _, _, rfl, _, _, rfl, rfl, ?_⟩
                generalize upd G4 T (.tup [.ref r1, .ref u]) = G6 at sT sT' hOT ⊢
                refine ⟨.ref oD, rfl, .inl ⟨rfl, _, .of hOT⟩, .ref b, rfl, b, rfl, ⟨_, (mo sT' hI3).sq⟩, fun D7 nD7 => lc_filter (K := K) (a := b) (fun x => decide (old < x) && decide (x ≤ d) && !decide (x ∈ rows)) (mo sT' hI3) nD7 (by omega) (fun m G7 A B hm s7 hA' hB' => ?_) (fun G7 s7 hF => ?_)⟩
                · refine ⟨rfl, .int old, rfl, .int m, rfl, _, _, rfl, rfl, _, rfl, ?_⟩
                  refine ite2 (fun e => ?_) (fun e => ?_)
                  · refine ⟨.ref u, rfl, u, _, 1, _, rfl, rfl, (mo (sT'.trans s7) rp).sq, rfl, _, _, rfl, rfl, _, rfl, ite2 (fun e2 => ?_) (fun e2 => ?_)⟩
                    · refine ⟨.int m, rfl, .ref r1, rfl, r1, _, rfl, .inl (mo (sT'.trans s7) rr).sq, rfl, flat_ints, _, rfl, ?_⟩
                      rw [if_pos rfl, inV_ints]
                      refine ite2 (fun e3 => ⟨.int m, rfl, hA' ?_⟩) (fun e3 => hB' ?_)
                      · rw [e, e2, e3]
                        rfl
                      · rw [e, e2, bf e3]
                        rfl
                    · exact iteF (hB' (by rw [e, bf e2]; rfl))
                  · exact ⟨_, rfl, iteF (iteF (hB' (by rw [bf e]; rfl)))⟩
                · have s8 : Same G6 G7 := s7.trans hid_same
                  have hO7 := s8 _ _ hOT
                  have h1 : P2 (upd G7 oD (.lst (dn.map V.int ++ [.int ((ids.filter fun x => decide (old < x) && decide (x ≤ d) && !decide (x ∈ rows)).map V.int).length]))) u (n, d) := by
                    have k1 : hid oD G3 u = some (.tup [.int n, .int d]) := rp
                    have ne : u ≠ oD := fun z => by
                      rw [z, hid_at] at k1
                      cases k1
                    show upd G7 oD _ u = _
                    rw [upd_ne ne]
                    exact (sT'.trans s8) _ _ k1
                  refine ⟨D7, _, rfl, .inl hF.sq, oD, _, _, rfl, rfl, hO7, line_small (by rw [List.length_map] at hle ⊢; omega), .ref u, rfl, u, _, 1, _, rfl, rfl, .of h1, rfl, ?_⟩
                  · refine ⟨d, _, _, _, _, _, rfl, PvA.put hO7 hle (sT.trans (hid_mono s8)) ⟨dn ++ [((ids.filter fun x => decide (old < x) && decide (x ≤ d) && !decide (x ∈ rows)).length : Int)], ?_, ?_⟩⟩
                    · rw [List.map_append, List.length_map]
                      rfl
                    · rw [hdn, List.append_assoc]
                      rfl
              · obtain ⟨old, y6, y7, y11, y12, y13, rfl, h⟩ := h
                have sh := h.same
                obtain ⟨acc, hO, hle, sm, dn, rfl, hdn⟩ := h
                have e0 : M73.dueL ids old (log.drop cs.length) (cs.drop cs.length) = [] := by
                  rw [List.drop_length, ← ll, List.drop_length]
                  rfl
                rw [e0, List.append_nil] at hdn
                have sX : Same G G4 := sGB.trans sh
                have sXH : Same H G4 := t4.trans sX
                refine ⟨.ref a, rfl, .ref b, rfl, a, b, cs, ids, rfl, mo sXH hC, mo sXH hI, hc, hi, hfit, fun G5 p s5 np hIL => ⟨.ref oD, rfl, dI _, dI dn, dp_IL hIL, dp_IL (show IL G5 oD dn from s5 _ _ hO), shp_I _, shp_I _, _, rfl, ?_⟩⟩
                rw [eqv_I, ← hdn, edue, decide_eq_true rfl]
                exact iteF ⟨_, _, _, _, _, _, _, _, rfl, sX.trans s5⟩
            · obtain ⟨z6, z7, z8, z9, z10, z11, z12, z13, rfl, s2⟩ := h
              exact q G2 (t4.trans s2)
end
end W73


set_option Elab.async false
set_option linter.all false
set_option maxRecDepth 100000
set_option maxHeartbeats 8000000
namespace W73
open PySem PySem.Spec PyProof.Rows L2
theorem u65 {k : Nat} {A : Around} (r : Room k A) : A.units + 65 < cLine := by
  have := r.un
  omega
theorem any_eqvL (logs : List (List (List Int))) (log : List (List Int)) : ((logs.map dL).any fun z => PyData.eqv z (dL log)) = decide (log ∈ logs) := by
  induction logs with
  | nil => rfl
  | cons l logs ih =>
    rw [List.map_cons, List.any_cons, ih, eqv_L]
    by_cases h : l = log
    · simp [h]
    · have h' : ¬ log = l := fun z => h z.symm
      simp [h, h']
theorem inV_strs {x y z : Str} : inV (.str x) [.str y, .str z] = (decide (y = x) || decide (z = x)) := by
  unfold inV
  rw [List.any_cons, List.any_cons, List.any_nil, Bool.or_false]
  have e : ∀ a : Str, eqV (.str a) (.str x) = decide (a = x) := fun a => by
    first | rfl | simp [eqV]
  rw [e, e]
section
variable {P : Program} {w : World} {K : PySem.W.Frag} {mg : Str → Option Value} {base : Heap}
abbrev cRead (P : Program) (w : World) (K : PySem.W.Frag) (mg : Str → Option Value) (base : Heap) : Prop := Cal P w K mg base "read" ["order", "polls", "overlap", "wait", "page"] [.int 1, .int 0, .non] 6 spLists
abbrev cStsR (P : Program) (w : World) (K : PySem.W.Frag) (mg : Str → Option Value) (base : Heap) : Prop := Cal P w K mg base "states" ["order", "polls", "overlap", "wait", "page"] [.int 1, .int 0, .non] 6 spStsR
abbrev N62 : List Str := ["_law_source_here", "_law_order_here", "_law_polls", "_law_ids_here", "_law_log_here", "_law_ends", "_law_counts", "_law_told", "_law_turn", "_law_row", "_law_number"]
theorem sc62 : FnScope N62 ["_law_source_here", "_law_order_here"] (defScope (topS 62)) := ⟨rfl, rfl, rfl, by decide +kernel, rfl, by decide +kernel, by decide +kernel⟩
def spReal : Sp := fun vs H Q _ => ∃ (s o : Addr) (n : Int) (ns : List Int), vs = [.ref s, .ref o] ∧ SrcAt H s n ∧ n ≤ 900000 ∧ IL (hid s H) o ns ∧ ns.Nodup ∧ (∀ x ∈ ns, IdOk x) ∧ ns.length ≤ 8 ∧ ∀ H', Same (hid s H) (hid s H') → SrcAt H' s (n + 6) → Q (.bl true) H'
theorem c_real (g : Glob mg) (D : Df K mg "_law_real_right" (topS 62) [] []) (cD : cDraw P w K mg base) (cR : cRead P w K mg base) (cE : cStsR P w K mg base) (cC : cCounted P w K mg base) (cS : cStates P w K mg base) (cN : cNth P w K mg base) (cT : cCnt P w K mg base) :
    Cal P w K mg base "_law_real_right" ["_law_source_here", "_law_order_here"] [] 7 spReal := by
  refine Cal.of D sc62 (fun _ _ _ _ _ _ us hl => match us, hl with | [_, _], _ => rfl) (fun vs H Q E h => ?_) (fun f cdv A outer s H vs Q E hr h => ⟨_, pss_cons
    (ps_set (i := 2) sc62.nd rfl (.inl rfl) (pe_callB cr_sorted rfl g.sorted bt_sorted (pa_cons (pe_lc (own := [("_law_turn", 8)]) (g := gName 8) rfl sc62.nd (pi_range1 rfl g.range (pa_cons (pe_cal cD (hr.mono (by decide)) (pa_cons (pv 0) (pa_cons pe_int pa_nil))) pa_nil))
      (blkOk_by (N := N62) (sc := defScope (topS 62)) (by decide +kernel)) (fun _ _ _ _ _ => pg_name (i := 8) sc62.nd rfl (.inl rfl)) (fun _ _ _ _ _ => pts_nil)
      (fun _ _ _ _ _ => pe_cal cD (hr.mono (by decide)) (pa_cons (pv 0) (pa_cons (pe_op op_add (pe_lenK (K := K) g.len (pv 1)) pe_int) pa_nil)))) pa_nil)))
    (pss_cons (ps_asg (pe_tup (pa_cons (pe_callB cr_sorted rfl g.sorted bt_sorted (pa_cons (pv 1) pa_nil)) (pa_cons (pe_cal cR hr (pa_cons (pv 1) (pa_cons (pv 2) pa_nil))) (pa_cons (pe_cal cE hr (pa_cons (pv 1) (pa_cons (pv 2) pa_nil))) pa_nil))))
      (pg_tup rfl (pgs_cons (pg_name (i := 3) sc62.nd rfl (.inr rfl)) (pgs_cons (pg_name (i := 4) sc62.nd rfl (.inl rfl)) (pgs_cons (pg_name (i := 5) sc62.nd rfl (.inr rfl)) pgs_nil)))))
    (pss_cons (ps_set (i := 6) sc62.nd rfl (.inr rfl) (pe_cal cC (hr.mono (by decide)) (pa_cons (pv 4) pa_nil)))
    (pss_cons (ps_set (i := 7) sc62.nd rfl (.inr rfl) (pe_cal cS hr (pa_cons (pv 6) (pa_cons (pv 3) pa_nil))))
    (pss_cons (ps_if (pt_cmpR (op_neD hr.units) (pe_lc (own := [("_law_row", 9)]) (g := gName 9) rfl sc62.nd (pi_list (pv 3)) (blkOk_by (N := N62) (sc := defScope (topS 62)) (by decide +kernel))
        (fun _ _ _ _ _ => pg_name (i := 9) sc62.nd rfl (.inl rfl)) (fun _ _ _ _ _ => pts_one (pt_cmpR (op_ninK (K := K)) (pe_dget (u1 hr.units) (pv 7) (pv 9) (fun _ _ => rfl)) (pe_tup (pa_cons (pe_dget (u1 hr.units) (pv 5) (pv 9) (fun _ _ => rfl)) (pa_cons pe_str pa_nil))) rfl))
        (fun _ _ _ _ _ => pv 9)) (pe_lst pa_nil) (nomark _)) (pss_one (ps_ret pe_bl)) pss_nil)
    (pss_one (ps_ret (pe_cmpR (op_inD (u65 hr)) (pv 4) (pe_lc (own := [("_law_number", 10)]) (g := gName 10) rfl sc62.nd (pi_range1 rfl g.range (pa_cons (pe_cal cT (hr.mono (by decide)) (pa_cons (pv 6) (pa_cons (pv 3) pa_nil))) pa_nil)) (blkOk_by (N := N62) (sc := defScope (topS 62)) (by decide +kernel))
        (fun _ _ _ _ _ => pg_name (i := 10) sc62.nd rfl (.inl rfl)) (fun _ _ _ _ _ => pts_nil) (fun _ _ _ _ _ => pe_cal cN (hr.mono (by decide)) (pa_cons (pv 6) (pa_cons (pv 3) (pa_cons (pv 10) pa_nil))))) rfl))))))), ?_⟩)
  · obtain ⟨s, o, n, ns, rfl, _⟩ := h
    rfl
  · obtain ⟨s, o, n, ns, rfl, hS, hn, hO, nd, oks, l8, q⟩ := h
    obtain ⟨xs0, hs0⟩ := hS.cell
    have dos : o ≠ s := fun e => by
      have h1 : hid s H o = _ := hO
      rw [e, hid_at] at h1
      cases h1
    refine ⟨.ref s, rfl, s, n, 4, rfl, hS, by omega, by decide, by decide, fun m H1 m0 m1 s1 S1 => ⟨m, rfl, by omega, by omega, fun D nD => lc_range (lo := 0) (n := m.toNat)
      (fun i G => ∃ ps : List Int, G D = some (.lst (ps.map V.int)) ∧ ps.length = i ∧ (∀ x ∈ ps, 0 ≤ x ∧ x ≤ (ns.length : Int)) ∧ SrcAt G s (n + 1 + i) ∧ Same (hid s H1) (hid s (hid D G)))
      ⟨[], upd_same, rfl, fun x hx => by simp at hx, (S1.mono (same_upd nD)).le (by omega), by rw [hid_upd, hid_free nD]; exact Same.refl _⟩ (fun i G hi h => ?_) (fun G h => ?_)⟩⟩
    · obtain ⟨ps, hD, lp, bp, SG, sG⟩ := h
      have hOG : IL G o ns := mo (s1.trans (sG.trans (hid_mono hid_same |>.trans hid_same))) hO
      refine ⟨rfl, .ref s, rfl, .ref o, rfl, o, _, rfl, .inl hOG.sq, _, 1, rfl, rfl, s, n + 1 + i, _, rfl, SG, by omega, ?_, ?_, fun r G' r0 r1 s' S' => ?_⟩
      · rw [List.length_map]
        omega
      · rw [List.length_map]
        omega
      · rw [List.length_map] at r1
        have dD : D ≠ s := ne_new S1.cell.choose_spec nD
        refine ⟨_, hid_keep s' dD hD, line_small (by rw [List.length_map]; omega), ps ++ [r], ?_, ?_, ?_, (S'.put dD).le (by omega), ?_⟩
        · rw [upd_same, List.map_append]
          rfl
        · rw [List.length_append, lp]
          rfl
        · intro x hx
          rcases List.mem_append.mp hx with k | k
          · exact bp x k
          · rw [List.mem_singleton.mp k]
            omega
        · rw [hid_upd]
          refine sG.trans ?_
          rw [hid_comm, hid_comm (p := s) (q := D) (H := G')]
          exact hid_mono s'
    · obtain ⟨ps, hD, lp, bp, SG, sG⟩ := h
      have sHG : Same (hid s H) (hid s G) := s1.trans (sG.trans (hid_mono hid_same))
      refine ⟨D, ps, rfl, .of hD, by omega, fun pl pp hP1 hP2 npp => ?_⟩
      have B2 : Bk s H (upd G pp (.lst (pl.map V.int))) (n + 6) := ⟨sHG.trans (hid_new npp), (SG.mono (same_upd npp)).le (by omega)⟩
      have hpp : IL (upd G pp (.lst (pl.map V.int))) pp pl := upd_same
      have pok : PollsOk ns.length pl := ⟨by rw [hP1.length_eq]; omega, hP2, fun x hx => bp x (hP1.mem_iff.mp hx)⟩
      have lpl : pl.length ≤ 3 := by rw [hP1.length_eq]; omega
      generalize upd G pp (.lst (pl.map V.int)) = H2 at B2 hpp ⊢
      have hO2 : IL H2 o ns := mo (B2.sm.trans hid_same) hO
      have fin : ∀ H', Same H2 H' → Q (.bl true) H' := fun H' h => q H' (B2.sm.trans (hid_mono h)) (B2.src.mono h)
      have ook : OrderOk ns := ⟨by omega, oks, nd⟩
      refine ⟨.ref o, rfl, o, ns, rfl, hO2.sq, by omega, fun S oS hS1 hS2 noS => ?_⟩
      have eS := M73.sortI_of hS1 hS2
      rw [eS]
      have t3 := same_upd (o := .lst ((M73.sortI ns).map V.int)) noS
      have hoS : IL (upd H2 oS (.lst ((M73.sortI ns).map V.int))) oS (M73.sortI ns) := upd_same
      generalize upd H2 oS (.lst ((M73.sortI ns).map V.int)) = H3 at t3 hoS ⊢
      refine ⟨.ref o, rfl, .ref pp, rfl, o, pp, ns, pl, rfl, mo t3 hO2, mo t3 hpp, ook, pok, fun H4 lp' t4 nlp hL => ?_⟩
      refine ⟨.ref o, rfl, .ref pp, rfl, o, pp, ns, pl, rfl, mo (t3.trans t4) hO2, mo (t3.trans t4) hpp, ook, pok, fun H5 ep t5 nep hE => ⟨line_le (by simp), fun T nT => ⟨T, _, rfl, .of upd_same, rfl, _, _, rfl, _, _, rfl, _, _, rfl, rfl, ?_⟩⟩⟩
      have t6 := same_upd (o := .tup [.ref oS, .ref lp', .ref ep]) nT
      replace hL := mo (t5.trans t6) hL
      replace hoS := mo (t4.trans (t5.trans t6)) hoS
      replace hE : DS (upd H5 T (.tup [.ref oS, .ref lp', .ref ep])) ep (M73.sortI ns) _ := t6 _ _ hE
      have t26 := t3.trans (t4.trans (t5.trans t6))
      clear t3 t4 t5 t6 eS hS1 hS2
      generalize upd H5 T (.tup [.ref oS, .ref lp', .ref ep]) = H6 at hL hoS hE t26 ⊢
      have asc : M73.Asc (M73.sortI ns) := M73.sortI_asc nd
      have ge1 : ∀ x ∈ M73.sortI ns, 1 ≤ x := fun x hx => (oks x (M73.mem_sortI.mp hx)).1
      have lsI : (M73.sortI ns).length ≤ 8 := by rw [M73.sortI_length]; exact l8
      have sub := M73.readLog_sub nd (fun x hx => (oks x hx).1) pl
      have llog : (M73.readLog ns pl).length = pl.length := M73.readGo_length ns pl [] 0
      have lfl : (M73.readLog ns pl).flatten.length ≤ 8 := Nat.le_trans sub.length_le lsI
      have inP := M73.log_in asc ge1 sub
      have iok : IdsOk (M73.sortI ns) := ⟨by omega, fun x hx => oks x (M73.mem_sortI.mp hx), asc⟩
      have cok : CntsOk (M73.countedFrom 0 (M73.readLog ns pl)) := by
        refine ⟨by rw [M73.countedFrom_length, llog]; omega, fun p hp => ?_⟩
        obtain ⟨h1, h2, h3, h4⟩ := M73.counted_ok (N := 8) (B := big) (M73.readLog ns pl) 0 (Int.le_refl _) (by decide) lfl (fun x hx => (oks x (M73.mem_sortI.mp (sub.mem hx))).2) p hp
        exact ⟨h1, by omega, h3, h4⟩
      have rowl : ∀ r ∈ M73.readLog ns pl, r.length ≤ 1000 := fun r hr => by
        have := (List.sublist_flatten_of_mem hr).length_le
        omega
      have ecur := M73.curOf_counted (M73.readLog ns pl) 0
      generalize M73.readLog ns pl = log at hL hE llog lfl inP cok rowl ecur sub ⊢
      refine ⟨.ref lp', rfl, lp', log, rfl, hL, by omega, rowl, fun H7 cp t7 ncp hCp => ?_⟩
      have h0 : ∀ p ∈ M73.countedFrom 0 log, 0 ≤ p.1 := fun p hp => (cok.2 p hp).1
      have hfit := (M73.prod_ne (ids := M73.sortI ns) (M73.countedFrom 0 log) 0 h0).mpr (List.ne_nil_of_mem inP)
      have tl := fun x hx => M73.told_law asc ge1 (M73.countedFrom 0 log) h0 hfit (x := x) hx inP
      have lenP := M73.PL_small asc ge1 (M73.countedFrom 0 log) lsI
      rw [ecur] at tl
      generalize M73.countedFrom 0 log = cs at hCp inP cok h0 hfit tl lenP ⊢
      refine ⟨.ref cp, rfl, .ref oS, rfl, cp, oS, cs, M73.sortI ns, rfl, hCp, mo t7 hoS, cok, iok, hfit, fun H8 tp t8 ntp hTp => ?_⟩
      have t68 := t7.trans t8
      replace hL := mo t68 hL
      replace hoS := mo t68 hoS
      replace hE : DS H8 ep (M73.sortI ns) _ := t68 _ _ hE
      replace hCp := mo t8 hCp
      have t28 := t26.trans t68
      refine ⟨.ref oS, rfl, oS, rfl, ⟨_, hoS.sq⟩, fun D5 nD5 => lc_ints (K := K) (a := oS) (fun _ => false) hoS nD5 (by omega) (fun row G5 A B hm sG5 hA hB => ?_) (fun G5 sG5 hF => ?_)⟩
      · have kT : DGet G5 tp (kV (Sum.inl row)) (some (.str (s4 (M73.told (M73.zsOf (M73.sortI ns) 0 cs) (fun _ => .op) row)))) := by
          have := DGet.k (k := Sum.inl row) (sG5 _ _ hTp)
          rwa [valV_map_of hm] at this
        have kE : DGet G5 ep (kV (Sum.inl row)) (some (.str (s4 (M73.lawState log (M73.maxL 0 log.flatten) row)))) := by
          have := DGet.k (k := Sum.inl row) (sG5 _ _ hE)
          rwa [valV_map_of hm] at this
        refine ⟨rfl, .ref tp, rfl, .int row, rfl, tp, _, rfl, kT, .ref ep, rfl, .int row, rfl, ep, _, rfl, kE, line_le (by simp), fun T2 nT2 => ⟨T2, [.str (s4 (M73.lawState log (M73.maxL 0 log.flatten) row)), .str (s4 .un)], rfl, .inr (.of upd_same), rfl, rfl, _, rfl, ?_⟩⟩
        rw [if_pos rfl, inV_strs]
        have e : (decide (s4 (M73.lawState log (M73.maxL 0 log.flatten) row) = s4 (M73.told (M73.zsOf (M73.sortI ns) 0 cs) (fun _ => .op) row)) || decide (s4 .un = s4 (M73.told (M73.zsOf (M73.sortI ns) 0 cs) (fun _ => .op) row))) = true := by
          rcases tl row hm with e | e
          · rw [e, decide_eq_true rfl]
            rfl
          · rw [e, decide_eq_true (rfl : s4 .un = s4 .un), Bool.or_true]
        rw [e]
        exact iteF (hB rfl _ (same_upd nT2))
      · have t9 : Same H8 G5 := sG5.trans hid_same
        have eF : (M73.sortI ns).filter (fun _ => false) = [] := by simp
        rw [eF] at hF
        refine ⟨Nat.zero_le _, fun l nl => ⟨dI [], .list [], dp_IL (mo (same_upd nl) hF), dp_nil upd_same, shp_I _, shp_nil, _, rfl, iteF ?_⟩⟩
        have t10 := t9.trans (same_upd (o := .lst []) nl)
        replace hL := mo t10 hL
        replace hoS := mo t10 hoS
        replace hCp := mo t10 hCp
        have t2 := t28.trans t10
        clear t9 t10 hF sG5 nD5
        generalize upd G5 l (.lst []) = G6 at hL hoS hCp t2 ⊢
        refine ⟨.ref lp', rfl, .ref cp, rfl, .ref oS, rfl, cp, oS, cs, M73.sortI ns, rfl, hCp, hoS, cok, iok, fun G7 t7 => ⟨_, rfl, by omega, by omega, fun D6 nD6 => lc_range (lo := 0) (n := (((M73.PL (M73.sortI ns) cs).length : Nat) : Int).toNat)
          (fun i G => ∃ ts : List Addr, G D6 = some (.lst (ts.map V.ref)) ∧ ts.length = i ∧ Same G7 (hid D6 G) ∧ All2 (LL (hid D6 G)) ts ((M73.PL (M73.sortI ns) cs).take i))
          ⟨[], upd_same, rfl, by rw [hid_upd, hid_free nD6]; exact Same.refl _, All2.nil⟩ (fun i G hi' h => ?_) (fun G h => ?_)⟩⟩
        · obtain ⟨ts, hD6, lt, sG6, hts⟩ := h
          rw [Int.toNat_natCast] at hi'
          have e0 : (0 : Int) + (i : Int) = (i : Int) := by omega
          rw [e0]
          have sX : Same G6 G := t7.trans (sG6.trans hid_same)
          refine ⟨rfl, .ref cp, rfl, .ref oS, rfl, .int i, rfl, cp, oS, cs, M73.sortI ns, i, rfl, mo sX hCp, mo sX hoS, cok, iok, hi', fun H' p log' s' np hL' hk => ⟨_, s' _ _ hD6, line_small (by rw [List.length_map]; omega), ts ++ [p], ?_, ?_, ?_, ?_⟩⟩
          · rw [upd_same, List.map_append]
            rfl
          · rw [List.length_append, lt]
            rfl
          · rw [hid_upd]
            exact sG6.trans (hid_mono s')
          · rw [hid_upd, List.take_add_one, hk]
            exact (hts.mono fun _ _ r => mo (hid_mono s') r).snoc (mo (dif_hid hD6) hL')
        · obtain ⟨ts, hD6, lt, sG6, hts⟩ := h
          rw [Int.toNat_natCast, List.take_length] at hts
          have t9 : Same G6 G := t7.trans (sG6.trans hid_same)
          refine ⟨dL log, (M73.PL (M73.sortI ns) cs).map dL, dp_LL (mo t9 hL), dp_GL ⟨ts, hD6, hts.mono fun _ _ r => mo hid_same r⟩, shp_L _, shp_G _, ?_⟩
          rw [any_eqvL, decide_eq_true inP]
          exact fin G (t2.trans t9)
end
end W73


set_option Elab.async false
set_option linter.all false
set_option maxRecDepth 100000
set_option maxHeartbeats 8000000
namespace W73
open PySem PySem.Spec PyProof.Rows L2
theorem sq_mono {K : PySem.W.Frag} {H H' : Hp} {a : Addr} {xs : List V} (h : SqL K H a xs) (s : Same H H') : SqL K H' a xs := by
  rcases h with (h | ⟨o, h⟩) | h
  · exact .inl (.inl (s _ _ h))
  · exact .inl (.inr ⟨o, s _ _ h⟩)
  · exact .inr h
/-- a list of pairs is no source -/
theorem cl_hid {G : Hp} {s a : Addr} {k : Int} {cs : List (Int × Int)} (h : CL G a cs) (ne : a ≠ s) (S : SrcAt G s k) : CL (hid s G) a cs := by
  obtain ⟨as, h1, h2⟩ := h
  obtain ⟨A, B, C, hS, _⟩ := S
  refine ⟨as, by rw [hid_ne ne]; exact h1, h2.1, fun i t p ht hp => ?_⟩
  have r : G t = _ := h2.2 i t p ht hp
  show hid s G t = _
  rw [hid_ne fun e => ?_]
  · exact r
  · rw [e, hS] at r
    cases r
theorem all_pos (m : Nat) (ids : List Int) : 0 < (M73.allLogs m ids).length := by
  have : List.replicate m [] ∈ M73.allLogs m ids := (M73.mem_allLogs m ids _).mpr ⟨List.length_replicate, by
    have : (List.replicate m ([] : List Int)).flatten = [] := by
      rw [List.flatten_eq_nil_iff]
      intro l hl
      exact (List.mem_replicate.mp hl).2
    rw [this]
    exact List.nil_sublist _⟩
  exact List.length_pos_of_mem this
section
variable {P : Program} {w : World} {K : PySem.W.Frag} {mg : Str → Option Value} {base : Heap}
abbrev N63 : List Str := ["_law_script", "_law_k", "_law_source_here", "_law_ids_here", "_law_polls", "_law_logs", "_law_turn", "_law_counts", "_law_bent_here"]
theorem sc63 : FnScope N63 ["_law_script"] (defScope (topS 63)) := ⟨rfl, rfl, rfl, by decide +kernel, rfl, by decide +kernel, by decide +kernel⟩
def spLaw (K : PySem.W.Frag) : Sp := fun vs H Q _ => ∃ (a : Addr) (ns : List Int), vs = [.ref a] ∧ SqL K H a (ns.map V.int) ∧ ∀ H', Q (.bl true) H'
theorem ok_law {f : Addr} {fd : FuncData} (g : Glob mg) (F : FunD K "law" "law" (defArgs (topS 63)) (defBody (topS 63)) (defScope (topS 63)) [] [] f fd)
    (cU : Cal P w K mg base "_law_source" ["_law_script", "_law_k"] [] 1 (spSource (K := K))) (cI : Cal P w K mg base "_law_ids" ["_law_source_here", "_law_most"] [] 3 spIds) (cD : cDraw P w K mg base)
    (cA : Cal P w K mg base "_law_all_logs" ["_law_ids_here", "_law_polls"] [] 1 spAll) (cC : cCounted P w K mg base) (cB : Cal P w K mg base "_law_bent" ["_law_source_here", "_law_counts", "_law_ids_here"] [] 2 spBent)
    (cT : Cal P w K mg base "_law_right" ["_law_counts", "_law_ids_here", "_law_logs"] [] 7 spRight) (cE : Cal P w K mg base "_law_real_right" ["_law_source_here", "_law_order_here"] [] 7 spReal) (cO : cOrder P w K mg base) :
    FnOk P w K mg base CX0 8 f fd ["_law_script"] (spLaw K) := by
  refine F.ok sc63 (fun vs H Q E h => ?_) (fun cdv A outer s H vs Q E hr h => ⟨_, PSs.nox (pss_cons
    (ps_for PassesOwn.never rfl (pi_range1 rfl g.range (pa_cons (pe_callB (call_max2 rfl) rfl g.max bt_max (pa_cons pe_int (pa_cons (pe_callB (call_min2 rfl) rfl g.min bt_min (pa_cons pe_int (pa_cons (pe_len g.len (pv 0)) pa_nil))) pa_nil))) pa_nil)) (pg_name (i := 1) sc63.nd rfl (.inl rfl))
      (pss_cons (ps_set (i := 2) sc63.nd rfl (.inl rfl) (pe_cal cU (hr.mono (by decide)) (pa_cons (pv 0) (pa_cons (pv 1) pa_nil))))
      (pss_cons (ps_set (i := 3) sc63.nd rfl (.inl rfl) (pe_cal cI (hr.mono (by decide)) (pa_cons (pv 2) (pa_cons (pe_ix ix_list (pe_lst (pa_cons pe_int (pa_cons pe_int pa_nil))) (pe_callTy call_int1 rfl g.int bt_int (pa_cons (pe_cmpR op_gt (pv 1) pe_int (nomark _)) pa_nil)) (fun _ _ => rfl)) pa_nil))))
      (pss_cons (ps_set (i := 4) sc63.nd rfl (.inl rfl) (pe_cal cD (hr.mono (by decide)) (pa_cons (pv 2) (pa_cons pe_int pa_nil))))
      (pss_cons (ps_set (i := 5) sc63.nd rfl (.inl rfl) (pe_cal cA (hr.mono (by decide)) (pa_cons (pv 3) (pa_cons (pv 4) pa_nil))))
      (pss_one (ps_for PassesOwn.never rfl (pi_range1 rfl g.range (pa_cons pe_int pa_nil)) (pg_name (i := 6) sc63.nd rfl (.inl rfl))
        (pss_cons (ps_set (i := 7) sc63.nd rfl (.inl rfl) (pe_cal cC (hr.mono (by decide)) (pa_cons (pe_ix ix_list (pv 5) (pe_cal cD (hr.mono (by decide)) (pa_cons (pv 2) (pa_cons (pe_len g.len (pv 5)) pa_nil))) (fun _ _ => rfl)) pa_nil)))
        (pss_cons (ps_set (i := 8) sc63.nd rfl (.inl rfl) (pe_cal cB (hr.mono (by decide)) (pa_cons (pv 2) (pa_cons (pv 7) (pa_cons (pv 3) pa_nil)))))
        (pss_cons (ps_if (PW.pt (pw_or (pt_not (pt_val (pe_cal cT hr (pa_cons (pv 7) (pa_cons (pv 3) (pa_cons (pv 5) pa_nil)))))) (pw_or1 (PW.pt (pw_and (pt_cmpR op_eq (pe_len g.len (pv 8)) (pv 4) (nomark _))
            (pw_and1 (pt_not (pt_val (pe_cal cT hr (pa_cons (pv 8) (pa_cons (pv 3) (pa_cons (pv 5) pa_nil))))))))))))
          (pss_one (ps_ret pe_bl)) pss_nil)
        (pss_one (ps_if (pt_not (pt_val (pe_cal cE hr (pa_cons (pv 2) (pa_cons (pe_cal cO (hr.mono (by decide)) (pa_cons (pv 2) (pa_cons pe_int pa_nil))) pa_nil))))) (pss_one (ps_ret pe_bl)) pss_nil))))))))))))
    (pss_one (ps_ret pe_bl))), ?_⟩)
  · obtain ⟨a, ns, rfl, _⟩ := h
    rfl
  · obtain ⟨a, ns, rfl, hS, q⟩ := h
    refine ⟨.ref a, rfl, a, _, rfl, .inl hS, 4, _, rfl, 1, _, rfl, _, rfl, ?_, ?_, for_range (lo := 0) (fun i σ G => ∃ (y1 y2 y3 y4 y5 y6 y7 y8 : Option V), σ = [some (.ref a), y1, y2, y3, y4, y5, y6, y7, y8] ∧ Same H G) ⟨_, _, _, _, _, _, _, _, rfl, Same.refl _⟩ (fun i σ G hi h => ?_) (fun σ G h => ?_)⟩
    · split <;> split <;> omega
    · split <;> split <;> omega
    · obtain ⟨y1, y2, y3, y4, y5, y6, y7, y8, rfl, sG⟩ := h
      have i4 : (i : Int) < 4 := by
        revert hi
        split <;> split <;> omega
      have e0 : (0 : Int) + (i : Int) = (i : Int) := by omega
      rw [e0]
      refine ⟨.ref a, rfl, .int i, rfl, a, i, ns, rfl, sq_mono hS sG, by omega, i4, fun s' H2 ns' s2 S2 => ?_⟩
      have B0 : Bk s' H2 H2 0 := ⟨Same.refl _, S2⟩
      -- ids
      refine ⟨.ref s', rfl, line_le (by simp), fun t1 nt1 => ?_⟩
      have B1 := B0.new (x := .lst [.int 7, .int 5]) nt1
      have k1 : upd H2 t1 (.lst [.int 7, .int 5]) t1 = some (.lst [.int 7, .int 5]) := upd_same
      generalize upd H2 t1 (.lst [.int 7, .int 5]) = H3 at B1 k1 ⊢
      obtain ⟨most, hat, hm0, hm7⟩ : ∃ most : Int, atI [V.int 7, V.int 5] (if decide (0 < (i : Int)) = true then 1 else 0) = some (.int most) ∧ 0 ≤ most ∧ most ≤ 7 := by
        by_cases e : 0 < (i : Int)
        · rw [decide_eq_true e]
          exact ⟨5, rfl, by decide, by decide⟩
        · rw [decide_eq_false e]
          exact ⟨7, rfl, by decide, by decide⟩
      refine ⟨.int i, rfl, _, _, rfl, rfl, .inr ⟨_, rfl, t1, _, _, _, rfl, rfl, .of k1, hat, s', 0, most, rfl, B1.src, by decide, hm0, by omega, fun p H4 ids np s4 S4 hI asc okI lI => ?_⟩⟩
      have B4 : Bk s' H2 H4 30 := ⟨B1.sm.trans s4, S4⟩
      have dps : p ≠ s' := ne_new B1.src.cell.choose_spec np
      have l7 : ids.length ≤ 7 := by omega
      have kI4 : IL (hid s' H4) p ids := by
        show hid s' H4 p = _
        rw [hid_ne dps]
        exact hI
      have iok : IdsOk ids := ⟨by omega, okI, asc⟩
      -- polls
      refine ⟨.ref s', rfl, s', 30, 4, rfl, B4.src, by decide, by decide, by decide, fun m H5 m0 m1 s5 S5 => ?_⟩
      have B5 : Bk s' H2 H5 31 := ⟨B4.sm.trans s5, S5⟩
      have kI5 := mo s5 kI4
      -- all logs
      have em : ((m.toNat : Nat) : Int) = m := Int.toNat_of_nonneg m0
      refine ⟨.ref p, rfl, .int m, rfl, p, ids, m.toNat, by rw [em]; rfl, mo hid_same kI5, l7, by omega, fun H6 lg s6 nlg hG => ?_⟩
      have kG6 : GL (hid s' H6) lg (M73.allLogs m.toNat ids) := mo (dif_hid B5.src.cell.choose_spec) hG
      have B6 : Bk s' H2 H6 31 := ⟨B5.sm.trans (hid_mono s6), B5.src.mono s6⟩
      have kI6 := mo (hid_mono (p := s') s6) kI5
      have lenA : (M73.allLogs m.toNat ids).length ≤ 16384 := Nat.le_trans (M73.allLogs_length _ _) (pow_le7 (by omega) l7)
      have posA := all_pos m.toNat ids
      refine ⟨6, rfl, by decide, by decide, for_range (lo := 0) (fun j σ G2 => ∃ (y6 y7 y8 : Option V), σ = [some (.ref a), some (.int i), some (.ref s'), some (.ref p), some (.int m), some (.ref lg), y6, y7, y8] ∧ Same (hid s' H6) (hid s' G2) ∧ SrcAt G2 s' (31 + 50 * (j : Int)))
        ⟨_, _, _, rfl, Same.refl _, B6.src.le (by omega)⟩ (fun j σ G2 hj h => ?_) (fun σ G2 h => ?_)⟩
      · obtain ⟨y6, y7, y8, rfl, sG2, S7⟩ := h
        have hj6 : j < 6 := hj
        obtain ⟨ls, hls, hLs⟩ := mo sG2 kG6
        have kI7 := mo sG2 kI6
        have lls : ls.length = (M73.allLogs m.toNat ids).length := hLs.1
        refine ⟨.ref lg, rfl, .ref s', rfl, .ref lg, rfl, lg, _, rfl, .inl (.of (hid_same _ _ hls)), s', _, _, rfl, S7, by omega, ?_, ?_, fun r G3 r0 r1 s8 S8 => ?_⟩
        · rw [List.length_map]
          omega
        · rw [List.length_map]
          omega
        · rw [List.length_map, lls] at r1
          obtain ⟨t, log, hatl, hlog, rl⟩ := pickR hLs r0 r1
          obtain ⟨ll, lsub⟩ := (M73.mem_allLogs _ _ log).mp (List.mem_of_getElem? hlog)
          have lfl : log.flatten.length ≤ 7 := Nat.le_trans lsub.length_le l7
          have rowl : ∀ r ∈ log, r.length ≤ 1000 := fun r hr => by
            have := (List.sublist_flatten_of_mem hr).length_le
            omega
          have hLs3 : All2 (LL (hid s' G3)) ls (M73.allLogs m.toNat ids) := hLs.mono fun _ _ r => mo s8 r
          have kI8 := mo s8 kI7
          refine ⟨lg, _, r, _, rfl, rfl, .of (hid_same _ _ (s8 _ _ hls)), hatl, t, log, rfl, mo (s8.trans hid_same) rl, by omega, rowl, fun G4 cp s9 ncp hCp => ?_⟩
          have S9 := S8.mono s9
          have dcp : cp ≠ s' := ne_new S8.cell.choose_spec ncp
          have kC9 := cl_hid hCp dcp S9
          have s9h := hid_mono (p := s') s9
          have cok : CntsOk (M73.countedFrom 0 log) := by
            refine ⟨by rw [M73.countedFrom_length, ll]; omega, fun p hp => ?_⟩
            obtain ⟨h1, h2, h3, h4⟩ := M73.counted_ok (N := 7) (B := big) log 0 (Int.le_refl _) (by decide) lfl (fun x hx => (okI x (lsub.mem hx)).2) p hp
            exact ⟨h1, by omega, h3, h4⟩
          have lcs : (M73.countedFrom 0 log).length = m.toNat := by rw [M73.countedFrom_length, ll]
          generalize M73.countedFrom 0 log = cs at kC9 cok lcs hCp ⊢
          have kI9 := mo s9h kI8
          refine ⟨.ref s', rfl, .ref cp, rfl, .ref p, rfl, s', cp, p, _, cs, ids, rfl, S9, by omega, kC9, cok, kI9, by omega, okI, fun bp G5 cs' nbp s10 S10 kB cok' => ?_⟩
          have s610 : Same (hid s' H6) (hid s' G5) := sG2.trans (s8.trans (s9h.trans s10))
          have kG10 : GL G5 lg (M73.allLogs m.toNat ids) := mo (s610.trans hid_same) kG6
          have kI10 : IL G5 p ids := mo (s10.trans hid_same) kI9
          have kC10 : CL G5 cp cs := mo (s10.trans hid_same) kC9
          refine ⟨.ref cp, rfl, .ref p, rfl, .ref lg, rfl, cp, p, lg, cs, ids, rfl, kC10, kI10, by rw [lcs]; exact kG10, cok, iok, l7, by omega, fun G6 s11 => ⟨_, rfl, iteF ?_⟩⟩
          obtain ⟨bs, hbs, hBs⟩ := kB
          have hbs6 : G6 bp = some (.lst (bs.map V.ref)) := s11 _ _ (hid_same _ _ hbs)
          -- behind both
          have tail : ∀ G7, Same G6 G7 → ∀ Qv : VK, (∀ G8, Same (hid s' H6) (hid s' G8) → SrcAt G8 s' (31 + 50 * ((j + 1 : Nat) : Int)) → Qv (.bl true) G8) →
              tCall spReal [] E0 (tCons (tVar 2) (tCons (tCall spOrder [] E0 (tCons (tVar 2) (tCons (tC (.int 8)) tNil))) tNil)) [some (.ref a), some (.int i), some (.ref s'), some (.ref p), some (.int m), some (.ref lg), some (.int (0 + (j : Int))), some (.ref cp), some (.ref bp)] G7 Qv := fun G7 s12 Qv hR => by
            have S12 := (S10.mono s11).mono s12
            refine ⟨.ref s', rfl, .ref s', rfl, s', _, 8, rfl, S12, by omega, by decide, by decide, fun op G8 ord nop s13 S13 hO nd oko lo => ?_⟩
            have dop : op ≠ s' := ne_new S12.cell.choose_spec nop
            refine ⟨s', op, _, ord, rfl, S13, by omega, ?_, nd, oko, by omega, fun G9 s14 S14 => hR G9 (s610.trans ((hid_mono (s11.trans s12)).trans (s13.trans s14))) (S14.le (by omega))⟩
            show hid s' G8 op = _
            rw [hid_ne dop]
            exact hO
          refine ⟨.ref bp, rfl, bp, _, rfl, .inl (.of hbs6), .int m, rfl, rfl, _, rfl, ite2 (fun e => ?_) (fun e => ?_)⟩
          · have lb : cs'.length = m.toNat := by
              have h1 := V.int.inj (of_decide_eq_true e)
              rw [List.length_map, hBs.1] at h1
              omega
            refine ⟨.ref bp, rfl, .ref p, rfl, .ref lg, rfl, bp, p, lg, cs', ids, rfl, ⟨bs, hbs6, hBs.mono fun _ _ r => mo (hid_same.trans s11) r⟩, mo s11 kI10, by rw [lb]; exact mo s11 kG10, cok', iok, l7, by omega, fun G7 s12 => ⟨_, rfl, iteF ?_⟩⟩
            exact tail G7 s12 _ fun G8 k1 k2 => ⟨_, rfl, iteF ⟨_, _, _, rfl, k1, k2⟩⟩
          · exact iteF (tail G6 (Same.refl _) _ fun G8 k1 k2 => ⟨_, rfl, iteF ⟨_, _, _, rfl, k1, k2⟩⟩)
      · obtain ⟨y6, y7, y8, rfl, sG2, S7⟩ := h
        refine ⟨_, _, _, _, _, _, _, _, rfl, fun b x hb => ?_⟩
        have k1 := sG _ _ hb
        have ne : b ≠ s' := ne_of_none k1 ns'
        have k2 := (B6.sm.trans sG2) b x (by rw [hid_ne ne]; exact s2 _ _ k1)
        rwa [hid_ne ne] at k2
    · exact q G
end
end W73


set_option Elab.async false
set_option linter.all false
set_option maxRecDepth 100000
set_option maxHeartbeats 0
namespace W73
open PySem PySem.Spec PyProof.Rows L2
def mkD (x : Str) (i : Nat) (dfl : List He.Dv) (kwd : List (Str × He.Dv)) : He.DefD := ⟨(x, none), x, x, defArgs (topS i), defBody (topS i), defScope (topS i), dfl, kwd⟩

def fn0 : List He.DefD := [mkD "is_integer" 12 [.non] [], mkD "is_id" 13 [] [], mkD "is_order" 14 [] [], mkD "require_order" 15 [] [], mkD "require_polls" 16 [] [], mkD "are_ids" 17 [] [], mkD "require_ids" 18 [] [], mkD "is_count" 23 [] [], mkD "require_counts" 24 [] [], mkD "parts_of" 25 [] [], mkD "fit_in" 26 [] [], mkD "require_fit" 27 [] [], mkD "counts_fit" 28 [] [], mkD "lost_numbers" 29 [] []]
def fn1 : List He.DefD := [mkD "state_in" 30 [] [], mkD "states_by" 31 [] [], mkD "choices" 32 [] [], mkD "ways_of" 33 [] [], mkD "ways_in" 34 [] [], mkD "count_logs" 35 [] [], mkD "nth_list" 36 [] [], mkD "nth_log" 37 [] [], mkD "require_kind" 42 [] [], mkD "require_reader" 43 [] [], mkD "was_passed" 44 [] [], mkD "lists_of" 45 [] [], mkD "states_in" 46 [] [], mkD "read" 47 [] [("overlap", .int 1), ("wait", .int 0), ("page", .non)]]
def fn2 : List He.DefD := [mkD "states" 48 [] [("overlap", .int 1), ("wait", .int 0), ("page", .non)], mkD "_law_source" 50 [] [], mkD "_law_draw" 51 [] [], mkD "_law_order" 52 [] [], mkD "_law_ids" 53 [] [], mkD "_law_counted" 55 [] [], mkD "_law_bent" 58 [] [], mkD "_law_all_logs" 59 [] [], mkD "_law_state" 60 [] [], mkD "_law_right" 61 [] [], mkD "_law_real_right" 62 [] [], mkD "law" 63 [] []]
def fn : List He.DefD := fn0 ++ fn1 ++ fn2
def faG0 : List He.Fa := [.glo "is_integer", .glo "is_id", .glo "is_order", .glo "require_order", .glo "require_polls", .glo "are_ids", .glo "require_ids", .glo "is_count", .glo "require_counts", .glo "parts_of", .glo "fit_in", .glo "require_fit", .glo "counts_fit", .glo "lost_numbers", .glo "state_in", .glo "states_by", .glo "choices", .glo "ways_of", .glo "ways_in", .glo "count_logs", .glo "nth_list", .glo "nth_log", .glo "require_kind", .glo "require_reader", .glo "was_passed", .glo "lists_of", .glo "states_in", .glo "read", .glo "states", .glo "_law_source"]
def faG1 : List He.Fa := [.glo "_law_draw", .glo "_law_order", .glo "_law_ids", .glo "_law_counted", .glo "_law_bent", .glo "_law_all_logs", .glo "_law_state", .glo "_law_right", .glo "_law_real_right", .glo "law"]
def faF : List He.Fa := [.free "isinstance", .free "int", .free "bool", .free "list", .free "tuple", .free "len", .free "all", .free "zip", .free "range", .free "enumerate", .free "divmod", .free "any", .free "set", .free "sorted", .free "max", .free "min"]
def faC : List He.Fa := [.int "GREATEST" 1000000000000000000000000000000, .int "MOST_IDS_values" 30, .int "MOST_POLLS_values" 30, .int "MOST_POLLS_counts" 12, .int "MOST_IDS_counts" 30, .int "MOST_ID" 1000000000000000000000000000000, .str "READ" "read", .str "LOST" "lost", .str "OPEN" "open"]
def fa : List He.Fa := faG0 ++ faG1 ++ faF ++ faC
def nm0 : List Str := ["LateError", "InvalidOrder", "InvalidPolls", "InvalidIds", "InvalidNumber", "InvalidCounts", "NoFit", "GREATEST", "MOST_IDS_values", "MOST_POLLS_values", "is_integer", "is_id", "is_order", "require_order", "require_polls", "are_ids", "require_ids", "MOST_POLLS_counts", "MOST_IDS_counts", "MOST_ID", "is_count", "require_counts", "parts_of", "fit_in", "require_fit", "counts_fit", "lost_numbers", "state_in", "states_by", "choices"]
def nm1 : List Str := ["ways_of", "ways_in", "count_logs", "nth_list", "nth_log", "READ", "LOST", "OPEN", "require_kind", "require_reader", "was_passed", "lists_of", "states_in", "read", "states", "_law_source", "_law_draw", "_law_order", "_law_ids", "_law_log", "_law_counted", "_law_parts", "_law_fits", "_law_bent", "_law_all_logs", "_law_state", "_law_right", "_law_real_right"]
def names : List Str := nm0 ++ nm1
abbrev R : PySem.W.OpenRow := PySem.W.OpenLaw.row PySem.Challenge.rw_lateids_k73_whole_logs_by_counts
abbrev hk : PySem.W.Hook := He.hookD 4 fa fn
def ob (s : PySem.W.SharedT) : He.AlD := He.obsDG 4 fa fn (HandSHeadRun.getT s)
theorem ob_eq (s : PySem.W.SharedT) : ob s = hk.obs s.abs := He.obsDG_eq (HandSHeadRun.getT_eq s)
theorem run (w : World) : HandSHeadRun.RunEq R (PySem.W.view R.prog [63]) hk ob 4000 names w := by
  intro os
  kernel_rfl
end W73


set_option Elab.async false
set_option linter.all false
set_option maxRecDepth 100000
set_option maxHeartbeats 0
namespace W73
open PySem PySem.Spec PyProof.Rows L2
section
variable {P : Program} {w : World} {K : PySem.W.Frag} {h : Heap} {mg : Str → Option Value} {f : Addr}
theorem df_of (X : K.In h) (G : h.Ns mainGlobals mg) (c : He.SaysD fa fn K) (i : Nat) (x : Str) (n : Nat) (dfl : List He.Dv) (kwd : List (Str × He.Dv)) (h1 : fn[i]? = some (mkD x n dfl kwd)) (h2 : fa[i]? = some (.glo x)) :
    Df K mg x (topS n) (dfl.map (He.Dv.v K)) (kwd.map fun p => (p.1, p.2.v K)) := by
  obtain ⟨fd, F⟩ := c.def_ i h1
  exact ⟨_, fd, F, He.glo_ok X G (c.fact i h2)⟩
theorem glob_of (X : K.In h) (G : h.Ns mainGlobals mg) (c : He.SaysD fa fn K) : Glob mg where
  isinstance := He.free_ok X G (c.fact 40 (f := .free "isinstance") rfl)
  int := He.free_ok X G (c.fact 41 (f := .free "int") rfl)
  bool := He.free_ok X G (c.fact 42 (f := .free "bool") rfl)
  list := He.free_ok X G (c.fact 43 (f := .free "list") rfl)
  tuple := He.free_ok X G (c.fact 44 (f := .free "tuple") rfl)
  len := He.free_ok X G (c.fact 45 (f := .free "len") rfl)
  all := He.free_ok X G (c.fact 46 (f := .free "all") rfl)
  zip := He.free_ok X G (c.fact 47 (f := .free "zip") rfl)
  range := He.free_ok X G (c.fact 48 (f := .free "range") rfl)
  enumerate := He.free_ok X G (c.fact 49 (f := .free "enumerate") rfl)
  divmod := He.free_ok X G (c.fact 50 (f := .free "divmod") rfl)
  any := He.free_ok X G (c.fact 51 (f := .free "any") rfl)
  set := He.free_ok X G (c.fact 52 (f := .free "set") rfl)
  sorted := He.free_ok X G (c.fact 53 (f := .free "sorted") rfl)
  max := He.free_ok X G (c.fact 54 (f := .free "max") rfl)
  min := He.free_ok X G (c.fact 55 (f := .free "min") rfl)
  GREATEST := He.int_ok X G (c.fact 56 (f := .int "GREATEST" 1000000000000000000000000000000) rfl)
  MOST_IDS_values := He.int_ok X G (c.fact 57 (f := .int "MOST_IDS_values" 30) rfl)
  MOST_POLLS_values := He.int_ok X G (c.fact 58 (f := .int "MOST_POLLS_values" 30) rfl)
  MOST_POLLS_counts := He.int_ok X G (c.fact 59 (f := .int "MOST_POLLS_counts" 12) rfl)
  MOST_IDS_counts := He.int_ok X G (c.fact 60 (f := .int "MOST_IDS_counts" 30) rfl)
  MOST_ID := He.int_ok X G (c.fact 61 (f := .int "MOST_ID" 1000000000000000000000000000000) rfl)
  READ := He.str_ok X G (c.fact 62 (f := .str "READ" "read") rfl)
  LOST := He.str_ok X G (c.fact 63 (f := .str "LOST" "lost") rfl)
  OPEN := He.str_ok X G (c.fact 64 (f := .str "OPEN" "open") rfl)
theorem law_ok (X : K.In h) (G : h.Ns mainGlobals mg) (c : He.SaysD fa fn K) (base : Heap) {fd : FuncData} (F : FunD K "law" "law" (defArgs (topS 63)) (defBody (topS 63)) (defScope (topS 63)) [] [] f fd) : FnOk P w K mg base CX0 8 f fd ["_law_script"] (spLaw K) := by
  have g := glob_of X G c
  have cI2 : cIsInt2 P w K mg base := c_isInt2 g (df_of X G c 0 "is_integer" 12 [.non] [] rfl rfl)
  have cI3 : cIsInt3 P w K mg base := c_isInt3 g (df_of X G c 0 "is_integer" 12 [.non] [] rfl rfl)
  have cId : cIsId P w K mg base := c_isId g (df_of X G c 1 "is_id" 13 [] [] rfl rfl) cI3
  have cOr := c_isOrder g (df_of X G c 2 "is_order" 14 [] [] rfl rfl) cId
  have cRO := c_reqOrder (df_of X G c 3 "require_order" 15 [] [] rfl rfl) cOr
  have cRP : Cal P w K mg base "require_polls" ["order", "polls"] [] 2 spReqPolls := c_reqPolls g (df_of X G c 4 "require_polls" 16 [] [] rfl rfl) cI3
  have cAI := c_areIds g (df_of X G c 5 "are_ids" 17 [] [] rfl rfl) cId
  have cRI := c_reqIds (df_of X G c 6 "require_ids" 18 [] [] rfl rfl) cAI
  have cIC := c_isCount g (df_of X G c 7 "is_count" 23 [] [] rfl rfl) cI3
  have cRC := c_reqCounts g (df_of X G c 8 "require_counts" 24 [] [] rfl rfl) cIC
  have cPa : cParts P w K mg base := c_parts (df_of X G c 9 "parts_of" 25 [] [] rfl rfl)
  have cFi := c_fit g (df_of X G c 10 "fit_in" 26 [] [] rfl rfl) cPa
  have cRF := c_reqFit (df_of X G c 11 "require_fit" 27 [] [] rfl rfl) cRC cRI cFi
  have cCF := c_cFit (df_of X G c 12 "counts_fit" 28 [] [] rfl rfl) cRC cRI cFi
  have cLo := c_lost g (df_of X G c 13 "lost_numbers" 29 [] [] rfl rfl) cRF cPa
  have cSI : cStIn P w K mg base := c_stIn g (df_of X G c 14 "state_in" 30 [] [] rfl rfl)
  have cSt := c_states g (df_of X G c 15 "states_by" 31 [] [] rfl rfl) cRF cPa cSI
  have cCh : cCh P w K mg base := c_ch g (df_of X G c 16 "choices" 32 [] [] rfl rfl)
  have cWy := c_way g (df_of X G c 17 "ways_of" 33 [] [] rfl rfl) cCh
  have cWs := c_ways g (df_of X G c 18 "ways_in" 34 [] [] rfl rfl) cPa cWy
  have cCn := c_cnt (df_of X G c 19 "count_logs" 35 [] [] rfl rfl) cRC cRI cFi cWs
  have cNL := c_nthL g (df_of X G c 20 "nth_list" 36 [] [] rfl rfl) cCh
  have cNt := c_nth g (df_of X G c 21 "nth_log" 37 [] [] rfl rfl) cRC cRI cI2 cFi cWs cPa cWy cNL
  have cRK := c_reqKind g (df_of X G c 22 "require_kind" 42 [] [] rfl rfl) cI2
  have cRR := c_reqReader (df_of X G c 23 "require_reader" 43 [] [] rfl rfl) cRO cRP cRK
  have cWP : cPassed P w K mg base := c_passed g (df_of X G c 24 "was_passed" 44 [] [] rfl rfl)
  have cLs := c_lists g (df_of X G c 25 "lists_of" 45 [] [] rfl rfl) cWP
  have cSs : cStIns P w K mg base := c_stIns g (df_of X G c 26 "states_in" 46 [] [] rfl rfl)
  have cRe := c_read (df_of X G c 27 "read" 47 [] [("overlap", .int 1), ("wait", .int 0), ("page", .non)] rfl rfl) cRR cLs
  have cSr := c_stsR (df_of X G c 28 "states" 48 [] [("overlap", .int 1), ("wait", .int 0), ("page", .non)] rfl rfl) cRR cLs cSs
  have cSo : Cal P w K mg base "_law_source" ["_law_script", "_law_k"] [] 1 (spSource (K := K)) := c_source g (df_of X G c 29 "_law_source" 50 [] [] rfl rfl)
  have cDr : cDraw P w K mg base := c_draw (df_of X G c 30 "_law_draw" 51 [] [] rfl rfl)
  have cOd := c_order g (df_of X G c 31 "_law_order" 52 [] [] rfl rfl) cDr
  have cIs := c_ids g (df_of X G c 32 "_law_ids" 53 [] [] rfl rfl) cOd
  have cCo : cCounted P w K mg base := c_counted g (df_of X G c 33 "_law_counted" 55 [] [] rfl rfl)
  have cBe := c_bent g (df_of X G c 34 "_law_bent" 58 [] [] rfl rfl) cDr
  have cAl : Cal P w K mg base "_law_all_logs" ["_law_ids_here", "_law_polls"] [] 1 spAll := c_all g (df_of X G c 35 "_law_all_logs" 59 [] [] rfl rfl)
  have cLS : cLState P w K mg base := c_lstate (df_of X G c 36 "_law_state" 60 [] [] rfl rfl)
  have cRt := c_right g (df_of X G c 37 "_law_right" 61 [] [] rfl rfl) cCo cCF cCn cNt cSt cLS cLo
  have cRl := c_real g (df_of X G c 38 "_law_real_right" 62 [] [] rfl rfl) cDr cRe cSr cCo cSt cNt cCn
  exact ok_law g F cSo cIs cDr cAl cCo cBe cRt cRl cOd
theorem facts (X : K.In h) (G : h.Ns mainGlobals mg) (hfa : mg ("law" : Str) = some (.ref f)) (c : He.SaysD fa fn K) :
    ∃ fd : FuncData, (∀ (s : Shared) (v : Value), BindsTo s fd ⟨[v], []⟩ [("_law_script", v)]) ∧ ∀ base : Heap, K.In base → base.Ns mainGlobals mg → FnOk P w K mg base CX0 8 f fd ["_law_script"] (spLaw K) := by
  obtain ⟨fd, F⟩ := c.def_ 39 (d := mkD "law" 63 [] []) rfl
  have e := hfa.symm.trans (He.glo_ok X G (c.fact 39 (f := .glo "law") rfl))
  cases e
  have b := FunD.bindsA (ps := ["_law_script"]) F fun _ _ _ _ _ _ us hl => match us, hl with | [_], _ => rfl
  exact ⟨fd, fun s v => b s [v] rfl, fun base _ _ => law_ok X G c base F⟩
end
end W73
open PySem PySem.W PySem.Calls PyProof.Rows
theorem PySem.Challenge.cw_lateids_k73_whole_logs_by_counts_holds : PySem.Challenge.rw_lateids_k73_whole_logs_by_counts.Holds := by
  w_on; o_law
  refine HandSHeadRun.head_any (r := OpenLaw.row PySem.Challenge.rw_lateids_k73_whole_logs_by_counts) (q := view (OpenLaw.row PySem.Challenge.rw_lateids_k73_whole_logs_by_counts).prog [63]) (H := W73.hk) (ob := W73.ob) (M := 4000) (loose := W73.names) (d := HandSHeadRun.topDef (OpenLaw.row PySem.Challenge.rw_lateids_k73_whole_logs_by_counts).prog 63) (kwd := []) W73.ob_eq
    (by kernel_rfl) (fun s => by kernel_rfl) W73.run (by kernel_rfl) (by kernel_rfl) (by kernel_rfl) (by rfl) (by first | assumption | decide +kernel) (by decide +kernel) ⟨rfl, rfl, rfl, rfl, rfl, by decide +kernel⟩ ?hw ?hc
  case hw => w_witness2
  case hc =>
    refine L2.walk_ofE (l := PySem.Challenge.rw_lateids_k73_whole_logs_by_counts) (n := 63) (k := 8) (x := "_law_script") (CX := L2.CX0) rfl (by decide) (by kernel_rfl) ⟨rfl, by decide, by decide⟩ ?F (fun _ _ _ _ z => z)
    intro w mg fa h Y G hmg0
    obtain ⟨K, KX, c⟩ := Y
    have hmg : mg ("law" : PySem.Str) = some (.ref fa) := by
      have e : (HandSHeadRun.topDef (OpenLaw.row PySem.Challenge.rw_lateids_k73_whole_logs_by_counts).prog 63).name = ("law" : PySem.Str) := by kernel_rfl
      rw [← e]
      exact hmg0
    obtain ⟨fd, hb, hF⟩ := W73.facts (P := (PySem.Challenge.rw_lateids_k73_whole_logs_by_counts).prog) (w := w) KX G hmg c
    exact ⟨K, fd, W73.spLaw K, KX, hb, fun H a ns _ _ hS => ⟨a, ns, rfl, hS, fun _ => rfl⟩, hF⟩
