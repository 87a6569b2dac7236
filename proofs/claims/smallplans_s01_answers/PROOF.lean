import PyProof.Rows.All
import Wide.All
import OpenK.AllK
import Wide.FinOn
import Open.SpecLaws
import KE.OsGo
import HandS.ForSpec
import PyVbjpae
import KE.GoesMore
import KE.GoesEnum
import HandS.Comp
import HandS.Iter
import HandS.Dict
import HandS.Style
import HandS.TupMul
import HandS.TupAny
import HandS.Zip
import HandS.WideBits
import HandS.SortInts
import HandS.SetFor
import HandS.Flow
import HandS.Walk
import KE.KDictKeyed
import KE.KeyNested
import HandS.ExcInit
import HandS.ExcSuper
import HandS.ExcField
import HandS.TryMany
import HandS.WordsDict
import PySem.Challenge.RW_smallplans_s01_answers
section
set_option autoImplicit false
namespace SPM
open VbjpCore (Plan Task Requirement Times timeAt named isOwn isGood isFinish isTask isRequirement isValidPlan isKept startTimes)
open Vbjpae hiding optional
/-- a time as a whole number: -1 where there is none -/
abbrev ov (x : Option Nat) : Int := Vbjpae.optional x

/-! ### times as whole numbers: -1 where nothing is seen -/
abbrev enc (t : Times) : List Int := t.map ov
theorem opt_none : ov none = -1 := rfl
theorem opt_some (n : Nat) : ov (some n) = (n : Int) := rfl
theorem opt_neg {x : Option Nat} : ov x = -1 ↔ x = none := by
  cases x with
  | none => simp [ov, Vbjpae.optional]
  | some n => simp [ov, Vbjpae.optional]
theorem opt_inj {x y : Option Nat} (h : ov x = ov y) : x = y := by
  cases x <;> cases y <;> simp [ov, Vbjpae.optional] at h ⊢ <;> omega
theorem enc_len (t : Times) : (enc t).length = t.length := List.length_map _
theorem enc_inj {t u : Times} (h : enc t = enc u) : t = u := by
  induction t generalizing u with
  | nil => cases u with
    | nil => rfl
    | cons _ _ => simp at h
  | cons x r ih => cases u with
    | nil => simp at h
    | cons y s =>
      simp only [enc, List.map_cons, List.cons.injEq] at h
      rw [opt_inj h.1, ih h.2]
theorem timeAt_eq {t : Times} {i : Nat} (h : i < t.length) : t[i]? = some (timeAt t i) := by
  simp [timeAt, List.getElem?_eq_getElem h]
theorem timeAt_ge {t : Times} {i : Nat} (h : t.length ≤ i) : timeAt t i = none := by
  simp [timeAt, List.getElem?_eq_none h]
theorem enc_at {t : Times} {i : Nat} (h : i < t.length) : (enc t)[i]? = some (ov (timeAt t i)) := by
  rw [List.getElem?_map, timeAt_eq h]; rfl
theorem timeAt_set (t : Times) (i j : Nat) (x : Option Nat) : timeAt (t.set i x) j = if i = j ∧ i < t.length then x else timeAt t j := by
  unfold timeAt
  rw [List.getD_eq_getElem?_getD, List.getD_eq_getElem?_getD, List.getElem?_set]
  by_cases h : i = j
  · subst h
    by_cases h2 : i < t.length
    · simp [h2]
    · simp [h2]
  · simp [h]
theorem enc_set (t : Times) (i : Nat) (x : Option Nat) : enc (t.set i x) = (enc t).set i (ov x) := by
  simp [enc, List.map_set]

/-! ### masks: all numbers below 2^n whose bits are allowed -/
def gen (A B : Nat → Bool) : Nat → List Nat
  | 0 => [0]
  | n + 1 => (if B n = true then gen A B n else []) ++ (if A n = true then (gen A B n).map (2 ^ n + ·) else [])
def fits (A B : Nat → Bool) (n m : Nat) : Bool := (List.range n).all fun i => if m.testBit i = true then A i else B i
theorem gen_succ (A B : Nat → Bool) (n : Nat) : gen A B (n + 1) = (if B n = true then gen A B n else []) ++ (if A n = true then (gen A B n).map (2 ^ n + ·) else []) := rfl
theorem fits_succ (A B : Nat → Bool) (n m : Nat) : fits A B (n + 1) m = (fits A B n m && (if m.testBit n = true then A n else B n)) := by
  unfold fits
  rw [List.range_succ, List.all_append]
  simp
theorem testBit_hi {n m i : Nat} (hi : i < n) : (2 ^ n + m).testBit i = m.testBit i := by
  rw [Nat.testBit_two_pow_add_gt hi]
theorem testBit_top {n m : Nat} (h : m < 2 ^ n) : (2 ^ n + m).testBit n = true := by
  rw [Nat.testBit_two_pow_add_eq, Nat.testBit_lt_two_pow h]; rfl
theorem fits_hi (A B : Nat → Bool) : ∀ (n k m : Nat), n ≤ k → fits A B n (2 ^ k + m) = fits A B n m := by
  intro n k m h
  unfold fits
  induction n with
  | zero => rfl
  | succ n ih =>
    rw [List.range_succ, List.all_append, List.all_append, ih (by omega)]
    simp only [List.all_cons, List.all_nil, Bool.and_true]
    rw [testBit_hi (by omega)]
theorem range_pow (n : Nat) : List.range (2 ^ (n + 1)) = List.range (2 ^ n) ++ (List.range (2 ^ n)).map (2 ^ n + ·) := by
  rw [Nat.pow_succ, Nat.mul_two, List.range_add]
theorem gen_eq (A B : Nat → Bool) : ∀ n, gen A B n = (List.range (2 ^ n)).filter (fits A B n)
  | 0 => by simp [gen, fits]
  | n + 1 => by
    rw [range_pow, List.filter_append, List.filter_map, gen, gen_eq A B n]
    congr 1
    · by_cases hb : B n = true
      · rw [if_pos hb]
        refine List.filter_congr fun m hm => ?_
        rw [fits_succ, Nat.testBit_lt_two_pow (List.mem_range.mp hm)]
        simp [hb]
      · rw [if_neg hb]
        refine (List.filter_eq_nil_iff.mpr fun m hm => ?_).symm
        rw [fits_succ, Nat.testBit_lt_two_pow (List.mem_range.mp hm)]
        simp [hb]
    · by_cases ha : A n = true
      · rw [if_pos ha]
        congr 1
        refine List.filter_congr fun m hm => ?_
        show fits A B n m = fits A B (n + 1) (2 ^ n + m)
        rw [fits_succ, testBit_top (List.mem_range.mp hm), fits_hi A B n n m (Nat.le_refl _)]
        simp [ha]
      · rw [if_neg ha]
        symm
        rw [List.map_eq_nil_iff]
        refine List.filter_eq_nil_iff.mpr fun m hm => ?_
        show ¬ fits A B (n + 1) (2 ^ n + m) = true
        rw [fits_succ, testBit_top (List.mem_range.mp hm)]
        simp [ha]
theorem gen_lt {A B : Nat → Bool} {n m : Nat} (h : m ∈ gen A B n) : m < 2 ^ n := by
  rw [gen_eq] at h
  exact List.mem_range.mp (List.mem_filter.mp h).1
theorem pow_or {n m : Nat} (h : m < 2 ^ n) : m ||| 2 ^ n = 2 ^ n + m := by
  have := Nat.two_pow_add_eq_or_of_lt h 1
  rw [Nat.mul_one] at this
  rw [Nat.or_comm, this]
theorem range_sorted (n : Nat) : (List.range n).Pairwise (· < ·) := List.pairwise_lt_range
theorem gen_sorted (A B : Nat → Bool) (n : Nat) : (gen A B n).Pairwise (· < ·) := by
  rw [gen_eq]; exact (range_sorted _).filter _

/-- which events may be named -/
def free (p : Plan) (t : Times) (i : Nat) : Bool := isOwn p i && (timeAt t i).isNone
theorem mem_membersOf {n m i : Nat} : i ∈ membersOf n m ↔ i < n ∧ m.testBit i = true := by
  simp [membersOf, isIn, List.mem_filter]
theorem movesAt_gen (p : Plan) (t : Times) : movesAt p t = gen (free p t) (fun _ => true) p.count := by
  rw [gen_eq]
  refine List.filter_congr fun m hm => ?_
  have h := List.mem_range.mp hm
  unfold isMove fits
  rw [decide_eq_true h, Bool.true_and, Bool.eq_iff_iff, List.all_eq_true, List.all_eq_true]
  constructor
  · intro q i hi
    by_cases hb : m.testBit i = true
    · rw [if_pos hb]; exact q i (mem_membersOf.mpr ⟨List.mem_range.mp hi, hb⟩)
    · rw [if_neg hb]
  · intro q i hi
    obtain ⟨h1, h2⟩ := mem_membersOf.mp hi
    have := q i (List.mem_range.mpr h1)
    rw [if_pos h2] at this
    exact this
theorem mem_movesAt {p : Plan} {t : Times} {m : Nat} : m ∈ movesAt p t ↔ isMove p t m = true := by
  unfold movesAt
  rw [List.mem_filter, List.mem_range]
  constructor
  · exact fun h => h.2
  · intro h
    refine ⟨?_, h⟩
    unfold isMove at h
    rw [Bool.and_eq_true] at h
    exact of_decide_eq_true h.1
theorem isMove_iff {p : Plan} {t : Times} {m : Nat} : isMove p t m = true ↔ m < 2 ^ p.count ∧ ∀ i, i < p.count → m.testBit i = true → isOwn p i = true ∧ timeAt t i = none := by
  unfold isMove
  rw [Bool.and_eq_true, decide_eq_true_iff, List.all_eq_true]
  refine and_congr_right fun _ => ⟨fun h i h1 h2 => ?_, fun h i hi => ?_⟩
  · have := h i (mem_membersOf.mpr ⟨h1, h2⟩)
    simpa using this
  · obtain ⟨h1, h2⟩ := mem_membersOf.mp hi
    simpa using h i h1 h2
/-- without the bound: no other bit is set -/
theorem isMove_bits {p : Plan} {t : Times} {m : Nat} : isMove p t m = true ↔ ∀ i, m.testBit i = true → isOwn p i = true ∧ timeAt t i = none := by
  rw [isMove_iff]
  constructor
  · rintro ⟨h, q⟩ i hi
    refine q i ?_ hi
    rcases Nat.lt_or_ge i p.count with h' | h'
    · exact h'
    · exfalso
      rw [Nat.testBit_lt_two_pow (Nat.lt_of_lt_of_le h (Nat.pow_le_pow_right (by decide) h'))] at hi
      cases hi
  · intro q
    refine ⟨?_, fun i _ => q i⟩
    refine Nat.lt_pow_two_of_testBit m fun i hi => ?_
    cases hb : m.testBit i with
    | false => rfl
    | true =>
      have := (q i hb).1
      unfold isOwn at this
      simp at this
      omega

/-! ### the program's loop over the own events -/
def moveStep (t : Times) (r : List Nat) (e : Nat) : List Nat := if (timeAt t e).isNone = true then r ++ r.map (· ||| 2 ^ e) else r
theorem moves_fold (p : Plan) (t : Times) : ∀ n, n ≤ p.count → ((List.range n).filter (isOwn p)).foldl (moveStep t) [0] = gen (free p t) (fun _ => true) n
  | 0, _ => rfl
  | n + 1, h => by
    have ih := moves_fold p t n (by omega)
    rw [List.range_succ, List.filter_append, List.foldl_append, ih, gen_succ]
    by_cases ho : isOwn p n = true
    · rw [List.filter_cons_of_pos (by simpa using ho), List.filter_nil, List.foldl_cons, List.foldl_nil]
      unfold moveStep
      by_cases hn : (timeAt t n).isNone = true
      · rw [if_pos hn, if_pos rfl, if_pos (by unfold free; rw [ho, hn]; rfl)]
        congr 1
        refine List.map_congr_left fun m hm => ?_
        exact pow_or (gen_lt hm)
      · rw [if_neg hn, if_pos rfl, if_neg (by unfold free; rw [ho]; simpa using hn), List.append_nil]
    · rw [List.filter_cons_of_neg (by simpa using ho), List.filter_nil, List.foldl_nil, if_pos rfl, if_neg (by unfold free; simp [ho]), List.append_nil]
def ownList (p : Plan) : List Nat := (List.range p.count).filter (isOwn p)
theorem moves_prog (p : Plan) (t : Times) : (ownList p).foldl (moveStep t) [0] = movesAt p t := by
  rw [movesAt_gen]; exact moves_fold p t p.count (Nat.le_refl _)
theorem gen_len (A B : Nat → Bool) : ∀ n, (gen A B n).length ≤ 2 ^ n := by
  intro n
  rw [gen_eq]
  exact Nat.le_trans (List.length_filter_le _ _) (by simp)
theorem moveStep_len (t : Times) (r : List Nat) (e : Nat) : (moveStep t r e).length ≤ 2 * r.length := by
  unfold moveStep
  split
  · simp; omega
  · omega
theorem moves_fold_len (t : Times) : ∀ (es : List Nat) (r : List Nat), (es.foldl (moveStep t) r).length ≤ 2 ^ es.length * r.length
  | [], r => by simp
  | e :: es, r => by
    rw [List.foldl_cons, List.length_cons]
    refine Nat.le_trans (moves_fold_len t es _) ?_
    have := moveStep_len t r e
    calc 2 ^ es.length * (moveStep t r e).length ≤ 2 ^ es.length * (2 * r.length) := Nat.mul_le_mul_left _ this
      _ = 2 ^ (es.length + 1) * r.length := by rw [Nat.pow_succ, Nat.mul_assoc]

/-! ### reports -/
def canAt (p : Plan) (t : Times) (s i : Nat) : Bool := match p.tasks[i]? with
  | some k => canReport t s k
  | none => false
def mustAt (p : Plan) (t : Times) (s i : Nat) : Bool := match p.tasks[i]? with
  | some k => mustReport t s k
  | none => false
theorem all_zipIdx {α : Type} (f : α → Nat → Bool) : ∀ (l : List α) (n : Nat), ((l.zipIdx n).all fun x => f x.1 x.2) = (List.range l.length).all fun i => match l[i]? with
      | some a => f a (n + i)
      | none => true
  | [], n => rfl
  | a :: l, n => by
    rw [List.zipIdx_cons, List.all_cons, all_zipIdx f l (n + 1), List.length_cons, List.range_succ_eq_map, List.all_cons, List.all_map]
    simp only [List.getElem?_cons_zero, Nat.add_zero]
    congr 1
    rw [Bool.eq_iff_iff, List.all_eq_true, List.all_eq_true]
    refine forall_congr' fun i => forall_congr' fun _ => ?_
    simp only [Function.comp, List.getElem?_cons_succ, Nat.succ_eq_add_one]
    rw [show n + 1 + i = n + (i + 1) by omega]
theorem reportsAt_gen (p : Plan) (t : Times) (s : Nat) : reportsAt p t s = gen (canAt p t s) (fun i => !mustAt p t s i) p.tasks.length := by
  rw [gen_eq]
  refine List.filter_congr fun m hm => ?_
  have h := List.mem_range.mp hm
  unfold isReport
  rw [decide_eq_true h, Bool.true_and]
  have e := all_zipIdx (fun (k : Task) i => if isIn m i = true then canReport t s k else !mustReport t s k) p.tasks 0
  refine e.trans ?_
  unfold fits
  rw [Bool.eq_iff_iff, List.all_eq_true, List.all_eq_true]
  refine forall_congr' fun i => forall_congr' fun hi => ?_
  have hi' := List.mem_range.mp hi
  unfold canAt mustAt isIn
  dsimp only
  rw [List.getElem?_eq_getElem hi', Nat.zero_add]
def repStep (t : Times) (s : Nat) (r : List Nat) (x : Task × Nat) : List Nat :=
  if mustReport t s x.1 = true then r.map (· ||| 2 ^ x.2) else if canReport t s x.1 = true then r ++ r.map (· ||| 2 ^ x.2) else r
theorem must_can {t : Times} {s : Nat} {k : Task} (hk : k.least ≤ k.greatest) (h : mustReport t s k = true) : canReport t s k = true := by
  unfold mustReport at h
  unfold canReport
  cases e : timeAt t k.start with
  | none => rw [e] at h; cases h
  | some a =>
    rw [e] at h
    simp only [Bool.and_eq_true, decide_eq_true_eq] at h ⊢
    exact ⟨h.1, by omega, by omega⟩
theorem take_succ_zip {α : Type} : ∀ (l : List α) (n : Nat) (a : α), l[n]? = some a → (l.take (n + 1)).zipIdx = (l.take n).zipIdx ++ [(a, n)] := by
  intro l n a h
  have hn : n < l.length := (List.getElem?_eq_some_iff.mp h).1
  rw [List.take_add_one, h, List.zipIdx_append]
  simp [Nat.min_eq_left (Nat.le_of_lt hn)]
theorem reports_fold (p : Plan) (t : Times) (s : Nat) (hk : ∀ k ∈ p.tasks, k.least ≤ k.greatest) : ∀ n, n ≤ p.tasks.length → (p.tasks.take n).zipIdx.foldl (repStep t s) [0] = gen (canAt p t s) (fun i => !mustAt p t s i) n
  | 0, _ => by simp [gen]
  | n + 1, h => by
    have ih := reports_fold p t s hk n (by omega)
    have hn : n < p.tasks.length := by omega
    have eg := List.getElem?_eq_getElem hn
    rw [take_succ_zip _ _ _ eg, List.foldl_append, ih, List.foldl_cons, List.foldl_nil, gen_succ]
    unfold repStep
    have e1 : canAt p t s n = canReport t s p.tasks[n] := by unfold canAt; rw [eg]
    have e2 : mustAt p t s n = mustReport t s p.tasks[n] := by unfold mustAt; rw [eg]
    have eo : (gen (canAt p t s) (fun i => !mustAt p t s i) n).map (· ||| 2 ^ n) = (gen (canAt p t s) (fun i => !mustAt p t s i) n).map (2 ^ n + ·) := List.map_congr_left fun m hm => pow_or (gen_lt hm)
    dsimp only
    rw [e1, e2, eo]
    by_cases hm : mustReport t s p.tasks[n] = true
    · have hc := must_can (hk _ (List.getElem_mem hn)) hm
      rw [if_pos hm, hm, hc]
      simp
    · by_cases hc : canReport t s p.tasks[n] = true
      · rw [if_neg hm, if_pos hc, hc]
        simp [hm]
      · rw [if_neg hm, if_neg hc]
        simp [hm, hc]
theorem reports_prog (p : Plan) (t : Times) (s : Nat) (hk : ∀ k ∈ p.tasks, k.least ≤ k.greatest) : p.tasks.zipIdx.foldl (repStep t s) [0] = reportsAt p t s := by
  have := reports_fold p t s hk p.tasks.length (Nat.le_refl _)
  rw [List.take_length] at this
  rw [reportsAt_gen]; exact this
theorem mem_reportsAt {p : Plan} {t : Times} {s m : Nat} : m ∈ reportsAt p t s ↔ isReport p t s m = true := by
  unfold reportsAt
  rw [List.mem_filter, List.mem_range]
  constructor
  · exact fun h => h.2
  · intro h
    refine ⟨?_, h⟩
    unfold isReport at h
    rw [Bool.and_eq_true] at h
    exact of_decide_eq_true h.1
theorem report_bits {p : Plan} {t : Times} {s m : Nat} (h : m ∈ reportsAt p t s) {i : Nat} {k : Task} (hk : p.tasks[i]? = some k) : if m.testBit i = true then canReport t s k = true else mustReport t s k = false := by
  have hi : i < p.tasks.length := (List.getElem?_eq_some_iff.mp hk).1
  rw [reportsAt_gen, gen_eq, List.mem_filter] at h
  have := List.all_eq_true.mp h.2 i (List.mem_range.mpr hi)
  unfold canAt mustAt at this
  dsimp only at this
  rw [hk] at this
  split
  · rename_i hb
    simpa [hb] using this
  · rename_i hb
    simpa [hb] using this
end SPM
end

section
set_option autoImplicit false
namespace SPM
open VbjpCore (Plan Task Requirement Times timeAt named isOwn isGood isFinish isTask isRequirement isValidPlan isKept startTimes)
open Vbjpae hiding optional

/-! ### a plan within the limits -/
structure PV (p : Plan) : Prop where
  c1 : 1 ≤ p.count
  c6 : p.count ≤ 6
  d1 : 1 ≤ p.deadline
  d8 : p.deadline ≤ 8
  t3 : p.tasks.length ≤ 3
  r20 : p.requirements.length ≤ 20
  task : ∀ k ∈ p.tasks, k.start < p.count ∧ k.finish < p.count ∧ k.finish ≠ 0 ∧ k.start ≠ k.finish ∧ 1 ≤ k.least ∧ k.least ≤ k.greatest ∧ k.greatest ≤ 1000 ∧ k.delay ≤ p.deadline + 1
  dist : (p.tasks.map fun k => k.finish).Nodup
  chain : ∀ k ∈ p.tasks, ∀ j ∈ p.tasks, j.start = k.finish → k.delay = 0
  req : ∀ r ∈ p.requirements, r.source < p.count ∧ r.target < p.count ∧ -1000 ≤ r.most ∧ r.most ≤ 1000
theorem PV.own0 {p : Plan} (h : PV p) : isOwn p 0 = true := by
  unfold isOwn isFinish
  rw [Bool.and_eq_true, decide_eq_true_iff, Bool.not_eq_true', List.any_eq_false]
  refine ⟨h.c1, fun k hk => ?_⟩
  have := (h.task k hk).2.2.1
  simpa using this
theorem own_not_finish {p : Plan} {k : Task} (hk : k ∈ p.tasks) : isOwn p k.finish = false := by
  unfold isOwn isFinish
  have : (p.tasks.any fun j => j.finish == k.finish) = true := List.any_eq_true.mpr ⟨k, hk, by simp⟩
  rw [this]; simp

/-! ### a move made -/
theorem named_len (p : Plan) (s : Nat) : ∀ (l : List Nat) (t : Times), (named p s t l).length = t.length := by
  intro l
  induction l with
  | nil => intro t; rfl
  | cons i l ih =>
    intro t
    unfold named at ih ⊢
    rw [List.foldl_cons, ih]
    split
    · exact List.length_set
    · rfl
theorem named_cons (p : Plan) (s i : Nat) (l : List Nat) (t : Times) : named p s t (i :: l) = named p s (if (isOwn p i && (timeAt t i).isNone) = true then t.set i (some s) else t) l := rfl
theorem named_at (p : Plan) (s : Nat) : ∀ (l : List Nat) (t : Times) (j : Nat), timeAt (named p s t l) j = if j ∈ l ∧ isOwn p j = true ∧ timeAt t j = none ∧ j < t.length then some s else timeAt t j := by
  intro l
  induction l with
  | nil => intro t j; simp [named]
  | cons i l ih =>
    intro t j
    rw [named_cons, ih]
    by_cases h : (isOwn p i && (timeAt t i).isNone) = true
    · rw [if_pos h, timeAt_set, List.length_set]
      rw [Bool.and_eq_true] at h
      by_cases e : i = j
      · subst e
        have hn : timeAt t i = none := by simpa using h.2
        by_cases hl : i < t.length
        · simp [hl, h.1, hn]
        · simp [hl]
      · have e' : ¬ j = i := fun z => e z.symm
        simp [e, e']
    · rw [if_neg h]
      by_cases e : j = i
      · subst e
        have : ¬ (isOwn p j = true ∧ timeAt t j = none) := by
          intro z; apply h; rw [z.1, z.2]; rfl
        by_cases hm : j ∈ l
        · simp [hm]
        · simp only [hm, false_and, if_false, List.mem_cons, or_false, true_and]
          rw [if_neg]
          rintro ⟨a, b, _⟩
          exact this ⟨a, b⟩
      · simp [e]
theorem afterMove_len (p : Plan) (s : Nat) (t : Times) (m : Nat) : (afterMove p s t m).length = t.length := named_len p s _ t
theorem afterMove_at {p : Plan} {s : Nat} {t : Times} {m : Nat} (hl : t.length = p.count) (hm : isMove p t m = true) (j : Nat) : timeAt (afterMove p s t m) j = if m.testBit j = true then some s else timeAt t j := by
  unfold afterMove
  rw [named_at]
  by_cases hb : m.testBit j = true
  · obtain ⟨h1, h2⟩ := isMove_bits.mp hm j hb
    have h3 : j < p.count := by unfold isOwn at h1; simp at h1; exact h1.1
    rw [if_pos ⟨mem_membersOf.mpr ⟨h3, hb⟩, h1, h2, by omega⟩, if_pos hb]
  · rw [if_neg hb, if_neg]
    rintro ⟨h1, _⟩
    exact hb (mem_membersOf.mp h1).2
theorem times_ext {t u : Times} (hl : t.length = u.length) (h : ∀ j, j < t.length → timeAt t j = timeAt u j) : t = u := by
  refine List.ext_getElem? fun j => ?_
  by_cases hj : j < t.length
  · rw [timeAt_eq hj, timeAt_eq (by omega), h j hj]
  · rw [List.getElem?_eq_none (by omega), List.getElem?_eq_none (by omega)]
/-- the program's way -/
def moved (s : Int) (m : Nat) (xs : List Int) : List Int := xs.zipIdx.map fun x => if m.testBit x.2 = true then s else x.1
theorem moved_is {p : Plan} {s : Nat} {t : Times} {m : Nat} (hl : t.length = p.count) (hm : isMove p t m = true) : enc (afterMove p s t m) = moved s m (enc t) := by
  refine List.ext_getElem? fun j => ?_
  unfold moved
  rw [List.getElem?_map, List.getElem?_map, List.getElem?_zipIdx]
  by_cases hj : j < t.length
  · rw [timeAt_eq (by rw [afterMove_len]; exact hj), enc_at hj, afterMove_at hl hm]
    simp only [Option.map_some, Nat.zero_add]
    congr 1
    split <;> rfl
  · rw [List.getElem?_eq_none (by rw [afterMove_len]; omega), List.getElem?_eq_none (by rw [enc_len]; omega)]
    rfl

/-! ### a report made -/
def repSet (s m : Nat) (t : Times) (x : Task × Nat) : Times := if isIn m x.2 = true then t.set x.1.finish (some (s - x.1.delay)) else t
theorem repSet_len (s m : Nat) : ∀ (l : List (Task × Nat)) (t : Times), (l.foldl (repSet s m) t).length = t.length := by
  intro l
  induction l with
  | nil => intro t; rfl
  | cons x l ih =>
    intro t
    rw [List.foldl_cons, ih]
    unfold repSet
    split
    · exact List.length_set
    · rfl
theorem afterReport_eq (p : Plan) (s : Nat) (t : Times) (m : Nat) : afterReport p s t m = p.tasks.zipIdx.foldl (repSet s m) t := rfl
theorem afterReport_len (p : Plan) (s : Nat) (t : Times) (m : Nat) : (afterReport p s t m).length = t.length := repSet_len s m _ t
theorem repFold_other (s m : Nat) : ∀ (l : List (Task × Nat)) (t : Times) (j : Nat), (∀ x ∈ l, isIn m x.2 = true → x.1.finish ≠ j) → timeAt (l.foldl (repSet s m) t) j = timeAt t j := by
  intro l
  induction l with
  | nil => intro t j _; rfl
  | cons x l ih =>
    intro t j h
    rw [List.foldl_cons, ih _ _ fun y hy => h y (List.mem_cons_of_mem _ hy)]
    unfold repSet
    by_cases hb : isIn m x.2 = true
    · rw [if_pos hb, timeAt_set, if_neg]
      exact fun z => h x List.mem_cons_self hb z.1
    · rw [if_neg hb]
theorem repFold_hit (s m : Nat) : ∀ (l : List (Task × Nat)) (t : Times) (x : Task × Nat), x ∈ l → isIn m x.2 = true → x.1.finish < t.length → (l.map fun y => y.1.finish).Nodup → timeAt (l.foldl (repSet s m) t) x.1.finish = some (s - x.1.delay) := by
  intro l
  induction l with
  | nil => intro t x hx; cases hx
  | cons y l ih =>
    intro t x hx hb hl hn
    rw [List.map_cons, List.nodup_cons] at hn
    rw [List.foldl_cons]
    have hlen : (repSet s m t y).length = t.length := repSet_len s m [y] t
    rcases List.mem_cons.mp hx with e | hx
    · subst e
      rw [repFold_other]
      · unfold repSet
        rw [if_pos hb, timeAt_set, if_pos ⟨rfl, hl⟩]
      · intro z hz _ e
        exact hn.1 (List.mem_map.mpr ⟨z, hz, e⟩)
    · exact ih _ x hx hb (by rw [hlen]; exact hl) hn.2
theorem zipIdx_finish (l : List Task) (n : Nat) : (l.zipIdx n).map (fun y => y.1.finish) = l.map fun k => k.finish := by
  induction l generalizing n with
  | nil => rfl
  | cons a l ih => rw [List.zipIdx_cons, List.map_cons, List.map_cons, ih]
theorem mem_zip {l : List Task} {i : Nat} {k : Task} : (k, i) ∈ l.zipIdx ↔ l[i]? = some k := by
  rw [List.mem_zipIdx_iff_getElem?]
theorem afterReport_hit {p : Plan} (v : PV p) {s m i : Nat} {t : Times} {k : Task} (hl : t.length = p.count) (hk : p.tasks[i]? = some k) (hb : m.testBit i = true) : timeAt (afterReport p s t m) k.finish = some (s - k.delay) := by
  rw [afterReport_eq]
  refine repFold_hit s m _ t (k, i) (mem_zip.mpr hk) hb ?_ ?_
  · rw [hl]; exact (v.task k (List.mem_of_getElem? hk)).2.1
  · rw [zipIdx_finish]; exact v.dist
theorem afterReport_other {p : Plan} {s m j : Nat} {t : Times} (h : ∀ (i : Nat) (k : Task), p.tasks[i]? = some k → m.testBit i = true → k.finish ≠ j) : timeAt (afterReport p s t m) j = timeAt t j := by
  rw [afterReport_eq]
  refine repFold_other s m _ t j fun x hx hb => h x.2 x.1 ?_ hb
  exact mem_zip.mp hx
/-- the program's way -/
def repInt (s : Int) (m : Nat) (xs : List Int) (x : Task × Nat) : List Int := if m.testBit x.2 = true then xs.set x.1.finish (s - (x.1.delay : Int)) else xs
theorem rep_fold_is (s m : Nat) : ∀ (l : List (Task × Nat)) (t : Times), (∀ x ∈ l, m.testBit x.2 = true → x.1.delay ≤ s) → l.foldl (repInt s m) (enc t) = enc (l.foldl (repSet s m) t) := by
  intro l
  induction l with
  | nil => intro t _; rfl
  | cons x l ih =>
    intro t h
    rw [List.foldl_cons, List.foldl_cons, ← ih _ fun y hy => h y (List.mem_cons_of_mem _ hy)]
    congr 1
    unfold repInt repSet isIn
    by_cases hb : m.testBit x.2 = true
    · rw [if_pos hb, if_pos hb, enc_set, opt_some]
      congr 1
      have := h x List.mem_cons_self hb
      omega
    · rw [if_neg hb, if_neg hb]
theorem can_facts {t : Times} {s : Nat} {k : Task} (h : canReport t s k = true) : ∃ a, timeAt t k.start = some a ∧ timeAt t k.finish = none ∧ a + k.least + k.delay ≤ s ∧ s ≤ a + k.greatest + k.delay := by
  unfold canReport at h
  cases e : timeAt t k.start with
  | none => rw [e] at h; cases h
  | some a =>
    rw [e] at h
    simp only [Bool.and_eq_true, decide_eq_true_eq, Option.isNone_iff_eq_none] at h
    exact ⟨a, rfl, h.1, h.2.1, h.2.2⟩
theorem report_hit {p : Plan} {t : Times} {s m : Nat} (h : m ∈ reportsAt p t s) {i : Nat} {k : Task} (hk : p.tasks[i]? = some k) (hb : m.testBit i = true) : canReport t s k = true := by
  have := report_bits h hk
  rw [if_pos hb] at this
  exact this
theorem report_miss {p : Plan} {t : Times} {s m : Nat} (h : m ∈ reportsAt p t s) {i : Nat} {k : Task} (hk : p.tasks[i]? = some k) (hb : ¬ m.testBit i = true) : mustReport t s k = false := by
  have := report_bits h hk
  rw [if_neg hb] at this
  exact this
theorem reported_is {p : Plan} {t : Times} {s m : Nat} (h : m ∈ reportsAt p t s) : p.tasks.zipIdx.foldl (repInt s m) (enc t) = enc (afterReport p s t m) := by
  refine rep_fold_is s m _ t fun x hx hb => ?_
  obtain ⟨a, _, _, h3, _⟩ := can_facts (report_hit h (mem_zip.mp hx) hb)
  omega

/-! ### the positions that a game can come to -/
structure Reach (p : Plan) (s : Nat) (t : Times) : Prop where
  len : t.length = p.count
  le : s ≤ p.deadline
  past : ∀ i a, timeAt t i = some a → a ≤ s
  act : ∀ k ∈ p.tasks, ∀ a, timeAt t k.start = some a → timeAt t k.finish = none → s < a + k.greatest + k.delay
theorem start_at {p : Plan} (v : PV p) (i : Nat) : timeAt (startTimes p) i = if i = 0 then some 0 else none := by
  unfold startTimes
  rw [timeAt_set]
  have e : ∀ j, timeAt (List.replicate p.count (none : Option Nat)) j = none := by
    intro j
    unfold timeAt
    rw [List.getD_eq_getElem?_getD, List.getElem?_replicate]
    split <;> rfl
  rw [List.length_replicate, e]
  have := v.c1
  by_cases h : i = 0
  · subst h; rw [if_pos ⟨rfl, by omega⟩, if_pos rfl]
  · rw [if_neg (by omega), if_neg h]
theorem Reach.start {p : Plan} (v : PV p) : Reach p 0 (startTimes p) where
  len := by unfold startTimes; rw [List.length_set, List.length_replicate]
  le := Nat.zero_le _
  past := fun i a h => by
    rw [start_at v] at h
    split at h
    · cases h; exact Nat.le_refl _
    · cases h
  act := fun k hk a h _ => by
    have := v.task k hk
    omega
theorem Reach.move {p : Plan} (v : PV p) {s : Nat} {t : Times} (r : Reach p s t) {m : Nat} (hm : isMove p t m = true) : Reach p s (afterMove p s t m) where
  len := by rw [afterMove_len, r.len]
  le := r.le
  past := fun i a h => by
    rw [afterMove_at r.len hm] at h
    split at h
    · cases h; exact Nat.le_refl _
    · exact r.past i a h
  act := fun k hk a h1 h2 => by
    rw [afterMove_at r.len hm] at h1 h2
    have ht := v.task k hk
    split at h2
    · cases h2
    · split at h1
      · cases h1; omega
      · exact r.act k hk a h1 h2
theorem Reach.report {p : Plan} (v : PV p) {s : Nat} {t : Times} (r : Reach p s t) (hs : s < p.deadline) {m : Nat} (hm : m ∈ reportsAt p t (s + 1)) : Reach p (s + 1) (afterReport p (s + 1) t m) where
  len := by rw [afterReport_len, r.len]
  le := hs
  past := fun i a h => by
    by_cases q : ∃ (j : Nat) (k : Task), p.tasks[j]? = some k ∧ m.testBit j = true ∧ k.finish = i
    · obtain ⟨j, k, h1, h2, h3⟩ := q
      subst h3
      rw [afterReport_hit v r.len h1 h2] at h
      cases h; omega
    · rw [afterReport_other fun j k h1 h2 h3 => q ⟨j, k, h1, h2, h3⟩] at h
      have := r.past i a h
      omega
  act := fun k hk a h1 h2 => by
    obtain ⟨i, hi⟩ := List.mem_iff_getElem?.mp hk
    have ht := v.task k hk
    have hb : ¬ m.testBit i = true := fun hb => by
      rw [afterReport_hit v r.len hi hb] at h2; cases h2
    have hf : timeAt t k.finish = none := by
      rw [afterReport_other] at h2
      · exact h2
      · intro j k' hj hb' e
        rw [← e, afterReport_hit v r.len hj hb'] at h2; cases h2
    have hmiss := report_miss hm hi hb
    by_cases q : ∃ (j : Nat) (k' : Task), p.tasks[j]? = some k' ∧ m.testBit j = true ∧ k'.finish = k.start
    · obtain ⟨j, k', j1, j2, j3⟩ := q
      have hk' := List.mem_of_getElem? j1
      have d0 := v.chain k' hk' k hk j3.symm
      rw [← j3, afterReport_hit v r.len j1 j2] at h1
      cases h1; omega
    · rw [afterReport_other fun j k' j1 j2 j3 => q ⟨j, k', j1, j2, j3⟩] at h1
      have := r.act k hk a h1 hf
      unfold mustReport at hmiss
      rw [h1] at hmiss
      simp only [hf, Option.isNone_none, Bool.true_and, decide_eq_false_iff_not] at hmiss
      omega

/-! ### the end: completions -/
def outs (p : Plan) (t : Times) (k : Task) : List (Option Nat) := if (timeAt t k.finish).isSome = true then [timeAt t k.finish] else hiddenTimes p t k
theorem set_same {x : Times} {i : Nat} : x.set i (timeAt x i) = x := by
  refine List.ext_getElem? fun j => ?_
  rw [List.getElem?_set]
  by_cases h : i = j
  · subst h
    by_cases h2 : i < x.length
    · rw [if_pos rfl, if_pos h2, timeAt_eq h2]
    · rw [if_pos rfl, if_neg h2, List.getElem?_eq_none (by omega)]
  · rw [if_neg h]
/-- all that can have happened, by lists of outcomes: the last task's turn fastest -/
def fill (ks : List Task) (t : Times) (vs : List (Option Nat)) : Times := (ks.zip vs).foldl (fun x kv => x.set kv.1.finish kv.2) t
def prodL (p : Plan) (t : Times) : List Task → List (List (Option Nat))
  | [] => [[]]
  | k :: ks => (outs p t k).flatMap fun x => (prodL p t ks).map (x :: ·)
theorem fill_cons (k : Task) (ks : List Task) (t : Times) (v : Option Nat) (vs : List (Option Nat)) : fill (k :: ks) t (v :: vs) = fill ks (t.set k.finish v) vs := rfl
def compl (p : Plan) (t : Times) (l : List Times) (ks : List Task) : List Times := ks.foldl (fun l k => if (timeAt t k.finish).isSome = true then l else l.flatMap fun x => (hiddenTimes p t k).map fun y => x.set k.finish y) l
theorem completions_eq (p : Plan) (t : Times) : completions p t = compl p t [t] p.tasks := rfl
theorem compl_append (p : Plan) (t : Times) : ∀ (ks : List Task) (l l' : List Times), compl p t (l ++ l') ks = compl p t l ks ++ compl p t l' ks := by
  intro ks
  induction ks with
  | nil => intro l l'; rfl
  | cons k ks ih =>
    intro l l'
    unfold compl at ih ⊢
    rw [List.foldl_cons, List.foldl_cons, List.foldl_cons, ← ih]
    congr 1
    split
    · rfl
    · rw [List.flatMap_append]
theorem compl_nil (p : Plan) (t : Times) : ∀ ks : List Task, compl p t [] ks = [] := by
  intro ks
  induction ks with
  | nil => rfl
  | cons k ks ih =>
    unfold compl at ih ⊢
    rw [List.foldl_cons]
    split
    · exact ih
    · rw [List.flatMap_nil]; exact ih
theorem compl_map (p : Plan) (t : Times) (ks : List Task) : ∀ l : List Times, compl p t l ks = l.flatMap fun x => compl p t [x] ks := by
  intro l
  induction l with
  | nil => rw [compl_nil]; rfl
  | cons x l ih => rw [show x :: l = [x] ++ l from rfl, compl_append, ih]; rfl
theorem compl_prod (p : Plan) (t : Times) : ∀ (ks : List Task) (x : Times), (ks.map fun k => k.finish).Nodup → (∀ k ∈ ks, timeAt x k.finish = timeAt t k.finish) → compl p t [x] ks = (prodL p t ks).map (fill ks x) := by
  intro ks
  induction ks with
  | nil => intro x _ _; rfl
  | cons k ks ih =>
    intro x hn hx
    rw [List.map_cons, List.nodup_cons] at hn
    have hother : ∀ (y : Option Nat), ∀ j ∈ ks, timeAt (x.set k.finish y) j.finish = timeAt t j.finish := by
      intro y j hj
      rw [timeAt_set, if_neg, hx j (List.mem_cons_of_mem _ hj)]
      exact fun z => hn.1 (List.mem_map.mpr ⟨j, hj, z.1.symm⟩)
    have step : compl p t [x] (k :: ks) = compl p t ((outs p t k).map fun y => x.set k.finish y) ks := by
      unfold compl
      rw [List.foldl_cons]
      congr 1
      unfold outs
      by_cases h : (timeAt t k.finish).isSome = true
      · rw [if_pos h, if_pos h, List.map_cons, List.map_nil, ← hx k List.mem_cons_self, set_same]
      · rw [if_neg h, if_neg h]
        simp
    rw [step, compl_map, List.flatMap_map, prodL, List.map_flatMap]
    congr 1
    funext y
    rw [ih _ hn.2 (hother y), List.map_map]
    rfl
theorem completions_prod {p : Plan} (v : PV p) (t : Times) : completions p t = (prodL p t p.tasks).map (fill p.tasks t) := by
  rw [completions_eq]
  exact compl_prod p t p.tasks t v.dist fun _ _ => rfl
theorem prodL_ne {p : Plan} {t : Times} : ∀ {ks : List Task}, (∀ k ∈ ks, outs p t k ≠ []) → prodL p t ks ≠ [] := by
  intro ks
  induction ks with
  | nil => intro _; simp [prodL]
  | cons k ks ih =>
    intro h
    have h1 := h k List.mem_cons_self
    have h2 := ih fun j hj => h j (List.mem_cons_of_mem _ hj)
    rw [prodL]
    obtain ⟨a, r, e⟩ := List.exists_cons_of_ne_nil h1
    obtain ⟨b, q, e2⟩ := List.exists_cons_of_ne_nil h2
    rw [e, e2]
    simp
theorem eraseDups_ne {l : List (Option Nat)} (h : l ≠ []) : l.eraseDups ≠ [] := by
  obtain ⟨a, r, e⟩ := List.exists_cons_of_ne_nil h
  rw [e, List.eraseDups_cons]
  simp
theorem hidden_ne {p : Plan} {t : Times} {k : Task} (hg : k.least ≤ k.greatest) (h : ∀ a, timeAt t k.start = some a → p.deadline < a + k.greatest + k.delay) : hiddenTimes p t k ≠ [] := by
  unfold hiddenTimes
  cases e : timeAt t k.start with
  | none => simp
  | some a =>
    refine eraseDups_ne ?_
    intro z
    rw [List.map_eq_nil_iff, List.filter_eq_nil_iff] at z
    refine z (a + k.least + (k.greatest - k.least)) (List.mem_map.mpr ⟨k.greatest - k.least, List.mem_range.mpr (by omega), rfl⟩) ?_
    have := h a e
    exact decide_eq_true (by omega)
theorem Reach.outs_ne {p : Plan} (v : PV p) {t : Times} (r : Reach p p.deadline t) : ∀ k ∈ p.tasks, outs p t k ≠ [] := fun k hk => by
  unfold outs
  split
  · simp
  · rename_i h
    refine hidden_ne (v.task k hk).2.2.2.2.2.1 fun a ha => r.act k hk a ha ?_
    simpa using h
theorem fill_len : ∀ (ks : List Task) (t : Times) (vs : List (Option Nat)), (fill ks t vs).length = t.length := by
  intro ks
  induction ks with
  | nil => intro t vs; rfl
  | cons k ks ih =>
    intro t vs
    cases vs with
    | nil => rfl
    | cons v vs => rw [fill_cons, ih, List.length_set]
theorem prodL_mem {p : Plan} {t : Times} : ∀ {ks : List Task} {vs : List (Option Nat)}, vs ∈ prodL p t ks → vs.length = ks.length ∧ ∀ x ∈ ks.zip vs, x.2 ∈ outs p t x.1 := by
  intro ks
  induction ks with
  | nil => intro vs h; simp [prodL] at h; subst h; simp
  | cons k ks ih =>
    intro vs h
    rw [prodL, List.mem_flatMap] at h
    obtain ⟨x, hx, h⟩ := h
    obtain ⟨ws, hw, e⟩ := List.mem_map.mp h
    subst e
    obtain ⟨h1, h2⟩ := ih hw
    refine ⟨by simp [h1], fun y hy => ?_⟩
    rw [List.zip_cons_cons] at hy
    rcases List.mem_cons.mp hy with e | hy
    · subst e; exact hx
    · exact h2 y hy
/-- what is seen stays in each completion -/
theorem fill_keeps {p : Plan} {t : Times} : ∀ (ks : List Task) (x : Times) (vs : List (Option Nat)) (i a : Nat), (∀ y ∈ ks.zip vs, y.2 ∈ outs p t y.1) → timeAt x i = some a → timeAt t i = some a → timeAt (fill ks x vs) i = some a := by
  intro ks
  induction ks with
  | nil => intro x vs i a _ h _; exact h
  | cons k ks ih =>
    intro x vs i a hv h ht
    cases vs with
    | nil => exact h
    | cons v vs =>
      rw [fill_cons]
      refine ih _ _ _ _ (fun y hy => hv y (by rw [List.zip_cons_cons]; exact List.mem_cons_of_mem _ hy)) ?_ ht
      rw [timeAt_set]
      split
      · rename_i e
        have := hv (k, v) (by rw [List.zip_cons_cons]; exact List.mem_cons_self)
        unfold outs at this
        dsimp only at this
        rw [e.1, ht] at this
        simpa using this
      · exact h
theorem compl_keeps {p : Plan} (v : PV p) {t x : Times} (h : x ∈ completions p t) {i a : Nat} (ht : timeAt t i = some a) : timeAt x i = some a := by
  rw [completions_prod v] at h
  obtain ⟨vs, hv, e⟩ := List.mem_map.mp h
  subst e
  exact fill_keeps _ _ _ _ _ (prodL_mem hv).2 ht ht

/-! ### broken -/
theorem broken_iff {p : Plan} {t : Times} : isBroken p t = true ↔ ∃ r ∈ p.requirements, ∃ a b : Nat, timeAt t r.source = some a ∧ timeAt t r.target = some b ∧ r.most < (b : Int) - (a : Int) := by
  unfold isBroken
  rw [List.any_eq_true]
  refine exists_congr fun r => and_congr_right fun _ => ?_
  cases timeAt t r.source with
  | none => simp
  | some a => cases timeAt t r.target with
    | none => simp
    | some b => simp
theorem broken_mono {p : Plan} {t u : Times} (h : ∀ i a, timeAt t i = some a → timeAt u i = some a) (hb : isBroken p t = true) : isBroken p u = true := by
  obtain ⟨r, hr, a, b, h1, h2, h3⟩ := broken_iff.mp hb
  exact broken_iff.mpr ⟨r, hr, a, b, h _ _ h1, h _ _ h2, h3⟩
theorem move_mono {p : Plan} {s : Nat} {t : Times} {m : Nat} (hl : t.length = p.count) (hm : isMove p t m = true) (i a : Nat) (h : timeAt t i = some a) : timeAt (afterMove p s t m) i = some a := by
  rw [afterMove_at hl hm]
  split
  · rename_i hb
    rw [(isMove_bits.mp hm i hb).2] at h; cases h
  · exact h
theorem good_iff {p : Plan} (v : PV p) {t : Times} (hl : t.length = p.count) : isGood p t = true ↔ (∀ x ∈ t, x ≠ none) ∧ isBroken p t = false := by
  unfold isGood
  rw [Bool.and_eq_true, List.all_eq_true, List.all_eq_true]
  have a : (∀ i ∈ List.range p.count, (timeAt t i).isSome = true) ↔ ∀ x ∈ t, x ≠ none := by
    constructor
    · intro h x hx
      obtain ⟨i, hi, e⟩ := List.mem_iff_getElem.mp hx
      have := h i (List.mem_range.mpr (by omega))
      have q := timeAt_eq hi
      rw [List.getElem?_eq_getElem hi, e] at q
      cases q
      intro z; rw [z] at this; cases this
    · intro h i hi
      have hi' : i < t.length := by rw [hl]; exact List.mem_range.mp hi
      have := h _ (List.mem_of_getElem? (timeAt_eq hi'))
      cases e : timeAt t i with
      | none => exact absurd e this
      | some _ => rfl
  rw [a]
  refine and_congr_right fun hs => ?_
  have tot : ∀ i, i < p.count → ∃ n, timeAt t i = some n := fun i hi => by
    have hi' : i < t.length := by omega
    have := hs _ (List.mem_of_getElem? (timeAt_eq hi'))
    cases e : timeAt t i with
    | none => exact absurd e this
    | some n => exact ⟨n, rfl⟩
  rw [← Bool.not_eq_true, broken_iff]
  constructor
  · rintro h ⟨r, hr, x, y, h1, h2, h3⟩
    have := h r hr
    unfold isKept at this
    rw [h1, h2] at this
    have := of_decide_eq_true this
    omega
  · intro h r hr
    obtain ⟨s1, s2, _⟩ := v.req r hr
    obtain ⟨x, hx⟩ := tot _ s1
    obtain ⟨y, hy⟩ := tot _ s2
    unfold isKept
    rw [hx, hy]
    refine decide_eq_true ?_
    rcases Int.lt_or_le r.most ((y : Int) - (x : Int)) with q | q
    · exact absurd ⟨r, hr, x, y, hx, hy, q⟩ h
    · exact q
theorem good_not_broken {p : Plan} {t : Times} (hb : isBroken p t = true) : isGood p t = false := by
  obtain ⟨r, hr, a, b, h1, h2, h3⟩ := broken_iff.mp hb
  unfold isGood
  have : p.requirements.all (isKept t) = false := by
    rw [List.all_eq_false]
    refine ⟨r, hr, ?_⟩
    unfold isKept
    rw [h1, h2]
    simp; omega
  rw [this, Bool.and_false]
theorem broken_end {p : Plan} (v : PV p) {t : Times} (r : Reach p p.deadline t) (hb : isBroken p t = true) : isGoodEnd p t = false := by
  unfold isGoodEnd
  rw [List.all_eq_false]
  have hne : completions p t ≠ [] := by
    rw [completions_prod v]
    intro z
    exact prodL_ne (r.outs_ne v) (List.map_eq_nil_iff.mp z)
  obtain ⟨x, l, e⟩ := List.exists_cons_of_ne_nil hne
  refine ⟨x, by rw [e]; exact List.mem_cons_self, ?_⟩
  have hx : x ∈ completions p t := by rw [e]; exact List.mem_cons_self
  rw [good_not_broken (broken_mono (fun i a => compl_keeps v hx) hb)]
  simp

/-! ### who wins -/
theorem isGoodMove_last {p : Plan} {s : Nat} {t : Times} {m : Nat} (h : p.deadline ≤ s) : isGoodMove p s t m = isGoodEnd p (afterMove p s t m) := by
  unfold isGoodMove
  simp [h]
theorem isGoodMove_go {p : Plan} {s : Nat} {t : Times} {m : Nat} (h : s < p.deadline) : isGoodMove p s t m = (!isBroken p (afterMove p s t m) && (reportsAt p (afterMove p s t m) (s + 1)).all fun r => winsAt p (s + 1) (afterReport p (s + 1) (afterMove p s t m) r)) := by
  unfold isGoodMove
  rw [if_neg (by omega)]
theorem winsAt_eq (p : Plan) (s : Nat) (t : Times) : winsAt p s t = (movesAt p t).any (isGoodMove p s t) := by
  unfold winsAt
  by_cases h : p.deadline ≤ s
  · rw [Nat.sub_eq_zero_of_le h, winsFrom]
    congr 1
    funext m
    rw [isGoodMove_last h]
  · have e : p.deadline - s = (p.deadline - (s + 1)) + 1 := by omega
    rw [e, winsFrom]
    congr 1
    funext m
    rw [isGoodMove_go (by omega)]
    rfl
theorem broken_loses {p : Plan} (v : PV p) {s : Nat} {t : Times} (r : Reach p s t) (hb : isBroken p t = true) : winsAt p s t = false := by
  rw [winsAt_eq, List.any_eq_false]
  intro m hm
  have hm' := mem_movesAt.mp hm
  have hb' := broken_mono (move_mono (s := s) r.len hm') hb
  by_cases h : p.deadline ≤ s
  · have e : s = p.deadline := Nat.le_antisymm r.le h
    rw [isGoodMove_last h]
    subst e
    rw [broken_end v (r.move v hm') hb']
    simp
  · rw [isGoodMove_go (by omega), hb']
    simp
theorem winsAt_prog {p : Plan} (v : PV p) {s : Nat} {t : Times} (r : Reach p s t) : winsAt p s t = (!isBroken p t && (movesAt p t).any (isGoodMove p s t)) := by
  cases hb : isBroken p t with
  | true => rw [broken_loses v r hb]; rfl
  | false => rw [winsAt_eq]; rfl
end SPM
end

section
set_option autoImplicit false
namespace SPM
open VbjpCore (Plan Task Requirement Times timeAt named isOwn isGood isFinish isTask isRequirement isValidPlan isKept startTimes)
open Vbjpae hiding optional

/-! ### rows of places, the last place turning fastest -/
def nextL : List Nat → List Nat → Option (List Nat)
  | a :: as, n :: ns => match nextL as ns with
    | some r => some (a :: r)
    | none => if a + 1 < n then some ((a + 1) :: List.replicate as.length 0) else none
  | _, _ => none
theorem nextL_cons (a n : Nat) (as ns : List Nat) : nextL (a :: as) (n :: ns) = match nextL as ns with
    | some r => some (a :: r)
    | none => if a + 1 < n then some ((a + 1) :: List.replicate as.length 0) else none := rfl
theorem nextL_up : ∀ (at_ ns : List Nat) (j : Nat) (r : List Nat), at_.length = ns.length → nextL (at_.drop j) (ns.drop j) = some r → nextL at_ ns = some (at_.take j ++ r) := by
  intro at_ ns j
  induction j generalizing at_ ns with
  | zero => intro r _ h; simpa using h
  | succ j ih =>
    intro r hl h
    cases at_ with
    | nil => simp [nextL] at h
    | cons a as =>
      cases ns with
      | nil => simp at hl
      | cons n ns =>
        rw [List.drop_succ_cons, List.drop_succ_cons] at h
        rw [nextL_cons, ih as ns r (by simpa using hl) h]
        rfl
theorem nextL_len : ∀ {at_ ns r : List Nat}, at_.length = ns.length → nextL at_ ns = some r → r.length = at_.length := by
  intro at_
  induction at_ with
  | nil => intro ns r _ h; simp [nextL] at h
  | cons a as ih =>
    intro ns r hl h
    cases ns with
    | nil => simp at hl
    | cons n ns =>
      rw [nextL_cons] at h
      cases e : nextL as ns with
      | some r' =>
        rw [e] at h
        cases h
        simp [ih (by simpa using hl) e]
      | none =>
        rw [e] at h
        dsimp only at h
        split at h
        · cases h; simp
        · cases h
def rowsL : List Nat → List (List Nat)
  | [] => [[]]
  | n :: ns => (List.range n).flatMap fun i => (rowsL ns).map (i :: ·)
inductive Run {α : Type} (next : α → Option α) : α → List α → Prop
  | last {a : α} : next a = none → Run next a [a]
  | step {a b : α} {l : List α} : next a = some b → Run next b l → Run next a (a :: l)
theorem run_pref {n : Nat} {ns : List Nat} {i : Nat} {R : List (List Nat)} :
    ∀ {a : List Nat} {L : List (List Nat)}, Run (fun x => nextL x ns) a L → a.length = ns.length →
      ((i + 1 < n → Run (fun x => nextL x (n :: ns)) ((i + 1) :: List.replicate ns.length 0) R) ∧ (¬ i + 1 < n → R = [])) → Run (fun x => nextL x (n :: ns)) (i :: a) (L.map (i :: ·) ++ R) := by
  intro a L h
  induction h with
  | @last a h =>
    intro hl hR
    have e : nextL (i :: a) (n :: ns) = if i + 1 < n then some ((i + 1) :: List.replicate a.length 0) else none := by rw [nextL_cons]; have h' : nextL a ns = none := h; rw [h']
    by_cases c : i + 1 < n
    · rw [if_pos c] at e
      exact .step e (by rw [hl]; exact hR.1 c)
    · rw [if_neg c] at e
      rw [hR.2 c]
      exact .last e
  | @step a b l h hr ih =>
    intro hl hR
    have h' : nextL a ns = some b := h
    have e : nextL (i :: a) (n :: ns) = some (i :: b) := by rw [nextL_cons, h']
    exact .step e (ih ((nextL_len hl h').trans hl) hR)
theorem run_from {n : Nat} {ns : List Nat} (h : Run (fun x => nextL x ns) (List.replicate ns.length 0) (rowsL ns)) : ∀ k i : Nat, i + k + 1 = n →
    Run (fun x => nextL x (n :: ns)) (i :: List.replicate ns.length 0) ((List.range' i (k + 1)).flatMap fun i => (rowsL ns).map (i :: ·)) := by
  intro k
  induction k with
  | zero =>
    intro i hi
    rw [show List.range' i (0 + 1) = [i] from rfl, List.flatMap_cons, List.flatMap_nil]
    exact run_pref h (by simp) ⟨fun c => by omega, fun _ => rfl⟩
  | succ k ih =>
    intro i hi
    rw [List.range'_succ, List.flatMap_cons]
    exact run_pref h (by simp) ⟨fun c => ih (i + 1) (by omega), fun c => by omega⟩
theorem run_rows : ∀ ns : List Nat, (∀ n ∈ ns, 0 < n) → Run (fun x => nextL x ns) (List.replicate ns.length 0) (rowsL ns)
  | [], _ => .last rfl
  | n :: ns, h => by
    have ih := run_rows ns fun m hm => h m (List.mem_cons_of_mem _ hm)
    have hn := h n List.mem_cons_self
    have := run_from (n := n) ih (n - 1) 0 (by omega)
    rw [show n - 1 + 1 = n by omega, ← List.range_eq_range'] at this
    exact this
theorem rowsL_len : ∀ {ns row : List Nat}, row ∈ rowsL ns → row.length = ns.length ∧ ∀ (i a n : Nat), row[i]? = some a → ns[i]? = some n → a < n := by
  intro ns
  induction ns with
  | nil => intro row h; simp [rowsL] at h; subst h; simp
  | cons n ns ih =>
    intro row h
    rw [rowsL, List.mem_flatMap] at h
    obtain ⟨i, hi, h⟩ := h
    obtain ⟨r, hr, e⟩ := List.mem_map.mp h
    subst e
    obtain ⟨h1, h2⟩ := ih hr
    refine ⟨by simp [h1], fun j a m ha hm => ?_⟩
    cases j with
    | zero => simp at ha hm; subst ha hm; exact List.mem_range.mp hi
    | succ j => exact h2 j a m (by simpa using ha) (by simpa using hm)
theorem rowsL_nil : ∀ {ns : List Nat}, (∃ n ∈ ns, n = 0) → rowsL ns = [] := by
  intro ns
  induction ns with
  | nil => intro h; obtain ⟨n, h, _⟩ := h; cases h
  | cons n ns ih =>
    intro h
    rw [rowsL]
    obtain ⟨m, hm, e⟩ := h
    rcases List.mem_cons.mp hm with q | q
    · subst q e; rfl
    · rw [ih ⟨m, q, e⟩]; simp
/-- what stands at the places of a row -/
def pick {α : Type} (d : α) : List (List α) → List Nat → List α
  | xs :: things, i :: row => xs.getD i d :: pick d things row
  | _, _ => []
theorem flatMap_range {α β : Type} (d : α) (f : α → List β) (xs : List α) : (List.range xs.length).flatMap (fun i => f (xs.getD i d)) = xs.flatMap f := by
  have : (List.range xs.length).map (fun i => xs.getD i d) = xs := by
    refine List.ext_getElem? fun i => ?_
    rw [List.getElem?_map]
    by_cases h : i < xs.length
    · rw [List.getElem?_range h]; simp [List.getD_eq_getElem?_getD, h]
    · rw [List.getElem?_eq_none (by simp; omega), List.getElem?_eq_none (by omega)]; rfl
  conv => rhs; rw [← this]
  rw [List.flatMap_map]
theorem prod_rows (p : Plan) (t : Times) : ∀ ks : List Task, prodL p t ks = (rowsL ((ks.map (outs p t)).map List.length)).map (pick none (ks.map (outs p t)))
  | [] => rfl
  | k :: ks => by
    rw [prodL, prod_rows p t ks]
    simp only [List.map_cons, rowsL]
    rw [List.map_flatMap]
    simp only [List.map_map]
    rw [← flatMap_range none (fun x => List.map ((x :: ·) ∘ pick none (ks.map (outs p t))) (rowsL (ks.map (List.length ∘ outs p t)))) (outs p t k)]
    rfl

/-! ### the outcomes of one task, as the program lists them -/
def lateStep (p : Plan) (k : Task) (a : Nat) (r : List (Option Nat) × Bool) (i : Nat) : List (Option Nat) × Bool :=
  if r.2 = true then r else if p.deadline < a + (k.least + i) then (r.1 ++ [none], true) else if p.deadline < a + (k.least + i) + k.delay then (r.1 ++ [some (a + (k.least + i))], false) else r
def early (p : Plan) (k : Task) (a n : Nat) : List (Option Nat) := ((List.range n).filter fun i => decide (a + (k.least + i) ≤ p.deadline) && decide (p.deadline < a + (k.least + i) + k.delay)).map fun i => some (a + (k.least + i))
theorem early_succ (p : Plan) (k : Task) (a n : Nat) : early p k a (n + 1) = early p k a n ++ (if (decide (a + (k.least + n) ≤ p.deadline) && decide (p.deadline < a + (k.least + n) + k.delay)) = true then [some (a + (k.least + n))] else []) := by
  unfold early
  rw [List.range_succ, List.filter_append, List.map_append]
  congr 1
  rw [List.filter_cons, List.filter_nil]
  split <;> rfl
theorem late_fold (p : Plan) (k : Task) (a : Nat) : ∀ n, (List.range n).foldl (lateStep p k a) ([], false) =
    if ∃ i, i < n ∧ p.deadline < a + (k.least + i) then (early p k a n ++ [none], true) else (early p k a n, false)
  | 0 => by simp [early]
  | n + 1 => by
    rw [List.range_succ, List.foldl_append, late_fold p k a n, List.foldl_cons, List.foldl_nil, early_succ]
    by_cases h : ∃ i, i < n ∧ p.deadline < a + (k.least + i)
    · obtain ⟨i, h1, h2⟩ := h
      rw [if_pos ⟨i, h1, h2⟩, if_pos ⟨i, by omega, h2⟩]
      unfold lateStep
      rw [if_pos rfl, if_neg, List.append_nil]
      rw [Bool.and_eq_true, decide_eq_true_iff]
      omega
    · rw [if_neg h]
      unfold lateStep
      rw [if_neg (by simp)]
      by_cases c : p.deadline < a + (k.least + n)
      · rw [if_pos c, if_pos ⟨n, by omega, c⟩, if_neg, List.append_nil]
        rw [Bool.and_eq_true, decide_eq_true_iff]
        omega
      · rw [if_neg c]
        have hn : ¬ ∃ i, i < n + 1 ∧ p.deadline < a + (k.least + i) := by
          rintro ⟨i, h1, h2⟩
          rcases Nat.lt_or_ge i n with q | q
          · exact h ⟨i, q, h2⟩
          · have : i = n := by omega
            subst this; exact c h2
        rw [if_neg hn]
        by_cases c2 : p.deadline < a + (k.least + n) + k.delay
        · rw [if_pos c2, if_pos]
          rw [Bool.and_eq_true, decide_eq_true_iff, decide_eq_true_iff]
          exact ⟨by omega, c2⟩
        · rw [if_neg c2, if_neg, List.append_nil]
          rw [Bool.and_eq_true, decide_eq_true_iff, decide_eq_true_iff]
          omega
theorem eraseDups_nodup {l : List (Option Nat)} (h : l.Nodup) : l.eraseDups = l := by
  induction l with
  | nil => rfl
  | cons a r ih =>
    rw [List.nodup_cons] at h
    rw [List.eraseDups_cons]
    have : r.filter (fun b => !b == a) = r := List.filter_eq_self.mpr fun b hb => by
      have : b ≠ a := fun e => h.1 (e ▸ hb)
      simpa using this
    rw [this, ih h.2]
theorem eraseDups_tail : ∀ (l : List (Option Nat)) (m : Nat), (∀ x ∈ l, x ≠ none) → l.Nodup → (l ++ List.replicate (m + 1) none).eraseDups = l ++ [none]
  | [], m, _, _ => by
    rw [List.nil_append, List.replicate_succ, List.eraseDups_cons]
    have : (List.replicate m (none : Option Nat)).filter (fun b => !b == none) = [] := by
      rw [List.filter_eq_nil_iff]
      intro x hx
      rw [(List.mem_replicate.mp hx).2]
      simp
    rw [this]; rfl
  | a :: r, m, h1, h2 => by
    rw [List.nodup_cons] at h2
    rw [List.cons_append, List.eraseDups_cons]
    have : (r ++ List.replicate (m + 1) none).filter (fun b => !b == a) = r ++ List.replicate (m + 1) none := List.filter_eq_self.mpr fun b hb => by
      have : b ≠ a := by
        rcases List.mem_append.mp hb with q | q
        · exact fun e => h2.1 (e ▸ q)
        · rw [(List.mem_replicate.mp q).2]; exact (h1 a List.mem_cons_self).symm
      simpa using this
    rw [this, eraseDups_tail r m (fun x hx => h1 x (List.mem_cons_of_mem _ hx)) h2.2]
    rfl
theorem early_some {p : Plan} {k : Task} {a n : Nat} : ∀ x ∈ early p k a n, x ≠ none := by
  intro x hx
  unfold early at hx
  obtain ⟨i, _, e⟩ := List.mem_map.mp hx
  rw [← e]; simp
theorem early_nodup (p : Plan) (k : Task) (a n : Nat) : (early p k a n).Nodup := by
  unfold early
  refine List.Pairwise.map _ ?_ ((List.nodup_range (n := n)).filter _)
  intro i j h e
  apply h
  simp at e
  omega
theorem hidden_split (p : Plan) (k : Task) (a : Nat) : ∀ n, (((List.range n).map fun i => a + k.least + i).filter fun t => decide (p.deadline < t + k.delay)).map (fun t => if t ≤ p.deadline then some t else none) =
    early p k a n ++ List.replicate ((List.range n).filter fun i => decide (p.deadline < a + (k.least + i))).length none
  | 0 => by simp [early]
  | n + 1 => by
    rw [List.range_succ, List.map_append, List.filter_append, List.map_append, hidden_split p k a n, early_succ, List.filter_append, List.length_append]
    simp only [List.map_cons, List.map_nil, List.filter_cons, List.filter_nil]
    have e0 : a + k.least + n = a + (k.least + n) := by omega
    rw [e0]
    by_cases c : p.deadline < a + (k.least + n)
    · have c2 : p.deadline < a + (k.least + n) + k.delay := by omega
      have nc : ¬ a + (k.least + n) ≤ p.deadline := by omega
      simp only [c, c2, decide_true, if_true, List.map_cons, List.map_nil, List.length_cons, List.length_nil]
      rw [if_neg nc]
      simp only [nc, decide_false, Bool.false_and, Bool.false_eq_true, if_false, List.append_nil]
      rw [List.append_assoc, Nat.zero_add, List.replicate_succ']
    · have le : a + (k.least + n) ≤ p.deadline := by omega
      simp only [c, decide_false, Bool.false_eq_true, if_false, List.length_nil, Nat.add_zero]
      have none_before : ((List.range n).filter fun i => decide (p.deadline < a + (k.least + i))) = [] := by
        rw [List.filter_eq_nil_iff]
        intro i hi
        have := List.mem_range.mp hi
        simp; omega
      rw [none_before]
      by_cases c2 : p.deadline < a + (k.least + n) + k.delay
      · simp [c2, le]
      · simp [c2]
theorem hidden_prog (p : Plan) (t : Times) (k : Task) (a : Nat) (ha : timeAt t k.start = some a) : ((List.range (k.greatest + 1 - k.least)).foldl (lateStep p k a) ([], false)).1 = hiddenTimes p t k := by
  unfold hiddenTimes
  rw [ha]
  dsimp only
  rw [hidden_split, late_fold]
  by_cases h : ∃ i, i < (k.greatest + 1 - k.least) ∧ p.deadline < a + (k.least + i)
  · rw [if_pos h]
    obtain ⟨i, h1, h2⟩ := h
    obtain ⟨m, hm⟩ : ∃ m, ((List.range (k.greatest + 1 - k.least)).filter fun i => decide (p.deadline < a + (k.least + i))).length = m + 1 := by
      refine ⟨_, (Nat.succ_pred_eq_of_pos ?_).symm⟩
      refine List.length_pos_of_mem (a := i) ?_
      rw [List.mem_filter]
      exact ⟨List.mem_range.mpr h1, decide_eq_true h2⟩
    rw [hm, eraseDups_tail _ _ early_some (early_nodup p k a _)]
  · rw [if_neg h]
    have : ((List.range (k.greatest + 1 - k.least)).filter fun i => decide (p.deadline < a + (k.least + i))) = [] := by
      rw [List.filter_eq_nil_iff]
      intro i hi c
      exact h ⟨i, List.mem_range.mp hi, of_decide_eq_true c⟩
    rw [this]
    simp only [List.length_nil, List.replicate_zero, List.append_nil]
    rw [eraseDups_nodup (early_nodup p k a _)]
abbrev canReport' (t : Times) (s : Nat) (k : Task) : Bool := canReport t s k
theorem repStep_no {t : Times} {s i : Nat} {k : Task} {r : List Nat} (hk : k.least ≤ k.greatest) (h : canReport' t s k = false) : repStep t s r (k, i) = r := by
  have h' : ¬ canReport t s k = true := by
    have : canReport t s k = false := h
    rw [this]; simp
  unfold repStep
  dsimp only
  rw [if_neg fun z => h' (must_can hk z), if_neg h']
theorem late_stays (p : Plan) (k : Task) (a : Nat) : ∀ n j, j ≤ n → ((List.range j).foldl (lateStep p k a) ([], false)).2 = true → (List.range n).foldl (lateStep p k a) ([], false) = (List.range j).foldl (lateStep p k a) ([], false) := by
  intro n
  induction n with
  | zero =>
    intro j h _
    have : j = 0 := by omega
    subst this; rfl
  | succ n ih =>
    intro j h h2
    by_cases e : j = n + 1
    · rw [e]
    · have e1 := ih j (by omega) h2
      rw [List.range_succ, List.foldl_append, e1, List.foldl_cons, List.foldl_nil]
      unfold lateStep at h2 ⊢
      rw [if_pos h2]
theorem pick_len {α : Type} (d : α) : ∀ (ch : List (List α)) (row : List Nat), row.length = ch.length → (pick d ch row).length = ch.length
  | [], [], _ => rfl
  | xs :: ch, i :: row, h => by
    show (xs.getD i d :: pick d ch row).length = _
    rw [List.length_cons, List.length_cons, pick_len d ch row (by simpa using h)]
  | [], _ :: _, h => by simp at h
  | _ :: _, [], h => by simp at h
theorem pick_at {α : Type} (d : α) : ∀ (ch : List (List α)) (row : List Nat) {i n : Nat} {xs : List α}, ch[i]? = some xs → row[i]? = some n → (pick d ch row)[i]? = some (xs.getD n d)
  | [], _, i, n, xs, h, _ => by simp at h
  | _ :: _, [], i, n, xs, _, h => by simp at h
  | ys :: ch, j :: row, 0, n, xs, h1, h2 => by
    simp at h1 h2
    subst h1 h2
    rfl
  | ys :: ch, j :: row, i + 1, n, xs, h1, h2 => by
    have := pick_at d ch row (i := i) (by simpa using h1) (by simpa using h2)
    simpa [pick] using this
theorem sets_len : ∀ (l : List (Task × Option Nat)) (t : Times), (l.foldl (fun (x : Times) kv => x.set kv.1.finish kv.2) t).length = t.length
  | [], _ => rfl
  | kv :: l, t => by
    rw [List.foldl_cons, sets_len l, List.length_set]
end SPM
end

section
set_option autoImplicit false
namespace SPM
open VbjpCore (Plan Task Requirement Times timeAt named isOwn isGood isFinish isTask isRequirement isValidPlan isKept startTimes)
open Vbjpae hiding optional

/-! ### how many positions there are -/
def vecs : Nat → List (List Int)
  | 0 => [[]]
  | n + 1 => (List.range 10).flatMap fun i : Nat => (vecs n).map (((i : Int) - 1) :: ·)
theorem flatMap_len {α β : Type} (f : α → List β) (n : Nat) : ∀ l : List α, (∀ x ∈ l, (f x).length ≤ n) → (l.flatMap f).length ≤ l.length * n
  | [], _ => by simp
  | x :: l, h => by
    rw [List.flatMap_cons, List.length_append, List.length_cons, Nat.succ_mul]
    have h1 := h x List.mem_cons_self
    have h2 := flatMap_len f n l fun y hy => h y (List.mem_cons_of_mem _ hy)
    omega
theorem vecs_len : ∀ n, (vecs n).length ≤ 10 ^ n
  | 0 => by simp [vecs]
  | n + 1 => by
    have := flatMap_len (fun i : Nat => (vecs n).map (((i : Int) - 1) :: ·)) (10 ^ n) (List.range 10) (fun x _ => by rw [List.length_map]; exact vecs_len n)
    rw [List.length_range] at this
    rw [vecs, Nat.pow_succ, Nat.mul_comm]
    exact this
theorem mem_vecs : ∀ v : List Int, (∀ z ∈ v, -1 ≤ z ∧ z ≤ 8) → v ∈ vecs v.length
  | [], _ => by simp [vecs]
  | z :: v, h => by
    obtain ⟨h1, h2⟩ := h z List.mem_cons_self
    rw [List.length_cons, vecs, List.mem_flatMap]
    refine ⟨(z + 1).toNat, List.mem_range.mpr (by omega), List.mem_map.mpr ⟨v, mem_vecs v fun y hy => h y (List.mem_cons_of_mem _ hy), ?_⟩⟩
    congr 1
    omega
theorem keys_bound {p : Plan} (hv : PV p) {ks : List (Int × List Int)} (nd : ks.Nodup) (h : ∀ k ∈ ks, ∃ s t, Reach p s t ∧ k = ((s : Int), enc t)) : ks.length ≤ 9000000 := by
  have sub : ks ⊆ (List.range 9).flatMap fun s : Nat => (vecs p.count).map fun v => ((s : Int), v) := fun k hk => by
    obtain ⟨s, t, r, e⟩ := h k hk
    subst e
    have hd := hv.d8
    have hs := r.le
    refine List.mem_flatMap.mpr ⟨s, List.mem_range.mpr (by omega), List.mem_map.mpr ⟨enc t, ?_, rfl⟩⟩
    have := mem_vecs (enc t) fun z hz => by
      obtain ⟨x, hx, rfl⟩ := List.mem_map.mp hz
      obtain ⟨i, hi, e⟩ := List.mem_iff_getElem.mp hx
      cases x with
      | none => rw [opt_none]; omega
      | some a =>
        have q := timeAt_eq hi
        rw [List.getElem?_eq_getElem hi, e] at q
        have := r.past i a (Option.some.inj q).symm
        rw [opt_some]; omega
    rw [enc_len, r.len] at this
    exact this
  have l1 := nd.length_le_of_subset sub
  have l2 := flatMap_len (fun s : Nat => (vecs p.count).map fun v => ((s : Int), v)) (10 ^ p.count) (List.range 9) (fun x _ => by rw [List.length_map]; exact vecs_len _)
  have l3 : 10 ^ p.count ≤ 10 ^ 6 := Nat.pow_le_pow_right (by decide) hv.c6
  rw [List.length_range] at l2
  have : (10 : Nat) ^ 6 = 1000000 := by decide
  omega

/-! ### strategies and refutations -/
theorem find_first {α : Type} (f : α → Bool) (d : α) (l : List α) : (l.filter f).headD d = (l.find? f).getD d := by
  induction l with
  | nil => rfl
  | cons x l ih =>
    rw [List.filter_cons, List.find?_cons]
    cases h : f x with
    | true => rfl
    | false => simpa [h] using ih
theorem goodMoves_first (p : Plan) (s : Nat) (t : Times) : (goodMoves p s t).headD 0 = ((movesAt p t).find? (isGoodMove p s t)).getD 0 := find_first _ _ _
theorem wins_find {p : Plan} {s : Nat} {t : Times} (h : winsAt p s t = true) : ∃ m, (movesAt p t).find? (isGoodMove p s t) = some m ∧ isGoodMove p s t m = true ∧ m ∈ movesAt p t := by
  rw [winsAt_eq, List.any_eq_true] at h
  obtain ⟨m, hm, hg⟩ := h
  cases e : (movesAt p t).find? (isGoodMove p s t) with
  | none => exact absurd hg (by simpa using List.find?_eq_none.mp e m hm)
  | some x => exact ⟨x, rfl, List.find?_some e, List.mem_of_find?_eq_some e⟩
theorem good_follow {p : Plan} {s : Nat} {t : Times} {m : Nat} (hs : s < p.deadline) (h : isGoodMove p s t m = true) : ∀ r ∈ reportsAt p (afterMove p s t m) (s + 1), winsAt p (s + 1) (afterReport p (s + 1) (afterMove p s t m) r) = true := by
  rw [isGoodMove_go hs, Bool.and_eq_true, List.all_eq_true] at h
  exact h.2
theorem loses_all {p : Plan} {s : Nat} {t : Times} (h : winsAt p s t = false) : ∀ m ∈ movesAt p t, isGoodMove p s t m = false := by
  rw [winsAt_eq, List.any_eq_false] at h
  intro m hm
  simpa using h m hm
theorem bad_report {p : Plan} {s : Nat} {t : Times} {m : Nat} (hs : s < p.deadline) (h : isGoodMove p s t m = false) (hb : isBroken p (afterMove p s t m) = false) : ∃ r, goodReport p (s + 1) (afterMove p s t m) = some r ∧ r ∈ reportsAt p (afterMove p s t m) (s + 1) ∧ winsAt p (s + 1) (afterReport p (s + 1) (afterMove p s t m) r) = false := by
  rw [isGoodMove_go hs, hb, Bool.not_false, Bool.true_and, List.all_eq_false] at h
  obtain ⟨r, hr, hw⟩ := h
  unfold goodReport
  cases e : (reportsAt p (afterMove p s t m) (s + 1)).find? fun r => !winsAt p (s + 1) (afterReport p (s + 1) (afterMove p s t m) r) with
  | none => exact absurd hw (by simpa using List.find?_eq_none.mp e r hr)
  | some x =>
    refine ⟨x, rfl, List.mem_of_find?_eq_some e, ?_⟩
    have := List.find?_some e
    simpa using this
theorem find_at {α : Type} {f : α → Bool} : ∀ {l : List α} {i : Nat} {x : α}, l[i]? = some x → f x = true → (∀ j, j < i → ∀ y, l[j]? = some y → f y = false) → l.find? f = some x
  | [], i, x, h, _, _ => by simp at h
  | y :: l, 0, x, h, hf, _ => by
    simp at h
    subst h
    rw [List.find?_cons, hf]
  | y :: l, i + 1, x, h, hf, hn => by
    have h0 := hn 0 (Nat.succ_pos i) y rfl
    rw [List.find?_cons, h0]
    exact find_at (i := i) (by simpa using h) hf fun j hj z hz => hn (j + 1) (by omega) z (by simpa using hz)
end SPM
end

section
set_option Elab.async false
set_option linter.all false
set_option maxRecDepth 100000
set_option maxHeartbeats 4000000
/-! Own rules: a chain of three comparisons; enumerate of a tuple; zip of a list and a tuple; a tuple of one item times a small number; a field as a target among others -/
namespace SPR
open PySem PySem.Spec PyProof.Rows L2
abbrev Stt := L2.St

/-! ### a op b op c op d -/
section
variable {X : Cx} {a b c d : Expr} {ta tb tc td : TE} {pos : Pos}
def tChain3 (r r' r'' : R2) (ta tb tc td : TE) : TE := fun σ H Q => ta σ H fun x H1 => tb σ H1 fun y H2 => r x y H2 fun z H3 => ∃ k, z = .bl k ∧
  (if k = true then tc σ H3 fun w H4 => r' y w H4 fun z2 H5 => ∃ k2, z2 = .bl k2 ∧ (if k2 = true then td σ H5 fun w2 H6 => r'' w w2 H6 Q else Q (.bl false) H5) else Q (.bl false) H3)
theorem pt_chain3 {op op' op'' : CmpOp} {r r' r'' : R2} (ho : OpR X (compareOp op) r) (ho' : OpR X (compareOp op') r') (ho'' : OpR X (compareOp op'') r'') (ha : PE X a ta) (hb : PE X b tb) (hc : PE X c tc) (hd : PE X d td)
    (hm : lastMarks [op, op', op''] [b, c, d] = false := by with_unfolding_all rfl) : PT X (.Compare a [op, op', op''] [b, c, d] pos) (tTest (tChain3 r r' r'' ta tb tc td)) := by
  refine ⟨fun pins s σ H Q I h => ?_⟩
  refine isTrue_chain (thn (ha.run pins s σ H _ I h) fun v s1 ⟨x, H1, I1, r1, q1⟩ => test_link (thn (hb.run pins s1 σ H1 _ I1 q1) fun u s2 ⟨y, H2, I2, r2, q2⟩ =>
    thn (ho pins s2 σ H2 x y v u _ I2 r1 r2 q2) fun e0 s3 ⟨z, H3, I3, r3, k, e, q3⟩ => ?_)) hm
  subst e
  cases r3
  refine wpAny_truthy_bool ?_
  cases k with
  | false =>
    obtain ⟨k', e', q'⟩ := q3
    cases e'
    exact ite_ff ⟨H3, I3, q'⟩
  | true =>
    refine ite_tt (test_link (thn (hc.run pins s3 σ H3 _ I3 q3) fun w' s4 ⟨z', H4, I4, r4, q4⟩ => thn (ho' pins s4 σ H4 y z' u w' _ I4 r2 r4 q4) fun d' s5 ⟨z2, H5, I5, r5, k2, e2, q5⟩ => ?_))
    subst e2
    cases r5
    refine wpAny_truthy_bool ?_
    cases k2 with
    | false =>
      obtain ⟨k', e', q'⟩ := q5
      cases e'
      exact ite_ff ⟨H5, I5, q'⟩
    | true =>
      refine ite_tt (test_last (thn (hd.run pins s5 σ H5 _ I5 q5) fun w3 s6 ⟨y3, H6, I6, r6, q6⟩ => thn (ho'' pins s6 σ H6 z' y3 w' w3 _ I6 r4 r6 q6) fun d3 s7 ⟨z3, H7, I7, r7, k3, e3, q7⟩ => ?_))
      subst e3
      cases r7
      exact wpAny_truthy_bool ⟨H7, I7, q7⟩
theorem pe_chain3 {op op' op'' : CmpOp} {r r' r'' : R2} (ho : OpR X (compareOp op) r) (ho' : OpR X (compareOp op') r') (ho'' : OpR X (compareOp op'') r'') (ha : PE X a ta) (hb : PE X b tb) (hc : PE X c tc) (hd : PE X d td)
    (hm : lastMarks [op, op', op''] [b, c, d] = false := by with_unfolding_all rfl) : PE X (.Compare a [op, op', op''] [b, c, d] pos) (tChain3 r r' r'' ta tb tc td) := by
  refine ⟨fun pins s σ H Q I h => ?_⟩
  refine Compare_chain (thn (ha.run pins s σ H _ I h) fun v s1 ⟨x, H1, I1, r1, q1⟩ => chain_link (thn (hb.run pins s1 σ H1 _ I1 q1) fun u s2 ⟨y, H2, I2, r2, q2⟩ =>
    thn (ho pins s2 σ H2 x y v u _ I2 r1 r2 q2) fun e0 s3 ⟨z, H3, I3, r3, k, e, q3⟩ => ?_)) hm
  subst e
  cases r3
  refine wpAny_truthy_bool ?_
  cases k with
  | false => exact ite_ff ⟨.bl false, H3, I3, rfl, q3⟩
  | true =>
    refine ite_tt (chain_link (thn (hc.run pins s3 σ H3 _ I3 q3) fun w' s4 ⟨z', H4, I4, r4, q4⟩ => thn (ho' pins s4 σ H4 y z' u w' _ I4 r2 r4 q4) fun d' s5 ⟨z2, H5, I5, r5, k2, e2, q5⟩ => ?_))
    subst e2
    cases r5
    refine wpAny_truthy_bool ?_
    cases k2 with
    | false => exact ite_ff ⟨.bl false, H5, I5, rfl, q5⟩
    | true => exact ite_tt (chain_last (thn (hd.run pins s5 σ H5 _ I5 q5) fun w3 s6 ⟨y3, H6, I6, r6, q6⟩ => ho'' pins s6 σ H6 z' y3 w' w3 Q I6 r4 r6 q6))
end

/-! ### a field as a target -/
section
variable {X : Cx} {o : Expr} {to : TE} {f : Str} {pos : Pos}
def gFld (K : PySem.W.Frag) (to : TE) (f : Str) : TG := fun v σ H Q => to σ H fun x H1 => ∃ a C dx fs, x = .ref a ∧ H1 a = some (.ins C dx fs) ∧ Cls K C ∧ NoAttr K C f ∧ fs.length < 1000 ∧ Q σ (upd H1 a (.ins C dx (putF f v fs)))
theorem pg_fld (ho : PE X o to) : PG X (.Attribute o f pos) (gFld X.K to f) := by
  refine ⟨fun pins s σ H v u Q I r h => ?_⟩
  rw [PySem.assign_Attribute]
  refine wpAny_bind (wpAny_holding (thn (ho.run pins s σ H _ I h) fun ov s1 ⟨x, H1, I1, rx, a, C, dx, fs, ex, ea, c, n, l, q⟩ => ?_))
  subst ex
  obtain rfl : ov = Value.ref a := rx
  refine wpAny_bind (wpAny_standAt (wpAny_bind (wpAny_holding (setattr_ok I1 ea c n l r fun s2 I2 => ?_))))
  exact wpAny_release ⟨σ, _, I2, q⟩
end
end SPR
end

section
set_option Elab.async false
set_option linter.all false
set_option maxRecDepth 100000
set_option maxHeartbeats 4000000
namespace SPR
open PySem PySem.Spec PyProof.Rows L2

/-! ### enumerate(tuple) -/
theorem mk_enumT (l : Addr) (items : Array Value) :
    Meets (Builtin.«enumerate.__new__» ⟨[.type "enumerate", .ref l], []⟩) (fun _ R s => s.heap.IsTuple l items ∧
      R (.ok (.ret (.ref (s.heap.push { cls := .type "tuple_iterator", data := .fields #[.ref l, .int 0 0] }).objs.size)))
        { s with heap := (s.heap.push { cls := .type "tuple_iterator", data := .fields #[.ref l, .int 0 0] }).push { cls := .type "enumerate", data := .fields #[.none, .bool false, .ref s.heap.objs.size, rawInt 0, .none, .none] } }) :=
  .of_wp fun prog w A R s h => by
    obtain ⟨hp, g, d, tk, os⟩ := s
    obtain ⟨hT, h⟩ := h
    have hsub := sub_enumerate
    have q1 : ∀ {A' : Around} {E : Value → Shared → Prop} {Q : Value → Shared → Prop}, Q (.ref hp.objs.size) ⟨hp.push { cls := .type "tuple_iterator", data := .fields #[.ref l, .int 0 0] }, g, d, tk, os⟩ → wpAny (model prog w) A' (pyIter (.ref l)) Q E ⟨hp, g, d, tk, os⟩ :=
      fun q => wpAny_pyIter_tuple (s := ⟨hp, g, d, tk, os⟩) hT q
    wp_walk using q1
    refine wpAny_stack_any fun st => wpAny_pure ?_
    split
    · rename_i c _ _ _ _ _
      cases (c == Value.type "enumerate")
      · wp_walk using q1
        exact ⟨_, rfl, h⟩
      · wp_walk using q1
        exact ⟨_, rfl, h⟩
    · wp_walk using q1
      exact ⟨_, rfl, h⟩
theorem call_enumT {prog : Program} {w : World} {A : Around} {E : Value → Shared → Prop} {s : Shared} {l : Addr} {items : Array Value} {Q : Value → Shared → Prop} (hL : s.heap.IsTuple l items)
    (h : ∀ h', IsEnum h' (s.heap.objs.size + 1) s.heap.objs.size 0 .none → h'.IsTupleIter s.heap.objs.size l 0 → (∀ b o, s.heap.get? b = some o → h'.get? b = some o) → Q (.ref (s.heap.objs.size + 1)) { s with heap := h' }) :
    wpAny (model prog w) A (call (.type "enumerate") [.ref l]) Q E s := by
  refine callType_new F.called_enumerate (by decide) (F.typeCall_enumerate_1 _) (F.newCall_enumerate_1 _) (fun obj => F.args_object_init_2 obj _) F.entry_enumerate_new
    (mk_enumT l items) ⟨hL, ?_⟩
  have hz : (s.heap.push { cls := .type "tuple_iterator", data := .fields #[.ref l, .int 0 0] }).objs.size = s.heap.objs.size + 1 := Heap.size_push ..
  show _ ∧ _
  rw [hz]
  have he : IsEnum ((s.heap.push { cls := .type "tuple_iterator", data := .fields #[.ref l, .int 0 0] }).push
      { cls := .type "enumerate", data := .fields #[.none, .bool false, .ref s.heap.objs.size, rawInt 0, .none, .none] }) (s.heap.objs.size + 1) s.heap.objs.size 0 .none := by
    have q := Heap.get?_push_size (s.heap.push { cls := .type "tuple_iterator", data := .fields #[.ref l, .int 0 0] })
      (o := { cls := .type "enumerate", data := .fields #[.none, .bool false, .ref s.heap.objs.size, rawInt 0, .none, .none] }) rfl
    rw [hz] at q; exact q
  exact ⟨⟨_, he, rfl⟩, h _ he ⟨_, Heap.get?_push_of_some _ (Heap.get?_push_size _ rfl), rfl, rfl⟩ fun b o x => Heap.get?_push_of_some _ (Heap.get?_push_of_some _ x)⟩
/-- the tuple at a as it stands, each item in a new pair behind its place -/
def IteT (K : PySem.W.Frag) (a : Addr) : It :=
  ⟨fun i H => ∃ (xs : List V) (x : V), SqT K H a xs ∧ xs[i]? = some x, fun i H v H' => ∃ T x, v = .ref T ∧ H T = none ∧ H' = upd H T (.tup [.int (i : Nat), x]) ∧ ∀ xs, SqT K H a xs → xs[i]? = some x, fun i H => ∃ xs : List V, SqT K H a xs ∧ xs.length = i⟩
theorem turn_enumT {P : Program} {w : World} {K : PySem.W.Frag} {elts : List Expr} {kk : Nat} {tpos : Pos} (a e it : Addr) (hat : a ≠ it) (hae : a ≠ e) :
    Turn P w K (.Tuple elts kk tpos) (IteT K a) [e, it] e (fun i h => (∃ old, IsEnum h e it ((i : Nat) : Int) old) ∧ h.IsTupleIter it a i ∧ e ≠ it) where
  mem := by simp
  obj := fun i h st b hb => by
    obtain ⟨⟨old, he⟩, ⟨o, ho, hc, hd⟩, _⟩ := st
    have e' : b = e ∨ b = it := by simpa using hb
    rcases e' with z | z
    · rw [z]; exact ⟨_, he, fun v q => nomatch q⟩
    · rw [z]; exact ⟨o, ho, fun v q => by rw [hd] at q; cases q⟩
  keep := fun i h h' st k => let ⟨⟨old, he⟩, hi, hne⟩ := st; ⟨⟨old, k e (by simp) _ he⟩, hi.at fun o q => k it (by simp) o q, hne⟩
  item := by
    intro X hP hw hK hc i pins s σ H E I hf st hg
    subst hP hw hK
    obtain ⟨⟨old, he⟩, hit, hne⟩ := st
    obtain ⟨xs, x, hq, hx⟩ := hg
    obtain ⟨its, rv, p, hz⟩ := I.tuple hq
    obtain ⟨u, hu, ru⟩ := rv.get hx
    have hel : e < s.heap.objs.size := Heap.lt_size he
    have hil : it < s.heap.objs.size := by obtain ⟨_, q, _⟩ := hit; exact Heap.lt_size q
    have hh : X.A.in1.handled = none := I.ok.hd hc
    have hlt : i < its.toArray.size := by
      have := (List.getElem?_eq_some_iff.mp hu).1
      simpa using this
    have hpt : s.heap.IsTuple a its.toArray := p
    refine wpAny_pyNext_enum_itemD (Draws.tuple (prog := X.prog) (w := X.w) hh it a hat its.toArray) he ⟨hit, hpt⟩ hlt hne (by simp [hne, Ne.symm hae]) fun x' h' tk hP ho hs hT hsz hk => ?_
    have ex : x' = u := by
      have q : its.toArray[i]? = some x' := hP
      have q2 : its.toArray[i]? = some u := by simpa using hu
      rw [q] at q2
      exact Option.some.inj q2
    subst ex
    refine ⟨_, rfl, wpAny_letOwnedTupleGo_enum (s := { s with heap := h', toks := tk + 1 }) ho fun h'' he' sb => ?_⟩
    have hT2 : h''.get? s.heap.objs.size = some { cls := .type "tuple", data := .seq #[.int i tk, x'] } := (sb.2 _ (Nat.ne_of_gt hel)).trans hT
    have new : ObjOk X.prog X.w (upd H s.heap.objs.size (.tup [.int (i : Nat), x])) h'' s.heap.objs.size (.tup [.int (i : Nat), x]) :=
      ⟨by show 2 ≤ sizeLine; decide, [.int i tk, x'], .cons ⟨_, rfl⟩ (.cons ru .nil), ⟨_, hT2, rfl, _, rfl⟩⟩
    have I1 : Inv X pins σ (upd H s.heap.objs.size (.tup [.int (i : Nat), x])) { s with heap := h'', toks := tk + 1 } :=
      I.turnedNew (t' := tk + 1) (ch := [e, it]) (fun b ob hb q => (sb.2 b (fun z => hb (by simp [z]))).trans (hk b ob (fun z => hb (by simp [z])) (fun z => hb (by simp [z])) q)) hf (Nat.le_refl _) new
    refine ⟨.ref s.heap.objs.size, _, I1, rfl, ⟨_, x, rfl, I.hok.fresh (Nat.le_refl _), rfl, fun ys hy => by rw [I.tuple_inj hy hq]; exact hx⟩, ⟨⟨x', ?_⟩, hs.1.at fun o q => (sb.2 it (Ne.symm hne)).trans q, hne⟩, fun b hb => ?_⟩
    · have e1 : ((i + 1 : Nat) : Int) = (i : Int) + 1 := by omega
      rw [e1]; exact he'
    · have hb' : b < s.heap.objs.size := by
        have e' : b = e ∨ b = it := by simpa using hb
        rcases e' with z | z
        · rw [z]; exact hel
        · rw [z]; exact hil
      rw [upd_ne (Nat.ne_of_lt hb')]
      exact (hf b hb).1
  done := by
    intro X hP hw hK hc i pins s σ H E I hf st hg
    subst hP hw hK
    obtain ⟨⟨old, he⟩, hit, hne⟩ := st
    obtain ⟨xs, hq, hx⟩ := hg
    obtain ⟨its, rv, p, hz⟩ := I.tuple hq
    obtain ⟨f0, f1, f2, f3, f4, f5⟩ := hf it (by simp)
    have hl := rv.length
    have hh : X.A.in1.handled = none := I.ok.hd hc
    have hpt : s.heap.IsTuple a its.toArray := p
    have ei : i = its.toArray.size := by simp; omega
    exact wpAny_pyNext_enum_endD (Draws.tuple (prog := X.prog) (w := X.w) hh it a hat its.toArray) he (by rw [← ei]; exact ⟨hit, hpt⟩) fun h' eb => ⟨rfl, I.turned (t' := s.toks) (fun b o hb q => eb b o hb q) f0 f1 f3 f4 f5⟩
  self := fun A i s Q E st h => let ⟨⟨_, he⟩, _⟩ := st; wpAny_pyIter_enum he h
def iEnumT (K : PySem.W.Frag) (ta : TA) : TI := fun σ H R => ta σ H fun vs H1 => ∃ a xs, vs = [.ref a] ∧ SqT K H1 a xs ∧ R (IteT K a) H1
theorem pi_enumT {X : Cx} {e : Expr} {ta : TA} {p pos tpos : Pos} {elts : List Expr} {kk : Nat} (hg : Gl X "enumerate") (hm : X.mg "enumerate" = none) (ha : PA X [e] ta) (hs : starEach [e] X.env = [(false, eval e X.env)] := by rfl) :
    PI X (.Tuple elts kk tpos) (.Call (.Name "enumerate" p) [e] [] pos) (iEnumT X.K ta) := by
  refine ⟨fun pins s σ H R I h => ?_⟩
  refine Call_ (ld_blt I hg hm boot_enumerate (PyProof.Rows.callWith_type1 (thn (ha.run pos pins s σ H _ I h) fun us s1 ⟨vs, H1, I1, r1, q1⟩ => ?_) hs rfl))
  obtain ⟨a, xs, ex, hq, q⟩ := q1
  subst ex
  cases r1 with
  | cons r rr =>
    cases rr
    cases r
    obtain ⟨its, rv, p', hz⟩ := I1.tuple hq
    have hpt : s1.heap.IsTuple a its.toArray := p'
    have hlt : a < s1.heap.objs.size := p'.lt
    refine call_enumT hpt fun h' he hit hk => wpAny_pyIter_enum he ?_
    have I2 : Inv X pins σ H1 { s1 with heap := h' } := I1.kept (t' := s1.toks) hk
    refine ⟨s1.heap.objs.size + 1, [s1.heap.objs.size + 1, s1.heap.objs.size], _, _, H1, rfl, I2, turn_enumT a (s1.heap.objs.size + 1) s1.heap.objs.size (Nat.ne_of_lt hlt) (Nat.ne_of_lt (Nat.lt_succ_of_lt hlt)), ⟨⟨.none, he⟩, hit, Nat.succ_ne_self _⟩, fun b hb => ?_, q⟩
    have e' : b = s1.heap.objs.size + 1 ∨ b = s1.heap.objs.size := by simpa using hb
    have hle : s1.heap.objs.size ≤ b := by
      rcases e' with z | z
      · rw [z]; exact Nat.le_add_right _ _
      · rw [z]; exact Nat.le_refl _
    exact I1.fpOk hle (I1.hok.fresh hle)
theorem walk_enumT {K : PySem.W.Frag} {a : Addr} {xs : List V} : Walk (IteT K a) xs.length (fun H => SqT K H a xs) (YPair (fun i => some (.int (i : Nat))) (fun i => xs[i]?)) := by
  refine ⟨fun i _ hi q => ⟨xs, xs[i], q, by simp [hi]⟩, fun _ q => ⟨xs, q, rfl⟩, fun i H v H' _ q y => ?_⟩
  obtain ⟨T, x, h1, h2, h3, h4⟩ := y
  exact ⟨T, .int (i : Nat), x, h1, h2, h3, rfl, h4 xs q⟩

/-! ### zip(list, tuple), of one length -/
def IpLT (K : PySem.W.Frag) (a b : Addr) : It :=
  ⟨fun i H => ∃ (xs ys : List V) (x y : V), SqL K H a xs ∧ SqT K H b ys ∧ xs[i]? = some x ∧ ys[i]? = some y,
    fun i H v H' => ∃ T x y, v = .ref T ∧ H T = none ∧ H' = upd H T (.tup [x, y]) ∧ (∀ xs, SqL K H a xs → xs[i]? = some x) ∧ ∀ ys, SqT K H b ys → ys[i]? = some y,
    fun i H => ∃ xs ys : List V, SqL K H a xs ∧ SqT K H b ys ∧ xs.length = i ∧ ys.length = i⟩
structure Apart (z TI TO i1 i2 a b : Addr) : Prop where
  S : ZipSep2 z TI TO i1 i2 [i1, a] [i2, b]
  h1 : a ≠ i1
  h2 : b ≠ i2
theorem apart_new {N a b : Addr} (ha : a < N) (hb : b < N) : Apart (N + 4) (N + 2) (N + 3) N (N + 1) a b :=
  ⟨zip_sep2 (fp1 := [a]) (fp2 := [b]) (fun c hc => by rw [List.mem_singleton.mp hc]; exact ha) (fun c hc => by rw [List.mem_singleton.mp hc]; exact hb), Nat.ne_of_lt ha, Nat.ne_of_lt (Nat.lt_succ_of_lt hb)⟩
theorem turn_zipLT {P : Program} {w : World} {K : PySem.W.Frag} {elts : List Expr} {kk : Nat} {tpos : Pos} {a b z TI TO i1 i2 : Addr} (D : Apart z TI TO i1 i2 a b) :
    Turn P w K (.Tuple elts kk tpos) (IpLT K a b) [z, TI, TO, i1, i2] z (fun i h => IsZip h z TI TO .none ∧ IsTupOf2 h TI (.ref i1) (.ref i2) ∧ (∃ x y, IsTupOf2 h TO x y) ∧ h.IsListIter i1 a i ∧ h.IsTupleIter i2 b i) where
  mem := by simp
  obj := fun i h st c hc => by
    obtain ⟨hz, hTI, ⟨x, y, hTO⟩, ⟨o1, e1, _, d1⟩, ⟨o2, e2, _, d2⟩⟩ := st
    have e' : c = z ∨ c = TI ∨ c = TO ∨ c = i1 ∨ c = i2 := by simpa using hc
    rcases e' with q | q | q | q | q
    · rw [q]; exact ⟨_, hz, fun v q => nomatch q⟩
    · rw [q]; exact ⟨_, hTI, fun v q => nomatch q⟩
    · rw [q]; exact ⟨_, hTO, fun v q => nomatch q⟩
    · rw [q]; exact ⟨o1, e1, fun v q => by rw [d1] at q; cases q⟩
    · rw [q]; exact ⟨o2, e2, fun v q => by rw [d2] at q; cases q⟩
  keep := fun i h h' st k => by
    obtain ⟨hz, hTI, ⟨x, y, hTO⟩, h1, h2⟩ := st
    exact ⟨k z (by simp) _ hz, k TI (by simp) _ hTI, ⟨x, y, k TO (by simp) _ hTO⟩, h1.at fun o q => k i1 (by simp) o q, h2.at fun o q => k i2 (by simp) o q⟩
  item := by
    intro X hP hw hK hc i pins s σ H E I hf st hg
    subst hP hw hK
    obtain ⟨hz, hTI, ⟨x0, y0, hTO⟩, h1, h2⟩ := st
    obtain ⟨xs, ys, x, y, hqx, hqy, hx, hy⟩ := hg
    obtain ⟨its, rv, p, _⟩ := I.list hqx
    obtain ⟨its2, rv2, p2, _⟩ := I.tuple hqy
    obtain ⟨u, hu, ru⟩ := rv.get hx
    obtain ⟨u2, hu2, ru2⟩ := rv2.get hy
    have hh : X.A.in1.handled = none := I.ok.hd hc
    have hzl : z < s.heap.objs.size := Heap.lt_size hz
    have hpl : s.heap.IsList a its.toArray := p.isList
    have hpt : s.heap.IsTuple b its2.toArray := p2
    have l1 : i < its.toArray.size := by
      have := (List.getElem?_eq_some_iff.mp hu).1
      simpa using this
    have l2 : i < its2.toArray.size := by
      have := (List.getElem?_eq_some_iff.mp hu2).1
      simpa using this
    refine wpAny_pyNext_zipD2_item D.S (Draws.list (prog := X.prog) (w := X.w) hh i1 a D.h1 its.toArray) (Draws.tuple (prog := X.prog) (w := X.w) hh i2 b D.h2 its2.toArray) hz hTI hTO ⟨h1, hpl⟩ ⟨h2, hpt⟩ l1 l2 fun v1 v2 h' tk P1 P2 z' TO' st1 st2 hT hsz hk => ?_
    have e1 : v1 = u := by
      have q : its.toArray[i]? = some v1 := P1
      have q2 : its.toArray[i]? = some u := by simpa using hu
      rw [q] at q2
      exact Option.some.inj q2
    have e2 : v2 = u2 := by
      have q : its2.toArray[i]? = some v2 := P2
      have q2 : its2.toArray[i]? = some u2 := by simpa using hu2
      rw [q] at q2
      exact Option.some.inj q2
    subst e1 e2
    have h1' := st1.1
    have h2' := st2.1
    refine ⟨_, rfl, wpAny_letOwnedTupleGo_zip (s := { s with heap := h', toks := tk }) z' fun h'' z'' sb => ?_⟩
    have hT2 : h''.get? s.heap.objs.size = some { cls := .type "tuple", data := .seq #[v1, v2] } := (sb.2 _ (Nat.ne_of_gt hzl)).trans hT
    have new : ObjOk X.prog X.w (upd H s.heap.objs.size (.tup [x, y])) h'' s.heap.objs.size (.tup [x, y]) :=
      ⟨by show 2 ≤ sizeLine; decide, [v1, v2], .cons ru (.cons ru2 .nil), ⟨_, hT2, rfl, _, rfl⟩⟩
    have I1 : Inv X pins σ (upd H s.heap.objs.size (.tup [x, y])) { s with heap := h'', toks := tk } :=
      I.turnedNew (t' := tk) (ch := [z, TI, TO, i1, i2]) (fun c o hb q => (sb.2 c (fun q' => hb (by simp [q']))).trans (hk c o (fun q' => hb (by simp [q'])) (fun q' => hb (by simp [q'])) (fun q' => hb (by simp [q'])) (fun q' => hb (by simp [q'])) q)) hf (Nat.le_refl _) new
    refine ⟨.ref s.heap.objs.size, _, I1, rfl, ⟨_, x, y, rfl, I.hok.fresh (Nat.le_refl _), rfl, fun l hl => by rw [I.list_inj hl hqx]; exact hx, fun l hl => by rw [I.tuple_inj hl hqy]; exact hy⟩, ⟨z'', ?_, ⟨v1, v2, ?_⟩, ?_, ?_⟩, fun c hcm => ?_⟩
    · exact (sb.2 _ D.S.TIz).trans (hk _ _ D.S.TIz D.S.TITO D.S.TIi1 D.S.TIi2 hTI)
    · exact (sb.2 _ D.S.TOz).trans TO'
    · exact h1'.at fun o q => (sb.2 _ (Ne.symm D.S.zi1)).trans q
    · exact h2'.at fun o q => (sb.2 _ (Ne.symm D.S.zi2)).trans q
    · have hlt : c < s.heap.objs.size := by
        have e' : c = z ∨ c = TI ∨ c = TO ∨ c = i1 ∨ c = i2 := by simpa using hcm
        rcases e' with q | q | q | q | q
        · rw [q]; exact hzl
        · rw [q]; exact Heap.lt_size hTI
        · rw [q]; exact Heap.lt_size hTO
        · rw [q]; obtain ⟨_, e1, _⟩ := h1; exact Heap.lt_size e1
        · rw [q]; obtain ⟨_, e2, _⟩ := h2; exact Heap.lt_size e2
      rw [upd_ne (Nat.ne_of_lt hlt)]
      exact (hf c hcm).1
  done := by
    intro X hP hw hK hc i pins s σ H E I hf st hg
    subst hP hw hK
    obtain ⟨hz, hTI, ⟨x0, y0, hTO⟩, h1, h2⟩ := st
    obtain ⟨xs, ys, hqx, hqy, e1, e2⟩ := hg
    obtain ⟨its, rv, p, _⟩ := I.list hqx
    obtain ⟨its2, rv2, p2, _⟩ := I.tuple hqy
    have l1 := rv.length
    have l2 := rv2.length
    have hh : X.A.in1.handled = none := I.ok.hd hc
    have hpl : s.heap.IsList a its.toArray := p.isList
    have hpt : s.heap.IsTuple b its2.toArray := p2
    have z1 : i = its.toArray.size := by simp; omega
    have z2 : i = its2.toArray.size := by simp; omega
    exact wpAny_pyNext_zipD2_end D.S (Draws.list (prog := X.prog) (w := X.w) hh i1 a D.h1 its.toArray) (Draws.tuple (prog := X.prog) (w := X.w) hh i2 b D.h2 its2.toArray) hz hTI hTO ⟨h1, hpl⟩ ⟨h2, hpt⟩ (Nat.le_of_eq z1) (Nat.le_of_eq z2) (.inl z1) fun h' tk hk => ⟨rfl, I.turnedL (t' := tk) (ch := [z, TI, TO, i1, i2]) (fun c o hb q =>
      hk c o (fun q' => hb (by simp [q'])) (fun q' => hb (by simp [q'])) (fun q' => hb (by simp [q'])) (fun q' => hb (by simp [q'])) q) hf⟩
  self := fun A i s Q E st h => wpAny_pyIter_zip st.1 h
def iZipLT (K : PySem.W.Frag) (ta : TA) : TI := fun σ H R => ta σ H fun vs H1 => ∃ a b xs ys, vs = [.ref a, .ref b] ∧ SqL K H1 a xs ∧ SqT K H1 b ys ∧ R (IpLT K a b) H1
theorem pi_zipLT {X : Cx} {e e2 : Expr} {ta : TA} {p pos tpos : Pos} {elts : List Expr} {kk : Nat} (hg : Gl X "zip") (hm : X.mg "zip" = none) (ha : PA X [e, e2] ta)
    (hs : starEach [e, e2] X.env = (false, eval e X.env) :: starEach [e2] X.env := by rfl) (hpl : (backTo pos (starEach [e2] X.env)).any (·.1) = false := by rfl) :
    PI X (.Tuple elts kk tpos) (.Call (.Name "zip" p) [e, e2] [] pos) (iZipLT X.K ta) := by
  refine ⟨fun pins s σ H R I h => ?_⟩
  refine Call_ (ld_blt I hg hm PyProof.Rows.boot_zip (PyProof.Rows.callWith_type1 (thn (ha.run pos pins s σ H _ I h) fun us s1 ⟨vs, H1, I1, r1, q1⟩ => ?_) hs hpl))
  obtain ⟨a, b, xs, ys, ex, hqx, hqy, q⟩ := q1
  subst ex
  cases r1 with
  | cons r rr =>
    cases rr with
    | cons r' rr =>
      cases rr
      cases r
      cases r'
      obtain ⟨its, rv, p1, _⟩ := I1.list hqx
      obtain ⟨its2, rv2, p2, _⟩ := I1.tuple hqy
      have hpl : s1.heap.IsList a its.toArray := p1.isList
      have hpt : s1.heap.IsTuple b its2.toArray := p2
      refine zip_begins2 (begins_list a its.toArray) (begins_tuple b its2.toArray) hpl hpt fun h' hz hTI hTO h1 h2 hsz hk => wpAny_pyIter_zip hz ?_
      have I2 : Inv X pins σ H1 { s1 with heap := h' } := I1.kept (t' := s1.toks) hk
      refine ⟨s1.heap.objs.size + 4, [s1.heap.objs.size + 4, s1.heap.objs.size + 2, s1.heap.objs.size + 3, s1.heap.objs.size, s1.heap.objs.size + 1], _, _, H1, rfl, I2, turn_zipLT (apart_new p1.lt p2.lt), ⟨hz, hTI, ⟨_, _, hTO⟩, ⟨_, h1, rfl, rfl⟩, ⟨_, h2, rfl, rfl⟩⟩, fun c hcm => ?_, q⟩
      have e' : c = s1.heap.objs.size + 4 ∨ c = s1.heap.objs.size + 2 ∨ c = s1.heap.objs.size + 3 ∨ c = s1.heap.objs.size ∨ c = s1.heap.objs.size + 1 := by simpa using hcm
      have hle : s1.heap.objs.size ≤ c := by
        rcases e' with z | z | z | z | z
        · rw [z]; exact Nat.le_add_right _ _
        · rw [z]; exact Nat.le_add_right _ _
        · rw [z]; exact Nat.le_add_right _ _
        · rw [z]; exact Nat.le_refl _
        · rw [z]; exact Nat.le_add_right _ _
      exact I1.fpOk hle (I1.hok.fresh hle)
theorem walk_zipLT {K : PySem.W.Frag} {a b : Addr} {xs ys : List V} (hn : xs.length = ys.length) : Walk (IpLT K a b) xs.length (fun H => SqL K H a xs ∧ SqT K H b ys) (YPair (fun i => xs[i]?) (fun i => ys[i]?)) := by
  refine ⟨fun i _ hi q => ?_, fun _ q => ⟨xs, ys, q.1, q.2, rfl, hn.symm⟩, fun i H v H' _ q y => ?_⟩
  · have h2 : i < ys.length := by omega
    exact ⟨xs, ys, xs[i], ys[i], q.1, q.2, by simp [hi], by simp [h2]⟩
  · obtain ⟨T, x, z, h1, h2, h3, h4, h5⟩ := y
    exact ⟨T, x, z, h1, h2, h3, h4 xs q.1, h5 ys q.2⟩
end SPR
end

section
set_option Elab.async false
set_option linter.all false
set_option maxRecDepth 100000
set_option maxHeartbeats 4000000
/-! Own rules: a dict whose keys are positions, (moment, (time, ..)) -/
namespace SPR
open PySem PySem.Spec PyProof.Rows L2

abbrev PKey := Int × List Int
def nk (k : PKey) : NestedKey := .tup [.num k.1, .tup (k.2.map NestedKey.num)]
theorem num_inj : ∀ {a b : List Int}, a.map NestedKey.num = b.map NestedKey.num → a = b
  | [], [], _ => rfl
  | [], _ :: _, h => by simp at h
  | _ :: _, [], h => by simp at h
  | x :: xs, y :: ys, h => by
    rw [List.map_cons, List.map_cons] at h
    injection h with h1 h2
    injection h1 with h1
    rw [h1, num_inj h2]
theorem nk_inj {a b : PKey} (h : nk a = nk b) : a = b := by
  obtain ⟨m, t⟩ := a
  obtain ⟨n, u⟩ := b
  unfold nk at h
  injection h with h
  injection h with h1 h2
  injection h1 with h1
  injection h2 with h2 _
  injection h2 with h2
  exact Prod.ext h1 (num_inj h2)
/-- at t: the position k -/
def PosAt (H : Hp) (t : Addr) (k : PKey) : Prop := ∃ r, H t = some (.tup [.int k.1, .ref r]) ∧ H r = some (.tup (k.2.map V.int))
def Tups (H H' : Hp) : Prop := ∀ b ys, H b = some (.tup ys) → H' b = some (.tup ys)
theorem PosAt.keep {H H' : Hp} {t : Addr} {k : PKey} (p : PosAt H t k) (h : Tups H H') : PosAt H' t k := let ⟨r, a, b⟩ := p; ⟨r, h _ _ a, h _ _ b⟩
def pdB (P : Program) (w : World) (a : Addr) (xs : List (NestedKey × Addr × Value)) (h : Heap) : Prop :=
  ∃ o es ep, h.get? a = some o ∧ o.ExactDict ∧ o.data = .dict es ep ∧ es.toList = xs.map (entryOfKey (nestedKind P w)) ∧ (xs.map (·.1)).Nodup
abbrev PRel (H : Hp) : List (PKey × V) → List (NestedKey × Addr × Value) → Prop := Paired fun p q => q.1 = nk p.1 ∧ PosAt H q.2.1 p.1 ∧ RelV p.2 q.2.2
/-- at a: a dict of positions -/
def PD (P : Program) (w : World) (H : Hp) (a : Addr) (kvs : List (PKey × V)) : Prop :=
  kvs.length ≤ sizeLine ∧ (a == sysModules) = false ∧ ∃ xs, H a = some (.ext (pdB P w a xs)) ∧ PRel H kvs xs
theorem PD.keep {P : Program} {w : World} {H H' : Hp} {a : Addr} {kvs : List (PKey × V)} (d : PD P w H a kvs) (ha : H' a = H a) (h : Tups H H') : PD P w H' a kvs :=
  let ⟨z, y, xs, e, r⟩ := d; ⟨z, y, xs, ha.trans e, Paired.mapP r fun _ _ q => ⟨q.1, q.2.1.keep h, q.2.2⟩⟩
theorem same_tups {H H' : Hp} (h : Same H H') : Tups H H' := fun b ys e => h b _ e
theorem PD.same {P : Program} {w : World} {H H' : Hp} {a : Addr} {kvs : List (PKey × V)} (d : PD P w H a kvs) (h : Same H H') : PD P w H' a kvs := by
  obtain ⟨z, y, xs, e, r⟩ := d
  exact ⟨z, y, xs, h _ _ e, Paired.mapP r fun _ _ q => ⟨q.1, q.2.1.keep (same_tups h), q.2.2⟩⟩
theorem PRel.val {H : Hp} {kvs : List (PKey × V)} {xs : List (NestedKey × Addr × Value)} (r : PRel H kvs xs) (k : PKey) : RelO (valV kvs k) ((atKey xs (nk k)).map (·.2)) := by
  induction r with
  | nil => exact True.intro
  | @cons p q ps qs h t ih =>
    obtain ⟨h1, _, h2⟩ := h
    by_cases e : p.1 = k
    · have e' : q.1 = nk k := by rw [h1, e]
      have b : atKey (q :: qs) (nk k) = some q.2 := by simp [atKey, List.find?_cons, e']
      rw [valV_pos e, b]; exact h2
    · have e' : ¬ q.1 = nk k := fun z => e (nk_inj (h1.symm.trans z))
      have b : atKey (q :: qs) (nk k) = atKey qs (nk k) := by simp [atKey, List.find?_cons, e']
      rw [valV_neg e, b]; exact ih
theorem PRel.put {H : Hp} {kvs : List (PKey × V)} {xs : List (NestedKey × Addr × Value)} (r : PRel H kvs xs) (k : PKey) {b : Addr} {y : V} {u : Value} (hb : PosAt H b k) (ry : RelV y u) : PRel H (putK kvs k y) (storedH xs (nk k) b u) := by
  have e : (kvs.any fun kv => decide (kv.1 = k)) = (atKey xs (nk k)).isSome := by
    rw [valV_any, (r.val k).isSome_eq, Option.isSome_map]
  unfold putK storedH
  rw [e]
  by_cases q : (atKey xs (nk k)).isSome = true
  · rw [if_pos q, if_pos q]
    clear e q
    induction r with
    | nil => exact .nil
    | @cons p q ps qs h t ih =>
      rw [List.map_cons, List.map_cons]
      refine .cons ?_ ih
      obtain ⟨h1, h2, h3⟩ := h
      unfold putAt
      by_cases e : p.1 = k
      · rw [if_pos e, if_pos (by rw [h1, e])]; exact ⟨h1, h2, ry⟩
      · rw [if_neg e, if_neg (fun z => e (nk_inj (h1.symm.trans z)))]; exact ⟨h1, h2, h3⟩
  · rw [if_neg q, if_neg q]; exact Paired.snoc r ⟨rfl, hb, ry⟩
theorem PRel.putAll {H : Hp} : ∀ {ks : List PKey} {xs : List (NestedKey × Addr × Value)} {kvs : List (PKey × V)} {acc : List (NestedKey × Addr × Value)},
    Paired (fun (k : PKey) (q : NestedKey × Addr × Value) => q.1 = nk k ∧ PosAt H q.2.1 k ∧ q.2.2 = Value.bool true) ks xs → PRel H kvs acc → PRel H (ks.foldl (fun acc k => putK acc k (.bl true)) kvs) (storedAllH acc xs) := by
  intro ks xs kvs acc r
  induction r generalizing kvs acc with
  | nil => intro q; exact q
  | @cons k q ks qs h t ih =>
    intro r0
    have z : RelV (.bl true) q.2.2 := h.2.2
    have := r0.put k h.2.1 z
    rw [← h.1] at this
    exact ih this

section
variable {P : Program} {w : World} {H : Hp} {h : Heap} {a t : Addr} {k : PKey}
theorem ints_nested : ∀ {ns : List Int} {us : List Value}, Vals (ns.map V.int) us → NestedAll h (ns.map NestedKey.num) us
  | [], _, r => by rw [List.map_nil] at r; cases r; exact .nil
  | n :: ns, _, r => by
    rw [List.map_cons] at r
    cases r with
    | cons q t =>
      obtain ⟨tk, rfl⟩ := q
      exact .cons (.int n tk) (ints_nested t)
theorem depth_ints : ∀ ns : List Int, NestedKey.depthAll (ns.map NestedKey.num) = 0
  | [] => rfl
  | n :: ns => by
    show max 0 (NestedKey.depthAll (ns.map NestedKey.num)) = 0
    rw [depth_ints ns]; rfl
theorem pos_key (ok : HOk P w H h) (p : PosAt H t k) : (nestedKind P w).is h (nk k) t := by
  obtain ⟨r, e1, e2⟩ := p
  obtain ⟨_, its, rv, o, o1, o2, n, o3⟩ := (show ObjOk P w H h t (.tup [.int k.1, .ref r]) from ok t _ e1)
  obtain ⟨_, its2, rv2, o', p1, p2, n2, p3⟩ := (show ObjOk P w H h r (.tup (k.2.map V.int)) from ok r _ e2)
  have inner : NestedIs h (.tup (k.2.map NestedKey.num)) (.ref r) := .tup p1 p2 p3 (by simpa using ints_nested rv2)
  have all : NestedAll h [.num k.1, .tup (k.2.map NestedKey.num)] its := by
    cases rv with
    | cons q1 t1 =>
      cases t1 with
      | cons q2 t2 =>
        cases t2
        obtain ⟨tk, rfl⟩ := q1
        cases q2
        exact .cons (.int _ tk) (.cons inner .nil)
  refine ⟨.tup o1 o2 o3 (by simpa using all), ?_⟩
  show max 0 (max (NestedKey.depthAll (k.2.map NestedKey.num) + 1) 0) + 1 ≤ 8
  rw [depth_ints]
  decide
theorem pd_of {kvs : List (PKey × V)} (ok : HOk P w H h) (d : PD P w H a kvs) : kvs.length ≤ sizeLine ∧ (a == sysModules) = false ∧ ∃ xs, PRel H kvs xs ∧ h.DictOfH (nestedKind P w) a xs := by
  obtain ⟨z, y, xs, e, r⟩ := d
  have q : ObjOk P w H h a (.ext (pdB P w a xs)) := ok a _ e
  obtain ⟨⟨o, es, ep, h1, h2, h3, h4, h5⟩, _⟩ := q
  refine ⟨z, y, xs, r, o, es, ep, h1, h2, h3, h4, fun x hx => ?_, h5⟩
  have all : ∀ {l : List (PKey × V)} {m : List (NestedKey × Addr × Value)}, PRel H l m → ∀ x ∈ m, (nestedKind P w).is h x.1 x.2.1 := by
    intro l m q
    induction q with
    | nil => intro x hx; exact nomatch hx
    | @cons p q ps qs hq t ih =>
      intro x hx
      rcases List.mem_cons.mp hx with e | hx
      · subst e
        rw [hq.1]
        exact pos_key ok hq.2.1
      · exact ih x hx
  exact all r x hx
theorem pdB_ok {xs : List (NestedKey × Addr × Value)} (d : h.DictOfH (nestedKind P w) a xs) : ObjOk P w H h a (.ext (pdB P w a xs)) := by
  obtain ⟨o, es, ep, h1, h2, h3, h4, _, h5⟩ := d
  refine ⟨⟨o, es, ep, h1, h2, h3, h4, h5⟩, ⟨o, h1⟩, fun g1 g2 z kk => ?_⟩
  obtain ⟨o', es', ep', z1, z2⟩ := z
  exact ⟨o', es', ep', kk _ z1, z2⟩
end

section
variable {X : Cx} {pins : List (Addr × Obj)} {σ : Stt} {H : Hp} {s : Shared} {a t : Addr} {k : PKey} {kvs : List (PKey × V)} {A : Around} {E : Value → Shared → Prop}
theorem pd_in {Q : Value → Shared → Prop} (hu : A.units + 16 < cLine) (I : Inv X pins σ H s) (d : PD X.prog X.w H a kvs) (p : PosAt H t k) (h : ∀ s', Inv X pins σ H s' → Q (.bool (valV kvs k).isSome) s') :
    wpAny (model X.prog X.w) A (compareOp .In (.ref t) (.ref a)) Q E s := by
  obtain ⟨z, hd, xs, rel, dd⟩ := pd_of I.hok d
  refine wpAny_in_heap (knd := nestedKind X.prog X.w) (show A.units + 1 + 8 < cLine by omega) (pos_key I.hok p) hd dd ?_
  have q := (rel.val k).isSome_eq
  rw [Option.isSome_map] at q
  rw [← q]
  exact h _ (I.tok _)
theorem pd_notIn {Q : Value → Shared → Prop} (hu : A.units + 16 < cLine) (I : Inv X pins σ H s) (d : PD X.prog X.w H a kvs) (p : PosAt H t k) (h : ∀ s', Inv X pins σ H s' → Q (.bool (!(valV kvs k).isSome)) s') :
    wpAny (model X.prog X.w) A (compareOp .NotIn (.ref t) (.ref a)) Q E s := by
  obtain ⟨z, hd, xs, rel, dd⟩ := pd_of I.hok d
  refine wpAny_notIn_heap (knd := nestedKind X.prog X.w) (show A.units + 1 + 8 < cLine by omega) (pos_key I.hok p) hd dd ?_
  have q := (rel.val k).isSome_eq
  rw [Option.isSome_map] at q
  rw [← q]
  exact h _ (I.tok _)
theorem pd_getItem {v : V} {Q : Value → Shared → Prop} (hu : A.units + 16 < cLine) (I : Inv X pins σ H s) (d : PD X.prog X.w H a kvs) (p : PosAt H t k) (l : valV kvs k = some v) (h : ∀ w' s', Inv X pins σ H s' → RelV v w' → Q w' s') :
    wpAny (model X.prog X.w) A (getItem (.ref a) (.ref t)) Q E s := by
  obtain ⟨z, hd, xs, rel, dd⟩ := pd_of I.hok d
  obtain ⟨w', hw, rw'⟩ := RelO.some_of (v := v) (o := (atKey xs (nk k)).map (·.2)) (by rw [← l]; exact rel.val k)
  obtain ⟨q, hp, hp2⟩ := Option.map_eq_some_iff.mp hw
  refine wpAny_getItem_heap (knd := nestedKind X.prog X.w) (show A.units + 1 + 8 < cLine by omega) (pos_key I.hok p) dd hp ?_
  rw [hp2]
  exact h w' _ (I.tok _) rw'
theorem pd_setItem {v : V} {u : Value} {Q : Unit → Shared → Prop} (hu : A.units + 16 < cLine) (I : Inv X pins σ H s) (d : PD X.prog X.w H a kvs) (p : PosAt H t k) (hl : kvs.length < sizeLine) (rv : RelV v u)
    (h : ∀ s' H', Inv X pins σ H' s' → PD X.prog X.w H' a (putK kvs k v) → (∀ b, b ≠ a → H' b = H b) → Q () s') : wpAny (model X.prog X.w) A (setItem (.ref a) (.ref t) u) Q E s := by
  obtain ⟨z, hd, xs, rel, dd⟩ := pd_of I.hok d
  obtain ⟨_, _, xs0, ea, _⟩ := d
  have hz : xs.length ≤ sizeLine := by rw [← Paired.length rel]; exact z
  have hl2 : (putK kvs k v).length ≤ sizeLine := by have := length_putK kvs k v; omega
  refine wpAny_setItem_heap (knd := nestedKind X.prog X.w) (hsz := hz) (show A.units + 1 + 8 < cLine by omega) (pos_key I.hok p) dd fun h' dd' hs => ?_
  obtain ⟨q, es, ep, hq, h2, h3, h4, h6, h5⟩ := id dd'
  have tk : Tups H (upd H a (.ext (pdB X.prog X.w a (storedH xs (nk k) t u)))) := fun c ys ec => by
    rw [upd_ne (ne_of ec ea (fun z => nomatch z))]; exact ec
  refine h _ (upd H a (.ext (pdB X.prog X.w a (storedH xs (nk k) t u)))) (I.write (x := a) (e := a) (by rw [ea]; exact True.intro) (.inl rfl) (fun b o hb z => (hs.2 b hb).trans z) ⟨q, hq⟩ (pdB_ok dd')) ⟨hl2, hd, _, upd_same, Paired.mapP (rel.put k p rv) fun _ _ q => ⟨q.1, q.2.1.keep tk, q.2.2⟩⟩ fun b hb => upd_ne hb
end

/-! ### the rules -/
def rPIn (P : Program) (w : World) (neg : Bool) : R2 := fun x y H Q => ∃ t k a kvs, x = .ref t ∧ y = .ref a ∧ PosAt H t k ∧ PD P w H a kvs ∧ Q (.bl (if neg = true then !(valV kvs k).isSome else (valV kvs k).isSome)) H
def rPIx (P : Program) (w : World) : R2 := fun x y H Q => ∃ a t k kvs v, x = .ref a ∧ y = .ref t ∧ PosAt H t k ∧ PD P w H a kvs ∧ valV kvs k = some v ∧ Q v H
def rPSet (P : Program) (w : World) : TSet := fun o i v H Q => ∃ a t k kvs, o = .ref a ∧ i = .ref t ∧ PosAt H t k ∧ PD P w H a kvs ∧ kvs.length < sizeLine ∧ ∀ H', PD P w H' a (putK kvs k v) → (∀ b, b ≠ a → H' b = H b) → Q H'
def tPNew (P : Program) (w : World) : TE := fun _ H Q => ∀ p H', H p = none → PD P w H' p [] → (∀ b, b ≠ p → H' b = H b) → Q (.ref p) H'
def rPDict (K : PySem.W.Frag) (P : Program) (w : World) : List V → Hp → VK → Prop := fun xs H Q => ∃ (a : Addr) (qs : List Addr) (ks : List PKey), xs = [.ref a] ∧ SqL K H a (qs.map V.ref) ∧ Paired (fun q k => ∃ t, H q = some (.tup [.ref t, .bl true]) ∧ PosAt H t k) qs ks ∧
  ∀ p H', H p = none → PD P w H' p (ks.foldl (fun acc k => putK acc k (.bl true)) []) → (∀ b, b ≠ p → H' b = H b) → Q (.ref p) H'
section
variable {X : Cx} {pos : Pos}
theorem op_pin (hu : X.A.units + 16 < cLine) : OpR X (compareOp .In) (rPIn X.prog X.w false) := by
  intro pins s σ H x y v u Q I rx ry h
  obtain ⟨t, k, a, kvs, rfl, rfl, p, d, q⟩ := h
  cases rx
  cases ry
  exact pd_in hu I d p fun s' I' => ⟨.bl (valV kvs k).isSome, H, I', rfl, q⟩
theorem op_pnotin (hu : X.A.units + 16 < cLine) : OpR X (compareOp .NotIn) (rPIn X.prog X.w true) := by
  intro pins s σ H x y v u Q I rx ry h
  obtain ⟨t, k, a, kvs, rfl, rfl, p, d, q⟩ := h
  cases rx
  cases ry
  exact pd_notIn hu I d p fun s' I' => ⟨.bl (!(valV kvs k).isSome), H, I', rfl, q⟩
theorem ix_pd (hu : X.A.units + 16 < cLine) : IxR X (rPIx X.prog X.w) := by
  intro value slice pins s σ H x y v u Q I rx ry h hs
  obtain ⟨a, t, k, kvs, r, rfl, rfl, p, d, l, q⟩ := h
  cases rx
  cases ry
  obtain ⟨_, _, xs, _, dd⟩ := pd_of I.hok d
  exact tail_any dd.typeIs PySem.F.slot_dict_getitem.lookup (pd_getItem hu I d p l fun w' s' I' rw' => ⟨r, H, I', rw', q⟩) hs
theorem set_pd (hu : X.A.units + 16 < cLine) : PSet X (rPSet X.prog X.w) := by
  intro pins s σ H o i v ov iv u Q I ro ri rv h
  obtain ⟨a, t, k, kvs, rfl, rfl, p, d, hl, q⟩ := h
  cases ro
  cases ri
  exact pd_setItem hu I d p hl rv fun s' H' I' d' hb => ⟨H', I', q H' d' hb⟩
theorem pe_pnew : PE X (.Dict [] [] pos) (tPNew X.prog X.w) := ⟨fun pins s σ H Q I h => by
  have hb := I.big
  have nh := I.hok.fresh (Nat.le_refl s.heap.objs.size)
  have dd : (s.heap.push { cls := .type "dict", data := .dict #[] }).DictOfH (nestedKind X.prog X.w) s.heap.objs.size [] := Heap.DictOfH.new s.heap
  refine wpAny_Dict_empty ⟨.ref s.heap.objs.size, upd H s.heap.objs.size (.ext (pdB X.prog X.w s.heap.objs.size [])), I.laid (a := s.heap.objs.size) (t' := s.toks) (fun _ _ q => Heap.get?_push_of_some _ q) (Nat.le_refl _) (pdB_ok dd), rfl, ?_⟩
  exact h _ _ nh ⟨Nat.zero_le _, beq_eq_false_iff_ne.mpr (Ne.symm (Nat.ne_of_lt hb)), [], upd_same, .nil⟩ fun b hb => upd_ne hb⟩
theorem pairs_len {α β : Type} {R : α → β → Prop} {l : List α} {m : List β} (r : Paired R l m) : l.length = m.length := Paired.length r
theorem paired_at {α β : Type} {R : α → β → Prop} : ∀ {l : List α} {m : List β}, Paired R l m → ∀ (i : Nat) (x : α), l[i]? = some x → ∃ y, m[i]? = some y ∧ R x y
  | _, _, .nil, i, x, h => by simp at h
  | _, _, .cons r t, 0, x, h => by simp at h; subst h; exact ⟨_, rfl, r⟩
  | _, _, .cons r t, i + 1, x, h => by
    obtain ⟨y, h1, h2⟩ := paired_at t i x (by simpa using h)
    exact ⟨y, by simpa using h1, h2⟩
theorem putAll_len : ∀ (ks : List PKey) (kvs : List (PKey × V)), (ks.foldl (fun acc k => putK acc k (.bl true)) kvs).length ≤ kvs.length + ks.length
  | [], kvs => by simp
  | k :: ks, kvs => by
    have h1 := putAll_len ks (putK kvs k (.bl true))
    have h2 := length_putK kvs k (.bl true)
    show (ks.foldl _ (putK kvs k (.bl true))).length ≤ _
    rw [List.length_cons]; omega
theorem call_pdict (hc : X.calm = true) (hu : X.A.units + 16 < cLine) : CallR X (.type "dict") (rPDict X.K X.prog X.w) := by
  intro pins s σ H xs us Q I r q
  obtain ⟨a, qs, ks, ex, hq, hp, q⟩ := q
  subst ex
  obtain ⟨u, eu, rx⟩ := vals1 r
  subst eu
  cases rx
  obtain ⟨its, rv, pl, hz⟩ := I.list hq
  have ei := refs_at rv
  subst ei
  rw [List.length_map] at hz
  -- the keys' tuples
  obtain ⟨ts, rel⟩ : ∃ ts : List (NestedKey × Addr × Value), Paired (fun (k : PKey) (z : NestedKey × Addr × Value) => z.1 = nk k ∧ PosAt H z.2.1 k ∧ z.2.2 = Value.bool true) ks ts ∧ Paired (fun (p : Addr) (z : NestedKey × Addr × Value) => H p = some (.tup [.ref z.2.1, .bl true])) qs ts := by
    clear q rv pl hz hq
    induction hp with
    | nil => exact ⟨[], .nil, .nil⟩
    | @cons p k ps ks hk t ih =>
      obtain ⟨ts, h1, h2⟩ := ih
      obtain ⟨t0, e1, e2⟩ := hk
      exact ⟨(nk k, t0, .bool true) :: ts, .cons ⟨rfl, e2, rfl⟩ h1, .cons e1 h2⟩
  obtain ⟨rel, rel2⟩ := rel
  have hlen : qs.length = ts.length := pairs_len rel2
  let ps : List (Value × Value) := ts.map fun z => (Value.ref z.2.1, z.2.2)
  let Ts : Nat → Addr := fun j => qs.getD j 0
  have psl : ps.length = qs.length := by rw [List.length_map, hlen]
  have key : ∀ x ∈ ts, (nestedKind X.prog X.w).is s.heap x.1 x.2.1 := by
    clear q rel2 hlen
    intro x hx
    have all : ∀ {l : List PKey} {m : List (NestedKey × Addr × Value)}, Paired (fun (k : PKey) (z : NestedKey × Addr × Value) => z.1 = nk k ∧ PosAt H z.2.1 k ∧ z.2.2 = Value.bool true) l m → ∀ x ∈ m, (nestedKind X.prog X.w).is s.heap x.1 x.2.1 := by
      intro l m q
      induction q with
      | nil => intro x hx; exact nomatch hx
      | @cons p q ps qs hq t ih =>
        intro x hx
        rcases List.mem_cons.mp hx with e | hx
        · subst e; rw [hq.1]; exact pos_key I.hok hq.2.1
        · exact ih x hx
    exact all rel x hx
  obtain ⟨o, n, ho, hcl, hd, hdat⟩ := pl
  have items : PairItems s.heap (qs.map Value.ref).toArray Ts ps := by
    refine ⟨by rw [psl]; simp, fun j kk v hj => ?_⟩
    have hj' : ts[j]?.map (fun z => (Value.ref z.2.1, z.2.2)) = some (kk, v) := by rw [← List.getElem?_map]; exact hj
    obtain ⟨z, hz1, hz2⟩ := Option.map_eq_some_iff.mp hj'
    have hjq : j < qs.length := by rw [hlen]; exact (List.getElem?_eq_some_iff.mp hz1).1
    obtain ⟨z', hz', hH⟩ := paired_at rel2 j qs[j] (List.getElem?_eq_getElem hjq)
    rw [hz1] at hz'
    cases hz'
    have eT : Ts j = qs[j] := by show qs.getD j 0 = qs[j]; simp [List.getD_eq_getElem?_getD, hjq]
    refine ⟨by rw [eT]; simp [hjq], ?_⟩
    rw [eT]
    obtain ⟨_, its, rvp, o', p1, p2, n2, p3⟩ := (show ObjOk X.prog X.w H s.heap qs[j] (.tup [.ref z.2.1, .bl true]) from I.hok _ _ hH)
    have e3 : z.2.2 = Value.bool true := by
      have : ∀ {l : List PKey} {m : List (NestedKey × Addr × Value)}, Paired (fun (k : PKey) (z : NestedKey × Addr × Value) => z.1 = nk k ∧ PosAt H z.2.1 k ∧ z.2.2 = Value.bool true) l m → ∀ x ∈ m, x.2.2 = Value.bool true := by
        intro l m q
        induction q with
        | nil => intro x hx; exact nomatch hx
        | @cons p q ps qs hq t ih =>
          intro x hx
          rcases List.mem_cons.mp hx with e | hx
          · subst e; exact hq.2.2
          · exact ih x hx
      exact this rel z (List.mem_of_getElem? hz1)
    cases hz2
    rw [e3]
    left
    cases rvp with
    | cons a1 t1 =>
      cases t1 with
      | cons a2 t2 =>
        cases t2
        cases a1
        cases a2
        exact ⟨o', p1, p2, n2, by simpa using p3⟩
  refine call_dict_pairsH (knd := nestedKind X.prog X.w) (ps := ts) (PairArg.list (prog := X.prog) (w := X.w) a (qs.map Value.ref).toArray Ts ps) (I.ok.hd hc) (show X.A.units + 1 + 1 + 8 < cLine by omega) ⟨⟨o, n, ho, hcl, hd, hdat⟩, items⟩ ⟨by rw [psl, hlen], fun i kk v hj => ?_⟩ (fun h' hk x hx => ?_) (by rw [psl]; exact hz) fun h' tk hd' hk => ?_
  · have hj' : ts[i]?.map (fun z => (Value.ref z.2.1, z.2.2)) = some (kk, v) := by rw [← List.getElem?_map]; exact hj
    obtain ⟨z, hz1, hz2⟩ := Option.map_eq_some_iff.mp hj'
    cases hz2
    exact ⟨z.1, z.2.1, hz1, rfl⟩
  · refine nestedKind_stays.stays (fun b o vs m e _ => hk b o (Nat.ne_of_lt (Heap.lt_size e)) (fun z => nomatch z) e) (key x hx)
  · have hm : (s.heap.objs.size == sysModules) = false := beq_eq_false_iff_ne.mpr (Nat.ne_of_gt I.big)
    have nh := I.hok.fresh (Nat.le_refl s.heap.objs.size)
    have hk' : ∀ b o, s.heap.get? b = some o → h'.get? b = some o := fun b o e => hk b o (fun z => nomatch z) e
    have tkp : Tups H (upd H s.heap.objs.size (.ext (pdB X.prog X.w s.heap.objs.size (storedAllH [] ts)))) := fun c ys ec => by
      rw [upd_ne (ne_of_none ec nh)]; exact ec
    have lk : ks.length ≤ sizeLine := by rw [pairs_len rel, ← hlen]; exact hz
    refine ⟨.ref s.heap.objs.size, upd H s.heap.objs.size (.ext (pdB X.prog X.w s.heap.objs.size (storedAllH [] ts))), I.laid (t' := tk) hk' (Nat.le_refl _) (pdB_ok hd'), rfl, q _ _ nh ⟨?_, hm, _, upd_same, Paired.mapP (PRel.putAll rel .nil) fun _ _ q => ⟨q.1, q.2.1.keep tkp, q.2.2⟩⟩ fun b hb => upd_ne hb⟩
    have := putAll_len ks []
    simp at this
    omega
end
end SPR
end

section
set_option Elab.async false
set_option linter.all false
set_option maxRecDepth 100000
set_option maxHeartbeats 4000000
/-! Own rules: (v,) * k for small k; an item of a written dict with whole numbers for keys -/
namespace SPR
open PySem PySem.Spec PyProof.Rows L2

/-! ### (v,) * k -/
theorem tmul_one (l : Addr) (items : Array Value) (n : Nat) (dd : Option Addr) (sl : Array (Option Value)) (u : Tok) :
    Meets (Builtin.«tuple.__mul__» ⟨[.ref l, .int 1 u], []⟩) (fun _ R s => s.heap.get? l = some { cls := .type "tuple", dict := dd, data := .seq items n, slots := sl } ∧ R (.ok (.ret (.ref l))) s) :=
  .of_wp fun prog w A R s h => by
    obtain ⟨hp, g, d, tk, os⟩ := s
    obtain ⟨hl, h⟩ := h
    have f1 := AutoSeq1.idx_int
    have c0 : (decide ((1 : Int) < -(2 ^ 63)) || decide ((1 : Int) ≥ 2 ^ 63)) = false := by decide
    have c1 : (items.isEmpty || (1 : Int) == 1) = true := by simp
    wp_walk using wpAny_loadPart' hl
    repeat (first
      | (refine wpAny_ite_false (decide_eq_false (by rw [c0]; exact Bool.false_ne_true)) ?_; wp_walk using wpAny_loadPart' hl)
      | (refine wpAny_ite_true (decide_eq_true c1) ?_; wp_walk using wpAny_loadPart' hl))
    exact ⟨_, rfl, h⟩
theorem tmul_none (l : Addr) (items : Array Value) (n : Nat) (dd : Option Addr) (sl : Array (Option Value)) (u : Tok) (hi : items.isEmpty = false) :
    Meets (Builtin.«tuple.__mul__» ⟨[.ref l, .int 0 u], []⟩) (fun _ R s => s.heap.get? l = some { cls := .type "tuple", dict := dd, data := .seq items n, slots := sl } ∧
      R (.ok (.ret (Value.ref s.heap.objs.size))) { s with heap := s.heap.push { cls := Value.type "tuple", data := Data.seq #[] } }) :=
  .of_wp fun prog w A R s h => by
    obtain ⟨hp, g, d, tk, os⟩ := s
    obtain ⟨hl, h⟩ := h
    have f1 := AutoSeq1.idx_int
    have c0 : (decide ((0 : Int) < -(2 ^ 63)) || decide ((0 : Int) ≥ 2 ^ 63)) = false := by decide
    have c1 : (items.isEmpty || (0 : Int) == 1) = false := by rw [hi]; rfl
    have c2 : (decide ((0 : Int) ≤ 0) || items.isEmpty) = true := by simp
    wp_walk using wpAny_loadPart' hl
    repeat (first
      | (refine wpAny_ite_false (decide_eq_false (by rw [c0]; exact Bool.false_ne_true)) ?_; wp_walk using wpAny_loadPart' hl)
      | (refine wpAny_ite_false (decide_eq_false (by rw [c1]; exact Bool.false_ne_true)) ?_; wp_walk using wpAny_loadPart' hl)
      | (refine wpAny_ite_true (decide_eq_true c2) ?_; wp_walk using wpAny_loadPart' hl))
    exact ⟨_, rfl, h⟩
/-- a tuple of one item, times k: itself, an empty one, or a new one -/
def rRepT1 (K : PySem.W.Frag) : R2 := fun x y H Q => ∃ l k v, x = .ref l ∧ y = .int k ∧ H l = some (.tup [v]) ∧ 0 ≤ k ∧ k ≤ 1000 ∧ ∀ p H', H' p = some (.tup (List.replicate k.toNat v)) → Same H H' → Q (.ref p) H'
theorem rep_flat (v : V) : ∀ n, (List.replicate n [v]).flatten = List.replicate n v
  | 0 => rfl
  | n + 1 => by rw [List.replicate_succ, List.flatten_cons, rep_flat v n]; rfl
theorem same_at {H : Hp} {p : Addr} (o : HO) (h : H p = none) : Same H (upd H p o) := fun b x e => by
  rw [upd_ne (ne_of_none e h)]
  exact e
section
variable {X : Cx}
theorem op_repT1 : OpR X (binaryOp .Mult) (rRepT1 X.K) := by
  intro pins s σ H x y v u Q I rx ry h
  obtain ⟨l, k, z, rfl, rfl, hT, h0, h1, q⟩ := h
  by_cases hk2 : 2 ≤ k
  · refine op_repT pins s σ H (.ref l) (.int k) v u Q I rx ry ⟨l, k, [z], rfl, rfl, .inl (.inl hT), (by simp), hk2, h1, (by simp), fun p hp => q p _ ?_ (same_at _ hp)⟩
    rw [upd_same, rep_flat]
  · cases rx
    obtain ⟨t, rfl⟩ := ry
    have hS : SqT X.K H l [z] := .inl (.inl hT)
    obtain ⟨its, r, ⟨⟨cls, dd, data, sl⟩, ho, hc, n, hd⟩, hs⟩ := I.tuple hS
    simp only at hc hd
    subst hc hd
    have hle : its.length = 1 := r.length.symm
    have hi : its.toArray.isEmpty = false := by
      cases its with
      | nil => cases hle
      | cons a b => rfl
    by_cases e1 : k = 1
    · subst e1
      refine wpAny_binaryOp_repeat_ref (T := "tuple") (U := "int") (by decide) ⟨_, ho, rfl⟩ (fun s' => typeIs_int s' 1 t) noFill_tuple_mul F.fills_int_mul F.slot_int_rmul repeat_tuple F.slot_int_index.lookup
        (call_meets F.slot_int_rmul (typeIs_int s 1 t) F.entry_int_rmul (F.args_int_rmul_2 _ _) (int_rmul_tuple 1 t l its.toArray n dd sl)
          ⟨ho, rfl, ⟨_, ho, rfl⟩, call_meets F.slot_tuple_mul ⟨_, ho, rfl⟩ F.entry_tuple_mul (F.args_tuple_mul_2 _ _) (tmul_one l its.toArray n dd sl t) ⟨ho, ?_⟩⟩)
      exact ⟨.ref l, H, I, rfl, q l H hT (Same.refl H)⟩
    · have e0 : k = 0 := by omega
      subst e0
      refine wpAny_binaryOp_repeat_ref (T := "tuple") (U := "int") (by decide) ⟨_, ho, rfl⟩ (fun s' => typeIs_int s' 0 t) noFill_tuple_mul F.fills_int_mul F.slot_int_rmul repeat_tuple F.slot_int_index.lookup
        (call_meets F.slot_int_rmul (typeIs_int s 0 t) F.entry_int_rmul (F.args_int_rmul_2 _ _) (int_rmul_tuple 0 t l its.toArray n dd sl)
          ⟨ho, rfl, ⟨_, ho, rfl⟩, call_meets F.slot_tuple_mul ⟨_, ho, rfl⟩ F.entry_tuple_mul (F.args_tuple_mul_2 _ _) (tmul_none l its.toArray n dd sl t hi) ⟨ho, ?_⟩⟩)
      have nh := I.hok.fresh (Nat.le_refl s.heap.objs.size)
      have new : ObjOk X.prog X.w (upd H s.heap.objs.size (.tup [])) (s.heap.push { cls := Value.type "tuple", data := Data.seq #[] }) s.heap.objs.size (.tup []) :=
        ⟨Nat.zero_le _, [], .nil, ⟨_, Heap.get?_push_size _ rfl, rfl, _, rfl⟩⟩
      exact ⟨.ref s.heap.objs.size, _, I.laid (t' := s.toks) (o := .tup []) (fun b ob z => Heap.get?_push_of_some _ z) (Nat.le_refl _) new, rfl, q _ _ upd_same (same_at _ nh)⟩
end

/-! ### a written dict whose keys are whole numbers -/
def ShAt (K : PySem.W.Frag) (a : Addr) (i : Int) (u : Value) : Prop :=
  ∃ es n, K.lookup a = some ⟨.type "dict", none, .dict es n, #[]⟩ ∧ (∀ e ∈ es.toList, ∃ j t, e.key = .int j t ∧ e.hash = hashInt j) ∧ findBy Value.isInt es i = some u
def rShp (K : PySem.W.Frag) : R2 := fun x y H Q => ∃ a i u v, x = .ref a ∧ y = .int i ∧ ShAt K a i u ∧ RelV v u ∧ Q v H
section
variable {X : Cx}
theorem ix_shp : IxR X (rShp X.K) := by
  intro value slice pins s σ H x y v u Q I rx ry h hs
  obtain ⟨a, i, u0, v0, rfl, rfl, ⟨es, n, hl, hk, e⟩, rv, q⟩ := h
  cases rx
  obtain ⟨t, rfl⟩ := ry
  have hm : s.heap.MapOf (intKind X.prog X.w) a (fun k => findBy Value.isInt es k) :=
    ⟨_, es, n, I.kIn _ _ hl, ⟨rfl, rfl, rfl⟩, rfl, fun e he => by
      obtain ⟨x, t, e1, e2⟩ := hk e (Array.mem_toList_iff.mpr he)
      exact ⟨x, by rw [e1]; exact intKind_is X.prog X.w x t, e2⟩, fun _ => rfl⟩
  exact tail_any hm.typeIs slot_dict_getitem.lookup (wpAny_getItem_of (intKind_is X.prog X.w i t) hm e ⟨v0, H, I.tok _, rv, q⟩) hs
end

/-! ### OperationError(code): an own class over Exception whose __init__ says Exception.__init__(self, code); self.code = code -/
structure OexE (K : PySem.W.Frag) (C : Addr) : Prop where
  cls : ∃ nm q N bs sn sub ab col dd k0 k1 k2 k3 k5, K.lookup C = some (excClassObj nm q C N bs PySem.ESX.exTail true sn sub ab col dd k0 k1 k2 k3 k5 "Exception.__new__")
  sa : PySem.W.findIn K (.ref C) "__setattr__" = some (some (.builtin "object.__setattr__"))
  exC : PySem.W.subIn K (.ref C) (.type "BaseException") = some true
  tyC : PySem.W.typeIn K (.ref C) = some (.type "type")
  kC : PySem.W.keepIn K (.ref C) = true
theorem tail_same (X : String) : PySem.ESX.exTail.contains (.type X) = ([.type "Exception", .type "BaseException", .type "object"] : List Value).contains (.type X) := rfl
section
variable {X : Cx} {pins : List (Addr × Obj)} {σ : Stt} {H : Hp} {s : Shared} {a C : Addr} {f : Str} {y : V} {u : Value} {Q : Unit → Shared → Prop} {E : Value → Shared → Prop} {A : Around}
theorem exset_new (T : OexE X.K C) (I : Inv X pins σ H s) (e : H a = some (exo a C none)) (hno : PySem.W.findIn X.K (.ref C) f = some none) (ry : RelV y u)
    (h : ∀ dx s', H dx = none → dx ≠ a → Inv X pins σ (upd (upd H dx (exd dx [(f, y)])) a (exo a C (some dx))) s' → Q () s') : wpAny (model X.prog X.w) A (setAttr (.ref a) f u) Q E s := by
  obtain ⟨nm, q, N, bs, sn, sub, ab, col, dd, k0, k1, k2, k3, k5, hC⟩ := T.cls
  have hcl : PySem.W.clsIn X.K C = some { name := nm, bases := bs, mro := .ref C :: PySem.ESX.exTail, ns := N, qualname := q, hasDict := true, slotNames := sn, subclasses := sub, abstract := ab, collection := col, hasDel := false } := by
    unfold PySem.W.clsIn
    rw [hC] <;> rfl
  obtain ⟨t1, ho⟩ := exo_at I.hok e
  obtain ⟨hp, g, d, t, os⟩ := s
  refine PySem.W.set_plain I.kIn (ox := { cls := .ref C, dict := none, data := .fields #[.ref t1, .none, .none, .none, .bool false, .none] }) (od := none) ⟨ho, rfl, rfl, trivial⟩ T.sa ?_
  refine PySem.ESX.osa_new I.kIn ho hcl rfl rfl hno fun h' tk' dx k dn dne hx hn => ?_
  have hnd : H dx = none := I.hok.fresh dn
  have nd : ∀ {b : Addr} {o : Obj}, hp.get? b = some o → b ≠ dx := fun {b o} z => Nat.ne_of_lt (Nat.lt_of_lt_of_le (Heap.lt_size z) dn)
  have na : ∀ {b : Addr}, H b = none → b ≠ a := fun {b} n z => by
    rw [z, e] at n
    cases n
  have U : Un X.fs [] H (upd (upd H dx (exd dx [(f, y)])) a (exo a C (some dx))) hp h' :=
    ⟨fun b o z n _ _ => k b o (na n) z, fun b o z n _ _ => ⟨o.slots, k b o (na n) z⟩,
      fun b o z n _ => by rw [upd_ne (na n), upd_ne (nd z)]; exact n,
      fun b o z _ => by
        by_cases hb : b = a
        · exact ⟨_, hb.symm ▸ hx⟩
        · exact ⟨o, k b o hb z⟩,
      fun b xs z => by rw [upd_ne (at_ne e z exo_tup), upd_ne (ne_of_none z hnd)]; exact z,
      fun b o v z => by rw [upd_ne (at_ne e z exo_frz), upd_ne (ne_of_none z hnd)]; exact z,
      fun b ps z => ⟨#[], by rw [upd_ne (at_ne e z exo_tbl), upd_ne (ne_of_none z hnd), z]; simp⟩⟩
  refine h dx _ hnd dne (I.un (t' := tk') U fun b o z => ?_)
  by_cases hb : b = a
  · subst hb
    rw [upd_same] at z
    cases z
    exact exo_ok hx
  · rw [upd_ne hb] at z
    by_cases hd : b = dx
    · subst hd
      rw [upd_same] at z
      cases z
      exact exd_ok hn (relO_put (fs := []) ry fun g => True.intro)
    · rw [upd_ne hd] at z
      refine (I.hok b o z).stay (fun c v hc w' => k c v ?_ w') (fun c hc => ?_) fun c xs hc => ?_
      · rcases hc with hc | hc
        · rw [hc]; exact hb
        · exact at_ne e hc exo_own
      · rw [upd_ne (at_ne e hc exo_own), upd_ne (ne_of_none hc hnd)]; exact hc
      · rw [upd_ne (at_ne e hc exo_tup), upd_ne (ne_of_none hc hnd)]; exact hc
theorem exinit_ok {us : List Value} {Q : Value → Shared → Prop} (T : OexE X.K C) (I : Inv X pins σ H s) (e : H a = some (exo a C none)) (hl : us.length ≤ sizeLine) (h : ∀ s', Inv X pins σ H s' → Q .none s') :
    wpAny (model X.prog X.w) A (call (.builtin "Exception.__init__") (.ref a :: us)) Q E s := by
  obtain ⟨nm, q, N, bs, sn, sub, ab, col, dd, k0, k1, k2, k3, k5, hC⟩ := T.cls
  obtain ⟨t1, ho⟩ := exo_at I.hok e
  obtain ⟨hp, g, d, t, os⟩ := s
  refine wpAny_call (PySem.HandSPX.init_base F.excBase_Exception tail_same (I.kIn _ _ hC) ho hl fun h' t2 k hx => ?_)
  have J := I.write (t' := t) (x := a) (e := a) (o := exo a C none) (by rw [e]; exact True.intro) (.inl rfl) k ⟨_, hx⟩ (exo_ok hx)
  have eu : upd H a (exo a C none) = H := funext fun b => (Decidable.em (b = a)).elim (fun hb => by rw [hb, upd_same, e]) fun hb => upd_ne hb
  rw [eu] at J
  exact h _ J
end
/-- Exception.__init__(self, ..) -/
def tExI (K : PySem.W.Frag) (ta : TA) : TE := fun σ H Q => ta σ H fun vs H1 => ∃ (a C : Addr) (ws : List V), vs = .ref a :: ws ∧ ws.length ≤ 1000 ∧ OexE K C ∧ H1 a = some (exo a C none) ∧ Q .non H1
/-- self.f = e, on an exception without a dict -/
def tExS (K : PySem.W.Frag) (f : Str) (to te : TE) : TS := fun D σ H => te σ H fun y H1 => to σ H1 fun x H2 => ∃ a C : Addr, x = .ref a ∧ OexE K C ∧ PySem.W.findIn K (.ref C) f = some none ∧
  H2 a = some (exo a C none) ∧ ∀ dx, H2 dx = none → dx ≠ a → D.nx σ (upd (upd H2 dx (exd dx [(f, y)])) a (exo a C (some dx)))
theorem typ_Ex : typeOf (.type "Exception") = pure (.type "type") := by kernel_rfl
section
variable {X : Cx} {o e : Expr} {es : List Expr} {to te : TE} {ta : TA} {f : Str} {p p' p1 p2 pos : Pos}
theorem pe_exinit {pl : Sem Bool} (hg : Gl X "Exception") (hm : X.mg "Exception" = none) (vV : PySem.W.findCls X.K (.type "Exception") (.type "type") "__init__" = some (.val (.builtin "Exception.__init__"))) (ha : PA X (e :: es) ta)
    (hc : eval (.Call (.Attribute (.Name "Exception" p1) "__init__" p2) (e :: es) [] pos) X.env = (do
      let ov ← eval (.Name "Exception" p1) X.env
      standAt p2.atName
      let (f, first) ← holding [ov] (getMethod ov "__init__" pl)
      callWith pos f first (backTo pos (starEach (e :: es) X.env)) (backToKw pos (keywordEach [] X.env))) := by rfl)
    (he : starEach (e :: es) X.env = (false, eval e X.env) :: starEach es X.env := by rfl) (hpl : (backTo pos (starEach es X.env)).any (·.1) = false := by rfl) :
    PE X (.Call (.Attribute (.Name "Exception" p1) "__init__" p2) (e :: es) [] pos) (tExI X.K ta) := by
  refine ⟨fun pins s σ H Q I h => ?_⟩
  refine PySem.W.methodCall_KW (ld_blt I hg hm PyProof.Rows.Boot.«Exception» ?_ (by decide) (by decide)) hc
  obtain ⟨m, fr⟩ := I.fr
  refine PySem.W.method_type fr I.ok.mod.kin typ_Ex (by decide +kernel) vV (by decide +kernel) ?_
  show wpAny _ _ (callWith pos (Value.builtin "Exception.__init__") [] (backTo pos (starEach (e :: es) X.env)) []) _ _ _
  refine PyProof.Rows.callWith_method1 (thn (ha.run pos pins _ σ H _ (I.tok _) h) fun us s1 ⟨vs, H1, I1, r1, a, C, ws, ev, hl, T, ea, q⟩ => ?_) he hpl
  subst ev
  cases r1 with
  | @cons _ u0 _ ur ra rw' =>
    obtain rfl : u0 = Value.ref a := ra
    have hlen : ur.length ≤ sizeLine := by
      rw [← Paired.length rw', sizeLine_eq]
      omega
    exact exinit_ok T I1 ea hlen fun s' J => ⟨.non, H1, J, rfl, q⟩
theorem ps_exset (ho : PE X o to) (he : PE X e te) (hs : swapsWith e (some (.Attribute o f p')) pos.line X.env = pure false := by rfl) : PS X (.Assign [.Attribute o f p'] e pos) (tExS X.K f to te) := by
  refine ⟨fun pins s σ H D I h => ?_⟩
  refine plainObj_wpAny_Assign_Attribute (thn (he.run pins s σ H _ I h) fun v s1 ⟨y, H1, I1, r1, q1⟩ => thn (ho.run pins s1 σ H1 _ I1 q1) fun u s2 ⟨x, H2, I2, r2, a, C, ex, T, hno, ea, q⟩ => ?_) hs
  subst ex
  obtain rfl : u = Value.ref a := r2
  exact exset_new T I2 ea hno r1 fun dx s' n ne J => ⟨σ, _, J, q dx n ne⟩
/-- C(e, ..), an exception of such a class -/
theorem pmk_exE {CX : CXT} {x : Str} {C fI : Addr} {k : Nat} {fd : FuncData} {ps : List Str} {sp : Sp} (T : OexE X.K C) (iC : PySem.W.findIn X.K (.ref C) "__init__" = some (some (.ref fI))) (tI : PySem.W.typeIn X.K (.ref fI) = some (.type "function"))
    (F1 : FnOk X.prog X.w X.K X.mg X.base CX k fI fd ps sp) (hr : Room (k + 1) X.A) (hb : Binds X.K fd ps []) (hx : Passes CX X (fun _ _ _ => False)) (hg : Gl X x) (hm : X.mg x = some (.ref C)) (ha : PA X (e :: es) ta)
    (hdb : (x == ("__debug__" : Str)) = false := by decide) (he : starEach (e :: es) X.env = (false, eval e X.env) :: starEach es X.env := by rfl) (hpl : (backTo pos (starEach es X.env)).any (·.1) = false := by rfl) :
    PMk X (.Call (.Name x p) (e :: es) [] pos) (tMkO C sp [] ta) := by
  intro pins s σ H Q I h
  obtain ⟨nm, q, N, bs, sn, sub, ab, col, dd, k0, k1, k2, k3, k5, hC⟩ := T.cls
  refine wpAny_Call_Name_kw (ld_glob I hg hm ?_ hdb)
  refine PySem.W.callWith_K (h₀ := X.base) I.ok.mod.kin T.kC (thn (ha.run pos pins s σ H _ I h) fun us s1 ⟨vs, H1, I1, r1, hz, q1⟩ => ⟨I1.kIn, ?_⟩) he hpl
  show wpAny _ _ (call (.ref C) us) _ _ _
  obtain ⟨hp, g, dr, tk, os⟩ := s1
  have hsz : hp.objs.size ≤ hp.objs.size + 1 := Nat.le_succ _
  have hn : H1 (hp.objs.size + 1) = none := I1.hok.fresh hsz
  have hq := q1 (hp.objs.size + 1) hn
  rw [List.append_nil] at hq
  have kk : ∀ b o, hp.get? b = some o → ((hp.push (PySem.W.kdv_tup us)).push (PySem.HandSPX.excO C hp.objs.size)).get? b = some o := fun b o z => Heap.get?_push_of_some _ (Heap.get?_push_of_some _ z)
  have hget : ((hp.push (PySem.W.kdv_tup us)).push (PySem.HandSPX.excO C hp.objs.size)).get? (hp.objs.size + 1) = some (PySem.HandSPX.excO C hp.objs.size) := by heap_get
  have I2 : Inv X pins σ (upd H1 (hp.objs.size + 1) (exo (hp.objs.size + 1) C none)) ⟨(hp.push (PySem.W.kdv_tup us)).push (PySem.HandSPX.excO C hp.objs.size), g, dr, tk, os⟩ :=
    I1.laid (t' := tk) (a := hp.objs.size + 1) (o := exo (hp.objs.size + 1) C none) (h' := (hp.push (PySem.W.kdv_tup us)).push (PySem.HandSPX.excO C hp.objs.size)) kk hsz (exo_ok hget)
  have r2 : Vals (V.ref (hp.objs.size + 1) :: vs) (Value.ref (hp.objs.size + 1) :: us) := .cons rfl r1
  have hl : (Value.ref (hp.objs.size + 1) :: us).length = ps.length := by
    have z := r2.length
    rw [F1.len _ _ _ _ hq] at z
    exact z.symm
  have hus : us.length ≤ sizeLine := by
    rw [← Paired.length r1, sizeLine_eq]
    omega
  have hbb := hb ⟨(hp.push (PySem.W.kdv_tup us)).push (PySem.HandSPX.excO C hp.objs.size), g, dr, tk, os⟩ (Value.ref (hp.objs.size + 1) :: us) I2.kIn (by rw [List.append_nil]; exact hl)
  rw [List.append_nil] at hbb
  refine wpAny_call (PySem.HandSPX.call_own F.excBase_Exception tail_same (I1.kIn _ _ hC) (PySem.W.looks_findIn I1.kIn iC) (fun self => PySem.W.bind_fn I1.kIn self tI) hus
    (codeAny_mono (F1.run _ X.stack _ _ ⟨Value.ref (hp.objs.size + 1) :: us, []⟩ (Value.ref (hp.objs.size + 1) :: us) _ _ (fun _ _ _ => False) (hr.make C us []) (I2.env0.make C us []) hbb r2 hq) fun r s' hq' => ?_))
  cases r with
  | error er => exact hx pins σ _ _ er s' I2 hq'
  | ok fl =>
    cases fl with
    | ret u =>
      obtain ⟨v, H2, os2, bare2, un2, hok2, rv, ev, d, fs, ea, ed, hd1, q2⟩ := hq'
      subst ev
      obtain ⟨h2, g2, d2, t2, os'⟩ := s'
      exact ⟨rv, mk_end (raises_own T.exC T.tyC) I1 hsz kk un2 hok2 os2 bare2 ea ed hd1 q2⟩
    | next => exact False.elim hq'
    | brk => exact False.elim hq'
    | cont => exact False.elim hq'
end
end SPR
end

section
set_option Elab.async false
set_option linter.all false
set_option maxRecDepth 100000
set_option maxHeartbeats 4000000
/-! The text by places; bundles of defs, methods, classes; what the top has written -/
namespace SP
open PySem PySem.Spec PyProof.Rows L2 SPR
/-- the i-th statement of the program's top -/
def top (i : Nat) : Stmt := PySem.Challenge.pw_smallplans_s01_answers.main.body.getD i (.Pass ⟨0, 0, 0, 0⟩)

section
variable (P : Program) (w : World) (K : PySem.W.Frag) (mg : Str → Option Value) (base : Heap) (CX : CXT) (k : Nat)
/-- a method m of the class at C keeps the promise sp -/
def MetX (C : Addr) (m : Str) (sp : Sp) : Prop := ∃ f fd ps, Meth K C m f ∧ FnOk P w K mg base CX k f fd ps sp ∧ Binds K fd ps []
/-- a def x of the module keeps the promise sp -/
def FunX (x : Str) (sp : Sp) : Prop := ∃ f fd ps, mg x = some (.ref f) ∧ PySem.W.keepIn K (.ref f) = true ∧ FnOk P w K mg base CX k f fd ps sp ∧ Binds K fd ps []
/-- the class x at C makes instances by an __init__ that keeps sp -/
def MakX (x : Str) (C : Addr) (sp : Sp) : Prop := ∃ f fd ps, mg x = some (.ref C) ∧ Mk K C f ∧ FnOk P w K mg base CX k f fd ps sp ∧ Binds K fd ps []
end
theorem no0 {X : Cx} {E : Stt → XK} : ∀ σ, PassesAt CX0 X σ (E σ) := fun _ _ _ _ _ _ _ h => h.elim
/-- a def's call -/
def tF (sp : Sp) (E : Stt → XK) (t : TA) : TE := fun σ H Q => t σ H fun vs H1 => sp vs H1 Q (E σ)
/-- a method's call -/
def tM (C : Addr) (m : Str) (sp : Sp) (E : Stt → XK) (ta : TE) (t : TA) : TE := fun σ H Q => ta σ H fun x H1 => ∃ a dx fs, x = .ref a ∧ H1 a = some (.ins C dx fs) ∧ fs.lookup m = none ∧ t σ H1 fun vs H2 => sp (x :: vs) H2 Q (E σ)
/-- C(..) -/
def tK (C : Addr) (sp : Sp) (t : TA) : TE := fun σ H Q => t σ H fun vs H1 => ∀ x dx, H1 x = none → H1 dx = none → dx ≠ x → sp (.ref x :: vs) (upd (upd H1 dx (.own x)) x (.ins C dx [])) (fun v H2 => v = .non ∧ Q (.ref x) H2) E0
section
variable {X : Cx} {CX : CXT} {j k : Nat} {C : Addr} {x m : Str} {sp : Sp} {E : Stt → XK} {p pos apos : Pos} {o e : Expr} {es : List Expr} {ta : TE} {t : TA}
theorem pe_fx (F : FunX X.prog X.w X.K X.mg X.base CX k x sp) (hr : Room j X.A) (hk : k ≤ j) (hg : Gl X x) (hx : ∀ σ, PassesAt CX X σ (E σ)) (ha : PA X (e :: es) t)
    (hdb : (x == ("__debug__" : Str)) = false := by decide) (he : starEach (e :: es) X.env = (false, eval e X.env) :: starEach es X.env := by rfl) (hpl : (backTo pos (starEach es X.env)).any (·.1) = false := by rfl) :
    PE X (.Call (.Name x p) (e :: es) [] pos) (tF sp E t) := by
  obtain ⟨f, fd, ps, hm, kp, F, hb⟩ := F
  exact pe_callS F (hr.mono hk) hg hm kp hb hx ha hdb he hpl
theorem pe_mx {pl : Sem Bool} (M : MetX X.prog X.w X.K X.mg X.base CX k C m sp) (c : Cls X.K C) (hr : Room j X.A) (hk : k ≤ j) (hx : ∀ σ, PassesAt CX X σ (E σ)) (ho : PE X o ta) (ha : PA X (e :: es) t)
    (hst : starEach (e :: es) X.env = (false, eval e X.env) :: starEach es X.env := by rfl) (hpl : (backTo pos (starEach es X.env)).any (·.1) = false := by rfl)
    (ht : eval (.Call (.Attribute o m apos) (e :: es) [] pos) X.env = (do
      let ov ← eval o X.env
      standAt apos.atName
      let (f, first) ← holding [ov] (getMethod ov m pl)
      callWith pos f first (backTo pos (starEach (e :: es) X.env)) (backToKw pos (keywordEach [] X.env))) := by rfl) :
    PE X (.Call (.Attribute o m apos) (e :: es) [] pos) (tM C m sp E ta t) := by
  obtain ⟨f, fd, ps, hm, F, hb⟩ := M
  refine ⟨fun pins s σ H Q I h => ?_⟩
  refine PySem.W.methodCall_KW (pl := pl) (thn (ho.run pins s σ H _ I h) fun u s1 ⟨x, H1, I1, rx, a, dx, fs, ex, ea, l, q⟩ => ?_) ht
  subst ex
  obtain rfl : u = Value.ref a := rx
  refine getmeth_ok I1 ea c hm l ?_
  refine PySem.W.callWith_K (first := [.ref a]) (h₀ := X.base) I.ok.mod.kin hm.kp (thn (ha.run pos pins s1 σ H1 _ I1 q) fun us s2 ⟨vs, H2, I2, r, q2⟩ => ⟨I2.kIn, ?_⟩) hst hpl
  exact run_fnS (us := .ref a :: us) (vs := .ref a :: vs) F (hr.mono hk) hb (hx σ) I2 (.cons rfl r) q2
theorem pe_mx0 {pl : Sem Bool} (M : MetX X.prog X.w X.K X.mg X.base CX k C m sp) (c : Cls X.K C) (hr : Room j X.A) (hk : k ≤ j) (hx : ∀ σ, PassesAt CX X σ (E σ)) (ho : PE X o ta)
    (ht : eval (.Call (.Attribute o m apos) [] [] pos) X.env = (do
      let ov ← eval o X.env
      standAt apos.atName
      let (f, first) ← holding [ov] (getMethod ov m pl)
      callWith pos f first (backTo pos (starEach [] X.env)) (backToKw pos (keywordEach [] X.env))) := by rfl) :
    PE X (.Call (.Attribute o m apos) [] [] pos) (tM C m sp E ta tNil) := by
  obtain ⟨f, fd, ps, hm, F, hb⟩ := M
  refine ⟨fun pins s σ H Q I h => ?_⟩
  refine PySem.W.methodCall_KW (pl := pl) (thn (ho.run pins s σ H _ I h) fun u s1 ⟨x, H1, I1, rx, a, dx, fs, ex, ea, l, q⟩ => ?_) ht
  subst ex
  obtain rfl : u = Value.ref a := rx
  refine getmeth_ok I1 ea c hm l ?_
  exact PySem.W.callWith_K0 (first := [.ref a]) I1.kIn hm.kp (run_fnS (us := [.ref a]) (vs := [.ref a]) F (hr.mono hk) hb (hx σ) I1 (.cons rfl .nil) q)
theorem pe_mkx (M : MakX X.prog X.w X.K X.mg X.base CX0 k x C sp) (hr : Room j X.A) (hk : k + 1 ≤ j) (hg : Gl X x) (ha : PA X (e :: es) t)
    (hdb : (x == ("__debug__" : Str)) = false := by decide) (he : starEach (e :: es) X.env = (false, eval e X.env) :: starEach es X.env := by rfl) (hpl : (backTo pos (starEach es X.env)).any (·.1) = false := by rfl) :
    PE X (.Call (.Name x p) (e :: es) [] pos) (tK C sp t) := by
  obtain ⟨f, fd, ps, hm, M, F, hb⟩ := M
  refine ⟨fun pins s σ H Q I h => (pe_make M F (hr.mono hk) hg hm hb .nil (pass0 (X := X)) ha hdb he hpl).run pins s σ H Q I ?_⟩
  have hmono : ∀ {Q1 Q2 : List V → Hp → Prop}, (∀ vs H, Q1 vs H → Q2 vs H) → t σ H Q1 → True := fun _ _ => trivial
  show t σ H _
  have e0 : (fun (vs : List V) (H1 : Hp) => ∀ x dx, H1 x = none → H1 dx = none → dx ≠ x → sp (.ref x :: vs) (upd (upd H1 dx (.own x)) x (.ins C dx [])) (fun v H2 => v = .non ∧ Q (.ref x) H2) E0) =
      (fun (vs : List V) (H1 : Hp) => ∀ x dx, H1 x = none → H1 dx = none → dx ≠ x → sp (.ref x :: (vs ++ [])) (upd (upd H1 dx (.own x)) x (.ins C dx [])) (fun v H2 => v = .non ∧ Q (.ref x) H2) E0) := by
    funext vs H1
    rw [List.append_nil]
  rw [← e0]
  exact h
theorem pe_mkx0 (M : MakX X.prog X.w X.K X.mg X.base CX0 k x C sp) (hr : Room j X.A) (hk : k + 1 ≤ j) (hg : Gl X x) (hdb : (x == ("__debug__" : Str)) = false := by decide) : PE X (.Call (.Name x p) [] [] pos) (tK C sp tNil) := by
  obtain ⟨f, fd, ps, hm, M, F, hb⟩ := M
  exact ⟨fun pins s σ H Q I h => (pe_make0 M F (hr.mono hk) hg hm hb .nil (pass0 (X := X)) hdb).run pins s σ H Q I h⟩
theorem pe_k {v : V} (hg : Gl X x) (h : ∃ u, X.mg x = some u ∧ RelV v u) (hdb : (x == ("__debug__" : Str)) = false := by decide) : PE X (.Name x pos) (tC v) := by
  obtain ⟨u, hm, r⟩ := h
  exact pe_glob hg hm r hdb
end
theorem iop_mulX {X : Cx} : OpR X (inplaceOp .Mult) (rI CMulX fun i j => .int (i * j)) := opI fun _ _ _ _ _ _ _ hc q => imul_int q hc.ok

/-- what the top has written -/
structure Txt (K : PySem.W.Frag) (mg : Str → Option Value) (CP CR CE aS : Addr) : Prop where
  clP : Cls K CP
  clR : Cls K CR
  nP : ∀ f ∈ (["events", "deadline", "tasks", "requirements", "own", "won"] : List Str), NoAttr K CP f
  nR : ∀ f ∈ (["plan", "moment", "seen", "has_moved"] : List Str), NoAttr K CR f
  m_len : mg "len" = none
  m_range : mg "range" = none
  m_list : mg "list" = none
  m_tuple : mg "tuple" = none
  m_dict : mg "dict" = none
  m_enumerate : mg "enumerate" = none
  m_sorted : mg "sorted" = none
  m_zip : mg "zip" = none
  m_all : mg "all" = none
  m_Exception : mg "Exception" = none
  cUN : ∃ u, mg "UNSEEN" = some u ∧ RelV (.int (-1)) u
  cME : ∃ u, mg "MOST_ENTRIES" = some u ∧ RelV (.int 600) u
  cMS : ∃ u, mg "MOST_SIZE" = some u ∧ RelV (.int 10000) u
  cSH : ∃ u, mg "SHAPES" = some u ∧ RelV (.ref aS) u
  ex : OexE K CE
  xf : XfC K CE
  nCode : PySem.W.findIn K (.ref CE) "code" = some none
  gE : mg "OperationError" = some (.ref CE)
  exI : PySem.W.findCls K (.type "Exception") (.type "type") "__init__" = some (.val (.builtin "Exception.__init__"))
end SP
end

section
set_option Elab.async false
set_option linter.all false
set_option maxRecDepth 100000
set_option maxHeartbeats 4000000
/-! How a plan lies in the heap; short words for readings -/
namespace SP
open PySem PySem.Spec PyProof.Rows L2 SPR
open SPM (enc ov)
abbrev Pln := VbjpCore.Plan
abbrev Tms := VbjpCore.Times

/-! ### readings in short -/
theorem rd_fld {K : PySem.W.Frag} {σ : Stt} {H : Hp} {Q : VK} {i : Nat} {p C dx : Addr} {fs : List (Str × V)} {f : Str} {v : V} (hs : σ[i]? = some (some (.ref p))) (hp : H p = some (.ins C dx fs)) (c : Cls K C) (n : NoAttr K C f) (l : fs.lookup f = some v) (q : Q v H) : tFld K (tVar i) f σ H Q :=
  ⟨_, hs, p, C, dx, fs, v, rfl, hp, c, n, l, q⟩
theorem eq_bl {x y : V} {b : Bool} (h : decide (x = y) = b) : V.bl (decide (x = y)) = V.bl b := by rw [h]
theorem dec_int (i j : Int) : decide (V.int i = V.int j) = decide (i = j) := by
  by_cases h : i = j
  · subst h; simp
  · rw [decide_eq_false h, decide_eq_false fun z => h (V.int.inj z)]
theorem ints_eq {xs ys : List Int} (h : xs.map V.int = ys.map V.int) : xs = ys := by
  induction xs generalizing ys with
  | nil => cases ys with
    | nil => rfl
    | cons _ _ => simp at h
  | cons x r ih => cases ys with
    | nil => simp at h
    | cons y s =>
      rw [List.map_cons, List.map_cons] at h
      injection h with h1 h2
      injection h1 with h1
      rw [h1, ih h2]
theorem at_int {xs : List Int} {i : Nat} {z : Int} (h : xs[i]? = some z) : (xs.map V.int)[i]? = some (V.int z) := by
  rw [List.getElem?_map, h]; rfl
theorem at_int_of {xs : List Int} {i : Nat} {v : V} (h : (xs.map V.int)[i]? = some v) : ∃ z, xs[i]? = some z ∧ v = V.int z := by
  rw [List.getElem?_map] at h
  cases e : xs[i]? with
  | none => rw [e] at h; cases h
  | some z => rw [e] at h; exact ⟨z, rfl, (Option.some.inj h).symm⟩
theorem small_line {n : Nat} (h : n ≤ 16777216) : n ≤ sizeLine := by rw [sizeLine_eq]; exact h
theorem small_lt {n : Nat} (h : n < 16777216) : n < sizeLine := by rw [sizeLine_eq]; exact h
theorem hu_room {k : Nat} {A : Around} (hr : Room k A) : A.units + 16 < cLine := by have := hr.un; omega

/-! ### heaps -/
/-- all but what stands at a -/
def But (a : Addr) (H H' : Hp) : Prop := ∀ b o, H b = some o → b ≠ a → H' b = some o
theorem Same.but {H H' : Hp} (h : Same H H') (a : Addr) : But a H H' := fun b o e _ => h b o e
theorem But.trans {a : Addr} {H H1 H2 : Hp} (h : But a H H1) (g : But a H1 H2) : But a H H2 := fun b o e n => g b o (h b o e n) n
theorem But.of_new {p : Addr} {H H' : Hp} (hp : H p = none) (h : But p H H') : Same H H' := fun b o e => h b o e (ne_of_none e hp)
theorem But.refl (a : Addr) (H : Hp) : But a H H := fun _ _ e _ => e
theorem But.same {a : Addr} {H H1 H2 : Hp} (h : But a H H1) (g : Same H1 H2) : But a H H2 := fun b o e n => g b o (h b o e n)
theorem but_upd (H : Hp) (a : Addr) (o : HO) : But a H (upd H a o) := fun b x e n => by rw [upd_ne n]; exact e
/-- rows of whole numbers: a list of tuples -/
def RowsAt (H : Hp) (a : Addr) (rows : List (List Int)) : Prop := ∃ qs : List Addr, H a = some (.lst (qs.map V.ref)) ∧ Paired (fun q r => H q = some (.tup (r.map V.int))) qs rows
theorem RowsAt.same {H H' : Hp} {a : Addr} {rows : List (List Int)} (r : RowsAt H a rows) (h : Same H H') : RowsAt H' a rows :=
  let ⟨qs, e, p⟩ := r; ⟨qs, h _ _ e, Paired.mapP p fun _ _ z => h _ _ z⟩
theorem RowsAt.but {H H' : Hp} {a x : Addr} {u : HO} {rows : List (List Int)} (r : RowsAt H a rows) (hx : H x = some u) (nl : ∀ xs, u ≠ .lst xs) (nt : ∀ xs, u ≠ .tup xs) (h : But x H H') : RowsAt H' a rows := by
  obtain ⟨qs, e, p⟩ := r
  exact ⟨qs, h _ _ e (ne_of e hx fun z => nl _ z.symm), Paired.mapP p fun _ _ z => h _ _ z (ne_of z hx fun y => nt _ y.symm)⟩
structure RP where
  ev : Int
  dl : Int
  ts : List (List Int)
  rs : List (List Int)
  own : List Int
def pF (r : RP) (aT aR aO aW : Addr) : List (Str × V) := [("events", .int r.ev), ("deadline", .int r.dl), ("tasks", .ref aT), ("requirements", .ref aR), ("own", .ref aO), ("won", .ref aW)]
section
variable {r : RP} {aT aR aO aW : Addr}
theorem lk_here {k : Str} {v : V} {l : List (Str × V)} : List.lookup k ((k, v) :: l) = some v := by
  have e : (k == k) = true := beq_self_eq_true k
  simp only [List.lookup, e]
theorem lk_past {k g : Str} {v : V} {l : List (Str × V)} (h : (k == g) = false) : List.lookup k ((g, v) :: l) = List.lookup k l := by
  simp only [List.lookup, h]
theorem pF_events : (pF r aT aR aO aW).lookup ("events" : Str) = some (.int r.ev) := lk_here
theorem pF_deadline : (pF r aT aR aO aW).lookup ("deadline" : Str) = some (.int r.dl) := (lk_past (by decide +kernel)).trans lk_here
theorem pF_tasks : (pF r aT aR aO aW).lookup ("tasks" : Str) = some (.ref aT) := (lk_past (by decide +kernel)).trans ((lk_past (by decide +kernel)).trans lk_here)
theorem pF_reqs : (pF r aT aR aO aW).lookup ("requirements" : Str) = some (.ref aR) := (lk_past (by decide +kernel)).trans ((lk_past (by decide +kernel)).trans ((lk_past (by decide +kernel)).trans lk_here))
theorem pF_own : (pF r aT aR aO aW).lookup ("own" : Str) = some (.ref aO) := (lk_past (by decide +kernel)).trans ((lk_past (by decide +kernel)).trans ((lk_past (by decide +kernel)).trans ((lk_past (by decide +kernel)).trans lk_here)))
theorem pF_won : (pF r aT aR aO aW).lookup ("won" : Str) = some (.ref aW) := (lk_past (by decide +kernel)).trans ((lk_past (by decide +kernel)).trans ((lk_past (by decide +kernel)).trans ((lk_past (by decide +kernel)).trans ((lk_past (by decide +kernel)).trans lk_here))))
theorem pF_none {m : Str} (h : (m == ("events" : Str) || (m == ("deadline" : Str) || (m == ("tasks" : Str) || (m == ("requirements" : Str) || (m == ("own" : Str) || m == ("won" : Str)))))) = false) : (pF r aT aR aO aW).lookup m = none := by
  simp only [Bool.or_eq_false_iff] at h
  obtain ⟨h1, h2, h3, h4, h5, h6⟩ := h
  exact (lk_past h1).trans ((lk_past h2).trans ((lk_past h3).trans ((lk_past h4).trans ((lk_past h5).trans ((lk_past h6).trans rfl)))))
end
/-- at p: a plan -/
def PlanAt (CP : Addr) (H : Hp) (p : Addr) (r : RP) (aW : Addr) : Prop := ∃ dx aT aR aO, H p = some (.ins CP dx (pF r aT aR aO aW)) ∧ RowsAt H aT r.ts ∧ RowsAt H aR r.rs ∧ H aO = some (.lst (r.own.map V.int))
theorem PlanAt.same {CP : Addr} {H H' : Hp} {p : Addr} {r : RP} {aW : Addr} (a : PlanAt CP H p r aW) (h : Same H H') : PlanAt CP H' p r aW :=
  let ⟨dx, aT, aR, aO, e, t, q, o⟩ := a; ⟨dx, aT, aR, aO, h _ _ e, t.same h, q.same h, h _ _ o⟩
theorem PlanAt.but {CP : Addr} {H H' : Hp} {p x : Addr} {u : HO} {r : RP} {aW : Addr} (a : PlanAt CP H p r aW) (hx : H x = some u) (nl : ∀ xs, u ≠ .lst xs) (nt : ∀ xs, u ≠ .tup xs) (ni : ∀ C d f, u ≠ .ins C d f) (h : But x H H') : PlanAt CP H' p r aW := by
  obtain ⟨dx, aT, aR, aO, e, t, q, o⟩ := a
  exact ⟨dx, aT, aR, aO, h _ _ e (ne_of e hx fun z => ni _ _ _ z.symm), t.but hx nl nt h, q.but hx nl nt h, h _ _ o (ne_of o hx fun z => nl _ z.symm)⟩
def taskRow (k : VbjpCore.Task) : List Int := [k.start, k.finish, k.least, k.greatest, k.delay]
def reqRow (r : VbjpCore.Requirement) : List Int := [r.source, r.target, r.most]
/-- a plan of the specification as it lies there -/
def rp (p : Pln) : RP := ⟨p.count, p.deadline, p.tasks.map taskRow, p.requirements.map reqRow, (SPM.ownList p).map Int.ofNat⟩
end SP
namespace SP
open PySem PySem.Spec PyProof.Rows L2 SPR
theorem if_t {c : Bool} {A B : Prop} (hc : c = true) (h : A) : if c = true then A else B := by rw [if_pos hc]; exact h
theorem if_f {c : Bool} {A B : Prop} (hc : c = false) (h : B) : if c = true then A else B := by rw [hc, if_neg Bool.false_ne_true]; exact h
/-- a test's two ways -/
theorem if_2 {c : Bool} {A B : Prop} (h1 : c = true → A) (h2 : c = false → B) : if c = true then A else B := by
  cases c with
  | true => exact if_t rfl (h1 rfl)
  | false => exact if_f rfl (h2 rfl)
end SP
end

section
set_option Elab.async false
set_option linter.all false
set_option maxRecDepth 100000
set_option maxHeartbeats 4000000
/-! rules with the fragment named apart (within a comprehension's block it is the def's own) -/
namespace SP
open PySem PySem.Spec PyProof.Rows L2 SPR
theorem hu1_room {k : Nat} {A : Around} (hr : Room k A) : A.units + 1 < cLine := by have := hu_room hr; omega
def rLenQ (K : PySem.W.Frag) : List V → Hp → VK → Prop := fun xs H Q => ∃ p ys, xs = [.ref p] ∧ (SqL K H p ys ∨ SqT K H p ys) ∧ Q (.int ys.length) H
def rListOf (K : PySem.W.Frag) : List V → Hp → VK → Prop := fun xs H Q => ∃ p ys, xs = [.ref p] ∧ (SqL K H p ys ∨ SqT K H p ys) ∧ ∀ l, H l = none → Q (.ref l) (upd H l (.lst ys))
def rTupOf (K : PySem.W.Frag) : List V → Hp → VK → Prop := fun xs H Q => ∃ p ys, xs = [.ref p] ∧ ((SqL K H p ys ∧ ∀ l, H l = none → Q (.ref l) (upd H l (.tup ys))) ∨ (SqT K H p ys ∧ Q (.ref p) H))
def tTru (K : PySem.W.Frag) (ta : TE) : TT := fun σ H Q => ta σ H fun x H' => ∃ k, TruV K x H' k ∧ Q k H'
section
variable {X : Cx} {K : PySem.W.Frag} {a e : Expr} {ta : TE} {f : Str} {pos : Pos}
theorem blkK {s : Shared} {H : Hp} {sc : Scope} {env : Env} {fp : List Addr} : (X.blk s H sc env fp).K = X.K := rfl
theorem ix_listB (h : X.K = K) : IxR X (rIxL K) := h ▸ ix_list
theorem ix_tupB (h : X.K = K) : IxR X (rIxT K) := h ▸ ix_tup
theorem ix_seqB (h : X.K = K) : IxR X (rIx K) := h ▸ ix_seq
theorem sl_listB (h : X.K = K) : SlR X (rSlL K) := h ▸ sl_list
theorem sl_tupAB (h : X.K = K) : SlR X (rSlA K) := h ▸ sl_tupA
theorem call_lenQ (h : X.K = K) : CallR X (.builtin "len") (rLenQ K) := by subst h; exact call_len_seq
theorem call_listQ (h : X.K = K) : CallR X (.type "list") (rListOf K) := by subst h; exact call_list_of
theorem call_tupleQ (h : X.K = K) : CallR X (.type "tuple") (rTupOf K) := by subst h; exact call_tuple_of
theorem pe_fldB (h : X.K = K) (he : PE X e ta) (hb : attributeBase e f X.env (eval e X.env) = eval e X.env) : PE X (.Attribute e f pos) (tFld K ta f) := by subst h; exact pe_fld he hb
theorem pt_truthB (h : X.K = K) (ha : PE X a ta) (he : ∀ whole, isTrue a X.env whole = (do let v ← whole; standAt a.pos; holding [v] (truthy v))) : PT X a (tTru K ta) := by subst h; exact pt_truth ha he
theorem pg_tupB {es : List Expr} {k : Nat} {t : TGs} {n : Nat} (hK : X.K = K) (hc : X.calm = true) (h : PGs X es t)
    (hn : (assignEach es X.env).length = n := by rfl) (hst : (assignEach es X.env).findIdx? (·.1) = none := by rfl) : PG X (.Tuple es k pos) (gTup K n t) := by subst hK; exact pg_tup hc h hn hst
end
/-- counts as values -/
abbrev nv (xs : List Nat) : List V := xs.map fun n : Nat => V.int (n : Int)
abbrev iv (xs : List Int) : List V := xs.map V.int
theorem nv_at {xs : List Nat} {i a : Nat} (h : xs[i]? = some a) : (nv xs)[i]? = some (V.int (a : Int)) := by rw [List.getElem?_map, h]; rfl
theorem nv_at_of {xs : List Nat} {i : Nat} {x : V} (h : (nv xs)[i]? = some x) : ∃ n : Nat, xs[i]? = some n ∧ x = V.int (n : Int) := by
  rw [List.getElem?_map] at h
  cases e : xs[i]? with
  | none => rw [e] at h; cases h
  | some n => rw [e] at h; exact ⟨n, rfl, (Option.some.inj h).symm⟩
theorem nv_len (xs : List Nat) : (nv xs).length = xs.length := List.length_map _
theorem iv_len (xs : List Int) : (iv xs).length = xs.length := List.length_map _
theorem nv_iv (xs : List Nat) : nv xs = iv (xs.map Int.ofNat) := by simp [nv, iv]
/-! ### the plan's fields -/
section
variable {K : PySem.W.Frag} {mg : Str → Option Value} {CP CR CE aS : Addr}
theorem Txt.fE (T : Txt K mg CP CR CE aS) : NoAttr K CP "events" := T.nP _ (.head _)
theorem Txt.fD (T : Txt K mg CP CR CE aS) : NoAttr K CP "deadline" := T.nP _ (.tail _ (.head _))
theorem Txt.fT (T : Txt K mg CP CR CE aS) : NoAttr K CP "tasks" := T.nP _ (.tail _ (.tail _ (.head _)))
theorem Txt.fR (T : Txt K mg CP CR CE aS) : NoAttr K CP "requirements" := T.nP _ (.tail _ (.tail _ (.tail _ (.head _))))
theorem Txt.fO (T : Txt K mg CP CR CE aS) : NoAttr K CP "own" := T.nP _ (.tail _ (.tail _ (.tail _ (.tail _ (.head _)))))
theorem Txt.fW (T : Txt K mg CP CR CE aS) : NoAttr K CP "won" := T.nP _ (.tail _ (.tail _ (.tail _ (.tail _ (.tail _ (.head _))))))
end

section
variable {K : PySem.W.Frag} {σ : Stt} {H : Hp} {Q : VK}
theorem or_pow {m k : Nat} : Builtin.bitOr (m : Int) (2 ^ k) = ((m ||| 2 ^ k : Nat) : Int) := by
  have e : (2 : Int) ^ k = ((2 ^ k : Nat) : Int) := by rw [Int.natCast_pow]; rfl
  rw [e, bitOr_nn (Int.natCast_nonneg _) (Int.natCast_nonneg _), Int.toNat_natCast, Int.toNat_natCast]
theorem lc_mask {r m e k : Nat} {a : Addr} {xs : List Nat} (hr : σ[r]? = some (some (.ref a))) (hA : H a = some (.lst (nv xs))) (hz : xs.length ≤ 1000) (hk : k ≤ 1000)
    (h1 : ∀ v, ((wipe σ [m]).set m (some v))[m]? = some (some v)) (h2 : ∀ v, ((wipe σ [m]).set m (some v))[e]? = some (some (.int (k : Int)))) (h3 : ∀ v, wipe ((wipe σ [m]).set m (some v)) [m] = wipe σ [m])
    (q : ∀ c, H c = none → Q (.ref c) (upd H c (.lst (nv (xs.map (· ||| 2 ^ k)))))) :
    tLc (iList K (tVar r)) (gName m) tYes (tOp (rI0 fun i j => V.int (Builtin.bitOr i j)) (tVar m) (tOp (fun x y H Q => ∃ k : Nat, x = V.int 1 ∧ y = V.int (k : Int) ∧ k ≤ 134217727 ∧ Q (V.int (2 ^ k)) H) (tC (V.int 1)) (tVar e))) [m] σ H Q := by
  have hL : SqL K H a (nv xs) := .inl (.inl hA)
  refine ⟨_, hr, a, rfl, ⟨_, hL⟩, fun c hc => ?_⟩
  refine lc_it (walk_list (xs := nv xs)) (fun i H1 => H1 = upd H c (.lst (nv ((xs.take i).map (· ||| 2 ^ k))))) rfl (fun i H1 _ h => by rw [h]; exact .inl (.inl ((upd_ne (ne_of_none hA hc)).trans hA))) (fun i x H1 H2 hi hP hY => ?_) (fun H1 h => ?_)
  · subst hP
    obtain ⟨rfl, hx⟩ := hY
    rw [nv_len] at hi
    obtain ⟨n, hn, rfl⟩ := nv_at_of hx
    refine ⟨h3 _, ?_⟩
    refine ⟨_, h1 _, _, h2 _, k, rfl, rfl, by omega, ?_⟩
    refine ⟨_, _, rfl, rfl, ?_⟩
    refine ⟨_, upd_same, ?_, ?_⟩
    · rw [nv_len, List.length_map, List.length_take]; exact small_lt (by omega)
    · rw [upd_upd, List.take_add_one, hn]
      dsimp only
      rw [or_pow]
      simp [nv]
  · subst h
    rw [nv_len, List.take_length]
    exact q c hc
theorem bit_test {mi ei m e : Nat} {QT : Bool → Hp → Prop} (hm : σ[mi]? = some (some (.int (m : Int)))) (he : σ[ei]? = some (some (.int (e : Int)))) (q : QT (m.testBit e) H) :
    tTru K (tOp (fun x y H Q => ∃ n : Nat, x = V.int (n : Int) ∧ y = V.int 1 ∧ Q (V.int ((n % 2 : Nat) : Int)) H) (tOp (fun x y H Q => ∃ (i : Int) (k : Nat), x = V.int i ∧ y = V.int (k : Int) ∧ Q (V.int (i / 2 ^ k)) H) (tVar mi) (tVar ei)) (tC (V.int 1))) σ H QT := by
  refine ⟨_, hm, _, he, _, e, rfl, rfl, m / 2 ^ e, ?_, rfl, m.testBit e, ?_, q⟩
  · rw [Int.natCast_ediv, Int.natCast_pow]; rfl
  · show m.testBit e = (((m / 2 ^ e % 2 : Nat) : Int) != 0)
    rw [Nat.testBit_eq_decide_div_mod_eq]
    rcases Nat.mod_two_eq_zero_or_one (m / 2 ^ e) with h | h
    · rw [h]; rfl
    · rw [h]; rfl
end
end SP
end

section
set_option Elab.async false
set_option linter.all false
set_option maxRecDepth 100000
set_option maxHeartbeats 4000000
namespace SP
open PySem PySem.Spec PyProof.Rows L2 SPR
open SPM (enc ov)
abbrev sBeginning : Stmt := inClass (top 12) 4
abbrev nBeginning : List Str := ["self"]
theorem scBeginning : FnScope ["self"] ["self"] (defScope sBeginning) := ⟨rfl, rfl, rfl, by decide +kernel, rfl, by decide +kernel, by decide +kernel⟩
abbrev sMoves : Stmt := inClass (top 12) 5
abbrev nMoves : List Str := ["self", "seen", "result", "e", "mask"]
theorem scMoves : FnScope ["self", "seen", "result", "e", "mask"] ["self", "seen"] (defScope sMoves) := ⟨rfl, rfl, rfl, by decide +kernel, rfl, by decide +kernel, by decide +kernel⟩
abbrev sIsMove : Stmt := inClass (top 12) 6
abbrev nIsMove : List Str := ["self", "seen", "mask"]
theorem scIsMove : FnScope ["self", "seen", "mask"] ["self", "seen", "mask"] (defScope sIsMove) := ⟨rfl, rfl, rfl, by decide +kernel, rfl, by decide +kernel, by decide +kernel⟩
abbrev sIsMoveAll : Stmt := inClass (top 12) 7
abbrev nIsMoveAll : List Str := ["self", "mask", "seen", "e"]
theorem scIsMoveAll : FnScope ["self", "mask", "seen", "e"] ["self", "mask", "seen"] (defScope sIsMoveAll) := ⟨rfl, rfl, rfl, by decide +kernel, rfl, by decide +kernel, by decide +kernel⟩
abbrev sAfterMove : Stmt := inClass (top 12) 8
abbrev nAfterMove : List Str := ["self", "moment", "seen", "mask", "e", "s"]
theorem scAfterMove : FnScope ["self", "moment", "seen", "mask", "e", "s"] ["self", "moment", "seen", "mask"] (defScope sAfterMove) := ⟨rfl, rfl, rfl, by decide +kernel, rfl, by decide +kernel, by decide +kernel⟩
/-! ### the promises -/
def spBeginning (CP : Addr) : Sp := fun vs H Q _ => ∃ (a aW : Addr) (p : Pln), vs = [.ref a] ∧ PlanAt CP H a (rp p) aW ∧ SPM.PV p ∧ ∀ t H', PosAt H' t (0, enc (VbjpCore.startTimes p)) → Same H H' → Q (.ref t) H'
def spMoves (CP : Addr) : Sp := fun vs H Q _ => ∃ (a aW b : Addr) (p : Pln) (t : Tms), vs = [.ref a, .ref b] ∧ PlanAt CP H a (rp p) aW ∧ H b = some (.tup (iv (enc t))) ∧ t.length = p.count ∧ p.count ≤ 6 ∧
  ∀ l H', H l = none → H' l = some (.lst (nv (Vbjpae.movesAt p t))) → Same H H' → Q (.ref l) H'
def spIsMove (CP : Addr) : Sp := fun vs H Q _ => ∃ (a aW b : Addr) (p : Pln) (t : Tms) (m : Nat), vs = [.ref a, .ref b, .int m] ∧ PlanAt CP H a (rp p) aW ∧ H b = some (.tup (iv (enc t))) ∧ t.length = p.count ∧ m < 2 ^ 20 ∧
  Q (.bl (Vbjpae.isMove p t m)) H
def spIsMoveAll (CP : Addr) : Sp := fun vs H Q _ => ∃ (a aW b : Addr) (p : Pln) (t : Tms) (m : Nat), vs = [.ref a, .int m, .ref b] ∧ PlanAt CP H a (rp p) aW ∧ H b = some (.tup (iv (enc t))) ∧ t.length = p.count ∧ m < 2 ^ 20 ∧
  Q (.bl (Vbjpae.isMove p t m)) H
def spAfterMove : Sp := fun vs H Q _ => ∃ (a b : Addr) (s : Int) (m : Nat) (xs : List Int), vs = [.ref a, .int s, .ref b, .int m] ∧ H b = some (.tup (iv xs)) ∧ xs.length ≤ 1000 ∧
  ∀ l H', H' l = some (.tup (iv (SPM.moved s m xs))) → Same H H' → Q (.ref l) H'
section
variable {P : Program} {w : World} {K : PySem.W.Frag} {mg : Str → Option Value} {base : Heap} {CP CR CE aS : Addr}
theorem start_iv {p : Pln} (hv : SPM.PV p) : iv (enc (VbjpCore.startTimes p)) = .int 0 :: List.replicate (p.count - 1) (.int (-1)) := by
  have h := hv.c1
  obtain ⟨n, hn⟩ : ∃ n, p.count = n + 1 := ⟨p.count - 1, by omega⟩
  unfold VbjpCore.startTimes
  rw [hn, List.replicate_succ]
  simp [SPM.opt_none, SPM.ov, Vbjpae.optional]
theorem ok_beginning {f : Addr} {fd : FuncData} (F : Fun K "beginning" "Plan.beginning" sBeginning f fd) (T : Txt K mg CP CR CE aS) : FnOk P w K mg base CX0 1 f fd ["self"] (spBeginning CP) := by
  have nd := scBeginning.nd
  refine F.ok scBeginning (fun vs H Q E h => ?_) (fun cdv A outer s H vs Q E hr h => ?_)
  · obtain ⟨b, ns, _, rfl, _⟩ := h
    rfl
  obtain ⟨a, aW, p, rfl, ⟨dx, aT, aR, aO, hA, _⟩, hv, q⟩ := h
  refine ⟨_, (pss_one (ps_ret (pe_tup (pa_cons pe_int (pa_cons (pe_op op_catA (pe_tup (pa_cons pe_int pa_nil)) (pe_op op_repT1 (pe_tup (pa_cons (pe_k rfl T.cUN) pa_nil)) (pe_op op_sub (pe_fldB rfl (pv 0) rfl) pe_int))) pa_nil))))), ?_⟩
  have c1 := hv.c1
  have c6 := hv.c6
  have e1 : ((p.count : Int) - 1) = ((p.count - 1 : Nat) : Int) := by omega
  refine ⟨by show 1 ≤ sizeLine; rw [sizeLine_eq]; decide, fun x1 h1 => ?_⟩
  refine ⟨by show 1 ≤ sizeLine; rw [sizeLine_eq]; decide, fun x2 h2 => ?_⟩
  have n1 : a ≠ x1 := ne_of_none hA h1
  have hA1 : (upd H x1 (.tup [.int 0])) a = some (.ins CP dx (pF (rp p) aT aR aO aW)) := by rw [upd_ne n1]; exact hA
  have n2 : a ≠ x2 := ne_of_none hA1 h2
  have n3 : x1 ≠ x2 := ne_of_none (o := .tup [.int 0]) upd_same h2
  refine rd_fld rfl (by rw [upd_ne n2]; exact hA1) T.clP T.fE pF_events ?_
  refine ⟨_, _, rfl, rfl, ?_⟩
  refine ⟨x2, _, .int (-1), rfl, rfl, upd_same, ?_, ?_, fun x3 H3 h3 s3 => ?_⟩
  · show 0 ≤ (rp p).ev - 1; show 0 ≤ (p.count : Int) - 1; omega
  · show (rp p).ev - 1 ≤ 1000; show (p.count : Int) - 1 ≤ 1000; omega
  have h1' : H3 x1 = some (.tup [.int 0]) := s3 _ _ (by rw [upd_ne n3]; exact upd_same)
  refine ⟨_, _, _, _, rfl, rfl, .inl (.inl h1'), .inl (.inl h3), ?_, ?_⟩
  · rw [List.length_replicate, sizeLine_eq]
    show 1 + ((p.count : Int) - 1).toNat ≤ 16777216
    omega
  have eN : ((rp p).ev - 1).toNat = p.count - 1 := by show ((p.count : Int) - 1).toNat = _; omega
  have eS : iv (enc (VbjpCore.startTimes p)) = .int 0 :: List.replicate (p.count - 1) (.int (-1)) := start_iv hv
  have sm : Same H H3 := fun b o e => s3 _ _ (by rw [upd_ne (ne_of_none (by rw [upd_ne (ne_of_none e h1)]; exact e) h2), upd_ne (ne_of_none e h1)]; exact e)
  have fin : ∀ z H4, Same H3 H4 → H4 z = some (.tup (.int 0 :: List.replicate (p.count - 1) (.int (-1)))) → (tTup (fun σ H Q => Q [.int 0, .ref z] H)) [] H4 Q := fun z H4 s4 hz => by
    refine ⟨by show 2 ≤ sizeLine; rw [sizeLine_eq]; decide, fun t ht => ?_⟩
    refine q t _ ⟨z, upd_same, ?_⟩ (sm.trans (s4.trans (same_at _ ht)))
    rw [upd_ne (ne_of_none hz ht), hz]
    exact congrArg (fun z => some (HO.tup z)) eS.symm
  rw [eN] at h3 ⊢
  refine ⟨fun e => (nomatch e), fun _ e => ?_, fun _ e x4 h4 => ?_⟩
  · rw [e] at fin
    exact fin x1 H3 (Same.refl _) h1'
  · exact fin x4 _ (same_at _ h4) upd_same

theorem own_at {p : Pln} {i : Nat} {x : V} (h : (iv ((SPM.ownList p).map Int.ofNat))[i]? = some x) : ∃ e : Nat, (SPM.ownList p)[i]? = some e ∧ x = V.int (e : Int) ∧ e < p.count ∧ VbjpCore.isOwn p e = true := by
  rw [List.getElem?_map, List.getElem?_map] at h
  cases q : (SPM.ownList p)[i]? with
  | none => rw [q] at h; cases h
  | some e =>
    rw [q] at h
    have m := List.mem_of_getElem? q
    unfold SPM.ownList at m
    rw [List.mem_filter, List.mem_range] at m
    exact ⟨e, rfl, (Option.some.inj h).symm, m.1, m.2⟩
theorem own_len (p : Pln) : (iv ((SPM.ownList p).map Int.ofNat)).length = (SPM.ownList p).length := by simp
theorem own_le (p : Pln) : (SPM.ownList p).length ≤ p.count := by
  unfold SPM.ownList
  exact Nat.le_trans (List.length_filter_le _ _) (by simp)
theorem seen_dec (x : Option Nat) : decide (V.int (ov x) = V.int (-1)) = x.isNone := by
  rw [dec_int]
  cases x with
  | none => rfl
  | some n => simp [SPM.ov, Vbjpae.optional]
theorem seen_at {t : Tms} {i : Nat} (h : i < t.length) : (iv (enc t))[i]? = some (V.int (ov (VbjpCore.timeAt t i))) := at_int (SPM.enc_at h)
theorem sorted_same {xs : List Nat} {ns' : List Int} (h : xs.Pairwise (· < ·)) (hp : ns'.Perm (xs.map Int.ofNat)) (hs : ns'.Pairwise (· ≤ ·)) : ns' = xs.map Int.ofNat := by
  refine List.Perm.eq_of_pairwise (le := fun a b : Int => a ≤ b) (fun a b _ _ h1 h2 => Int.le_antisymm h1 h2) hs ?_ hp
  exact List.Pairwise.map _ (fun a b h => by show (a : Int) ≤ (b : Int); omega) h
theorem ok_moves {f : Addr} {fd : FuncData} (F : Fun K "moves" "Plan.moves" sMoves f fd) (T : Txt K mg CP CR CE aS) : FnOk P w K mg base CX0 1 f fd ["self", "seen"] (spMoves CP) := by
  have nd := scMoves.nd
  refine F.ok scMoves (fun vs H Q E h => ?_) (fun cdv A outer s H vs Q E hr h => ?_)
  · obtain ⟨b, ns, _, _, _, rfl, _⟩ := h
    rfl
  obtain ⟨a, aW, b, p, t, rfl, ⟨dx, aT, aR, aO, hA, hT, hR, hO⟩, hB, hl, h6, q⟩ := h
  refine ⟨_, (pss_cons (ps_set (i := 2) nd rfl (Or.inl rfl) (pe_lst (pa_cons pe_int pa_nil)))
    (pss_cons (ps_for PassesOwn.never rfl (pi_list (pe_fldB rfl (pv 0) rfl)) (pg_name (i := 3) nd rfl (Or.inr rfl)) (pss_one (ps_if (pt_cmpR op_eq (pe_ix (ix_tupB rfl) (pv 1) (pv 3) (fun _ _ => rfl)) (pe_k rfl T.cUN) (nomark _)) (pss_one (ps_aug (i := 2) nd rfl (Or.inl rfl) (pe_lc (own := [("mask", 4)]) rfl nd (pi_list (pv 2)) (blkOk_by (own := [("mask", 4)]) (N := ["self", "seen", "result", "e", "mask"]) (sc := (defScope sMoves)) (by decide +kernel)) (fun _ _ _ _ _ => (pg_name (i := 4) nd rfl (Or.inl rfl) (Or.inr rfl))) (fun _ _ _ _ _ => pts_nil) (fun _ _ _ _ _ => (pe_op op_or (pv 4) (pe_op op_oneShl pe_int (pv 3))))) iop_ext)) pss_nil)))
    (pss_one (ps_ret (pe_callB cr_sortedI (by rfl) T.m_sorted (by decide +kernel) (pa_cons (pv 2) pa_nil)))))), ?_⟩
  refine ⟨by show 1 ≤ sizeLine; rw [sizeLine_eq]; decide, fun l hl0 => ?_⟩
  have nA : a ≠ l := ne_of_none hA hl0
  have nO : aO ≠ l := ne_of_none hO hl0
  have hA1 : (upd H l (.lst [.int 0])) a = some (.ins CP dx (pF (rp p) aT aR aO aW)) := by rw [upd_ne nA]; exact hA
  have hO1 : ∀ H', But l H H' → SqL K H' aO (iv ((SPM.ownList p).map Int.ofNat)) := fun H' h => .inl (.inl (h _ _ hO nO))
  refine ⟨_, rfl, a, CP, dx, _, _, rfl, hA1, T.clP, T.fO, pF_own, aO, rfl, ⟨_, hO1 _ (but_upd H l _)⟩, ?_⟩
  refine for_it (walk_list (xs := iv ((SPM.ownList p).map Int.ofNat))) (fun i σ H' => (∃ x, σ = [some (.ref a), some (.ref b), some (.ref l), x, none]) ∧ But l H H' ∧ H' l = some (.lst (nv (((SPM.ownList p).take i).foldl (SPM.moveStep t) [0]))))
    ⟨⟨_, rfl⟩, but_upd H l _, upd_same⟩ (fun i σ H' _ h => hO1 _ h.2.1) (fun i x σ H1 H2 hi hP hY => ?_) (fun σ H' hP => ?_)
  · obtain ⟨⟨y, rfl⟩, hb, hL⟩ := hP
    obtain ⟨rfl, hx⟩ := hY
    obtain ⟨e, he, rfl, hlt, _⟩ := own_at hx
    rw [own_len] at hi
    have hB1 := hb _ _ hB (ne_of_none hB hl0)
    have len : (((SPM.ownList p).take i).foldl (SPM.moveStep t) [0]).length ≤ 64 := by
      refine Nat.le_trans (SPM.moves_fold_len t _ _) ?_
      have : (((SPM.ownList p).take i).length) ≤ 6 := by
        have := own_le p
        rw [List.length_take]; omega
      calc 2 ^ ((SPM.ownList p).take i).length * 1 ≤ 2 ^ 6 * 1 := Nat.mul_le_mul_right _ (Nat.pow_le_pow_right (by decide) this)
        _ = 64 := by decide
    have stp : ((SPM.ownList p).take (i + 1)).foldl (SPM.moveStep t) [0] = SPM.moveStep t (((SPM.ownList p).take i).foldl (SPM.moveStep t) [0]) e := by
      rw [List.take_add_one, he, List.foldl_append]; rfl
    refine ⟨_, rfl, _, rfl, b, _, e, _, rfl, rfl, .inl (.inl hB1), atI_nat (seen_at (by omega)), rfl, _, rfl, ?_⟩
    rw [seen_dec]
    refine if_2 (fun c => ?_) (fun c => ?_)
    · refine ⟨_, rfl, lc_mask (k := e) rfl hL (by omega) (by omega) (fun _ => rfl) (fun _ => rfl) (fun _ => rfl) fun c' hc' => ?_⟩
      have nc : l ≠ c' := ne_of_none hL hc'
      refine ⟨l, c', _, _, rfl, rfl, by rw [upd_ne nc]; exact hL, upd_same, ?_, ?_⟩
      · rw [nv_len, nv_len, List.length_map, sizeLine_eq]; omega
      · refine ⟨⟨_, rfl⟩, ?_, ?_⟩
        · exact (hb.same (same_at _ hc')).trans (but_upd _ l _)
        · rw [upd_same, stp]
          unfold SPM.moveStep
          rw [if_pos c]
          simp [nv]
    · refine ⟨⟨_, rfl⟩, hb, ?_⟩
      rw [stp]
      unfold SPM.moveStep
      rw [c]
      exact hL
  · obtain ⟨⟨y, rfl⟩, hb, hL⟩ := hP
    rw [own_len, List.take_length, SPM.moves_prog] at hL
    refine ⟨_, rfl, l, (Vbjpae.movesAt p t).map Int.ofNat, rfl, .inl (.inl (by rw [hL]; congr 2; exact nv_iv _)), fun ns' l2 hp hs hn => ?_⟩
    have srt : (Vbjpae.movesAt p t).Pairwise (· < ·) := by rw [SPM.movesAt_gen]; exact SPM.gen_sorted _ _ _
    rw [sorted_same srt hp hs]
    refine q l2 _ ?_ (by rw [upd_same, nv_iv]) ((But.of_new hl0 hb).trans (same_at _ hn))
    exact (But.of_new hl0 hb).free hn
theorem ok_is_move_all {f : Addr} {fd : FuncData} (F : Fun K "is_move_all" "Plan.is_move_all" sIsMoveAll f fd) (T : Txt K mg CP CR CE aS) : FnOk P w K mg base CX0 1 f fd ["self", "mask", "seen"] (spIsMoveAll CP) := by
  have nd := scIsMoveAll.nd
  refine F.ok scIsMoveAll (fun vs H Q E h => ?_) (fun cdv A outer s H vs Q E hr h => ?_)
  · obtain ⟨_, _, _, _, _, _, rfl, _⟩ := h
    rfl
  obtain ⟨a, aW, b, p, t, m, rfl, ⟨dx, aT, aR, aO, hA, hT, hR, hO⟩, hB, hl, hm, q⟩ := h
  refine ⟨_, (pss_cons (ps_for PassesOwn.never rfl (pi_range1 rfl T.m_range (pa_cons (pe_bits (pv 1)) pa_nil)) (pg_name (i := 3) nd rfl (Or.inl rfl)) (pss_one (ps_if (pt_truthB rfl (pe_op op_odd (pe_op op_shrN (pv 1) (pv 3)) pe_int) (by intro _; rfl)) (pss_one (ps_if (pt_not (PW.pt (pw_and (pt_cmpR op_in_seq (pv 3) (pe_fldB rfl (pv 0) rfl) (by rfl)) (pw_and1 (pt_cmpR op_eq (pe_ix (ix_tupB rfl) (pv 2) (pv 3) (fun _ _ => rfl)) (pe_k rfl T.cUN) (nomark _)))))) (pss_one (ps_ret pe_bl)) pss_nil)) pss_nil)))
    (pss_one (ps_ret pe_bl))), ?_⟩
  have hb1 := PyProof.Rows.natAbs_lt_pow_bits (m : Int)
  have hb2 := PyProof.Rows.intBits_le (a := (m : Int)) (k := 20) (by simpa using hm)
  rw [Int.natAbs_natCast] at hb1
  generalize hN : Builtin.Int.intBits (m : Int) = N at hb1 hb2
  refine ⟨_, rfl, _, rfl, ?_⟩
  rw [hN]
  refine ⟨_, rfl, by omega, by omega, ?_⟩
  rw [Int.toNat_natCast]
  refine for_it walk_range (fun i σ H' => (∃ x, σ = [some (.ref a), some (.int m), some (.ref b), x]) ∧ H' = H ∧ ∀ j, j < i → m.testBit j = true → VbjpCore.isOwn p j = true ∧ VbjpCore.timeAt t j = none) ⟨⟨_, rfl⟩, rfl, fun j h => absurd h (Nat.not_lt_zero j)⟩ (fun _ _ _ _ _ => trivial) (fun i x σ H1 H2 hi hP hY => ?_) (fun σ H' hP => ?_)
  · obtain ⟨⟨y, rfl⟩, rfl, hp⟩ := hP
    obtain ⟨rfl, rfl⟩ := hY
    dsimp only
    rw [Int.zero_add]
    refine bit_test (e := i) rfl rfl ?_
    refine if_2 (fun c => ?_) (fun c => ?_)
    · have own : inV (.int (i : Int)) (iv ((SPM.ownList p).map Int.ofNat)) = VbjpCore.isOwn p i := by
        unfold inV
        rw [Bool.eq_iff_iff, List.any_eq_true]
        constructor
        · rintro ⟨v, hv, e⟩
          obtain ⟨j, hj⟩ := List.mem_iff_getElem?.mp hv
          obtain ⟨e', _, rfl, _, o⟩ := own_at hj
          have : (e' : Int) = (i : Int) := by simpa [eqV] using e
          have : e' = i := by omega
          subst this
          exact o
        · intro o
          have hlt : i < p.count := by
            unfold VbjpCore.isOwn at o
            simp at o
            exact o.1
          refine ⟨.int (i : Int), List.mem_map.mpr ⟨(i : Int), List.mem_map.mpr ⟨i, ?_, rfl⟩, rfl⟩, by simp [eqV]⟩
          unfold SPM.ownList
          rw [List.mem_filter, List.mem_range]
          exact ⟨hlt, o⟩
      have flat : (iv ((SPM.ownList p).map Int.ofNat)).all flatV = true := by
        rw [List.all_eq_true]
        intro v hv
        obtain ⟨z, _, rfl⟩ := List.mem_map.mp hv
        rfl
      refine ⟨_, rfl, rd_fld rfl hA T.clP T.fO pF_own ⟨aO, _, rfl, .inl (.inl (.inl hO)), rfl, flat, _, rfl, ?_⟩⟩
      show if inV (.int (i : Int)) (iv ((SPM.ownList p).map Int.ofNat)) = true then _ else _
      rw [own]
      have no : ¬ (VbjpCore.isOwn p i = true ∧ VbjpCore.timeAt t i = none) → Q (.bl false) H2 := fun h => by
        have : Vbjpae.isMove p t m = false := by
          rw [← Bool.not_eq_true]
          intro z
          exact h (SPM.isMove_bits.mp z i c)
        rw [this] at q
        exact q
      refine if_2 (fun c2 => ?_) (fun c2 => ?_)
      · have hlt : i < p.count := by
          unfold VbjpCore.isOwn at c2
          simp at c2
          exact c2.1
        refine ⟨_, rfl, _, rfl, b, _, i, _, rfl, rfl, .inl (.inl hB), atI_nat (seen_at (by omega)), rfl, _, rfl, ?_⟩
        rw [seen_dec]
        cases c3 : (VbjpCore.timeAt t i).isNone with
        | true =>
          refine if_f rfl ⟨⟨_, rfl⟩, rfl, fun j hj hb => ?_⟩
          rcases Nat.lt_or_ge j i with z | z
          · exact hp j z hb
          · have : j = i := by omega
            subst this
            exact ⟨c2, by simpa using c3⟩
        | false =>
          refine if_t rfl (no fun h => ?_)
          rw [h.2] at c3
          cases c3
      · refine if_t rfl (no fun h => ?_)
        rw [h.1] at c2
        cases c2
    · refine ⟨⟨_, rfl⟩, rfl, fun j hj hb => ?_⟩
      rcases Nat.lt_or_ge j i with z | z
      · exact hp j z hb
      · have : j = i := by omega
        subst this
        rw [hb] at c
        cases c
  · obtain ⟨⟨y, rfl⟩, rfl, hp⟩ := hP
    have : Vbjpae.isMove p t m = true := SPM.isMove_bits.mpr fun i hi => by
      refine hp i ?_ hi
      rcases Nat.lt_or_ge i N with z | z
      · exact z
      · rw [Nat.testBit_lt_two_pow (Nat.lt_of_lt_of_le hb1 (Nat.pow_le_pow_right (by decide) z))] at hi
        cases hi
    rw [this] at q
    exact q
theorem ok_is_move {f : Addr} {fd : FuncData} (F : Fun K "is_move" "Plan.is_move" sIsMove f fd) (T : Txt K mg CP CR CE aS) (M_is_move_all : MetX P w K mg base CX0 1 CP "is_move_all" (spIsMoveAll CP)) : FnOk P w K mg base CX0 2 f fd ["self", "seen", "mask"] (spIsMove CP) := by
  have nd := scIsMove.nd
  refine F.ok scIsMove (fun vs H Q E h => ?_) (fun cdv A outer s H vs Q E hr h => ?_)
  · obtain ⟨_, _, _, _, _, _, rfl, _⟩ := h
    rfl
  obtain ⟨a, aW, b, p, t, m, rfl, hA, hB, hl, hm, q⟩ := h
  refine ⟨_, (pss_one (ps_ret (pe_mx M_is_move_all T.clP hr (by decide) (no0 (E := fun _ => E0)) (pv 0) (pa_cons (pv 2) (pa_cons (pv 1) pa_nil))))), ?_⟩
  obtain ⟨dx, aT, aR, aO, hA0, _⟩ := id hA
  exact ⟨_, rfl, a, dx, _, rfl, hA0, pF_none (by decide +kernel), _, rfl, _, rfl, a, aW, b, p, t, m, rfl, hA, hB, hl, hm, q⟩
theorem ok_after_move {f : Addr} {fd : FuncData} (F : Fun K "after_move" "Plan.after_move" sAfterMove f fd) (T : Txt K mg CP CR CE aS) : FnOk P w K mg base CX0 1 f fd ["self", "moment", "seen", "mask"] spAfterMove := by
  have nd := scAfterMove.nd
  refine F.ok scAfterMove (fun vs H Q E h => ?_) (fun cdv A outer s H vs Q E hr h => ?_)
  · obtain ⟨_, _, _, _, _, rfl, _⟩ := h
    rfl
  obtain ⟨a, b, s, m, xs, rfl, hB, hz, q⟩ := h
  refine ⟨_, (pss_one (ps_ret (pe_callTy (call_tupleQ rfl) (by rfl) T.m_tuple (by decide +kernel) (pa_cons (pe_lc (own := [("e", 4), ("s", 5)]) rfl nd (pi_enumT (by rfl) T.m_enumerate (pa_cons (pv 2) pa_nil)) (blkOk_by (own := [("e", 4), ("s", 5)]) (N := ["self", "moment", "seen", "mask", "e", "s"]) (sc := (defScope sAfterMove)) (by decide +kernel)) (fun _ _ _ _ _ => (pg_tupB (n := 2) blkK rfl (pgs_cons (pg_name (i := 4) nd rfl (Or.inl rfl) (Or.inr rfl)) (pgs_cons (pg_name (i := 5) nd rfl (Or.inl rfl) (Or.inr rfl)) pgs_nil)))) (fun _ _ _ _ _ => pts_nil) (fun _ _ _ _ _ => (pe_ifExp (pt_truthB blkK (pe_op op_odd (pe_op op_shrN (pv 3) (pv 4)) pe_int) (by intro _; rfl)) (pv 1) (pv 5)))) pa_nil)))), ?_⟩
  have hT : SqT K H b (iv xs) := .inl (.inl hB)
  refine ⟨_, rfl, b, _, rfl, hT, fun c hc => ?_⟩
  have nB : b ≠ c := ne_of_none hB hc
  refine lc_it (walk_enumT (xs := iv xs)) (fun i H1 => But c H H1 ∧ H1 c = some (.lst (iv ((SPM.moved s m xs).take i)))) ⟨but_upd H c _, upd_same⟩ (fun i H1 _ h => .inl (.inl (h.1 _ _ hB nB))) (fun i x H1 H2 hi hP hY => ?_) (fun H1 h => ?_)
  · obtain ⟨hb, hC⟩ := hP
    obtain ⟨Tt, x1, x2, rfl, hn, rfl, e1, e2⟩ := hY
    cases e1
    obtain ⟨z, hz1, rfl⟩ := at_int_of e2
    rw [iv_len] at hi
    refine ⟨Tt, _, rfl, .inl (.inl upd_same), rfl, _, _, rfl, _, _, rfl, rfl, ?_⟩
    have nT : c ≠ Tt := ne_of_none hC hn
    have fin : ∀ v, v = (if m.testBit i = true then s else z) → ∃ acc, (upd H1 Tt (.tup [.int (i : Nat), .int z])) c = some (.lst acc) ∧ acc.length < sizeLine ∧ But c H (upd (upd H1 Tt (.tup [.int (i : Nat), .int z])) c (.lst (acc ++ [V.int v]))) ∧
        (upd (upd H1 Tt (.tup [.int (i : Nat), .int z])) c (.lst (acc ++ [V.int v]))) c = some (.lst (iv ((SPM.moved s m xs).take (i + 1)))) := fun v hv => by
      refine ⟨_, by rw [upd_ne nT]; exact hC, ?_, (hb.same (same_at _ hn)).trans (but_upd _ c _), ?_⟩
      · rw [iv_len, List.length_take]; exact small_lt (by omega)
      · rw [upd_same, List.take_add_one]
        have : (SPM.moved s m xs)[i]? = some v := by
          unfold SPM.moved
          rw [List.getElem?_map, List.getElem?_zipIdx, hz1, hv]
          simp
        rw [this]
        simp [iv]
    refine ⟨rfl, ?_⟩
    dsimp only [tYes]
    rw [if_pos rfl]
    refine bit_test (e := i) rfl rfl ?_
    refine if_2 (fun c1 => ?_) (fun c1 => ?_)
    · exact ⟨_, rfl, fin s (by rw [if_pos c1])⟩
    · exact ⟨_, rfl, fin z (by rw [c1]; rfl)⟩
  · obtain ⟨hb, hC⟩ := h
    have e : (SPM.moved s m xs).take xs.length = SPM.moved s m xs := by
      refine List.take_of_length_le ?_
      simp [SPM.moved]
    rw [iv_len, e] at hC
    refine ⟨c, _, rfl, .inl ⟨.inl (.inl hC), fun l hl => ?_⟩⟩
    exact q l _ upd_same ((But.of_new hc hb).trans (same_at _ hl))
end
end SP
end

section
set_option Elab.async false
set_option linter.all false
set_option maxRecDepth 100000
set_option maxHeartbeats 4000000
namespace SP
open PySem PySem.Spec PyProof.Rows L2 SPR
open SPM (enc ov)
abbrev sReports : Stmt := inClass (top 12) 9
abbrev nReports : List Str := ["self", "moment", "seen", "result", "k", "start", "finish", "least", "greatest", "delay", "duration", "mask"]
theorem scReports : FnScope ["self", "moment", "seen", "result", "k", "start", "finish", "least", "greatest", "delay", "duration", "mask"] ["self", "moment", "seen"] (defScope sReports) := ⟨rfl, rfl, rfl, by decide +kernel, rfl, by decide +kernel, by decide +kernel⟩
abbrev sAfterReport : Stmt := inClass (top 12) 10
abbrev nAfterReport : List Str := ["self", "moment", "seen", "mask", "result", "k", "start_3", "finish", "least_3", "greatest_3", "delay"]
theorem scAfterReport : FnScope ["self", "moment", "seen", "mask", "result", "k", "start_3", "finish", "least_3", "greatest_3", "delay"] ["self", "moment", "seen", "mask"] (defScope sAfterReport) := ⟨rfl, rfl, rfl, by decide +kernel, rfl, by decide +kernel, by decide +kernel⟩
abbrev sFollowers : Stmt := inClass (top 12) 11
abbrev nFollowers : List Str := ["self", "moment", "seen", "mask"]
theorem scFollowers : FnScope ["self", "moment", "seen", "mask"] ["self", "moment", "seen"] (defScope sFollowers) := ⟨rfl, rfl, rfl, by decide +kernel, rfl, by decide +kernel, by decide +kernel⟩
/-- the positions behind a move, report by report -/
def follow (p : Pln) (s : Nat) (t : Tms) : List PKey := (Vbjpae.reportsAt p t (s + 1)).map fun m => (((s + 1 : Nat) : Int), enc (Vbjpae.afterReport p (s + 1) t m))
def spReports (CP : Addr) : Sp := fun vs H Q _ => ∃ (a aW b : Addr) (p : Pln) (s : Nat) (t : Tms), vs = [.ref a, .int s, .ref b] ∧ PlanAt CP H a (rp p) aW ∧ SPM.PV p ∧ H b = some (.tup (iv (enc t))) ∧ t.length = p.count ∧
  ∀ l H', H l = none → H' l = some (.lst (nv (Vbjpae.reportsAt p t s))) → Same H H' → Q (.ref l) H'
def spAfterReport (CP : Addr) : Sp := fun vs H Q _ => ∃ (a aW b : Addr) (p : Pln) (s : Int) (m : Nat) (xs : List Int), vs = [.ref a, .int s, .ref b, .int m] ∧ PlanAt CP H a (rp p) aW ∧ SPM.PV p ∧ H b = some (.tup (iv xs)) ∧ xs.length = p.count ∧
  ∀ l H', PosAt H' l (s, p.tasks.zipIdx.foldl (SPM.repInt s m) xs) → Same H H' → Q (.ref l) H'
def spFollowers (CP : Addr) : Sp := fun vs H Q _ => ∃ (a aW b : Addr) (p : Pln) (s : Nat) (t : Tms), vs = [.ref a, .int s, .ref b] ∧ PlanAt CP H a (rp p) aW ∧ SPM.PV p ∧ H b = some (.tup (iv (enc t))) ∧ t.length = p.count ∧
  ∀ (l : Addr) (qs : List Addr) H', H l = none → H' l = some (.lst (qs.map V.ref)) → Paired (PosAt H') qs (follow p s t) → Same H H' → Q (.ref l) H'
def SeqIs (H : Hp) (b : Addr) (xs : List V) : Prop := H b = some (.tup xs) ∨ H b = some (.lst xs)
def spIsBroken (CP : Addr) : Sp := fun vs H Q _ => ∃ (a aW b : Addr) (p : Pln) (t : Tms), vs = [.ref a, .ref b] ∧ PlanAt CP H a (rp p) aW ∧ SPM.PV p ∧ SeqIs H b (iv (enc t)) ∧ t.length = p.count ∧ Q (.bl (Vbjpae.isBroken p t)) H
theorem same_upd {H H' : Hp} {l : Addr} {o : HO} (h : Same H H') (hl : H l = none) : Same H (upd H' l o) := fun b x e => by
  rw [upd_ne (ne_of_none e hl)]; exact h _ _ e
theorem rows_at {H : Hp} {qs : List Addr} {α : Type} {f : α → List Int} {ks : List α} (r : Paired (fun q r => H q = some (.tup (r.map V.int))) qs (ks.map f)) {i : Nat} {x : V} (h : (qs.map V.ref)[i]? = some x) : ∃ q k, x = .ref q ∧ ks[i]? = some k ∧ H q = some (.tup (iv (f k))) := by
  rw [List.getElem?_map] at h
  cases e : qs[i]? with
  | none => rw [e] at h; cases h
  | some q =>
    rw [e] at h
    obtain ⟨y, h1, h2⟩ := paired_at r i q e
    rw [List.getElem?_map] at h1
    cases e2 : ks[i]? with
    | none => rw [e2] at h1; cases h1
    | some k =>
      rw [e2] at h1
      cases h1
      exact ⟨q, k, (Option.some.inj h).symm, rfl, h2⟩
theorem rows_len {H : Hp} {qs : List Addr} {α : Type} {f : α → List Int} {ks : List α} (r : Paired (fun q r => H q = some (.tup (r.map V.int))) qs (ks.map f)) : (qs.map V.ref).length = ks.length := by
  have := Paired.length r
  rw [List.length_map] at this
  rw [List.length_map, this]
section
variable {P : Program} {w : World} {K : PySem.W.Frag} {mg : Str → Option Value} {base : Heap} {CP CR CE aS : Addr}
def repI (a b : Addr) (s : Nat) (H : Hp) (xs : Nat → List Nat) (i : Nat) (σ : Stt) (H' : Hp) : Prop := ∃ l x4 x5 x6 x7 x8 x9 x10, σ = [some (.ref a), some (.int s), some (.ref b), some (.ref l), x4, x5, x6, x7, x8, x9, x10, none] ∧ Same H H' ∧ H l = none ∧ H' l = some (.lst (nv (xs i)))
theorem repStep_len {t : Tms} {s : Nat} : ∀ (l : List (VbjpCore.Task × Nat)) (r : List Nat), (l.foldl (SPM.repStep t s) r).length ≤ 2 ^ l.length * r.length
  | [], r => by simp
  | x :: l, r => by
    rw [List.foldl_cons, List.length_cons]
    refine Nat.le_trans (repStep_len l _) ?_
    have : (SPM.repStep t s r x).length ≤ 2 * r.length := by
      unfold SPM.repStep
      split
      · simp; omega
      · split
        · simp; omega
        · omega
    calc 2 ^ l.length * (SPM.repStep t s r x).length ≤ 2 ^ l.length * (2 * r.length) := Nat.mul_le_mul_left _ this
      _ = 2 ^ (l.length + 1) * r.length := by rw [Nat.pow_succ, Nat.mul_assoc]
theorem take_zip {α : Type} {l : List α} {i : Nat} {a : α} (h : l[i]? = some a) {β : Type} (f : β → α × Nat → β) (b : β) : (l.take (i + 1)).zipIdx.foldl f b = f ((l.take i).zipIdx.foldl f b) (a, i) := by
  rw [SPM.take_succ_zip _ _ _ h, List.foldl_append]; rfl
theorem ok_reports {f : Addr} {fd : FuncData} (F : Fun K "reports" "Plan.reports" sReports f fd) (T : Txt K mg CP CR CE aS) : FnOk P w K mg base CX0 1 f fd ["self", "moment", "seen"] (spReports CP) := by
  have nd := scReports.nd
  refine F.ok scReports (fun vs H Q E h => ?_) (fun cdv A outer s H vs Q E hr h => ?_)
  · obtain ⟨_, _, _, _, _, _, rfl, _⟩ := h
    rfl
  obtain ⟨a, aW, b, p, s, t, rfl, ⟨dx, aT, aR, aO, hA, ⟨qs, hT, hq⟩, hR, hO⟩, hv, hB, hl, q⟩ := h
  refine ⟨_, (pss_cons (ps_set (i := 3) nd rfl (Or.inl rfl) (pe_lst (pa_cons pe_int pa_nil)))
    (pss_cons (ps_for PassesOwn.never rfl (pi_enum (by rfl) T.m_enumerate (pa_cons (pe_fldB rfl (pv 0) rfl) pa_nil)) (pg_tupB (n := 2) rfl rfl (pgs_cons (pg_name (i := 4) nd rfl (Or.inr rfl)) (pgs_cons (pg_tupB (n := 5) rfl rfl (pgs_cons (pg_name (i := 5) nd rfl (Or.inl rfl)) (pgs_cons (pg_name (i := 6) nd rfl (Or.inl rfl)) (pgs_cons (pg_name (i := 7) nd rfl (Or.inl rfl)) (pgs_cons (pg_name (i := 8) nd rfl (Or.inl rfl)) (pgs_cons (pg_name (i := 9) nd rfl (Or.inl rfl)) pgs_nil)))))) pgs_nil))) (pss_one (ps_if (PW.pt (pw_and (pt_cmpR op_eq (pe_ix (ix_tupB rfl) (pv 2) (pv 6) (fun _ _ => rfl)) (pe_k rfl T.cUN) (nomark _)) (pw_and1 (pt_cmpR op_ne (pe_ix (ix_tupB rfl) (pv 2) (pv 5) (fun _ _ => rfl)) (pe_k rfl T.cUN) (nomark _))))) (pss_cons (ps_set (i := 10) nd rfl (Or.inl rfl) (pe_op op_sub (pe_op op_sub (pv 1) (pv 9)) (pe_ix (ix_tupB rfl) (pv 2) (pv 5) (fun _ _ => rfl))))
    (pss_one (ps_if (pt_cmpR op_eq (pv 10) (pv 8) (nomark _)) (pss_one (ps_setLc (i := 3) (own := [("mask", 11)]) rfl nd rfl rfl (sw_true rfl rfl rfl (by decide +kernel)) (pi_list (pv 3)) (blkOk_by (own := [("mask", 11)]) (N := ["self", "moment", "seen", "result", "k", "start", "finish", "least", "greatest", "delay", "duration", "mask"]) (sc := (defScope sReports)) (by decide +kernel)) (fun _ _ _ _ _ => (pg_name (i := 11) nd rfl (Or.inl rfl) (Or.inr rfl))) (fun _ _ _ _ _ => pts_nil) (fun _ _ _ _ _ => (pe_op op_or (pv 11) (pe_op op_oneShl pe_int (pv 4)))))) (pss_one (ps_if (pt_chain op_le op_lt (pv 7) (pv 10) (pv 8)) (pss_one (ps_aug (i := 3) nd rfl (Or.inl rfl) (pe_lc (own := [("mask", 11)]) rfl nd (pi_list (pv 3)) (blkOk_by (own := [("mask", 11)]) (N := ["self", "moment", "seen", "result", "k", "start", "finish", "least", "greatest", "delay", "duration", "mask"]) (sc := (defScope sReports)) (by decide +kernel)) (fun _ _ _ _ _ => (pg_name (i := 11) nd rfl (Or.inl rfl) (Or.inr rfl))) (fun _ _ _ _ _ => pts_nil) (fun _ _ _ _ _ => (pe_op op_or (pv 11) (pe_op op_oneShl pe_int (pv 4))))) iop_ext)) pss_nil))))) pss_nil)))
    (pss_one (ps_ret (pe_callB cr_sortedI (by rfl) T.m_sorted (by decide +kernel) (pa_cons (pv 3) pa_nil)))))), ?_⟩
  refine ⟨by show 1 ≤ sizeLine; rw [sizeLine_eq]; decide, fun l hl0 => ?_⟩
  have sm0 : Same H (upd H l (.lst [.int 0])) := same_at _ hl0
  refine ⟨_, rfl, a, CP, dx, _, _, rfl, sm0 _ _ hA, T.clP, T.fT, pF_tasks, aT, _, rfl, .inl (.inl (sm0 _ _ hT)), ?_⟩
  have lq : (qs.map V.ref).length = p.tasks.length := rows_len hq
  refine for_it (walk_enum (xs := qs.map V.ref)) (repI a b s H fun i => (p.tasks.take i).zipIdx.foldl (SPM.repStep t s) [0])
    ⟨l, _, _, _, _, _, _, _, rfl, sm0, hl0, upd_same⟩ (fun i σ H' _ h => by obtain ⟨_, _, _, _, _, _, _, _, _, sm, _⟩ := h; exact .inl (.inl (sm _ _ hT))) (fun i x σ H1 H2 hi hP hY => ?_) (fun σ H' hP => ?_)
  · obtain ⟨l, x4, x5, x6, x7, x8, x9, x10, rfl, sm, hl0, hL⟩ := hP
    dsimp only at hL
    obtain ⟨Tt, y1, y2, rfl, hn, rfl, e1, e2⟩ := hY
    cases e1
    obtain ⟨qk, k, rfl, hk, hQ⟩ := rows_at hq e2
    rw [lq] at hi
    have sm1 : Same H1 (upd H1 Tt (.tup [.int (i : Nat), .ref qk])) := same_at _ hn
    have sm2 := sm.trans sm1
    have hL2 := sm1 _ _ hL
    generalize hH2 : upd H1 Tt (.tup [.int (i : Nat), .ref qk]) = H2 at sm1 sm2 hL2
    have hTt : H2 Tt = some (.tup [.int (i : Nat), .ref qk]) := by rw [← hH2]; exact upd_same
    obtain ⟨v1, v2, v3, v4, v5, v6, v7, v8⟩ := hv.task k (List.mem_of_getElem? hk)
    have t3 := hv.t3
    refine ⟨Tt, _, rfl, .inl (.inl hTt), rfl, _, _, rfl, _, _, rfl, qk, _, rfl, .inl (.inl (sm2 _ _ hQ)), rfl, _, _, rfl, _, _, rfl, _, _, rfl, _, _, rfl, _, _, rfl, rfl, rfl, ?_⟩
    have len : ((p.tasks.take i).zipIdx.foldl (SPM.repStep t s) [0]).length ≤ 8 := by
      refine Nat.le_trans (repStep_len _ _) ?_
      have h3 : (p.tasks.take i).zipIdx.length ≤ 3 := by rw [List.length_zipIdx, List.length_take]; omega
      calc 2 ^ (p.tasks.take i).zipIdx.length * 1 ≤ 2 ^ 3 * 1 := Nat.mul_le_mul_right _ (Nat.pow_le_pow_right (by decide) h3)
        _ = 8 := by decide
    have stp := take_zip hk (SPM.repStep t s) [0]
    have none_ : SPM.canReport' t s k = false → ∀ x10', repI a b s H (fun i => (p.tasks.take i).zipIdx.foldl (SPM.repStep t s) [0]) (i + 1)
        [some (.ref a), some (.int s), some (.ref b), some (.ref l), some (.int (i : Int)), some (.int k.start), some (.int k.finish), some (.int k.least), some (.int k.greatest), some (.int k.delay), x10', none] H2 := fun hc x10' => by
      refine ⟨l, _, _, _, _, _, _, _, rfl, sm2, hl0, ?_⟩
      dsimp only
      rw [stp, SPM.repStep_no v6 hc]
      exact hL2
    refine ⟨_, rfl, _, rfl, b, _, _, _, rfl, rfl, .inl (.inl (sm2 _ _ hB)), atI_nat (seen_at (by omega)), rfl, _, rfl, ?_⟩
    rw [seen_dec]
    cases ef : VbjpCore.timeAt t k.finish with
    | some y => exact if_f rfl (if_f rfl (none_ (by unfold SPM.canReport' Vbjpae.canReport; rw [ef]; cases VbjpCore.timeAt t k.start <;> rfl) _))
    | none =>
      refine if_t rfl ?_
      refine ⟨_, rfl, _, rfl, b, _, _, _, rfl, rfl, .inl (.inl (sm2 _ _ hB)), atI_nat (seen_at (by omega)), rfl, _, rfl, ?_⟩
      rw [seen_dec]
      cases es : VbjpCore.timeAt t k.start with
      | none => exact if_f rfl (none_ (by unfold SPM.canReport' Vbjpae.canReport; rw [es]) _)
      | some a0 =>
        refine if_t rfl ?_
        refine ⟨_, rfl, _, rfl, _, _, rfl, rfl, _, rfl, _, rfl, b, _, _, _, rfl, rfl, .inl (.inl (sm2 _ _ hB)), atI_nat (seen_at (by omega)), _, _, rfl, rfl, ?_⟩
        rw [es, SPM.opt_some]
        refine ⟨_, rfl, _, rfl, rfl, _, rfl, ?_⟩
        rw [dec_int]
        refine if_2 (fun c => ?_) (fun c => ?_)
        · have c := of_decide_eq_true c
          have must : Vbjpae.mustReport t s k = true := by
            unfold Vbjpae.mustReport
            rw [es, ef]
            simp
            omega
          refine lc_mask (k := i) rfl hL2 (by omega) (by omega) (fun _ => rfl) (fun _ => rfl) (fun _ => rfl) fun c' hc' => ?_
          refine ⟨c', _, _, _, _, _, _, _, rfl, sm2.trans (same_at _ hc'), sm2.free hc', ?_⟩
          dsimp only
          rw [upd_same, stp]
          unfold SPM.repStep
          rw [if_pos must]
        · have c := of_decide_eq_false c
          have must : ¬ Vbjpae.mustReport t s k = true := by
            unfold Vbjpae.mustReport
            rw [es, ef]
            simp
            omega
          refine ⟨_, rfl, _, rfl, _, _, rfl, rfl, _, rfl, ?_⟩
          refine if_2 (fun c2 => ?_) (fun c2 => ?_)
          · have c2 := of_decide_eq_true c2
            refine ⟨_, rfl, _, _, rfl, rfl, _, rfl, if_2 (fun c3 => ?_) (fun c3 => ?_)⟩
            · have c3 := of_decide_eq_true c3
              have can : Vbjpae.canReport t s k = true := by
                unfold Vbjpae.canReport
                rw [es, ef]
                simp
                omega
              refine ⟨_, rfl, lc_mask (k := i) rfl hL2 (by omega) (by omega) (fun _ => rfl) (fun _ => rfl) (fun _ => rfl) fun c' hc' => ?_⟩
              have nc : l ≠ c' := ne_of_none hL2 hc'
              refine ⟨l, c', _, _, rfl, rfl, by rw [upd_ne nc]; exact hL2, upd_same, ?_, ?_⟩
              · rw [nv_len, nv_len, List.length_map, sizeLine_eq]; omega
              · refine ⟨l, _, _, _, _, _, _, _, rfl, same_upd (sm2.trans (same_at _ hc')) hl0, hl0, ?_⟩
                dsimp only
                rw [upd_same, stp]
                unfold SPM.repStep
                rw [if_neg must, if_pos can]
                simp [nv]
            · have c3 := of_decide_eq_false c3
              refine none_ ?_ _
              unfold SPM.canReport' Vbjpae.canReport
              rw [es, ef]
              simp
              omega
          · have c2 := of_decide_eq_false c2
            refine ⟨_, rfl, if_f rfl ?_⟩
            refine none_ ?_ _
            unfold SPM.canReport' Vbjpae.canReport
            rw [es, ef]
            simp
            omega
  · obtain ⟨l, x4, x5, x6, x7, x8, x9, x10, rfl, sm, hl0, hL⟩ := hP
    dsimp only at hL
    rw [lq, List.take_length, SPM.reports_prog p t s fun k hk => (hv.task k hk).2.2.2.2.2.1] at hL
    refine ⟨_, rfl, l, (Vbjpae.reportsAt p t s).map Int.ofNat, rfl, .inl (.inl (by rw [hL]; congr 2; exact nv_iv _)), fun ns' l2 hp hs hn => ?_⟩
    have srt : (Vbjpae.reportsAt p t s).Pairwise (· < ·) := by rw [SPM.reportsAt_gen]; exact SPM.gen_sorted _ _ _
    rw [sorted_same srt hp hs]
    exact q l2 _ (sm.free hn) (by rw [upd_same, nv_iv]) (sm.trans (same_at _ hn))

theorem repInt_len (s : Int) (m : Nat) : ∀ (l : List (VbjpCore.Task × Nat)) (xs : List Int), (l.foldl (SPM.repInt s m) xs).length = xs.length
  | [], _ => rfl
  | x :: l, xs => by
    rw [List.foldl_cons, repInt_len s m l]
    unfold SPM.repInt
    split
    · exact List.length_set
    · rfl
theorem iv_set (xs : List Int) (i : Nat) (z : Int) : (iv xs).set i (V.int z) = iv (xs.set i z) := by simp [iv, List.map_set]
theorem ixN_nat {n j : Nat} (hj : j < n) : ixN n (j : Int) = some j := by
  unfold ixN
  rw [if_pos (by omega), if_pos (by omega)]
  simp
theorem ok_after_report {f : Addr} {fd : FuncData} (F : Fun K "after_report" "Plan.after_report" sAfterReport f fd) (T : Txt K mg CP CR CE aS) : FnOk P w K mg base CX0 1 f fd ["self", "moment", "seen", "mask"] (spAfterReport CP) := by
  have nd := scAfterReport.nd
  refine F.ok scAfterReport (fun vs H Q E h => ?_) (fun cdv A outer s H vs Q E hr h => ?_)
  · obtain ⟨_, _, _, _, _, _, _, rfl, _⟩ := h
    rfl
  obtain ⟨a, aW, b, p, s, m, xs, rfl, ⟨dx, aT, aR, aO, hA, ⟨qs, hT, hq⟩, hR, hO⟩, hv, hB, hl, q⟩ := h
  refine ⟨_, (pss_cons (ps_set (i := 4) nd rfl (Or.inl rfl) (pe_callTy (call_listQ rfl) (by rfl) T.m_list (by decide +kernel) (pa_cons (pv 2) pa_nil)))
    (pss_cons (ps_for PassesOwn.never rfl (pi_enum (by rfl) T.m_enumerate (pa_cons (pe_fldB rfl (pv 0) rfl) pa_nil)) (pg_tupB (n := 2) rfl rfl (pgs_cons (pg_name (i := 5) nd rfl (Or.inl rfl)) (pgs_cons (pg_tupB (n := 5) rfl rfl (pgs_cons (pg_name (i := 6) nd rfl (Or.inl rfl)) (pgs_cons (pg_name (i := 7) nd rfl (Or.inl rfl)) (pgs_cons (pg_name (i := 8) nd rfl (Or.inl rfl)) (pgs_cons (pg_name (i := 9) nd rfl (Or.inl rfl)) (pgs_cons (pg_name (i := 10) nd rfl (Or.inl rfl)) pgs_nil)))))) pgs_nil))) (pss_one (ps_if (pt_truthB rfl (pe_op op_odd (pe_op op_shrN (pv 3) (pv 5)) pe_int) (by intro _; rfl)) (pss_one (ps_asg (pe_op op_sub (pv 1) (pv 10)) (pg_sub (pv 4) (pv 7) set_list))) pss_nil)))
    (pss_one (ps_ret (pe_tup (pa_cons (pv 1) (pa_cons (pe_callTy (call_tupleQ rfl) (by rfl) T.m_tuple (by decide +kernel) (pa_cons (pv 4) pa_nil)) pa_nil))))))), ?_⟩
  refine ⟨_, rfl, b, _, rfl, .inr (.inl (.inl hB)), fun l hl0 => ?_⟩
  have sm0 : Same H (upd H l (.lst (iv xs))) := same_at _ hl0
  refine ⟨_, rfl, a, CP, dx, _, _, rfl, sm0 _ _ hA, T.clP, T.fT, pF_tasks, aT, _, rfl, .inl (.inl (sm0 _ _ hT)), ?_⟩
  have lq : (qs.map V.ref).length = p.tasks.length := rows_len hq
  refine for_it (walk_enum (xs := qs.map V.ref)) (fun i σ H' => (∃ x5 x6 x7 x8 x9 x10, σ = [some (.ref a), some (.int s), some (.ref b), some (.int m), some (.ref l), x5, x6, x7, x8, x9, x10]) ∧ Same H H' ∧ H' l = some (.lst (iv ((p.tasks.take i).zipIdx.foldl (SPM.repInt s m) xs))))
    ⟨⟨_, _, _, _, _, _, rfl⟩, sm0, upd_same⟩ (fun i σ H' _ h => .inl (.inl (h.2.1 _ _ hT))) (fun i x σ H1 H2 hi hP hY => ?_) (fun σ H' hP => ?_)
  · obtain ⟨⟨x5, x6, x7, x8, x9, x10, rfl⟩, sm, hL⟩ := hP
    obtain ⟨Tt, y1, y2, rfl, hn, rfl, e1, e2⟩ := hY
    cases e1
    obtain ⟨qk, k, rfl, hk, hQ⟩ := rows_at hq e2
    rw [lq] at hi
    have sm1 : Same H1 (upd H1 Tt (.tup [.int (i : Nat), .ref qk])) := same_at _ hn
    have sm2 := sm.trans sm1
    have hL2 := sm1 _ _ hL
    generalize hH2 : upd H1 Tt (.tup [.int (i : Nat), .ref qk]) = H2 at sm1 sm2 hL2
    have hTt : H2 Tt = some (.tup [.int (i : Nat), .ref qk]) := by rw [← hH2]; exact upd_same
    obtain ⟨v1, v2, v3, v4, v5, v6, v7, v8⟩ := hv.task k (List.mem_of_getElem? hk)
    have stp := take_zip hk (SPM.repInt s m) xs
    refine ⟨Tt, _, rfl, .inl (.inl hTt), rfl, _, _, rfl, _, _, rfl, qk, _, rfl, .inl (.inl (sm2 _ _ hQ)), rfl, _, _, rfl, _, _, rfl, _, _, rfl, _, _, rfl, _, _, rfl, rfl, rfl, ?_⟩
    refine bit_test (e := i) rfl rfl ?_
    refine if_2 (fun c => ?_) (fun c => ?_)
    · refine ⟨_, rfl, _, rfl, _, _, rfl, rfl, _, rfl, _, rfl, l, _, k.finish, k.finish, rfl, rfl, hL2, ixN_nat ?_, ?_⟩
      · rw [iv_len, repInt_len]; omega
      · refine ⟨⟨_, _, _, _, _, _, rfl⟩, same_upd sm2 hl0, ?_⟩
        rw [upd_same, stp, iv_set]
        unfold SPM.repInt
        dsimp only
        rw [if_pos c]
    · refine ⟨⟨_, _, _, _, _, _, rfl⟩, sm2, ?_⟩
      rw [hL2, stp]
      unfold SPM.repInt
      dsimp only
      rw [if_neg (by rw [c]; exact Bool.false_ne_true)]
  · obtain ⟨⟨x5, x6, x7, x8, x9, x10, rfl⟩, sm, hL⟩ := hP
    rw [lq, List.take_length] at hL
    refine ⟨_, rfl, _, rfl, l, _, rfl, .inl ⟨.inl (.inl hL), fun l2 h2 => ?_⟩⟩
    refine ⟨by show 2 ≤ sizeLine; rw [sizeLine_eq]; decide, fun t ht => ?_⟩
    refine q t _ ⟨l2, upd_same, ?_⟩ ((sm.trans (same_at _ h2)).trans (same_at _ ht))
    rw [upd_ne (ne_of_none (o := .tup _) upd_same ht)]
    exact upd_same
theorem follow_len (p : Pln) (s : Nat) (t : Tms) : (follow p s t).length = (Vbjpae.reportsAt p t (s + 1)).length := List.length_map _
theorem reports_len {p : Pln} (hv : SPM.PV p) (s : Nat) (t : Tms) : (Vbjpae.reportsAt p t s).length ≤ 8 := by
  rw [SPM.reportsAt_gen]
  refine Nat.le_trans (SPM.gen_len _ _ _) ?_
  calc 2 ^ p.tasks.length ≤ 2 ^ 3 := Nat.pow_le_pow_right (by decide) hv.t3
    _ = 8 := by decide
theorem moves_len {p : Pln} (h : p.count ≤ 6) (t : Tms) : (Vbjpae.movesAt p t).length ≤ 64 := by
  rw [SPM.movesAt_gen]
  refine Nat.le_trans (SPM.gen_len _ _ _) ?_
  calc 2 ^ p.count ≤ 2 ^ 6 := Nat.pow_le_pow_right (by decide) h
    _ = 64 := by decide
theorem ok_followers {f : Addr} {fd : FuncData} (F : Fun K "followers" "Plan.followers" sFollowers f fd) (T : Txt K mg CP CR CE aS) (M_reports : MetX P w K mg base CX0 1 CP "reports" (spReports CP)) (M_after_report : MetX P w K mg base CX0 1 CP "after_report" (spAfterReport CP)) : FnOk P w K mg base CX0 2 f fd ["self", "moment", "seen"] (spFollowers CP) := by
  have nd := scFollowers.nd
  refine F.ok scFollowers (fun vs H Q E h => ?_) (fun cdv A outer s H vs Q E hr h => ?_)
  · obtain ⟨_, _, _, _, _, _, rfl, _⟩ := h
    rfl
  obtain ⟨a, aW, b, p, s, t, rfl, hA, hv, hB, hl, q⟩ := h
  refine ⟨_, (pss_one (ps_ret (pe_lc (own := [("mask", 3)]) rfl nd (pi_list (pe_mx M_reports T.clP hr (by first | decide | omega) (no0 (E := fun _ => E0)) (pv 0) (pa_cons (pe_op op_add (pv 1) pe_int) (pa_cons (pv 2) pa_nil)))) (blkOk_by (own := [("mask", 3)]) (N := ["self", "moment", "seen", "mask"]) (sc := (defScope sFollowers)) (by decide +kernel)) (fun _ _ _ _ _ => (pg_name (i := 3) nd rfl (Or.inl rfl) (Or.inr rfl))) (fun _ _ _ _ _ => pts_nil) (fun _ _ _ _ _ => (pe_mx M_after_report T.clP hr (by first | decide | omega) (no0 (E := fun _ => E0)) (pv 0) (pa_cons (pe_op op_add (pv 1) pe_int) (pa_cons (pv 2) (pa_cons (pv 3) pa_nil)))))))), ?_⟩
  obtain ⟨dx, aT, aR, aO, hA0, _⟩ := id hA
  have es : (s : Int) + 1 = ((s + 1 : Nat) : Int) := by omega
  refine ⟨_, rfl, a, dx, _, rfl, hA0, pF_none (by decide +kernel), _, rfl, _, _, rfl, rfl, _, rfl, ?_⟩
  dsimp only
  rw [es]
  refine ⟨a, aW, b, p, s + 1, t, rfl, hA, hv, hB, hl, fun l H' hl0 hL sm => ?_⟩
  have hSL : SqL K H' l (nv (Vbjpae.reportsAt p t (s + 1))) := .inl (.inl hL)
  refine ⟨l, rfl, ⟨_, hSL⟩, fun c hc => ?_⟩
  have nl : l ≠ c := ne_of_none hL hc
  have lr := reports_len hv (s + 1) t
  refine lc_it (walk_list (xs := nv (Vbjpae.reportsAt p t (s + 1)))) (fun i H1 => But c H' H1 ∧ ∃ qs : List Addr, H1 c = some (.lst (qs.map V.ref)) ∧ Paired (PosAt H1) qs ((follow p s t).take i)) ⟨but_upd H' c _, [], upd_same, .nil⟩ (fun i H1 _ h => .inl (.inl (h.1 _ _ hL nl))) (fun i x H1 H2 hi hP hY => ?_) (fun H1 h => ?_)
  · obtain ⟨hb, qs, hC, hp⟩ := hP
    obtain ⟨rfl, hx⟩ := hY
    obtain ⟨m, hm, rfl⟩ := nv_at_of hx
    rw [nv_len] at hi
    refine ⟨rfl, ?_⟩
    dsimp only [tYes]
    rw [if_pos rfl]
    have smb : Same H H2 := sm.trans (But.of_new hc hb)
    have hA2 := hA.same smb
    refine ⟨_, rfl, a, dx, _, rfl, smb _ _ hA0, pF_none (by decide +kernel), _, rfl, _, _, rfl, rfl, _, rfl, _, rfl, ?_⟩
    dsimp only
    rw [es]
    refine ⟨a, aW, b, p, _, m, enc t, rfl, hA2, hv, smb _ _ hB, by rw [SPM.enc_len]; exact hl, fun l2 H3 hp3 sm3 => ?_⟩
    refine ⟨_, sm3 _ _ hC, ?_, (hb.same sm3).trans (but_upd _ c _), qs ++ [l2], ?_, ?_⟩
    · have := Paired.length hp
      rw [List.length_map, this]
      refine small_lt ?_
      rw [List.length_take, follow_len]
      omega
    · rw [upd_same, List.map_append]; rfl
    · have e : (follow p s t)[i]? = some (((s + 1 : Nat) : Int), p.tasks.zipIdx.foldl (SPM.repInt ((s + 1 : Nat) : Int) m) (enc t)) := by
        unfold follow
        rw [List.getElem?_map, hm, SPM.reported_is (List.mem_of_getElem? hm)]
        rfl
      rw [List.take_add_one, e]
      have tk : ∀ {t' : Addr} {k : PKey}, PosAt H3 t' k → PosAt (upd H3 c (.lst ((qs.map V.ref) ++ [V.ref l2]))) t' k := fun {t' k} h => h.keep fun b' ys hb' => by
        rw [upd_ne (ne_of hb' (sm3 _ _ hC) (fun z => nomatch z))]
        exact hb'
      exact Paired.snoc (Paired.mapP hp fun _ _ z => tk (z.keep (same_tups sm3))) (tk hp3)
  · obtain ⟨hb, qs, hC, hp⟩ := h
    rw [nv_len, ← follow_len, List.take_length] at hp
    exact q c qs H1 (sm.free hc) hC hp (sm.trans (But.of_new hc hb))
end
end SP
end

section
set_option Elab.async false
set_option linter.all false
set_option maxRecDepth 100000
set_option maxHeartbeats 4000000
namespace SP
open PySem PySem.Spec PyProof.Rows L2 SPR
abbrev sNextRow : Stmt := top 3
abbrev nNextRow : List Str := ["at", "sizes", "result", "place"]
theorem scNextRow : FnScope ["at", "sizes", "result", "place"] ["at", "sizes"] (defScope sNextRow) := ⟨rfl, rfl, rfl, by decide +kernel, rfl, by decide +kernel, by decide +kernel⟩
abbrev sFirstRow : Stmt := top 4
abbrev nFirstRow : List Str := ["sizes", "size"]
theorem scFirstRow : FnScope ["sizes", "size"] ["sizes"] (defScope sFirstRow) := ⟨rfl, rfl, rfl, by decide +kernel, rfl, by decide +kernel, by decide +kernel⟩
theorem nv_set (xs : List Nat) (i a : Nat) : (nv xs).set i (V.int (a : Int)) = nv (xs.set i a) := by simp [nv, List.map_set]
def NextQ (at_ ns : List Nat) (H : Hp) (Q : VK) : Prop := match SPM.nextL at_ ns with
  | some r => ∀ c H', H c = none → H' c = some (.lst (nv r)) → Same H H' → Q (.ref c) H'
  | none => ∀ H', Same H H' → Q .non H'
theorem next_cases {at_ sz : List Nat} {H : Hp} {Q : VK} (h : ∀ v H', Same H H' → ((v = .non ∧ SPM.nextL at_ sz = none) ∨ ∃ c r, v = .ref c ∧ SPM.nextL at_ sz = some r ∧ H' c = some (.lst (nv r))) → Q v H') : NextQ at_ sz H Q := by
  unfold NextQ
  cases e : SPM.nextL at_ sz with
  | none => exact fun H' s => h _ _ s (.inl ⟨rfl, e⟩)
  | some r => exact fun c H' _ hc s => h _ _ s (.inr ⟨c, r, rfl, e, hc⟩)
def spNextRow : Sp := fun vs H Q _ => ∃ (a b : Addr) (at_ ns : List Nat), vs = [.ref a, .ref b] ∧ H a = some (.lst (nv at_)) ∧ H b = some (.lst (nv ns)) ∧ at_.length = ns.length ∧ at_.length ≤ 1000 ∧
  NextQ at_ ns H Q
def spFirstRow : Sp := fun vs H Q _ => ∃ (b : Addr) (ns : List Nat), vs = [.ref b] ∧ H b = some (.lst (nv ns)) ∧ ns.length ≤ 1000 ∧
  ((∃ n ∈ ns, n = 0) → Q .non H) ∧ ((∀ n ∈ ns, 0 < n) → ∀ c H', H c = none → H' c = some (.lst (nv (List.replicate ns.length 0))) → Same H H' → Q (.ref c) H')
section
variable {P : Program} {w : World} {K : PySem.W.Frag} {mg : Str → Option Value} {base : Heap} {CP CR CE aS : Addr}
theorem row_set {α : Type} {P R : List α} {a x : α} {i : Nat} (h : P.length = i) : (P ++ a :: R).set i x = P ++ x :: R := by subst h; simp
theorem row_at {α : Type} {P R : List α} {a : α} {i : Nat} (h : P.length = i) : (P ++ a :: R)[i]? = some a := by subst h; simp
theorem ok_next_row {f : Addr} {fd : FuncData} (F : Fun K "next_row" "next_row" sNextRow f fd) (T : Txt K mg CP CR CE aS) : FnOk P w K mg base CX0 1 f fd ["at", "sizes"] spNextRow := by
  have nd := scNextRow.nd
  refine F.ok scNextRow (fun vs H Q E h => ?_) (fun cdv A outer s H vs Q E hr h => ?_)
  · obtain ⟨a, b, at_, ns, rfl, _⟩ := h
    rfl
  obtain ⟨a, b, at_, ns, rfl, hA, hB, hl, hz, q⟩ := h
  refine ⟨_, (pss_cons (ps_set (i := 2) nd rfl (Or.inl rfl) (pe_callTy (call_listQ rfl) (by rfl) T.m_list (by decide +kernel) (pa_cons (pv 0) pa_nil)))
    (pss_cons (ps_set (i := 3) nd rfl (Or.inl rfl) (pe_op op_sub (pe_callB (call_lenQ rfl) (by rfl) T.m_len (by decide +kernel) (pa_cons (pv 2) pa_nil)) pe_int))
    (pss_cons (ps_while PassesOwn.never (pt_cmpR op_ge (pv 3) pe_int (nomark _)) (pss_cons (ps_asg (pe_op op_add (pe_ix (ix_listB rfl) (pv 2) (pv 3) (fun _ _ => rfl)) pe_int) (pg_sub (pv 2) (pv 3) set_list))
    (pss_cons (ps_if (pt_cmpR op_lt (pe_ix (ix_listB rfl) (pv 2) (pv 3) (fun _ _ => rfl)) (pe_ix (ix_listB rfl) (pv 1) (pv 3) (fun _ _ => rfl)) (nomark _)) (pss_one (ps_ret (pv 2))) pss_nil)
    (pss_cons (ps_asg pe_int (pg_sub (pv 2) (pv 3) set_list))
    (pss_one (ps_set (i := 3) nd rfl (Or.inl rfl) (pe_op op_sub (pv 3) pe_int)))))))
    (pss_one (ps_ret pe_non))))), ?_⟩
  refine ⟨_, rfl, _, _, rfl, .inl (.inl (.inl hA)), fun c hc => ?_⟩
  refine ⟨_, rfl, _, _, rfl, .inl (.inl (.inl upd_same)), _, _, rfl, rfl, ?_⟩
  rw [nv_len]
  have q' : ∀ r, SPM.nextL at_ ns = some r → ∀ H', H' c = some (.lst (nv r)) → Same H H' → Q (.ref c) H' := fun r e H' h1 h2 => by unfold NextQ at q; rw [e] at q; exact q c H' hc h1 h2
  have qn : SPM.nextL at_ ns = none → ∀ H', Same H H' → Q .non H' := fun e H' h2 => by unfold NextQ at q; rw [e] at q; exact q H' h2
  clear q
  refine ⟨fun j σ H' => j ≤ at_.length ∧ σ = [some (.ref a), some (.ref b), some (.ref c), some (.int ((j : Int) - 1))] ∧ H' c = some (.lst (nv (at_.take j ++ List.replicate (at_.length - j) 0))) ∧ But c H H' ∧ SPM.nextL (at_.drop j) (ns.drop j) = none,
    ⟨at_.length, Nat.le_refl _, rfl, by rw [List.take_length, Nat.sub_self]; simp [upd_same], but_upd H c _, by rw [List.drop_length]; rfl⟩, fun j σ H' hW => ?_⟩
  obtain ⟨hj, rfl, hC, hb, hn⟩ := hW
  have hbS : Same H H' := But.of_new hc hb
  refine ⟨_, rfl, _, _, rfl, rfl, _, rfl, if_2 (fun t => ?_) (fun t => ?_)⟩
  · have hj1 : 1 ≤ j := by have := of_decide_eq_true t; omega
    obtain ⟨i, rfl⟩ : ∃ i, j = i + 1 := ⟨j - 1, by omega⟩
    have hi : i < at_.length := by omega
    obtain ⟨n, hn'⟩ : ∃ n, ns[i]? = some n := ⟨_, List.getElem?_eq_getElem (by omega)⟩
    have ei : ((i + 1 : Nat) : Int) - 1 = (i : Int) := by omega
    have ha := List.getElem?_eq_getElem hi
    have eL : at_.take (i + 1) ++ List.replicate (at_.length - (i + 1)) 0 = at_.take i ++ at_[i] :: List.replicate (at_.length - (i + 1)) 0 := by
      rw [List.take_add_one, ha, Option.toList_some, List.append_assoc]; rfl
    have lP : (at_.take i).length = i := by rw [List.length_take]; omega
    rw [eL] at hC
    have d1 : at_.drop i = at_[i] :: at_.drop (i + 1) := List.drop_eq_getElem_cons hi
    have d2 : ns.drop i = n :: ns.drop (i + 1) := by
      have hi2 : i < ns.length := by omega
      rw [List.drop_eq_getElem_cons hi2]
      rw [List.getElem?_eq_getElem hi2] at hn'
      cases hn'; rfl
    have nx : SPM.nextL (at_.drop i) (ns.drop i) = if at_[i] + 1 < n then some ((at_[i] + 1) :: List.replicate (at_.length - (i + 1)) 0) else none := by
      rw [d1, d2, SPM.nextL_cons, hn, List.length_drop]
    refine ⟨fun σ' H'' => σ' = [some (.ref a), some (.ref b), some (.ref c), some (.int ((i : Int) - 1))] ∧ H'' c = some (.lst (nv (at_.take i ++ List.replicate (at_.length - i) 0))) ∧ But c H H'' ∧ SPM.nextL (at_.drop i) (ns.drop i) = none,
      fun σ' H'' ⟨e1, e2, e3, e4⟩ => ⟨i, by omega, by omega, e1, e2, e3, e4⟩, ?_⟩
    rw [ei]
    have lt1 : ∀ x : Nat, i < (nv (at_.take i ++ x :: List.replicate (at_.length - (i + 1)) 0)).length := fun x => by rw [nv_len, List.length_append, lP, List.length_cons]; omega
    have at1 : ∀ x : Nat, atI (nv (at_.take i ++ x :: List.replicate (at_.length - (i + 1)) 0)) ((i : Nat) : Int) = some (V.int (x : Int)) := fun x => atI_nat (nv_at (row_at lP))
    have st1 : ∀ x y : Nat, (nv (at_.take i ++ x :: List.replicate (at_.length - (i + 1)) 0)).set i (V.int (y : Int)) = nv (at_.take i ++ y :: List.replicate (at_.length - (i + 1)) 0) := fun x y => by
      rw [nv_set, row_set lP]
    refine ⟨_, rfl, _, rfl, _, _, _, _, rfl, rfl, .inl (.inl hC), at1 _, _, _, rfl, rfl, ?_⟩
    refine ⟨_, rfl, _, rfl, _, _, _, _, rfl, rfl, hC, ixN_nat (lt1 _), ?_⟩
    dsimp only
    rw [show (at_[i] : Int) + 1 = ((at_[i] + 1 : Nat) : Int) by omega, st1]
    have hb' : But c H (upd H' c (.lst (nv (at_.take i ++ (at_[i] + 1) :: List.replicate (at_.length - (i + 1)) 0)))) := hb.trans (but_upd H' c _)
    have hB' := hb' b _ hB (ne_of_none hB hc)
    refine ⟨_, rfl, _, rfl, _, _, _, _, rfl, rfl, .inl (.inl upd_same), at1 _, _, rfl, _, rfl, ?_⟩
    refine ⟨_, _, _, _, rfl, rfl, .inl (.inl hB'), atI_nat (nv_at hn'), _, _, rfl, rfl, _, rfl, if_2 (fun t2 => ?_) (fun t2 => ?_)⟩
    · have lt : at_[i] + 1 < n := by have := of_decide_eq_true t2; omega
      rw [if_pos lt] at nx
      have := SPM.nextL_up at_ ns i _ hl nx
      exact ⟨_, rfl, q' _ this _ upd_same (But.of_new hc hb')⟩
    · have nlt : ¬ at_[i] + 1 < n := by have := of_decide_eq_false t2; omega
      rw [if_neg nlt] at nx
      refine ⟨_, rfl, _, rfl, _, _, _, _, rfl, rfl, upd_same, ixN_nat (lt1 _), ?_⟩
      refine ⟨_, rfl, _, _, rfl, rfl, rfl, ?_, ?_, nx⟩
      · rw [upd_same]
        congr 2
        have := st1 (at_[i] + 1) 0
        rw [show V.int 0 = V.int ((0 : Nat) : Int) from rfl, this]
        congr 2
        rw [show at_.length - i = (at_.length - (i + 1)) + 1 by omega, List.replicate_succ]
      · exact hb'.trans (but_upd _ c _)
  · have hj0 : j = 0 := by have := of_decide_eq_false t; omega
    subst hj0
    exact qn (by simpa using hn) H' hbS
theorem ok_first_row {f : Addr} {fd : FuncData} (F : Fun K "first_row" "first_row" sFirstRow f fd) (T : Txt K mg CP CR CE aS) : FnOk P w K mg base CX0 1 f fd ["sizes"] spFirstRow := by
  have nd := scFirstRow.nd
  refine F.ok scFirstRow (fun vs H Q E h => ?_) (fun cdv A outer s H vs Q E hr h => ?_)
  · obtain ⟨b, ns, rfl, _⟩ := h
    rfl
  obtain ⟨b, ns, rfl, hB, hz, qn, qs⟩ := h
  refine ⟨_, (pss_cons (ps_for PassesOwn.never rfl (pi_list (pv 0)) (pg_name (i := 1) nd rfl (Or.inl rfl)) (pss_one (ps_if (pt_cmpR op_le (pv 1) pe_int (nomark _)) (pss_one (ps_ret pe_non)) pss_nil)))
    (pss_one (ps_ret (pe_lc (own := [("size", 1)]) rfl nd (pi_list (pv 0)) (blkOk_by (own := [("size", 1)]) (N := ["sizes", "size"]) (sc := (defScope sFirstRow)) (by decide +kernel)) (fun _ _ _ _ _ => (pg_name (i := 1) nd rfl (Or.inl rfl) (Or.inr rfl))) (fun _ _ _ _ _ => pts_nil) (fun _ _ _ _ _ => pe_int))))), ?_⟩
  have hL : SqL K H b (nv ns) := .inl (.inl hB)
  refine ⟨_, rfl, b, rfl, ⟨_, hL⟩, ?_⟩
  refine for_it (walk_list (xs := nv ns)) (fun i σ H' => H' = H ∧ (∃ x, σ = [some (.ref b), x]) ∧ ∀ j, j < i → ∀ n, ns[j]? = some n → 0 < n) ⟨rfl, ⟨_, rfl⟩, fun j hj => absurd hj (Nat.not_lt_zero j)⟩ (fun _ _ _ _ h => by rw [h.1]; exact hL) (fun i x σ H1 H2 hi hP hY => ?_) (fun σ H' hP => ?_)
  · obtain ⟨rfl, ⟨y, rfl⟩, hp⟩ := hP
    obtain ⟨rfl, hx⟩ := hY
    rw [nv_len] at hi
    obtain ⟨n, hn⟩ : ∃ n, ns[i]? = some n := ⟨_, List.getElem?_eq_getElem hi⟩
    rw [nv_at hn] at hx
    cases hx
    refine ⟨_, rfl, _, _, rfl, rfl, _, rfl, if_2 (fun t => ?_) (fun t => ?_)⟩
    · exact qn ⟨n, List.mem_of_getElem? hn, by have := of_decide_eq_true t; omega⟩
    · refine ⟨rfl, ⟨_, rfl⟩, fun j hj m hm => ?_⟩
      rcases Nat.lt_or_ge j i with z | z
      · exact hp j z m hm
      · have : j = i := by omega
        subst this
        rw [hn] at hm
        cases hm
        have := of_decide_eq_false t
        omega
  · obtain ⟨rfl, ⟨y, rfl⟩, hp⟩ := hP
    rw [nv_len] at hp
    have all : ∀ n ∈ ns, 0 < n := fun n hn => by
      obtain ⟨i, hi⟩ := List.mem_iff_getElem?.mp hn
      exact hp i (List.getElem?_eq_some_iff.mp hi).1 n hi
    refine ⟨_, rfl, b, rfl, ⟨_, hL⟩, fun c hc => ?_⟩
    refine lc_it (walk_list (xs := nv ns)) (fun i H1 => H1 = upd H' c (.lst (nv (List.replicate i 0)))) rfl (fun i H1 _ h => by rw [h]; exact .inl (.inl ((upd_ne (ne_of_none hB hc)).trans hB))) (fun i x H1 H2 hi hP hY => ?_) (fun H1 h => ?_)
    · subst hP
      obtain ⟨rfl, _⟩ := hY
      rw [nv_len] at hi
      refine ⟨rfl, ?_⟩
      refine ⟨_, upd_same, ?_, ?_⟩
      · rw [nv_len, List.length_replicate]; exact small_lt (by omega)
      · rw [upd_upd, List.replicate_succ']
        congr 2
        simp [nv]
    · subst h
      rw [nv_len]
      exact qs all c _ hc upd_same (same_at _ hc)
end
end SP
end

section
set_option Elab.async false
set_option linter.all false
set_option maxRecDepth 100000
set_option maxHeartbeats 4000000
namespace SP
open PySem PySem.Spec PyProof.Rows L2 SPR
abbrev sPower : Stmt := top 1
abbrev nPower : List Str := ["b", "e", "result", "square"]
theorem scPower : FnScope ["b", "e", "result", "square"] ["b", "e"] (defScope sPower) := ⟨rfl, rfl, rfl, by decide +kernel, rfl, by decide +kernel, by decide +kernel⟩
/-- power(b, e) -/
def spPower : Sp := fun vs H Q _ => ∃ b e : Nat, vs = [.int b, .int e] ∧ 1 ≤ b ∧ b ≤ 9 ∧ e ≤ 6 ∧ Q (.int ((b ^ e : Nat) : Int)) H
section
variable {P : Program} {w : World} {K : PySem.W.Frag} {mg : Str → Option Value} {base : Heap} {CP CR CE aS : Addr}
theorem pow_small {b e : Nat} (h2 : b ≤ 9) (h3 : e ≤ 6) : b ^ e ≤ 531441 := by
  have h : b ^ e ≤ 9 ^ e := Nat.pow_le_pow_left h2 e
  have h' : 9 ^ e ≤ 9 ^ 6 := Nat.pow_le_pow_right (by decide) h3
  have : (9 : Nat) ^ 6 = 531441 := by decide
  omega
theorem pow_half {q n : Nat} (h : n % 2 = 0) : q ^ n = (q * q) ^ (n / 2) := by
  have e : n = 2 * (n / 2) := by omega
  have e2 : (q * q) = q ^ 2 := by rw [Nat.pow_succ, Nat.pow_one]
  rw [e2, ← Nat.pow_mul, ← e]
theorem pow_odd {q n : Nat} (h : n % 2 = 1) : q ^ n = q * (q * q) ^ (n / 2) := by
  have e : n = 2 * (n / 2) + 1 := by omega
  have e2 : (q * q) = q ^ 2 := by rw [Nat.pow_succ, Nat.pow_one]
  rw [e2, ← Nat.pow_mul]
  conv => lhs; rw [e]
  rw [Nat.pow_succ, Nat.mul_comm]
theorem ok_power {f : Addr} {fd : FuncData} (F : Fun K "power" "power" sPower f fd) (T : Txt K mg CP CR CE aS) : FnOk P w K mg base CX0 1 f fd ["b", "e"] spPower := by
  have nd := scPower.nd
  refine F.ok scPower (fun vs H Q E h => ?_) (fun cdv A outer s H vs Q E hr h => ?_)
  · obtain ⟨b, e, rfl, _⟩ := h
    rfl
  obtain ⟨b, e, rfl, h1, h2, h3, q⟩ := h
  refine ⟨_, (pss_cons (ps_if (pt_cmpR op_lt (pv 1) pe_int (nomark _)) (pss_one ps_never) pss_nil)
    (pss_cons (ps_set (i := 2) nd rfl (Or.inl rfl) pe_int)
    (pss_cons (ps_set (i := 3) nd rfl (Or.inl rfl) (pv 0))
    (pss_cons (ps_while PassesOwn.never (pt_cmpR op_gt (pv 1) pe_int (nomark _)) (pss_cons (ps_if (pt_cmpR op_eq (pe_op op_mod (pv 1) pe_int) pe_int (nomark _)) (pss_one (ps_set (i := 2) nd rfl (Or.inl rfl) (pe_op op_mul (pv 2) (pv 3)))) pss_nil)
    (pss_cons (ps_set (i := 1) nd rfl (Or.inl rfl) (pe_op op_fdiv (pv 1) pe_int))
    (pss_one (ps_if (pt_cmpR op_gt (pv 1) pe_int (nomark _)) (pss_one (ps_set (i := 3) nd rfl (Or.inl rfl) (pe_op op_mul (pv 3) (pv 3)))) pss_nil)))))
    (pss_one (ps_ret (pv 2))))))), ?_⟩
  have big := pow_small h2 h3
  -- if e < 0
  refine ⟨_, rfl, _, _, rfl, rfl, _, rfl, if_f (decide_eq_false (by omega)) ?_⟩
  -- result = 1; square = b; the loop
  refine ⟨_, rfl, ?_⟩
  refine ⟨fun m σ H' => ∃ r z n : Nat, m = n ∧ σ = [some (.int b), some (.int n), some (.int r), some (.int z)] ∧ H' = H ∧ r * z ^ n = b ^ e ∧ 1 ≤ r ∧ 1 ≤ z ∧ (n ≠ 0 → r * z ≤ 531441), ⟨e, 1, b, e, rfl, rfl, rfl, by simp, by omega, h1, fun _ => by omega⟩, fun m σ H' hW => ?_⟩
  obtain ⟨r, z, n, rfl, rfl, rfl, inv, hr1, hz1, hrz⟩ := hW
  refine ⟨_, rfl, _, _, rfl, rfl, _, rfl, if_2 (fun c => ?_) (fun c => ?_)⟩
  · have hn : m ≠ 0 := fun e => by
      subst e
      exact absurd (of_decide_eq_true c) (by omega)
    have hrz := hrz hn
    have rle : r ≤ 531441 := Nat.le_trans (Nat.le_mul_of_pos_right r hz1) hrz
    have zle : z ≤ 531441 := Nat.le_trans (Nat.le_mul_of_pos_left z hr1) hrz
    refine ⟨fun σ' H'' => ∃ r' z' : Nat, σ' = [some (.int b), some (.int ((m / 2 : Nat) : Int)), some (.int r'), some (.int z')] ∧ H'' = H' ∧ r' * z' ^ (m / 2) = b ^ e ∧ 1 ≤ r' ∧ 1 ≤ z' ∧ (m / 2 ≠ 0 → r' * z' ≤ 531441), fun σ' H'' ⟨r', z', e1, e2, e3, e4, e5, e6⟩ => ⟨m / 2, by omega, r', z', m / 2, rfl, e1, e2, e3, e4, e5, e6⟩, ?_⟩
    have odd : ((m : Int) % 2 = 1) ↔ m % 2 = 1 := by omega
    have half : ((m : Int) / 2) = ((m / 2 : Nat) : Int) := by omega
    -- the turn's end, from r' (the new result)
    have fin : ∀ r' : Nat, 1 ≤ r' → r' * (z * z) ^ (m / 2) = b ^ e → r' ≤ 531441 →
        (tSeq (tAsg (tOp (rI CDiv fun i j => V.int (i / j)) (tVar 1) (tC (V.int 2))) (gName 1))
          (tIfS (tTest (tOp (rI0 fun i j => V.bl (decide (j < i))) (tVar 1) (tC (V.int 0)))) (tAsg (tOp (rI CMul fun i j => V.int (i * j)) (tVar 3) (tVar 3)) (gName 3)) tNext))
          ({ nx := (fun σ' H'' => ∃ r' z' : Nat, σ' = [some (.int b), some (.int ((m / 2 : Nat) : Int)), some (.int r'), some (.int z')] ∧ H'' = H' ∧ r' * z' ^ (m / 2) = b ^ e ∧ 1 ≤ r' ∧ 1 ≤ z' ∧ (m / 2 ≠ 0 → r' * z' ≤ 531441)), rt := Q, ct := (fun σ' H'' => ∃ r' z' : Nat, σ' = [some (.int b), some (.int ((m / 2 : Nat) : Int)), some (.int r'), some (.int z')] ∧ H'' = H' ∧ r' * z' ^ (m / 2) = b ^ e ∧ 1 ≤ r' ∧ 1 ≤ z' ∧ (m / 2 ≠ 0 → r' * z' ≤ 531441)), bk := (tRet (tVar 2)) { nx := fun _ H' => Q .non H', rt := Q } } : Ends)
          [some (.int b), some (.int m), some (.int r'), some (.int z)] H' := fun r' hr' e' le' => by
      refine ⟨_, rfl, _, _, rfl, rfl, ⟨by decide, by decide⟩, ?_⟩
      refine ⟨_, rfl, _, _, rfl, rfl, _, rfl, ?_⟩
      rw [half]
      refine if_2 (fun c2 => ?_) (fun c2 => ?_)
      · have hn2 : m / 2 ≠ 0 := fun e => by
          rw [e] at c2
          exact absurd (of_decide_eq_true c2) (by omega)
        have zz : r' * (z * z) ≤ b ^ e := by
          rw [← e']
          refine Nat.mul_le_mul_left r' ?_
          exact Nat.le_self_pow hn2 (z * z)
        refine ⟨_, rfl, _, rfl, _, _, rfl, rfl, .inl ⟨by omega, by omega⟩, ?_⟩
        refine ⟨r', z * z, ?_, rfl, e', hr', Nat.mul_pos hz1 hz1, fun _ => by omega⟩
        rw [Int.natCast_mul]
        rfl
      · have hn2 : m / 2 = 0 := by
          have := of_decide_eq_false c2
          omega
        refine ⟨r', z, rfl, rfl, ?_, hr', hz1, fun x => absurd hn2 x⟩
        rw [hn2] at e' ⊢
        rw [Nat.pow_zero] at e' ⊢
        exact e'
    refine ⟨_, rfl, _, _, rfl, rfl, (by show (0 : Int) < 2; decide), rfl, _, rfl, if_2 (fun c1 => ?_) (fun c1 => ?_)⟩
    · have o1 : m % 2 = 1 := odd.mp (V.int.inj (of_decide_eq_true c1))
      refine ⟨_, rfl, _, rfl, _, _, rfl, rfl, .inl ⟨by omega, by omega⟩, ?_⟩
      have e1 : (r : Int) * (z : Int) = ((r * z : Nat) : Int) := (Int.natCast_mul r z).symm
      show (tSeq _ _) _ [some (.int b), some (.int m), some (.int ((r : Int) * (z : Int))), some (.int z)] H'
      rw [e1]
      refine fin (r * z) (Nat.mul_pos hr1 hz1) ?_ hrz
      rw [← inv, pow_odd o1, Nat.mul_assoc]
    · have o0 : m % 2 = 0 := by
        have : ¬ (m : Int) % 2 = 1 := fun z => by
          have := of_decide_eq_false c1
          exact this (show V.int ((m : Int) % 2) = V.int 1 by rw [z])
        omega
      refine fin r hr1 ?_ rle
      rw [← inv, pow_half o0]
  · have hn : m = 0 := by
      have := of_decide_eq_false c
      omega
    subst hn
    rw [Nat.pow_zero, Nat.mul_one] at inv
    subst inv
    exact ⟨_, rfl, q⟩
end
end SP
end

section
set_option Elab.async false
set_option linter.all false
set_option maxRecDepth 100000
set_option maxHeartbeats 4000000
namespace SP
open PySem PySem.Spec PyProof.Rows L2 SPR
abbrev sOexInit : Stmt := inClass (top 10) 0
abbrev nOexInit : List Str := ["self", "code"]
theorem scOexInit : FnScope ["self", "code"] ["self", "code"] (defScope sOexInit) := ⟨rfl, rfl, rfl, by decide +kernel, rfl, by decide +kernel, by decide +kernel⟩
abbrev sRequire : Stmt := top 11
abbrev nRequire : List Str := ["condition", "code"]
theorem scRequire : FnScope ["condition", "code"] ["condition", "code"] (defScope sRequire) := ⟨rfl, rfl, rfl, by decide +kernel, rfl, by decide +kernel, by decide +kernel⟩
def spOexInit (CE : Addr) : Sp := fun vs H Q _ => ∃ (a : Addr) (c : Int), vs = [.ref a, .int c] ∧ H a = some (exo a CE none) ∧ ∀ dx, H dx = none → dx ≠ a → Q .non (upd (upd H dx (exd dx [("code", .int c)])) a (exo a CE (some dx)))
/-- an OperationError with this code flies -/
def Err (CE : Addr) (E : XK) (H : Hp) (c : Int) : Prop := ∀ (d : Addr) (H' : Hp), Same H H' → H' d = some (.xd [("code", .int c)]) → E (.ref CE) (some d) H'
theorem Err.later {CE : Addr} {E : XK} {H H1 : Hp} {c : Int} (e : Err CE E H c) (h : Same H H1) : Err CE E H1 c := fun d H' s x => e d H' (h.trans s) x
def spReq (CE : Addr) : Sp := fun vs H Q E => ∃ (b : Bool) (c : Int), vs = [.bl b, .int c] ∧ (b = true → Q .non H) ∧ (b = false → Err CE E H c)
section
variable (P : Program) (w : World) (K : PySem.W.Frag) (mg : Str → Option Value) (base : Heap) (CE : Addr)
def MkE : Prop := ∃ fI fd ps, PySem.W.findIn K (.ref CE) "__init__" = some (some (.ref fI)) ∧ PySem.W.typeIn K (.ref fI) = some (.type "function") ∧ FnOk P w K mg base CX0 1 fI fd ps (spOexInit CE) ∧ Binds K fd ps []
end
section
variable {P : Program} {w : World} {K : PySem.W.Frag} {mg : Str → Option Value} {base : Heap} {CP CR CE aS : Addr}
theorem ok_oexinit {f : Addr} {fd : FuncData} (F : Fun K "__init__" "OperationError.__init__" sOexInit f fd) (T : Txt K mg CP CR CE aS) : FnOk P w K mg base CX0 1 f fd ["self", "code"] (spOexInit CE) := by
  have nd := scOexInit.nd
  refine F.ok scOexInit (fun vs H Q E h => ?_) (fun cdv A outer s H vs Q E hr h => ?_)
  · obtain ⟨b, ns, rfl, _⟩ := h
    rfl
  obtain ⟨a, c, rfl, hA, q⟩ := h
  refine ⟨_, (pss_cons (ps_expr (pe_exinit rfl T.m_Exception T.exI (pa_cons (pv 0) (pa_cons (pv 1) pa_nil))))
    (pss_one (ps_exset (pv 0) (pv 1)))), ?_⟩
  refine ⟨_, rfl, _, rfl, a, CE, [.int c], rfl, by show 1 ≤ 1000; decide, T.ex, hA, ?_⟩
  exact ⟨_, rfl, _, rfl, a, CE, rfl, T.ex, T.nCode, hA, fun dx h1 h2 => q dx h1 h2⟩
theorem ok_require {f : Addr} {fd : FuncData} (F : Fun K "require" "require" sRequire f fd) (T : Txt K mg CP CR CE aS) (M : MkE P w K mg base CE) : FnOk P w K mg base (L2.CX P w) 3 f fd ["condition", "code"] (spReq CE) := by
  have nd := scRequire.nd
  obtain ⟨fI, fdI, ps, iE, tE, G_oex, b_oex⟩ := M
  refine F.okX scRequire (fun vs H Q E h => ?_) (fun cdv A outer s H vs Q E hr h => ?_)
  · obtain ⟨b, ns, rfl, _⟩ := h
    rfl
  obtain ⟨b, c, rfl, q1, q2⟩ := h
  have tk := takes_of (X := cxOf (L2.CX P w) P w K mg base nRequire "require" (defScope sRequire) f cdv A outer s H E) rfl rfl rfl rfl
  refine ⟨_, (pss_one (ps_if (pt_not (pt_val (pv 0))) (pss_one (ps_raise rfl tk (pmk_exE T.ex iE tE G_oex (hr.mono (by decide)) b_oex pass0 rfl T.gE (pa_cons (pv 1) pa_nil)))) pss_nil)), ?_⟩
  cases b with
  | true => exact ⟨_, rfl, _, rfl, if_f rfl (q1 rfl)⟩
  | false =>
    refine ⟨_, rfl, _, rfl, if_t rfl ?_⟩
    refine ⟨_, rfl, by show 1 ≤ 1000; decide, fun a ha => ⟨a, c, rfl, upd_same, fun dx h1 h2 => ⟨rfl, dx, [("code", .int c)], upd_same, ?_, ?_, ?_⟩⟩⟩
    · rw [upd_ne h2]; exact upd_same
    · rw [upd_ne h2] at h1; exact h1
    · refine q2 rfl dx _ (fun b o e => ?_) upd_same
      have n1 : b ≠ a := ne_of_none e ha
      have n2 : b ≠ dx := by
        rw [upd_ne h2] at h1
        exact ne_of_none e h1
      rw [upd_ne n2]
      unfold del
      rw [if_neg n1, upd_ne n1, upd_ne n2, upd_ne n1]
      exact e
end
end SP
end

section
set_option Elab.async false
set_option linter.all false
set_option maxRecDepth 100000
set_option maxHeartbeats 4000000
namespace SP
open PySem PySem.Spec PyProof.Rows L2 SPR
open SPM (enc ov)
abbrev sIsBroken : Stmt := inClass (top 12) 12
abbrev nIsBroken : List Str := ["self", "seen"]
theorem scIsBroken : FnScope ["self", "seen"] ["self", "seen"] (defScope sIsBroken) := ⟨rfl, rfl, rfl, by decide +kernel, rfl, by decide +kernel, by decide +kernel⟩
abbrev sIsBrokenAny : Stmt := inClass (top 12) 13
abbrev nIsBrokenAny : List Str := ["self", "seen", "source", "target", "number"]
theorem scIsBrokenAny : FnScope ["self", "seen", "source", "target", "number"] ["self", "seen"] (defScope sIsBrokenAny) := ⟨rfl, rfl, rfl, by decide +kernel, rfl, by decide +kernel, by decide +kernel⟩
abbrev sSize : Stmt := inClass (top 12) 2
abbrev nSize : List Str := ["self", "size", "start_2", "finish_2", "least", "greatest", "delay_3"]
theorem scSize : FnScope ["self", "size", "start_2", "finish_2", "least", "greatest", "delay_3"] ["self"] (defScope sSize) := ⟨rfl, rfl, rfl, by decide +kernel, rfl, by decide +kernel, by decide +kernel⟩
abbrev sItl : Stmt := inClass (top 12) 3
abbrev nItl : List Str := ["self"]
theorem scItl : FnScope ["self"] ["self"] (defScope sItl) := ⟨rfl, rfl, rfl, by decide +kernel, rfl, by decide +kernel, by decide +kernel⟩
def spSize (CP : Addr) : Sp := fun vs H Q _ => ∃ (a aW : Addr) (p : Pln), vs = [.ref a] ∧ PlanAt CP H a (rp p) aW ∧ SPM.PV p ∧ Q (.int (Vbjpae.gameSize p : Nat)) H
def spItl (CP : Addr) : Sp := fun vs H Q _ => ∃ (a aW : Addr) (p : Pln), vs = [.ref a] ∧ PlanAt CP H a (rp p) aW ∧ SPM.PV p ∧ Q (.bl (decide (10000 < Vbjpae.gameSize p))) H
theorem seq_ix {K : PySem.W.Frag} {H : Hp} {b : Addr} {xs : List V} {i : Nat} {v : V} {Q : VK} (h : SeqIs H b xs) (hx : xs[i]? = some v) (q : Q v H) : rIx K (.ref b) (.int (i : Int)) H Q := by
  rcases h with h | h
  · exact .inr (.inl ⟨b, xs, i, v, rfl, rfl, .inl (.inl h), atI_nat hx, q⟩)
  · exact .inl ⟨b, xs, i, v, rfl, rfl, .inl (.inl h), atI_nat hx, q⟩
section
variable {P : Program} {w : World} {K : PySem.W.Frag} {mg : Str → Option Value} {base : Heap} {CP CR CE aS : Addr}
theorem ok_is_broken_any {f : Addr} {fd : FuncData} (F : Fun K "is_broken_any" "Plan.is_broken_any" sIsBrokenAny f fd) (T : Txt K mg CP CR CE aS) : FnOk P w K mg base CX0 1 f fd ["self", "seen"] (spIsBroken CP) := by
  have nd := scIsBrokenAny.nd
  refine F.ok scIsBrokenAny (fun vs H Q E h => ?_) (fun cdv A outer s H vs Q E hr h => ?_)
  · obtain ⟨_, _, _, _, _, rfl, _⟩ := h
    rfl
  obtain ⟨a, aW, b, p, t, rfl, ⟨dx, aT, aR, aO, hA, hT, ⟨qs, hR, hq⟩, hO⟩, hv, hB, hl, q⟩ := h
  refine ⟨_, (pss_cons (ps_for PassesOwn.never rfl (pi_list (pe_fldB rfl (pv 0) rfl)) (pg_tupB (n := 3) rfl rfl (pgs_cons (pg_name (i := 2) nd rfl (Or.inl rfl)) (pgs_cons (pg_name (i := 3) nd rfl (Or.inl rfl)) (pgs_cons (pg_name (i := 4) nd rfl (Or.inl rfl)) pgs_nil)))) (pss_one (ps_if (PW.pt (pw_and (pt_cmpR op_ne (pe_ix (ix_seqB rfl) (pv 1) (pv 2) (fun _ _ => rfl)) (pe_k rfl T.cUN) (nomark _)) (pw_and (pt_cmpR op_ne (pe_ix (ix_seqB rfl) (pv 1) (pv 3) (fun _ _ => rfl)) (pe_k rfl T.cUN) (nomark _)) (pw_and1 (pt_cmpR op_gt (pe_op op_sub (pe_ix (ix_seqB rfl) (pv 1) (pv 3) (fun _ _ => rfl)) (pe_ix (ix_seqB rfl) (pv 1) (pv 2) (fun _ _ => rfl))) (pv 4) (nomark _)))))) (pss_one (ps_ret pe_bl)) pss_nil)))
    (pss_one (ps_ret pe_bl))), ?_⟩
  have hL : SqL K H aR (qs.map V.ref) := .inl (.inl hR)
  have lq : (qs.map V.ref).length = p.requirements.length := rows_len hq
  refine ⟨_, rfl, a, CP, dx, _, _, rfl, hA, T.clP, T.fR, pF_reqs, aR, rfl, ⟨_, hL⟩, ?_⟩
  let br : VbjpCore.Requirement → Bool := fun r => match VbjpCore.timeAt t r.source, VbjpCore.timeAt t r.target with
    | some a, some b => !decide ((b : Int) - (a : Int) ≤ r.most)
    | _, _ => false
  have hbr : Vbjpae.isBroken p t = p.requirements.any br := rfl
  refine for_it (walk_list (xs := qs.map V.ref)) (fun i σ H' => (∃ x2 x3 x4, σ = [some (.ref a), some (.ref b), x2, x3, x4]) ∧ H' = H ∧ ∀ j, j < i → ∀ r, p.requirements[j]? = some r → br r = false) ⟨⟨_, _, _, rfl⟩, rfl, fun j h => absurd h (Nat.not_lt_zero j)⟩ (fun i σ H' _ h => by rw [h.2.1]; exact hL) (fun i x σ H1 H2 hi hP hY => ?_) (fun σ H' hP => ?_)
  · obtain ⟨⟨x2, x3, x4, rfl⟩, eH, hp⟩ := hP
    obtain ⟨eH2, hx⟩ := hY
    rw [eH] at eH2
    subst eH2
    obtain ⟨qk, r, rfl, hk, hQ⟩ := rows_at hq hx
    obtain ⟨r1, r2, _⟩ := hv.req r (List.mem_of_getElem? hk)
    refine ⟨qk, _, rfl, .inl (.inl hQ), rfl, _, _, rfl, _, _, rfl, _, _, rfl, rfl, ?_⟩
    have no : br r = false → (fun i σ H' => (∃ x2 x3 x4, σ = [some (V.ref a), some (V.ref b), x2, x3, x4]) ∧ H' = H2 ∧ ∀ j, j < i → ∀ r, p.requirements[j]? = some r → br r = false) (i + 1) [some (V.ref a), some (V.ref b), some (V.int r.source), some (V.int r.target), some (V.int r.most)] H2 := fun hr => by
      refine ⟨⟨_, _, _, rfl⟩, rfl, fun j hj r' hr' => ?_⟩
      rcases Nat.lt_or_ge j i with z | z
      · exact hp j z r' hr'
      · have : j = i := by omega
        subst this
        rw [hk] at hr'
        cases hr'
        exact hr
    refine ⟨_, rfl, _, rfl, seq_ix hB (seen_at (by omega)) ⟨rfl, _, rfl, ?_⟩⟩
    rw [seen_dec]
    cases es : VbjpCore.timeAt t r.source with
    | none => exact if_f rfl (if_f rfl (no (by dsimp only [br]; rw [es])))
    | some a0 =>
      refine if_t rfl ⟨_, rfl, _, rfl, seq_ix hB (seen_at (by omega)) ⟨rfl, _, rfl, ?_⟩⟩
      rw [seen_dec]
      cases et : VbjpCore.timeAt t r.target with
      | none => exact if_f rfl (if_f rfl (no (by dsimp only [br]; rw [es, et])))
      | some b0 =>
        refine if_t rfl ⟨_, rfl, _, rfl, seq_ix hB (seen_at (by omega)) ⟨_, rfl, _, rfl, seq_ix hB (seen_at (by omega)) ?_⟩⟩
        rw [es, et, SPM.opt_some, SPM.opt_some]
        refine ⟨_, _, rfl, rfl, _, rfl, _, _, rfl, rfl, _, rfl, ?_⟩
        refine if_2 (fun c => ?_) (fun c => ?_)
        · have c := of_decide_eq_true c
          have : Vbjpae.isBroken p t = true := by
            rw [hbr, List.any_eq_true]
            refine ⟨r, List.mem_of_getElem? hk, ?_⟩
            dsimp only [br]
            rw [es, et]
            simp
            omega
          rw [this] at q
          exact q
        · have c := of_decide_eq_false c
          refine no ?_
          dsimp only [br]
          rw [es, et]
          simp
          omega
  · obtain ⟨⟨x2, x3, x4, rfl⟩, rfl, hp⟩ := hP
    have : Vbjpae.isBroken p t = false := by
      rw [hbr, List.any_eq_false]
      intro r hr
      obtain ⟨j, hj⟩ := List.mem_iff_getElem?.mp hr
      rw [lq] at hp
      rw [hp j (List.getElem?_eq_some_iff.mp hj).1 r hj]
      exact Bool.false_ne_true
    rw [this] at q
    exact q
theorem ok_is_broken {f : Addr} {fd : FuncData} (F : Fun K "is_broken" "Plan.is_broken" sIsBroken f fd) (T : Txt K mg CP CR CE aS) (M_is_broken_any : MetX P w K mg base CX0 1 CP "is_broken_any" (spIsBroken CP)) : FnOk P w K mg base CX0 2 f fd ["self", "seen"] (spIsBroken CP) := by
  have nd := scIsBroken.nd
  refine F.ok scIsBroken (fun vs H Q E h => ?_) (fun cdv A outer s H vs Q E hr h => ?_)
  · obtain ⟨_, _, _, _, _, rfl, _⟩ := h
    rfl
  obtain ⟨a, aW, b, p, t, rfl, hA, hv, hB, hl, q⟩ := h
  refine ⟨_, (pss_one (ps_ret (pe_mx M_is_broken_any T.clP hr (by first | decide | omega) (no0 (E := fun _ => E0)) (pv 0) (pa_cons (pv 1) pa_nil)))), ?_⟩
  obtain ⟨dx, aT, aR, aO, hA0, _⟩ := id hA
  exact ⟨_, rfl, a, dx, _, rfl, hA0, pF_none (by decide +kernel), _, rfl, a, aW, b, p, t, rfl, hA, hv, hB, hl, q⟩
theorem own_len1 {p : Pln} (hv : SPM.PV p) : ((List.range p.count).filter fun i => VbjpCore.isOwn p i && i != 0).length + 1 = (SPM.ownList p).length := by
  obtain ⟨n, hn⟩ : ∃ n, p.count = n + 1 := ⟨p.count - 1, by have := hv.c1; omega⟩
  unfold SPM.ownList
  rw [hn, List.range_succ_eq_map, List.filter_cons, List.filter_cons]
  rw [if_pos hv.own0, if_neg (by simp), List.length_cons, List.filter_map, List.filter_map, List.length_map, List.length_map]
  congr 2
  refine List.filter_congr fun x _ => ?_
  simp
theorem fold_mul (l : List Nat) : ∀ a : Nat, l.foldl (fun a b => a * b) a = a * l.foldl (fun a b => a * b) 1 := by
  induction l with
  | nil => intro a; simp
  | cons x l ih =>
    intro a
    rw [List.foldl_cons, List.foldl_cons, ih (a * x), ih (1 * x), Nat.one_mul, Nat.mul_assoc]
theorem fold_le (l : List Nat) (h : ∀ x ∈ l, x ≤ 1000) : ∀ a : Nat, l.foldl (fun a b => a * b) a ≤ a * 1000 ^ l.length := by
  induction l with
  | nil => intro a; simp
  | cons x l ih =>
    intro a
    rw [List.foldl_cons, List.length_cons]
    refine Nat.le_trans (ih (fun y hy => h y (List.mem_cons_of_mem _ hy)) _) ?_
    rw [Nat.pow_succ]
    calc a * x * 1000 ^ l.length ≤ a * 1000 * 1000 ^ l.length := Nat.mul_le_mul_right _ (Nat.mul_le_mul_left _ (h x List.mem_cons_self))
      _ = a * (1000 ^ l.length * 1000) := by rw [Nat.mul_assoc, Nat.mul_comm 1000]
theorem ok_size {f : Addr} {fd : FuncData} (F : Fun K "size" "Plan.size" sSize f fd) (T : Txt K mg CP CR CE aS) (F_power : FunX P w K mg base CX0 1 "power" spPower) : FnOk P w K mg base CX0 2 f fd ["self"] (spSize CP) := by
  have nd := scSize.nd
  refine F.ok scSize (fun vs H Q E h => ?_) (fun cdv A outer s H vs Q E hr h => ?_)
  · obtain ⟨_, _, _, rfl, _⟩ := h
    rfl
  obtain ⟨a, aW, p, rfl, ⟨dx, aT, aR, aO, hA, ⟨qs, hT, hq⟩, hR, hO⟩, hv, q⟩ := h
  refine ⟨_, (pss_cons (ps_set (i := 1) nd rfl (Or.inl rfl) (pe_fx F_power hr (by first | decide | omega) rfl (no0 (E := fun _ => E0)) (pa_cons (pe_op op_add (pe_fldB rfl (pv 0) rfl) pe_int) (pa_cons (pe_op op_sub (pe_callB (call_lenQ rfl) (by rfl) T.m_len (by decide +kernel) (pa_cons (pe_fldB rfl (pv 0) rfl) pa_nil)) pe_int) pa_nil))))
    (pss_cons (ps_for PassesOwn.never rfl (pi_list (pe_fldB rfl (pv 0) rfl)) (pg_tupB (n := 5) rfl rfl (pgs_cons (pg_name (i := 2) nd rfl (Or.inl rfl)) (pgs_cons (pg_name (i := 3) nd rfl (Or.inl rfl)) (pgs_cons (pg_name (i := 4) nd rfl (Or.inl rfl)) (pgs_cons (pg_name (i := 5) nd rfl (Or.inl rfl)) (pgs_cons (pg_name (i := 6) nd rfl (Or.inl rfl)) pgs_nil)))))) (pss_one (ps_aug (i := 1) nd rfl (Or.inl rfl) (pe_op op_add (pe_op op_sub (pv 5) (pv 4)) pe_int) iop_mulX)))
    (pss_one (ps_ret (pv 1))))), ?_⟩
  have hL : SqL K H aT (qs.map V.ref) := .inl (.inl hT)
  have lq : (qs.map V.ref).length = p.tasks.length := rows_len hq
  have ol := own_len1 hv
  have ole := own_le p
  have hc6 := hv.c6
  have hd8 := hv.d8
  have ht3 := hv.t3
  generalize hE : ((List.range p.count).filter fun i => VbjpCore.isOwn p i && i != 0).length = e at ol
  have hgs : Vbjpae.gameSize p = (p.deadline + 1) ^ e * (p.tasks.map fun k => k.greatest + 1 - k.least).foldl (fun a b => a * b) 1 := by rw [← hE]; rfl
  refine ⟨_, rfl, a, CP, dx, _, _, rfl, hA, T.clP, T.fD, pF_deadline, _, _, rfl, rfl, ?_⟩
  refine ⟨_, rfl, a, CP, dx, _, _, rfl, hA, T.clP, T.fO, pF_own, aO, _, rfl, .inl (.inl (.inl hO)), _, _, rfl, rfl, ?_⟩
  refine ⟨p.deadline + 1, e, ?_, by omega, by omega, by omega, ?_⟩
  · show [V.int ((p.deadline : Int) + 1), V.int (((iv ((SPM.ownList p).map Int.ofNat)).length : Int) - 1)] = _
    rw [own_len, ← ol]
    have e1 : (((e + 1 : Nat) : Int) - 1) = (e : Int) := by omega
    have e2 : ((p.deadline : Int) + 1) = ((p.deadline + 1 : Nat) : Int) := by omega
    rw [e1, e2]
  have hb : (p.deadline + 1) ^ e ≤ 531441 := pow_small (by omega) (by omega)
  have dk : ∀ x ∈ p.tasks.map (fun k => k.greatest + 1 - k.least), x ≤ 1000 := fun x hx => by
    obtain ⟨k, hk, rfl⟩ := List.mem_map.mp hx
    have := hv.task k hk
    omega
  have dkt : ∀ i, ∀ x ∈ (p.tasks.take i).map (fun k => k.greatest + 1 - k.least), x ≤ 1000 := fun i x hx => by
    obtain ⟨k, hk, rfl⟩ := List.mem_map.mp hx
    have := hv.task k (List.mem_of_mem_take hk)
    omega
  generalize (p.deadline + 1) ^ e = z0 at hb hgs
  refine ⟨_, rfl, a, CP, dx, _, _, rfl, hA, T.clP, T.fT, pF_tasks, aT, rfl, ⟨_, hL⟩, ?_⟩
  refine for_it (walk_list (xs := qs.map V.ref)) (fun i σ H' => (∃ x2 x3 x4 x5 x6, σ = [some (.ref a), some (.int ((((p.tasks.take i).map fun k => k.greatest + 1 - k.least).foldl (fun a b => a * b) z0 : Nat) : Int)), x2, x3, x4, x5, x6]) ∧ H' = H) ⟨⟨_, _, _, _, _, rfl⟩, rfl⟩ (fun i σ H' _ h => by rw [h.2]; exact hL) (fun i x σ H1 H2 hi hP hY => ?_) (fun σ H' hP => ?_)
  · obtain ⟨⟨x2, x3, x4, x5, x6, rfl⟩, eH⟩ := hP
    obtain ⟨eH2, hx⟩ := hY
    rw [eH] at eH2
    subst eH2
    obtain ⟨qk, k, rfl, hk, hQ⟩ := rows_at hq hx
    obtain ⟨v1, v2, v3, v4, v5, v6, v7, v8⟩ := hv.task k (List.mem_of_getElem? hk)
    refine ⟨qk, _, rfl, .inl (.inl hQ), rfl, _, _, rfl, _, _, rfl, _, _, rfl, _, _, rfl, _, _, rfl, rfl, ?_⟩
    refine ⟨_, rfl, _, rfl, _, rfl, _, _, rfl, rfl, _, _, rfl, rfl, _, _, rfl, rfl, ?_, ?_⟩
    · refine mulx_ok (a := 60) (b := 60) ?_ ?_ (by decide)
      · rw [Int.natAbs_natCast]
        refine Nat.lt_of_le_of_lt (fold_le _ (dkt i) z0) ?_
        have l3 : ((p.tasks.take i).map fun k => k.greatest + 1 - k.least).length ≤ 3 := by rw [List.length_map, List.length_take]; omega
        have : 1000 ^ ((p.tasks.take i).map fun k => k.greatest + 1 - k.least).length ≤ 1000 ^ 3 := Nat.pow_le_pow_right (by decide) l3
        calc _ ≤ 531441 * 1000 ^ 3 := Nat.mul_le_mul hb this
          _ < 2 ^ 60 := by decide
      · show ((k.greatest : Int) - (k.least : Int) + 1).natAbs < 2 ^ 60
        have : ((k.greatest : Int) - (k.least : Int) + 1).natAbs ≤ 1000 := by omega
        exact Nat.lt_of_le_of_lt this (by decide)
    · refine ⟨⟨some (.int k.start), some (.int k.finish), some (.int k.least), some (.int k.greatest), some (.int k.delay), ?_⟩, rfl⟩
      have e1 : ((k.greatest : Int) - (k.least : Int) + 1) = ((k.greatest + 1 - k.least : Nat) : Int) := by omega
      have e2 : ((p.tasks.take (i + 1)).map fun k => k.greatest + 1 - k.least).foldl (fun a b => a * b) z0 = ((p.tasks.take i).map fun k => k.greatest + 1 - k.least).foldl (fun a b => a * b) z0 * (k.greatest + 1 - k.least) := by
        rw [List.take_add_one, hk, List.map_append, List.foldl_append]; rfl
      rw [e2, Int.natCast_mul, ← e1]
      rfl
  · obtain ⟨⟨x2, x3, x4, x5, x6, rfl⟩, rfl⟩ := hP
    refine ⟨_, rfl, ?_⟩
    rw [lq, List.take_length, fold_mul, ← hgs]
    exact q
theorem ok_is_too_large {f : Addr} {fd : FuncData} (F : Fun K "is_too_large" "Plan.is_too_large" sItl f fd) (T : Txt K mg CP CR CE aS) (M_size : MetX P w K mg base CX0 2 CP "size" (spSize CP)) : FnOk P w K mg base CX0 3 f fd ["self"] (spItl CP) := by
  have nd := scItl.nd
  refine F.ok scItl (fun vs H Q E h => ?_) (fun cdv A outer s H vs Q E hr h => ?_)
  · obtain ⟨_, _, _, rfl, _⟩ := h
    rfl
  obtain ⟨a, aW, p, rfl, hA, hv, q⟩ := h
  refine ⟨_, (pss_one (ps_ret (pe_cmpR op_gt (pe_mx0 M_size T.clP hr (by first | decide | omega) (no0 (E := fun _ => E0)) (pv 0)) (pe_k rfl T.cMS) (nomark _)))), ?_⟩
  obtain ⟨dx, aT, aR, aO, hA0, _⟩ := id hA
  refine ⟨_, rfl, a, dx, _, rfl, hA0, pF_none (by decide +kernel), a, aW, p, rfl, hA, hv, _, _, rfl, rfl, ?_⟩
  have e : decide ((10000 : Int) < ((Vbjpae.gameSize p : Nat) : Int)) = decide (10000 < Vbjpae.gameSize p) := by
    by_cases h : 10000 < Vbjpae.gameSize p
    · rw [decide_eq_true h, decide_eq_true (by omega)]
    · rw [decide_eq_false h, decide_eq_false (by omega)]
  rw [← e] at q
  exact q
end
end SP
end

section
set_option Elab.async false
set_option linter.all false
set_option maxRecDepth 100000
set_option maxHeartbeats 4000000
namespace SP
open PySem PySem.Spec PyProof.Rows L2 SPR
open SPM (enc ov)
abbrev sFbc : Stmt := inClass (top 12) 14
abbrev nFbc : List Str := ["self", "seen", "choices", "start", "finish", "least", "greatest", "delay", "possible", "duration", "moment", "things", "sizes", "at_2", "moments", "times", "start_4", "least_4", "greatest_4", "delay_4", "one", "xs", "place_2", "value"]
theorem scFbc : FnScope ["self", "seen", "choices", "start", "finish", "least", "greatest", "delay", "possible", "duration", "moment", "things", "sizes", "at_2", "moments", "times", "start_4", "least_4", "greatest_4", "delay_4", "one", "xs", "place_2", "value"] ["self", "seen"] (defScope sFbc) := ⟨rfl, rfl, rfl, by decide +kernel, rfl, by decide +kernel, by decide +kernel⟩
def FbcQ (p : Pln) (t : Tms) (H : Hp) (Q : VK) : Prop := match (Vbjpae.completions p t).find? fun x => !VbjpCore.isGood p x with
  | none => ∀ H', Same H H' → Q .non H'
  | some x => ∀ l H', H' l = some (.lst (iv (enc x))) → Same H H' → Q (.ref l) H'
theorem fbc_cases {p : Pln} {t : Tms} {H : Hp} {Q : VK} (h : ∀ v H', Same H H' → ((v = .non ∧ ((Vbjpae.completions p t).find? fun x => !VbjpCore.isGood p x) = none) ∨ ∃ l x, v = .ref l ∧ ((Vbjpae.completions p t).find? fun x => !VbjpCore.isGood p x) = some x ∧ H' l = some (.lst (iv (enc x)))) → Q v H') : FbcQ p t H Q := by
  unfold FbcQ
  cases e : (Vbjpae.completions p t).find? fun x => !VbjpCore.isGood p x with
  | none => exact fun H' s => h _ _ s (.inl ⟨rfl, e⟩)
  | some x => exact fun l H' hl s => h _ _ s (.inr ⟨l, x, rfl, e, hl⟩)
def spFbc (CP : Addr) : Sp := fun vs H Q _ => ∃ (a aW b : Addr) (p : Pln) (t : Tms), vs = [.ref a, .ref b] ∧ PlanAt CP H a (rp p) aW ∧ SPM.PV p ∧ H b = some (.tup (iv (enc t))) ∧ t.length = p.count ∧
  FbcQ p t H Q
/-- as for_it, for a loop that may be left -/
theorem for_itb {J : It} {n : Nat} {G : Hp → Prop} {Y : Nat → Hp → V → Hp → Prop} (w : Walk J n G Y) {g : TG} {tb : TS} {D : Ends} {σ : Stt} {H : Hp} (Pv : Nat → Stt → Hp → Prop) (Mid : Stt → Hp → Prop) (h0 : Pv 0 σ H) (hG : ∀ i σ H, i ≤ n → Pv i σ H → G H)
    (hs : (∀ σ H, Mid σ H → D.nx σ H) → ∀ i x σ H H', i < n → Pv i σ H → Y i H x H' → g x σ H' fun σ2 H2 => tb { D with nx := Pv (i + 1), ct := Pv (i + 1), bk := D.nx } σ2 H2) (hd : ∀ σ H, Pv n σ H → Mid σ H) (hm : ∀ σ H, Mid σ H → D.nx σ H) :
    ∃ W : Nat → Nat → Stt → Hp → Prop, (∃ m, W 0 m σ H) ∧ ∀ i m σ H, W i m σ H →
      (J.stop i H ∧ D.nx σ H) ∨ (J.go i H ∧ ∃ N : Stt → Hp → Prop, (∀ σ' H', N σ' H' → ∃ m', m' < m ∧ W (i + 1) m' σ' H') ∧ ∀ x H', J.yld i H x H' → g x σ H' fun σ2 H2 => tb { D with nx := N, ct := N, bk := D.nx } σ2 H2) :=
  for_it w Pv h0 hG (hs hm) fun σ H h => hm σ H (hd σ H h)
abbrev ovs (xs : List (Option Nat)) : List V := iv (xs.map ov)
abbrev fb1 (a b c : Addr) (x3 x4 x5 x6 x7 x8 x9 x10 : Option V) : Stt := [some (.ref a), some (.ref b), some (.ref c), x3, x4, x5, x6, x7, x8, x9, x10, none, none, none, none, none, none, none, none, none, none, none, none, none]
abbrev fb5 (a b c th z : Addr) (x3 x4 x5 x6 x7 x8 x9 x10 x13 x14 x15 x16 x17 x18 x19 : Option V) : Stt := [some (.ref a), some (.ref b), some (.ref c), x3, x4, x5, x6, x7, x8, x9, x10, some (.ref th), some (.ref z), x13, x14, x15, x16, x17, x18, x19, none, none, none, none]
section
variable {P : Program} {w : World} {K : PySem.W.Frag} {mg : Str → Option Value} {base : Heap} {CP CR CE aS : Addr}
theorem ok_fbc {f : Addr} {fd : FuncData} (F : Fun K "first_bad_completion" "Plan.first_bad_completion" sFbc f fd) (T : Txt K mg CP CR CE aS) (F_first_row : FunX P w K mg base CX0 1 "first_row" spFirstRow) (F_next_row : FunX P w K mg base CX0 1 "next_row" spNextRow) (M_is_broken : MetX P w K mg base CX0 2 CP "is_broken" (spIsBroken CP)) : FnOk P w K mg base CX0 3 f fd ["self", "seen"] (spFbc CP) := by
  have nd := scFbc.nd
  refine F.ok scFbc (fun vs H Q E h => ?_) (fun cdv A outer s H vs Q E hr h => ?_)
  · obtain ⟨_, _, _, _, _, rfl, _⟩ := h
    rfl
  obtain ⟨a, aW, b, p, t, rfl, hPA, hv, hB, hl, q⟩ := h
  obtain ⟨dx, aT, aR, aO, hA, ⟨qs, hT, hq⟩, hR, hO⟩ := id hPA
  refine ⟨_, (pss_cons (ps_set (i := 2) nd rfl (Or.inl rfl) (pe_lst pa_nil))
    (pss_cons (ps_for PassesOwn.never rfl (pi_list (pe_fldB rfl (pv 0) rfl)) (pg_tupB (n := 5) rfl rfl (pgs_cons (pg_name (i := 3) nd rfl (Or.inl rfl)) (pgs_cons (pg_name (i := 4) nd rfl (Or.inl rfl)) (pgs_cons (pg_name (i := 5) nd rfl (Or.inl rfl)) (pgs_cons (pg_name (i := 6) nd rfl (Or.inl rfl)) (pgs_cons (pg_name (i := 7) nd rfl (Or.inl rfl)) pgs_nil)))))) (pss_one (ps_if (pt_cmpR op_ne (pe_ix (ix_tupB rfl) (pv 1) (pv 4) (fun _ _ => rfl)) (pe_k rfl T.cUN) (nomark _)) (pss_one (ps_expr (pe_bm PySem.F.plainAttrs_list PySem.F.slot_list_append PySem.F.type_list_append mt_append (pv 2) (pa_cons (pe_lst (pa_cons (pe_ix (ix_tupB rfl) (pv 1) (pv 4) (fun _ _ => rfl)) pa_nil)) pa_nil)))) (pss_one (ps_if (pt_cmpR op_eq (pe_ix (ix_tupB rfl) (pv 1) (pv 3) (fun _ _ => rfl)) (pe_k rfl T.cUN) (nomark _)) (pss_one (ps_expr (pe_bm PySem.F.plainAttrs_list PySem.F.slot_list_append PySem.F.type_list_append mt_append (pv 2) (pa_cons (pe_lst (pa_cons (pe_k rfl T.cUN) pa_nil)) pa_nil)))) (pss_cons (ps_set (i := 8) nd rfl (Or.inl rfl) (pe_lst pa_nil))
    (pss_cons (ps_for PassesOwn.never rfl (pi_range2 rfl T.m_range (pa_cons (pv 5) (pa_cons (pe_op op_add (pv 6) pe_int) pa_nil))) (pg_name (i := 9) nd rfl (Or.inl rfl)) (pss_cons (ps_set (i := 10) nd rfl (Or.inl rfl) (pe_op op_add (pe_ix (ix_tupB rfl) (pv 1) (pv 3) (fun _ _ => rfl)) (pv 9)))
    (pss_cons (ps_if (pt_cmpR op_gt (pv 10) (pe_fldB rfl (pv 0) rfl) (nomark _)) (pss_cons (ps_expr (pe_bm PySem.F.plainAttrs_list PySem.F.slot_list_append PySem.F.type_list_append mt_append (pv 8) (pa_cons (pe_k rfl T.cUN) pa_nil)))
    (pss_one ps_break)) pss_nil)
    (pss_one (ps_if (pt_cmpR op_gt (pe_op op_add (pv 10) (pv 7)) (pe_fldB rfl (pv 0) rfl) (nomark _)) (pss_one (ps_expr (pe_bm PySem.F.plainAttrs_list PySem.F.slot_list_append PySem.F.type_list_append mt_append (pv 8) (pa_cons (pv 10) pa_nil)))) pss_nil)))))
    (pss_one (ps_expr (pe_bm PySem.F.plainAttrs_list PySem.F.slot_list_append PySem.F.type_list_append mt_append (pv 2) (pa_cons (pv 8) pa_nil)))))))))))
    (pss_cons (ps_set (i := 11) nd rfl (Or.inr rfl) (pe_lc (own := [("one", 20)]) rfl nd (pi_list (pv 2)) (blkOk_by (own := [("one", 20)]) (N := ["self", "seen", "choices", "start", "finish", "least", "greatest", "delay", "possible", "duration", "moment", "things", "sizes", "at_2", "moments", "times", "start_4", "least_4", "greatest_4", "delay_4", "one", "xs", "place_2", "value"]) (sc := (defScope sFbc)) (by decide +kernel)) (fun _ _ _ _ _ => (pg_name (i := 20) nd rfl (Or.inl rfl) (Or.inr rfl))) (fun _ _ _ _ _ => pts_nil) (fun _ _ _ _ _ => (pe_callTy (call_listQ blkK) (by rfl) T.m_list (by decide +kernel) (pa_cons (pv 20) pa_nil)))))
    (pss_cons (ps_setLc (i := 12) (own := [("xs", 21)]) rfl nd rfl rfl (sw_true rfl rfl rfl (by decide +kernel)) (pi_list (pv 11)) (blkOk_by (own := [("xs", 21)]) (N := ["self", "seen", "choices", "start", "finish", "least", "greatest", "delay", "possible", "duration", "moment", "things", "sizes", "at_2", "moments", "times", "start_4", "least_4", "greatest_4", "delay_4", "one", "xs", "place_2", "value"]) (sc := (defScope sFbc)) (by decide +kernel)) (fun _ _ _ _ _ => (pg_name (i := 21) nd rfl (Or.inl rfl) (Or.inr rfl))) (fun _ _ _ _ _ => pts_nil) (fun _ _ _ _ _ => (pe_callB (call_lenQ blkK) (by rfl) T.m_len (by decide +kernel) (pa_cons (pv 21) pa_nil))))
    (pss_cons (ps_set (i := 13) nd rfl (Or.inl rfl) (pe_fx F_first_row hr (by first | decide | omega) rfl (no0 (E := fun _ => E0)) (pa_cons (pv 12) pa_nil)))
    (pss_cons (ps_while PassesOwn.never (pt_cmpR op_notN (pv 13) pe_non (nomark _)) (pss_cons (ps_set (i := 14) nd rfl (Or.inl rfl) (pe_callTy (call_tupleQ rfl) (by rfl) T.m_tuple (by decide +kernel) (pa_cons (pe_lc (own := [("place_2", 22), ("value", 23)]) rfl nd (pi_enum (by rfl) T.m_enumerate (pa_cons (pv 13) pa_nil)) (blkOk_by (own := [("place_2", 22), ("value", 23)]) (N := ["self", "seen", "choices", "start", "finish", "least", "greatest", "delay", "possible", "duration", "moment", "things", "sizes", "at_2", "moments", "times", "start_4", "least_4", "greatest_4", "delay_4", "one", "xs", "place_2", "value"]) (sc := (defScope sFbc)) (by decide +kernel)) (fun _ _ _ _ _ => (pg_tupB (n := 2) blkK rfl (pgs_cons (pg_name (i := 22) nd rfl (Or.inl rfl) (Or.inr rfl)) (pgs_cons (pg_name (i := 23) nd rfl (Or.inl rfl) (Or.inr rfl)) pgs_nil)))) (fun _ _ _ _ _ => pts_nil) (fun _ _ _ _ _ => (pe_ix (ix_listB blkK) (pe_ix (ix_listB blkK) (pv 11) (pv 22) (fun _ _ => rfl)) (pv 23) (fun _ _ => rfl)))) pa_nil)))
    (pss_cons (ps_set (i := 13) nd rfl (Or.inl rfl) (pe_fx F_next_row hr (by first | decide | omega) rfl (no0 (E := fun _ => E0)) (pa_cons (pv 13) (pa_cons (pv 12) pa_nil))))
    (pss_cons (ps_set (i := 15) nd rfl (Or.inl rfl) (pe_callTy (call_listQ rfl) (by rfl) T.m_list (by decide +kernel) (pa_cons (pv 1) pa_nil)))
    (pss_cons (ps_for PassesOwn.never rfl (pi_zipLT (by rfl) T.m_zip (pa_cons (pe_fldB rfl (pv 0) rfl) (pa_cons (pv 14) pa_nil))) (pg_tupB (n := 2) rfl rfl (pgs_cons (pg_tupB (n := 5) rfl rfl (pgs_cons (pg_name (i := 16) nd rfl (Or.inl rfl)) (pgs_cons (pg_name (i := 4) nd rfl (Or.inl rfl)) (pgs_cons (pg_name (i := 17) nd rfl (Or.inl rfl)) (pgs_cons (pg_name (i := 18) nd rfl (Or.inl rfl)) (pgs_cons (pg_name (i := 19) nd rfl (Or.inl rfl)) pgs_nil)))))) (pgs_cons (pg_name (i := 10) nd rfl (Or.inl rfl)) pgs_nil))) (pss_one (ps_asg (pv 10) (pg_sub (pv 15) (pv 4) set_list))))
    (pss_one (ps_if (PW.pt (pw_or (pt_cmpR op_in_seq (pe_k rfl T.cUN) (pv 15) (by rfl)) (pw_or1 (pt_val (pe_mx M_is_broken T.clP hr (by first | decide | omega) (no0 (E := fun _ => E0)) (pv 0) (pa_cons (pv 15) pa_nil)))))) (pss_one (ps_ret (pv 15))) pss_nil)))))))
    (pss_one (ps_ret pe_non)))))))), ?_⟩
  have lq : (qs.map V.ref).length = p.tasks.length := rows_len hq
  have ht3 := hv.t3
  have one1 : 1 ≤ sizeLine := by rw [sizeLine_eq]; decide
  -- choices = []
  refine ⟨Nat.zero_le _, fun c hc0 => ?_⟩
  have sm0 : Same H (upd H c (.lst [])) := same_at _ hc0
  refine ⟨_, rfl, a, CP, dx, _, _, rfl, sm0 _ _ hA, T.clP, T.fT, pF_tasks, aT, rfl, ⟨_, .inl (.inl (sm0 _ _ hT))⟩, ?_⟩
  refine for_it (walk_list (xs := qs.map V.ref)) (fun i σ H' => (∃ x3 x4 x5 x6 x7 x8 x9 x10, σ = fb1 a b c x3 x4 x5 x6 x7 x8 x9 x10) ∧ Same H H' ∧ ∃ rs : List Addr, H' c = some (.lst (rs.map V.ref)) ∧ Paired (fun r xs => r ≠ c ∧ H' r = some (.lst (ovs xs))) rs ((p.tasks.take i).map (SPM.outs p t)))
    ⟨⟨_, _, _, _, _, _, _, _, rfl⟩, sm0, [], upd_same, .nil⟩ (fun i σ H' _ h => .inl (.inl (h.2.1 _ _ hT))) (fun i x σ H1 H2 hi hP hY => ?_) (fun σ H' hP => ?_)
  · obtain ⟨⟨x3, x4, x5, x6, x7, x8, x9, x10, rfl⟩, sm, rs, hC, hp⟩ := hP
    obtain ⟨eH2, hx⟩ := hY
    subst eH2
    obtain ⟨qk, k, rfl, hk, hQ⟩ := rows_at hq hx
    rw [lq] at hi
    obtain ⟨v1, v2, v3, v4, v5, v6, v7, v8⟩ := hv.task k (List.mem_of_getElem? hk)
    have hB1 := sm _ _ hB
    have hlen : rs.length = i := by
      have := Paired.length hp
      rw [List.length_map, List.length_take] at this
      omega
    refine ⟨qk, _, rfl, .inl (.inl (sm _ _ hQ)), rfl, _, _, rfl, _, _, rfl, _, _, rfl, _, _, rfl, _, _, rfl, rfl, ?_⟩
    -- what one turn adds
    have fin : ∀ (x8' x9' x10' : Option V) (G : Hp) (r : Addr), Same H2 G → r ≠ c → H2 r = none → G r = some (.lst (ovs (SPM.outs p t k))) →
        (fun i σ H' => (∃ x3 x4 x5 x6 x7 x8 x9 x10, σ = fb1 a b c x3 x4 x5 x6 x7 x8 x9 x10) ∧ Same H H' ∧ ∃ rs : List Addr, H' c = some (.lst (rs.map V.ref)) ∧ Paired (fun r xs => r ≠ c ∧ H' r = some (HO.lst (ovs xs))) rs ((p.tasks.take i).map (SPM.outs p t))) (i + 1)
          (fb1 a b c (some (.int k.start)) (some (.int k.finish)) (some (.int k.least)) (some (.int k.greatest)) (some (.int k.delay)) x8' x9' x10') (upd G c (.lst (rs.map V.ref ++ [.ref r]))) := fun x8' x9' x10' G r sg nr hr0 hr => by
      refine ⟨⟨_, _, _, _, _, _, _, _, rfl⟩, same_upd (sm.trans sg) hc0, rs ++ [r], by rw [upd_same, List.map_append]; rfl, ?_⟩
      rw [List.take_add_one, hk]
      show Paired _ _ (((p.tasks.take i) ++ [k]).map (SPM.outs p t))
      rw [List.map_append]
      refine Paired.snoc (Paired.mapP hp fun r' xs' z => ⟨z.1, ?_⟩) ⟨nr, ?_⟩
      · rw [upd_ne z.1]; exact sg _ _ z.2
      · rw [upd_ne nr]; exact hr
    have hsz : (rs.map V.ref).length < sizeLine := by rw [List.length_map]; exact small_lt (by omega)
    refine ⟨_, rfl, _, rfl, b, _, _, _, rfl, rfl, .inl (.inl hB1), atI_nat (seen_at (by omega)), rfl, _, rfl, ?_⟩
    rw [seen_dec]
    cases ef : VbjpCore.timeAt t k.finish with
    | some y =>
      refine if_t rfl ?_
      have eo : SPM.outs p t k = [some y] := by unfold SPM.outs; rw [ef]; rfl
      refine ⟨_, rfl, .inl ⟨rfl, _, .inl (.inl hC)⟩, _, rfl, _, rfl, b, _, _, _, rfl, rfl, .inl (.inl hB1), atI_nat (seen_at (by omega)), one1, fun r hr0 => ?_⟩
      have nr : r ≠ c := (ne_of_none hC hr0).symm
      refine ⟨c, _, _, rfl, rfl, by rw [upd_ne nr.symm]; exact hC, hsz, ?_⟩
      refine fin _ _ _ _ r (same_at _ hr0) nr hr0 ?_
      rw [upd_same, ef, eo]; rfl
    | none =>
      refine if_f rfl ?_
      refine ⟨_, rfl, _, rfl, b, _, _, _, rfl, rfl, .inl (.inl hB1), atI_nat (seen_at (by omega)), rfl, _, rfl, ?_⟩
      rw [seen_dec]
      cases es : VbjpCore.timeAt t k.start with
      | none =>
        refine if_t rfl ?_
        have eo : SPM.outs p t k = [none] := by unfold SPM.outs Vbjpae.hiddenTimes; rw [ef, es]; rfl
        refine ⟨_, rfl, .inl ⟨rfl, _, .inl (.inl hC)⟩, one1, fun r hr0 => ?_⟩
        have nr : r ≠ c := (ne_of_none hC hr0).symm
        refine ⟨c, _, _, rfl, rfl, by rw [upd_ne nr.symm]; exact hC, hsz, ?_⟩
        refine fin _ _ _ _ r (same_at _ hr0) nr hr0 ?_
        rw [upd_same, eo]; rfl
      | some a0 =>
        refine if_f rfl ?_
        have eo : SPM.outs p t k = Vbjpae.hiddenTimes p t k := by unfold SPM.outs; rw [ef]; rfl
        refine ⟨Nat.zero_le _, fun r hr0 => ?_⟩
        have nr : r ≠ c := (ne_of_none hC hr0).symm
        have hm := SPM.hidden_prog p t k a0 es
        generalize hN : k.greatest + 1 - k.least = N at hm
        have hj : ((k.greatest : Int) + 1 - (k.least : Int)).toNat = N := by omega
        refine ⟨_, rfl, _, rfl, _, _, rfl, rfl, _, _, rfl, ⟨by omega, by omega, by omega, by omega⟩, ?_⟩
        rw [hj]
        refine for_itb walk_range (fun j σ H' => (∃ x9 x10, σ = fb1 a b c (some (.int k.start)) (some (.int k.finish)) (some (.int k.least)) (some (.int k.greatest)) (some (.int k.delay)) (some (.ref r)) x9 x10) ∧ But r H2 H' ∧ ((List.range j).foldl (SPM.lateStep p k a0) ([], false)).2 = false ∧ H' r = some (.lst (ovs ((List.range j).foldl (SPM.lateStep p k a0) ([], false)).1)) ∧ ((List.range j).foldl (SPM.lateStep p k a0) ([], false)).1.length ≤ j)
          (fun σ H' => (∃ x9 x10, σ = fb1 a b c (some (.int k.start)) (some (.int k.finish)) (some (.int k.least)) (some (.int k.greatest)) (some (.int k.delay)) (some (.ref r)) x9 x10) ∧ But r H2 H' ∧ H' r = some (.lst (ovs (Vbjpae.hiddenTimes p t k))))
          ⟨⟨_, _, rfl⟩, but_upd H2 r _, rfl, upd_same, Nat.zero_le _⟩ (fun _ _ _ _ _ => trivial) (fun bk j x σ G1 G2 hj' hP hY => ?_) (fun σ G hP => ?_) (fun σ G hM => ?_)
        · obtain ⟨⟨x9, x10, rfl⟩, hb, hf, hr, hln⟩ := hP
          obtain ⟨eG, rfl⟩ := hY
          subst eG
          have smG : Same H2 G2 := But.of_new hr0 hb
          have hA2 := (sm.trans smG) _ _ hA
          have stp : (List.range (j + 1)).foldl (SPM.lateStep p k a0) ([], false) = SPM.lateStep p k a0 ((List.range j).foldl (SPM.lateStep p k a0) ([], false)) j := by rw [List.range_succ, List.foldl_append]; rfl
          generalize hF : (List.range j).foldl (SPM.lateStep p k a0) ([], false) = Fo at hf hr hln stp
          have hsz2 : (ovs Fo.1).length < sizeLine := by
            rw [iv_len, List.length_map]
            exact small_lt (by omega)
          dsimp only
          refine ⟨_, rfl, _, rfl, b, _, _, _, rfl, rfl, .inl (.inl (smG _ _ hB1)), atI_nat (seen_at (by omega)), ?_⟩
          rw [es, SPM.opt_some]
          refine ⟨_, rfl, _, _, rfl, rfl, ?_⟩
          have eM : ((a0 : Int) + ((k.least : Int) + (j : Int))) = ((a0 + (k.least + j) : Nat) : Int) := by omega
          dsimp only
          rw [eM]
          refine ⟨_, rfl, _, rfl, a, CP, dx, _, _, rfl, hA2, T.clP, T.fD, pF_deadline, _, _, rfl, rfl, _, rfl, if_2 (fun c1 => ?_) (fun c1 => ?_)⟩
          · have c1 : p.deadline < a0 + (k.least + j) := by
              have := of_decide_eq_true c1
              have : (p.deadline : Int) < ((a0 + (k.least + j) : Nat) : Int) := this
              omega
            refine ⟨_, rfl, .inl ⟨rfl, _, .inl (.inl hr)⟩, r, _, _, rfl, rfl, hr, hsz2, ?_⟩
            refine bk _ _ ⟨⟨_, _, rfl⟩, hb.trans (but_upd _ r _), ?_⟩
            have e1 : SPM.lateStep p k a0 Fo j = (Fo.1 ++ [none], true) := by
              unfold SPM.lateStep
              rw [if_neg (by rw [hf]; exact Bool.false_ne_true), if_pos c1]
            have e2 := SPM.late_stays p k a0 N (j + 1) (by omega) (by rw [stp, e1])
            rw [e2, stp, e1] at hm
            rw [upd_same, ← hm]
            simp [ovs, SPM.opt_none]
          · have c1 : ¬ p.deadline < a0 + (k.least + j) := by
              have := of_decide_eq_false c1
              have : ¬ (p.deadline : Int) < ((a0 + (k.least + j) : Nat) : Int) := this
              omega
            refine ⟨_, rfl, _, rfl, _, _, rfl, rfl, _, rfl, a, CP, dx, _, _, rfl, hA2, T.clP, T.fD, pF_deadline, _, _, rfl, rfl, _, rfl, if_2 (fun c2 => ?_) (fun c2 => ?_)⟩
            · have c2 : p.deadline < a0 + (k.least + j) + k.delay := by
                have := of_decide_eq_true c2
                have : (p.deadline : Int) < ((a0 + (k.least + j) : Nat) : Int) + (k.delay : Int) := this
                omega
              have e1 : SPM.lateStep p k a0 Fo j = (Fo.1 ++ [some (a0 + (k.least + j))], false) := by
                unfold SPM.lateStep
                rw [if_neg (by rw [hf]; exact Bool.false_ne_true), if_neg c1, if_pos c2]
              refine ⟨_, rfl, .inl ⟨rfl, _, .inl (.inl hr)⟩, _, rfl, r, _, _, rfl, rfl, hr, hsz2, ?_⟩
              refine ⟨⟨_, _, rfl⟩, hb.trans (but_upd _ r _), by rw [stp, e1], ?_, ?_⟩
              · rw [upd_same, stp, e1]
                simp [ovs, SPM.opt_some]
              · rw [stp, e1, List.length_append, List.length_singleton]; omega
            · have c2 : ¬ p.deadline < a0 + (k.least + j) + k.delay := by
                have := of_decide_eq_false c2
                have : ¬ (p.deadline : Int) < ((a0 + (k.least + j) : Nat) : Int) + (k.delay : Int) := this
                omega
              have e1 : SPM.lateStep p k a0 Fo j = Fo := by
                unfold SPM.lateStep
                rw [if_neg (by rw [hf]; exact Bool.false_ne_true), if_neg c1, if_neg c2]
              exact ⟨⟨_, _, rfl⟩, hb, by rw [stp, e1]; exact hf, by rw [stp, e1]; exact hr, by rw [stp, e1]; omega⟩
        · obtain ⟨h1, h2, _, h3, _⟩ := hP
          rw [hm] at h3
          exact ⟨h1, h2, h3⟩
        · obtain ⟨⟨x9, x10, rfl⟩, hb, hr⟩ := hM
          have smG : Same H2 G := But.of_new hr0 hb
          refine ⟨_, rfl, .inl ⟨rfl, _, .inl (.inl (smG _ _ hC))⟩, _, rfl, c, _, _, rfl, rfl, smG _ _ hC, hsz, ?_⟩
          exact fin _ _ _ _ r smG nr hr0 (by rw [eo]; exact hr)
  · obtain ⟨⟨x3, x4, x5, x6, x7, x8, x9, x10, rfl⟩, sm, rs, hC, hp⟩ := hP
    rw [lq, List.take_length] at hp
    have lrs : rs.length = p.tasks.length := by
      have := Paired.length hp
      rw [List.length_map] at this
      exact this
    generalize hCH : p.tasks.map (SPM.outs p t) = ch at hp
    have lch : ch.length = p.tasks.length := by rw [← hCH, List.length_map]
    -- things
    refine ⟨_, rfl, c, rfl, ⟨_, .inl (.inl hC)⟩, fun d hd => ?_⟩
    have ncd : c ≠ d := ne_of_none hC hd
    refine lc_it (walk_list (xs := rs.map V.ref)) (fun i H1 => But d H' H1 ∧ ∃ ts : List Addr, H1 d = some (.lst (ts.map V.ref)) ∧ Paired (fun r xs => r ≠ d ∧ H1 r = some (.lst (ovs xs))) ts (ch.take i)) ⟨but_upd H' d _, [], upd_same, .nil⟩ (fun i H1 _ h => .inl (.inl (h.1 _ _ hC ncd))) (fun i x H1 H2 hi hP hY => ?_) (fun G h => ?_)
    · obtain ⟨hb, ts, hD, hp2⟩ := hP
      obtain ⟨eH, hx⟩ := hY
      subst eH
      rw [List.length_map] at hi
      rw [List.getElem?_map] at hx
      obtain ⟨r, hr⟩ : ∃ r, rs[i]? = some r := ⟨_, List.getElem?_eq_getElem hi⟩
      rw [hr] at hx
      cases hx
      obtain ⟨xs, hxs, nrc, hrx⟩ := paired_at hp i r hr
      have hrx2 := hb _ _ hrx (ne_of_none hrx hd)
      refine ⟨rfl, ?_⟩
      dsimp only [tYes]
      rw [if_pos rfl]
      refine ⟨_, rfl, r, _, rfl, .inl (.inl (.inl hrx2)), fun l hl => ?_⟩
      have nl : d ≠ l := ne_of_none hD hl
      refine ⟨_, by rw [upd_ne nl]; exact hD, ?_, (hb.same (same_at _ hl)).trans (but_upd _ d _), ts ++ [l], by rw [upd_same, List.map_append]; rfl, ?_⟩
      · rw [List.length_map, Paired.length hp2, List.length_take]
        exact small_lt (by omega)
      · rw [List.take_add_one, hxs]
        refine Paired.snoc (Paired.mapP hp2 fun r' xs' z => ⟨z.1, ?_⟩) ⟨nl.symm, ?_⟩
        · rw [upd_ne z.1, upd_ne (ne_of_none z.2 hl)]; exact z.2
        · rw [upd_ne nl.symm]; exact upd_same
    obtain ⟨hb, ts, hD, hp2⟩ := h
    have smG : Same H G := sm.trans (But.of_new hd hb)
    rw [List.length_map, lrs, ← lch, List.take_length] at hp2
    have lts : ts.length = p.tasks.length := by rw [Paired.length hp2, lch]
    clear hb hp hC ncd hd
    -- sizes
    refine ⟨_, rfl, d, rfl, ⟨_, .inl (.inl hD)⟩, fun z hz => ?_⟩
    have ndz : d ≠ z := ne_of_none hD hz
    refine lc_it (walk_list (xs := ts.map V.ref)) (fun i H1 => But z G H1 ∧ H1 z = some (.lst (nv ((ch.take i).map List.length)))) ⟨but_upd G z _, upd_same⟩ (fun i H1 _ h => .inl (.inl (h.1 _ _ hD ndz))) (fun i x H1 H2 hi hP hY => ?_) (fun G1 h => ?_)
    · obtain ⟨hb, hZ⟩ := hP
      obtain ⟨eH, hx⟩ := hY
      subst eH
      rw [List.length_map] at hi
      rw [List.getElem?_map] at hx
      obtain ⟨r, hr⟩ : ∃ r, ts[i]? = some r := ⟨_, List.getElem?_eq_getElem hi⟩
      rw [hr] at hx
      cases hx
      obtain ⟨xs, hxs, nrc, hrx⟩ := paired_at hp2 i r hr
      have hrx2 := hb _ _ hrx (ne_of_none hrx hz)
      refine ⟨rfl, ?_⟩
      dsimp only [tYes]
      rw [if_pos rfl]
      refine ⟨_, rfl, r, _, rfl, .inl (.inl (.inl hrx2)), ?_⟩
      refine ⟨_, hZ, ?_, hb.trans (but_upd _ z _), ?_⟩
      · rw [nv_len, List.length_map, List.length_take]
        exact small_lt (by omega)
      · rw [upd_same, List.take_add_one, hxs]
        simp [ovs]
    obtain ⟨hb, hZ⟩ := h
    have smG1 : Same G G1 := But.of_new hz hb
    rw [List.length_map, lts, ← lch, List.take_length] at hZ
    have hD1 := smG1 _ _ hD
    have hp3 : Paired (fun r xs => G1 r = some (.lst (ovs xs))) ts ch := Paired.mapP hp2 fun r xs z => smG1 _ _ z.2
    have sm1 : Same H G1 := smG.trans smG1
    clear hb hp2 hD hz smG smG1 ndz sm
    generalize hSZ : ch.map List.length = sz at hZ
    have lsz : sz.length = p.tasks.length := by rw [← hSZ, List.length_map, lch]
    have hcomp : Vbjpae.completions p t = (SPM.rowsL sz).map fun row => SPM.fill p.tasks t (SPM.pick none ch row) := by
      rw [SPM.completions_prod hv, SPM.prod_rows, hCH, hSZ, List.map_map]; rfl
    unfold FbcQ at q
    rw [hcomp] at q
    -- first_row
    refine ⟨_, rfl, z, sz, rfl, hZ, by omega, fun hno => ?_, fun hall c1 G2 hc1 hC1 sm2 => ?_⟩
    · rw [SPM.rowsL_nil hno] at q
      refine ⟨fun m σ G => (∃ x13, σ = fb5 a b c d z x3 x4 x5 x6 x7 x8 x9 x10 x13 none none none none none none ∧ x13 = some .non) ∧ G = G1, ⟨0, ⟨_, rfl, rfl⟩, rfl⟩, fun m σ G hW => ?_⟩
      obtain ⟨⟨_, rfl, rfl⟩, rfl⟩ := hW
      refine ⟨_, rfl, rfl, _, rfl, if_f rfl ?_⟩
      exact q G sm1
    · have lall : ∀ row ∈ SPM.rowsL sz, row.length = sz.length ∧ ∀ (i a n : Nat), row[i]? = some a → sz[i]? = some n → a < n := fun row h => SPM.rowsL_len h
      let cmp : List Nat → Tms := fun row => SPM.fill p.tasks t (SPM.pick none ch row)
      let bad : Tms → Bool := fun x => !VbjpCore.isGood p x
      have qn : ((SPM.rowsL sz).map cmp).find? bad = none → ∀ H', Same H H' → Q .non H' := fun e H' h => by
        rw [show ((SPM.rowsL sz).map fun row => SPM.fill p.tasks t (SPM.pick none ch row)).find? (fun x => !VbjpCore.isGood p x) = none from e] at q
        exact q H' h
      have qx : ∀ x, ((SPM.rowsL sz).map cmp).find? bad = some x → ∀ l H', H' l = some (.lst (iv (enc x))) → Same H H' → Q (.ref l) H' := fun x e l H' h1 h2 => by
        rw [show ((SPM.rowsL sz).map fun row => SPM.fill p.tasks t (SPM.pick none ch row)).find? (fun x => !VbjpCore.isGood p x) = some x from e] at q
        exact q l H' h1 h2
      clear q
      refine ⟨fun m σ G => (∃ x4 x10 x14 x15 x16 x17 x18 x19 x13, σ = fb5 a b c d z x3 x4 x5 x6 x7 x8 x9 x10 x13 x14 x15 x16 x17 x18 x19 ∧
          ((x13 = some .non ∧ m = 0 ∧ ((SPM.rowsL sz).map cmp).find? bad = none) ∨
            ∃ r at_ L, x13 = some (.ref r) ∧ G r = some (.lst (nv at_)) ∧ SPM.Run (fun x => SPM.nextL x sz) at_ L ∧ m = L.length ∧ (∀ y ∈ L, y ∈ SPM.rowsL sz) ∧ ((SPM.rowsL sz).map cmp).find? bad = (L.map cmp).find? bad)) ∧ Same G1 G,
        ⟨(SPM.rowsL sz).length, ⟨_, _, _, _, _, _, _, _, _, rfl, .inr ⟨c1, _, _, rfl, hC1, ?_, rfl, fun _ h => h, rfl⟩⟩, sm2⟩, fun m σ G hW => ?_⟩
      · exact SPM.run_rows sz hall
      obtain ⟨⟨y4, y10, x14, x15, x16, x17, x18, x19, x13, rfl, h⟩, smG⟩ := hW
      rcases h with ⟨rfl, _, hn⟩ | ⟨r, at_, L, rfl, hR, run, rfl, hin, hfind⟩
      · exact ⟨_, rfl, rfl, _, rfl, if_f rfl (qn hn G (sm1.trans smG))⟩
      refine ⟨_, rfl, rfl, _, rfl, if_t rfl ?_⟩
      obtain ⟨L', rfl⟩ : ∃ L', L = at_ :: L' := by cases run <;> exact ⟨_, rfl⟩
      have inr := hin at_ List.mem_cons_self
      obtain ⟨lat, bat⟩ := lall at_ inr
      refine ⟨fun σ' H' => (∃ x4 x10 x14 x15 x16 x17 x18 x19 x13, σ' = fb5 a b c d z x3 x4 x5 x6 x7 x8 x9 x10 x13 x14 x15 x16 x17 x18 x19 ∧
          ((x13 = some .non ∧ ((SPM.rowsL sz).map cmp).find? bad = none) ∨
            ∃ r at2 , x13 = some (.ref r) ∧ H' r = some (.lst (nv at2)) ∧ SPM.Run (fun x => SPM.nextL x sz) at2 L' ∧ ((SPM.rowsL sz).map cmp).find? bad = (L'.map cmp).find? bad)) ∧ Same G1 H', fun σ' H' hN => ?_, ?_⟩
      · obtain ⟨⟨y4', y10', x14', x15', x16', x17', x18', x19', x13', e1, h⟩, smN⟩ := hN
        rcases h with ⟨e2, hn⟩ | ⟨r', at2, e2, hR', run', hf'⟩
        · exact ⟨0, by simp, ⟨_, _, _, _, _, _, _, _, _, e1, .inl ⟨e2, rfl, hn⟩⟩, smN⟩
        · exact ⟨L'.length, by simp, ⟨_, _, _, _, _, _, _, _, _, e1, .inr ⟨r', at2, L', e2, hR', run', rfl, fun y hy => hin y (List.mem_cons_of_mem _ hy), hf'⟩⟩, smN⟩
      -- moments
      have hDG := smG _ _ hD1
      have hpG : Paired (fun r xs => G r = some (.lst (ovs xs))) ts ch := Paired.mapP hp3 fun r xs z => smG _ _ z
      have hZG := smG _ _ hZ
      refine ⟨_, rfl, r, _, rfl, .inl (.inl hR), fun e he => ?_⟩
      have nre : r ≠ e := ne_of_none hR he
      have lpick : (SPM.pick none ch at_).length = p.tasks.length := by rw [SPM.pick_len _ _ _ (by omega), lch]
      refine lc_it (walk_enum (xs := nv at_)) (fun i H1 => But e G H1 ∧ H1 e = some (.lst (ovs ((SPM.pick none ch at_).take i)))) ⟨but_upd G e _, upd_same⟩ (fun i H1 _ h => .inl (.inl (h.1 _ _ hR nre))) (fun i x H1 H2 hi hP hY => ?_) (fun G3 h => ?_)
      · obtain ⟨hb, hE⟩ := hP
        obtain ⟨Tt, y1, y2, rfl, hn, rfl, e1, e2⟩ := hY
        cases e1
        obtain ⟨n, hn', rfl⟩ := nv_at_of e2
        rw [nv_len] at hi
        have hiT : i < p.tasks.length := by omega
        obtain ⟨r', hr'⟩ : ∃ r', ts[i]? = some r' := ⟨_, List.getElem?_eq_getElem (by omega)⟩
        obtain ⟨xs, hxs, hrx⟩ := paired_at hpG i r' hr'
        have hsz : sz[i]? = some xs.length := by rw [← hSZ, List.getElem?_map, hxs]; rfl
        have hnx := bat i n _ hn' hsz
        have hval : (ovs xs)[n]? = some (V.int (ov (xs.getD n none))) := by
          rw [List.getElem?_map, List.getElem?_map, List.getElem?_eq_getElem hnx]
          simp [List.getD_eq_getElem?_getD, hnx]
        have smT : Same H1 (upd H1 Tt (.tup [.int (i : Nat), .int n])) := same_at _ hn
        have kp : ∀ x o, G x = some o → x ≠ e → (upd H1 Tt (.tup [.int (i : Nat), .int n])) x = some o := fun x o h1 h2 => smT _ _ (hb _ _ h1 h2)
        refine ⟨Tt, _, rfl, .inl (.inl upd_same), rfl, _, _, rfl, _, _, rfl, rfl, rfl, ?_⟩
        dsimp only [tYes]
        rw [if_pos rfl]
        refine ⟨_, rfl, _, rfl, d, _, _, _, rfl, rfl, .inl (.inl (kp _ _ hDG (ne_of_none hDG he))), atI_nat (j := i) (v := V.ref r') (by rw [List.getElem?_map, hr']; rfl), ?_⟩
        refine ⟨_, rfl, r', _, _, _, rfl, rfl, .inl (.inl (kp _ _ hrx (ne_of_none hrx he))), atI_nat hval, ?_⟩
        refine ⟨_, smT _ _ hE, ?_, (hb.same smT).trans (but_upd _ e _), ?_⟩
        · rw [iv_len, List.length_map, List.length_take]; exact small_lt (by omega)
        · rw [upd_same, List.take_add_one, SPM.pick_at _ _ _ hxs hn']
          simp [ovs]
      obtain ⟨hb, hE⟩ := h
      have smG3 : Same G G3 := But.of_new he hb
      rw [nv_len, show at_.length = (SPM.pick none ch at_).length by omega, List.take_length] at hE
      refine ⟨e, _, rfl, .inl ⟨.inl (.inl hE), fun mt hmt => ?_⟩⟩
      have smG4 : Same G (upd G3 mt (.tup (ovs (SPM.pick none ch at_)))) := smG3.trans (same_at _ hmt)
      have hMT : (upd G3 mt (.tup (ovs (SPM.pick none ch at_)))) mt = some (.tup (ovs (SPM.pick none ch at_))) := upd_same
      generalize upd G3 mt (.tup (ovs (SPM.pick none ch at_))) = G4 at smG4 hMT
      -- next_row
      refine ⟨_, rfl, _, rfl, r, z, at_, sz, rfl, smG4 _ _ hR, smG4 _ _ hZG, lat, by omega, ?_⟩
      refine next_cases fun v13 G5 sm5 h13 => ?_
      have sm6 := smG4.trans sm5
      have hMT5 := sm5 _ _ hMT
      -- times
      refine ⟨_, rfl, b, _, rfl, .inr (.inl (.inl (sm6 _ _ (smG _ _ (sm1 _ _ hB))))), fun tm htm => ?_⟩
      have sm7 : Same G (upd G5 tm (.lst (iv (enc t)))) := sm6.trans (same_at _ htm)
      have smA : Same H (upd G5 tm (.lst (iv (enc t)))) := sm1.trans (smG.trans sm7)
      have hT7 := smA _ _ hT
      have hMT7 : (upd G5 tm (.lst (iv (enc t)))) mt = some (.tup (ovs (SPM.pick none ch at_))) := same_at _ htm _ _ hMT5
      have nTm : aT ≠ tm := ne_of_none (sm6 _ _ (smG _ _ (sm1 _ _ hT))) htm
      have nMt : mt ≠ tm := ne_of_none hMT5 htm
      refine ⟨_, rfl, a, CP, dx, _, _, rfl, smA _ _ hA, T.clP, T.fT, pF_tasks, _, rfl, aT, mt, _, _, rfl, .inl (.inl hT7), .inl (.inl hMT7), ?_⟩
      have lmt : (ovs (SPM.pick none ch at_)).length = p.tasks.length := by rw [iv_len, List.length_map, lpick]
      refine for_it (walk_zipLT (xs := qs.map V.ref) (ys := ovs (SPM.pick none ch at_)) (by rw [lq, lmt])) (fun i σ H' => (∃ y4 y10 y16 y17 y18 y19, σ = fb5 a b c d z x3 y4 x5 x6 x7 x8 x9 y10 (some v13) (some (.ref mt)) (some (.ref tm)) y16 y17 y18 y19) ∧ But tm G5 H' ∧ H' tm = some (.lst (iv (enc (((p.tasks.zip (SPM.pick none ch at_)).take i).foldl (fun x kv => x.set kv.1.finish kv.2) t)))))
        ⟨⟨_, _, _, _, _, _, rfl⟩, but_upd G5 tm _, upd_same⟩ (fun i σ H' _ h => ⟨.inl (.inl (h.2.1 _ _ (sm6 _ _ (smG _ _ (sm1 _ _ hT))) nTm)), .inl (.inl (h.2.1 _ _ hMT5 nMt))⟩) (fun i x σ H1 H2 hi hP hY => ?_) (fun σ H' hP => ?_)
      · obtain ⟨⟨y4, y10, y16, y17, y18, y19, rfl⟩, hb, hTM⟩ := hP
        obtain ⟨Tt, y1, y2, rfl, hn, rfl, e1, e2⟩ := hY
        obtain ⟨qk, k, rfl, hk, hQ⟩ := rows_at hq e1
        obtain ⟨zv, hzv, rfl⟩ := at_int_of e2
        rw [List.getElem?_map] at hzv
        obtain ⟨o, ho, rfl⟩ := Option.map_eq_some_iff.mp hzv
        rw [lq] at hi
        obtain ⟨v1, v2, v3, v4, v5, v6, v7, v8⟩ := hv.task k (List.mem_of_getElem? hk)
        have smT : Same H1 (upd H1 Tt (.tup [.ref qk, .int (ov o)])) := same_at _ hn
        have smR : Same H (upd H1 Tt (.tup [.ref qk, .int (ov o)])) := fun x u e => smT _ _ (hb _ _ (sm6 _ _ (smG _ _ (sm1 _ _ e))) (ne_of_none (sm6 _ _ (smG _ _ (sm1 _ _ e))) htm))
        refine ⟨Tt, _, rfl, .inl (.inl upd_same), rfl, _, _, rfl, qk, _, rfl, .inl (.inl (smR _ _ hQ)), rfl, _, _, rfl, _, _, rfl, _, _, rfl, _, _, rfl, _, _, rfl, rfl, _, _, rfl, rfl, ?_⟩
        refine ⟨_, rfl, _, rfl, _, rfl, tm, _, k.finish, k.finish, rfl, rfl, smT _ _ hTM, ixN_nat ?_, ?_⟩
        · rw [iv_len, SPM.enc_len, SPM.sets_len]; omega
        · refine ⟨⟨_, _, _, _, _, _, rfl⟩, (hb.same smT).trans (but_upd _ tm _), ?_⟩
          have hz : (p.tasks.zip (SPM.pick none ch at_))[i]? = some (k, o) := by
            rw [List.getElem?_zip_eq_some]; exact ⟨hk, ho⟩
          rw [upd_same, List.take_add_one, hz, List.foldl_append]
          simp only [Option.toList_some, List.foldl_cons, List.foldl_nil]
          rw [SPM.enc_set, iv_set]
      obtain ⟨⟨y4, y10, y16, y17, y18, y19, rfl⟩, hb, hTM⟩ := hP
      have eF : ((p.tasks.zip (SPM.pick none ch at_)).take (qs.map V.ref).length).foldl (fun (x : Tms) kv => x.set kv.1.finish kv.2) t = cmp at_ := by
        rw [List.take_of_length_le]
        · rfl
        · rw [List.length_zip, lq]; omega
      rw [eF] at hTM
      have smF : Same G5 H' := But.of_new htm hb
      have smG8 := sm6.trans smF
      have smH8 : Same H H' := sm1.trans (smG.trans smG8)
      have lcmp : (cmp at_).length = p.count := by
        show (SPM.fill _ _ _).length = _
        rw [SPM.fill_len, hl]
      have hgood := SPM.good_iff hv lcmp
      have hfc : ((at_ :: L').map cmp).find? bad = if bad (cmp at_) = true then some (cmp at_) else (L'.map cmp).find? bad := by
        rw [List.map_cons, List.find?_cons]
        cases bad (cmp at_) <;> rfl
      have isBad : bad (cmp at_) = true → Q (.ref tm) H' := fun hbd => by
        refine qx (cmp at_) ?_ tm H' hTM smH8
        rw [hfind, hfc, if_pos hbd]
      have flat : (iv (enc (cmp at_))).all flatV = true := by
        rw [List.all_eq_true]
        intro v hv
        obtain ⟨z, _, rfl⟩ := List.mem_map.mp hv
        rfl
      have hin1 : inV (.int (-1)) (iv (enc (cmp at_))) = true ↔ ∃ y ∈ cmp at_, y = none := by
        unfold inV
        rw [List.any_eq_true]
        constructor
        · rintro ⟨v, hv, e⟩
          obtain ⟨zz, hzz, rfl⟩ := List.mem_map.mp hv
          obtain ⟨y, hy, rfl⟩ := List.mem_map.mp hzz
          have : ov y = -1 := by simpa [eqV] using e
          exact ⟨y, hy, SPM.opt_neg.mp this⟩
        · rintro ⟨y, hy, rfl⟩
          exact ⟨.int (-1), List.mem_map.mpr ⟨-1, List.mem_map.mpr ⟨none, hy, rfl⟩, rfl⟩, rfl⟩
      refine ⟨_, rfl, tm, _, rfl, .inl (.inl (.inl hTM)), rfl, flat, _, rfl, ?_⟩
      show if inV (.int (-1)) (iv (enc (cmp at_))) = true then _ else _
      refine if_2 (fun c1 => ?_) (fun c1 => ?_)
      · refine if_t rfl ⟨_, rfl, isBad ?_⟩
        obtain ⟨y, hy, rfl⟩ := hin1.mp c1
        show (!VbjpCore.isGood p (cmp at_)) = true
        rw [Bool.not_eq_true', ← Bool.not_eq_true]
        intro hg
        exact (hgood.mp hg).1 none hy rfl
      · have allS : ∀ x ∈ cmp at_, x ≠ none := fun x hx e => by
          have := hin1.mpr ⟨x, hx, e⟩
          rw [this] at c1
          cases c1
        refine ⟨_, rfl, a, dx, _, rfl, smH8 _ _ hA, pF_none (by decide +kernel), _, rfl, a, aW, tm, p, cmp at_, rfl, hPA.same smH8, hv, .inr hTM, lcmp, _, rfl, if_2 (fun c2 => ?_) (fun c2 => ?_)⟩
        · refine ⟨_, rfl, isBad ?_⟩
          show (!VbjpCore.isGood p (cmp at_)) = true
          rw [Bool.not_eq_true', ← Bool.not_eq_true]
          intro hg
          rw [(hgood.mp hg).2] at c2
          cases c2
        · have nb : bad (cmp at_) = false := by
            show (!VbjpCore.isGood p (cmp at_)) = false
            rw [Bool.not_eq_false']
            exact hgood.mpr ⟨allS, c2⟩
          have hf2 : ((SPM.rowsL sz).map cmp).find? bad = (L'.map cmp).find? bad := by rw [hfind, hfc, if_neg (by rw [nb]; exact Bool.false_ne_true)]
          refine ⟨⟨_, _, _, _, _, _, _, _, _, rfl, ?_⟩, smG.trans smG8⟩
          rcases h13 with ⟨rfl, en⟩ | ⟨r', at2, rfl, en, hR'⟩
          · refine .inl ⟨rfl, ?_⟩
            rw [hf2]
            cases run with
            | last _ => rfl
            | step e _ => rw [show SPM.nextL at_ sz = _ from e] at en; cases en
          · refine .inr ⟨r', at2, rfl, smF _ _ hR', ?_, hf2⟩
            cases run with
            | last e => rw [show SPM.nextL at_ sz = _ from e] at en; cases en
            | step e rn =>
              rw [show SPM.nextL at_ sz = _ from e] at en
              cases en
              exact rn
end
end SP
end

section
set_option Elab.async false
set_option linter.all false
set_option maxRecDepth 100000
set_option maxHeartbeats 4000000
namespace SP
open PySem PySem.Spec PyProof.Rows L2 SPR
open SPM (enc ov)
abbrev sIgm : Stmt := inClass (top 12) 15
abbrev nIgm : List Str := ["self", "moment", "seen", "mask", "after"]
theorem scIgm : FnScope ["self", "moment", "seen", "mask", "after"] ["self", "moment", "seen", "mask"] (defScope sIgm) := ⟨rfl, rfl, rfl, by decide +kernel, rfl, by decide +kernel, by decide +kernel⟩
abbrev sIgma : Stmt := inClass (top 12) 16
abbrev nIgma : List Str := ["self", "moment", "after", "position"]
theorem scIgma : FnScope ["self", "moment", "after", "position"] ["self", "moment", "after"] (defScope sIgma) := ⟨rfl, rfl, rfl, by decide +kernel, rfl, by decide +kernel, by decide +kernel⟩
abbrev sWins : Stmt := inClass (top 12) 17
abbrev nWins : List Str := ["self", "position", "moment", "seen"]
theorem scWins : FnScope ["self", "position", "moment", "seen"] ["self", "position"] (defScope sWins) := ⟨rfl, rfl, rfl, by decide +kernel, rfl, by decide +kernel, by decide +kernel⟩
abbrev sWinsAny : Stmt := inClass (top 12) 18
abbrev nWinsAny : List Str := ["self", "seen", "moment", "mask"]
theorem scWinsAny : FnScope ["self", "seen", "moment", "mask"] ["self", "seen", "moment"] (defScope sWinsAny) := ⟨rfl, rfl, rfl, by decide +kernel, rfl, by decide +kernel, by decide +kernel⟩
abbrev posK (s : Nat) (t : Tms) : PKey := ((s : Int), enc t)
/-- what the memo holds -/
def Memo (p : Pln) (kvs : List (PKey × V)) : Prop := (kvs.map (·.1)).Nodup ∧ ∀ kv ∈ kvs, ∃ s t, SPM.Reach p s t ∧ kv = (posK s t, .bl (Vbjpae.winsAt p s t))
theorem posK_inj {s s' : Nat} {t t' : Tms} (h : posK s t = posK s' t') : s = s' ∧ t = t' := by
  injection h with h1 h2
  exact ⟨by omega, SPM.enc_inj h2⟩
theorem Memo.nil (p : Pln) : Memo p [] := ⟨List.nodup_nil, fun _ h => by cases h⟩
theorem Memo.get {p : Pln} {kvs : List (PKey × V)} (m : Memo p kvs) {s : Nat} {t : Tms} {v : V} (h : valV kvs (posK s t) = some v) : v = .bl (Vbjpae.winsAt p s t) := by
  unfold valV at h
  obtain ⟨kv, h1, h2⟩ := Option.map_eq_some_iff.mp h
  have hk : kv.1 = posK s t := by simpa using List.find?_some h1
  obtain ⟨s', t', _, e⟩ := m.2 kv (List.mem_of_find?_eq_some h1)
  subst e
  obtain ⟨rfl, rfl⟩ := posK_inj hk
  exact h2.symm
theorem Memo.put {p : Pln} {kvs : List (PKey × V)} (m : Memo p kvs) {s : Nat} {t : Tms} (r : SPM.Reach p s t) : Memo p (putK kvs (posK s t) (.bl (Vbjpae.winsAt p s t))) := by
  cases e : valV kvs (posK s t) with
  | none =>
    refine ⟨nd_putK _ m.1 e, ?_⟩
    rw [putK_new _ e]
    intro kv hkv
    rcases List.mem_append.mp hkv with h | h
    · exact m.2 kv h
    · exact ⟨s, t, r, List.mem_singleton.mp h⟩
  | some v =>
    have same : putK kvs (posK s t) (.bl (Vbjpae.winsAt p s t)) = kvs := by
      have q : (kvs.any fun kv => decide (kv.1 = posK s t)) = true := by rw [valV_any, e]; rfl
      unfold putK
      rw [if_pos q]
      have : ∀ l : List (PKey × V), (∀ kv ∈ l, kv ∈ kvs) → (l.map fun kv => if kv.1 = posK s t then (kv.1, V.bl (Vbjpae.winsAt p s t)) else kv) = l := by
        intro l
        induction l with
        | nil => intro _; rfl
        | cons kv l ih =>
          intro h
          rw [List.map_cons, ih fun x hx => h x (List.mem_cons_of_mem _ hx)]
          congr 1
          by_cases hk : kv.1 = posK s t
          · rw [if_pos hk]
            obtain ⟨s', t', _, e'⟩ := m.2 kv (h kv List.mem_cons_self)
            subst e'
            obtain ⟨rfl, rfl⟩ := posK_inj hk
            rfl
          · rw [if_neg hk]
      exact this kvs fun _ h => h
    rw [same]
    exact m
theorem Memo.len {p : Pln} (hv : SPM.PV p) {kvs : List (PKey × V)} (m : Memo p kvs) : kvs.length < sizeLine := by
  have := SPM.keys_bound hv m.1 fun k hk => by
    obtain ⟨kv, hkv, rfl⟩ := List.mem_map.mp hk
    obtain ⟨s, t, r, e⟩ := m.2 kv hkv
    exact ⟨s, t, r, by rw [e]⟩
  rw [List.length_map] at this
  rw [sizeLine_eq]; omega
section
variable (P : Program) (w : World) (CP : Addr)
def WonOk (p : Pln) (H : Hp) (aW : Addr) : Prop := ∃ kvs, PD P w H aW kvs ∧ Memo p kvs
/-- a plan with its memo -/
structure GP (H : Hp) (a aW : Addr) (p : Pln) : Prop where
  plan : PlanAt CP H a (rp p) aW
  won : WonOk P w p H aW
  pv : SPM.PV p
end
section
variable {P : Program} {w : World} {CP : Addr} {H H' : Hp} {a aW : Addr} {p : Pln}
theorem WonOk.ext (h : WonOk P w p H aW) : ∃ o, H aW = some (.ext o) := let ⟨_, ⟨_, _, _, e, _⟩, _⟩ := h; ⟨_, e⟩
theorem WonOk.same (h : WonOk P w p H aW) (s : Same H H') : WonOk P w p H' aW := let ⟨k, d, m⟩ := h; ⟨k, d.same s, m⟩
theorem GP.same (h : GP P w CP H a aW p) (s : Same H H') : GP P w CP H' a aW p := ⟨h.plan.same s, h.won.same s, h.pv⟩
theorem plan_but (h : PlanAt CP H a (rp p) aW) (hw : ∃ o, H aW = some (.ext o)) (b : But aW H H') : PlanAt CP H' a (rp p) aW :=
  let ⟨_, e⟩ := hw; h.but e (fun _ z => nomatch z) (fun _ z => nomatch z) (fun _ _ _ z => nomatch z) b
theorem GP.but (h : GP P w CP H a aW p) (b : But aW H H') (hw : WonOk P w p H' aW) : GP P w CP H' a aW p := ⟨plan_but h.plan h.won.ext b, hw, h.pv⟩
theorem but_tup {q : Addr} {xs : List V} (b : But aW H H') (hw : WonOk P w p H aW) (e : H q = some (.tup xs)) : H' q = some (.tup xs) := by
  obtain ⟨o, eo⟩ := hw.ext
  exact b _ _ e (ne_of e eo fun z => nomatch z)
theorem but_lst {q : Addr} {xs : List V} (b : But aW H H') (hw : WonOk P w p H aW) (e : H q = some (.lst xs)) : H' q = some (.lst xs) := by
  obtain ⟨o, eo⟩ := hw.ext
  exact b _ _ e (ne_of e eo fun z => nomatch z)
theorem but_pos {q : Addr} {k : PKey} (b : But aW H H') (hw : WonOk P w p H aW) (e : PosAt H q k) : PosAt H' q k := e.keep fun _ _ z => but_tup b hw z
theorem same_but {H1 : Hp} (s : Same H H1) (b : But aW H1 H') : But aW H H' := fun c o e n => b c o (s c o e) n
end
def spWins (P : Program) (w : World) (CP : Addr) (n : Nat) : Sp := fun vs H Q _ => ∃ (a aW q : Addr) (p : Pln) (s : Nat) (t : Tms), vs = [.ref a, .ref q] ∧ GP P w CP H a aW p ∧ PosAt H q (posK s t) ∧ SPM.Reach p s t ∧ p.deadline - s < n ∧
  ∀ H', But aW H H' → WonOk P w p H' aW → Q (.bl (Vbjpae.winsAt p s t)) H'
def spWinsAny (P : Program) (w : World) (CP : Addr) (n : Nat) : Sp := fun vs H Q _ => ∃ (a aW b : Addr) (p : Pln) (s : Nat) (t : Tms), vs = [.ref a, .ref b, .int s] ∧ GP P w CP H a aW p ∧ H b = some (.tup (iv (enc t))) ∧ SPM.Reach p s t ∧ p.deadline - s < n ∧
  ∀ H', But aW H H' → WonOk P w p H' aW → Q (.bl ((Vbjpae.movesAt p t).any (Vbjpae.isGoodMove p s t))) H'
def spIgm (P : Program) (w : World) (CP : Addr) (n : Nat) : Sp := fun vs H Q _ => ∃ (a aW b : Addr) (p : Pln) (s : Nat) (t : Tms) (m : Nat), vs = [.ref a, .int s, .ref b, .int m] ∧ GP P w CP H a aW p ∧ H b = some (.tup (iv (enc t))) ∧ SPM.Reach p s t ∧ Vbjpae.isMove p t m = true ∧ p.deadline - s < n ∧
  ∀ H', But aW H H' → WonOk P w p H' aW → Q (.bl (Vbjpae.isGoodMove p s t m)) H'
def spIgma (P : Program) (w : World) (CP : Addr) (n : Nat) : Sp := fun vs H Q _ => ∃ (a aW b : Addr) (p : Pln) (s : Nat) (t : Tms), vs = [.ref a, .int s, .ref b] ∧ GP P w CP H a aW p ∧ H b = some (.tup (iv (enc t))) ∧ SPM.Reach p s t ∧ s < p.deadline ∧ p.deadline - s < n ∧
  ∀ H', But aW H H' → WonOk P w p H' aW → Q (.bl ((Vbjpae.reportsAt p t (s + 1)).all fun r => Vbjpae.winsAt p (s + 1) (Vbjpae.afterReport p (s + 1) t r))) H'
section
variable {P : Program} {w : World} {K : PySem.W.Frag} {mg : Str → Option Value} {base : Heap} {CP CR CE aS : Addr}
theorem GP.ins {H : Hp} {a aW : Addr} {p : Pln} (g : GP P w CP H a aW p) : ∃ dx aT aR aO, H a = some (.ins CP dx (pF (rp p) aT aR aO aW)) := let ⟨dx, aT, aR, aO, e, _⟩ := g.plan; ⟨dx, aT, aR, aO, e⟩
theorem nat_dec {i j : Nat} : decide ((i : Int) = (j : Int)) = decide (i = j) := by
  by_cases h : i = j
  · subst h; simp
  · rw [decide_eq_false h, decide_eq_false (by omega)]
/-- wins where nothing is asked -/
theorem ok_wins0 {f : Addr} {fd : FuncData} {k : Nat} (F : Fun K "wins" "Plan.wins" sWins f fd) : FnOk P w K mg base CX0 (k + 1) f fd ["self", "position"] (spWins P w CP 0) := by
  refine F.ok scWins (fun vs H Q E h => ?_) (fun cdv A outer s H vs Q E hr h => ?_)
  · obtain ⟨_, _, _, _, _, _, rfl, _⟩ := h
    rfl
  · obtain ⟨_, _, _, _, _, _, _, _, _, _, h, _⟩ := h
    exact absurd h (Nat.not_lt_zero _)
theorem ok_igma {f : Addr} {fd : FuncData} {n k : Nat} (F : Fun K "is_good_move_all" "Plan.is_good_move_all" sIgma f fd) (T : Txt K mg CP CR CE aS) (hk : 2 ≤ k) (M_followers : MetX P w K mg base CX0 2 CP "followers" (spFollowers CP)) (M_wins : MetX P w K mg base CX0 k CP "wins" (spWins P w CP n)) :
    FnOk P w K mg base CX0 (k + 1) f fd ["self", "moment", "after"] (spIgma P w CP (n + 1)) := by
  have nd := scIgma.nd
  refine F.ok scIgma (fun vs H Q E h => ?_) (fun cdv A outer s H vs Q E hr h => ?_)
  · obtain ⟨_, _, _, _, _, _, rfl, _⟩ := h
    rfl
  obtain ⟨a, aW, b, p, s, t, rfl, hG, hB, hR, hs, hn, q⟩ := h
  have hr2 : Room 2 (A.deeper (envOfC "Plan.is_good_move_all" (defScope sIgma) _ f cdv)) := hr.mono hk
  refine ⟨_, (pss_cons (ps_for PassesOwn.never rfl (pi_list (pe_mx M_followers T.clP hr (by first | decide | omega) (no0 (E := fun _ => E0)) (pv 0) (pa_cons (pv 1) (pa_cons (pv 2) pa_nil)))) (pg_name (i := 3) nd rfl (Or.inl rfl)) (pss_one (ps_if (pt_not (pt_val (pe_mx M_wins T.clP hr (by first | decide | omega) (no0 (E := fun _ => E0)) (pv 0) (pa_cons (pv 3) pa_nil)))) (pss_one (ps_ret pe_bl)) pss_nil)))
    (pss_one (ps_ret pe_bl))), ?_⟩
  obtain ⟨dx, aT, aR, aO, hA⟩ := hG.ins
  refine ⟨_, rfl, a, dx, _, rfl, hA, pF_none (by decide +kernel), _, rfl, _, rfl, a, aW, b, p, s, t, rfl, hG.plan, hG.pv, hB, hR.len, fun l qs H1 _ hL hp sm => ?_⟩
  refine ⟨l, rfl, ⟨_, .inl (.inl hL)⟩, ?_⟩
  have hG1 := hG.same sm
  have lq : (qs.map V.ref).length = (Vbjpae.reportsAt p t (s + 1)).length := by
    rw [List.length_map, Paired.length hp, follow_len]
  refine for_it (walk_list (xs := qs.map V.ref)) (fun i σ H' => (∃ x, σ = [some (.ref a), some (.int s), some (.ref b), x]) ∧ But aW H1 H' ∧ WonOk P w p H' aW ∧ ∀ j, j < i → ∀ r, (Vbjpae.reportsAt p t (s + 1))[j]? = some r → Vbjpae.winsAt p (s + 1) (Vbjpae.afterReport p (s + 1) t r) = true) ⟨⟨_, rfl⟩, But.refl _ _, hG1.won, fun j h => absurd h (Nat.not_lt_zero j)⟩ (fun i σ H' _ h => .inl (.inl (but_lst h.2.1 hG1.won hL))) (fun i x σ H2 H3 hi hP hY => ?_) (fun σ H' hP => ?_)
  · obtain ⟨⟨y, rfl⟩, hb, hw, hp2⟩ := hP
    obtain ⟨eH, hx⟩ := hY
    subst eH
    have hG3 := hG1.but hb hw
    obtain ⟨dx3, aT3, aR3, aO3, hA3⟩ := hG3.ins
    rw [List.getElem?_map] at hx
    obtain ⟨qk, hqk, rfl⟩ := Option.map_eq_some_iff.mp hx
    obtain ⟨kk, hkk, hpos⟩ := paired_at hp i qk hqk
    unfold follow at hkk
    rw [List.getElem?_map] at hkk
    obtain ⟨r, hr', rfl⟩ := Option.map_eq_some_iff.mp hkk
    have rr := SPM.Reach.report hG.pv hR hs (List.mem_of_getElem? hr')
    refine ⟨_, rfl, a, dx3, _, rfl, hA3, pF_none (by decide +kernel), _, rfl, a, aW, qk, p, s + 1, _, rfl, hG3, but_pos hb hG1.won hpos, rr, by omega, fun H4 b4 w4 => ?_⟩
    refine ⟨_, rfl, ?_⟩
    cases e : Vbjpae.winsAt p (s + 1) (Vbjpae.afterReport p (s + 1) t r) with
    | true =>
      refine if_f rfl ⟨⟨_, rfl⟩, hb.trans b4, w4, fun j hj r' hr2' => ?_⟩
      rcases Nat.lt_or_ge j i with z | z
      · exact hp2 j z r' hr2'
      · have : j = i := by omega
        subst this
        rw [hr'] at hr2'
        cases hr2'
        exact e
    | false =>
      refine if_t rfl ?_
      have : ((Vbjpae.reportsAt p t (s + 1)).all fun r => Vbjpae.winsAt p (s + 1) (Vbjpae.afterReport p (s + 1) t r)) = false := by
        rw [List.all_eq_false]
        exact ⟨r, List.mem_of_getElem? hr', by rw [e]; exact Bool.false_ne_true⟩
      rw [this] at q
      exact q _ (same_but sm (hb.trans b4)) w4
  · obtain ⟨⟨y, rfl⟩, hb, hw, hp2⟩ := hP
    have : ((Vbjpae.reportsAt p t (s + 1)).all fun r => Vbjpae.winsAt p (s + 1) (Vbjpae.afterReport p (s + 1) t r)) = true := by
      rw [List.all_eq_true]
      intro r hr'
      obtain ⟨j, hj⟩ := List.mem_iff_getElem?.mp hr'
      rw [lq] at hp2
      exact hp2 j (List.getElem?_eq_some_iff.mp hj).1 r hj
    rw [this] at q
    exact q _ (same_but sm hb) hw
theorem end_good {p : Pln} {t : Tms} : Vbjpae.isGoodEnd p t = true ↔ ((Vbjpae.completions p t).find? fun x => !VbjpCore.isGood p x) = none := by
  unfold Vbjpae.isGoodEnd
  rw [List.all_eq_true, List.find?_eq_none]
  refine forall_congr' fun x => forall_congr' fun _ => ?_
  simp
theorem ok_igm {f : Addr} {fd : FuncData} {n k : Nat} (F : Fun K "is_good_move" "Plan.is_good_move" sIgm f fd) (T : Txt K mg CP CR CE aS) (hk : 3 ≤ k) (M_after_move : MetX P w K mg base CX0 1 CP "after_move" spAfterMove) (M_first_bad_completion : MetX P w K mg base CX0 3 CP "first_bad_completion" (spFbc CP)) (M_is_broken : MetX P w K mg base CX0 2 CP "is_broken" (spIsBroken CP)) (M_is_good_move_all : MetX P w K mg base CX0 k CP "is_good_move_all" (spIgma P w CP (n + 1))) :
    FnOk P w K mg base CX0 (k + 1) f fd ["self", "moment", "seen", "mask"] (spIgm P w CP (n + 1)) := by
  have nd := scIgm.nd
  refine F.ok scIgm (fun vs H Q E h => ?_) (fun cdv A outer s H vs Q E hr h => ?_)
  · obtain ⟨_, _, _, _, _, _, _, rfl, _⟩ := h
    rfl
  obtain ⟨a, aW, b, p, s, t, m, rfl, hG, hB, hR, hm, hn, q⟩ := h
  have hr1 : Room 3 (A.deeper (envOfC "Plan.is_good_move" (defScope sIgm) _ f cdv)) := hr.mono hk
  refine ⟨_, (pss_cons (ps_set (i := 4) nd rfl (Or.inl rfl) (pe_mx M_after_move T.clP hr (by first | decide | omega) (no0 (E := fun _ => E0)) (pv 0) (pa_cons (pv 1) (pa_cons (pv 2) (pa_cons (pv 3) pa_nil)))))
    (pss_cons (ps_if (pt_cmpR op_eq (pv 1) (pe_fldB rfl (pv 0) rfl) (nomark _)) (pss_one (ps_ret (pe_cmpR op_isN (pe_mx M_first_bad_completion T.clP hr (by first | decide | omega) (no0 (E := fun _ => E0)) (pv 0) (pa_cons (pv 4) pa_nil)) pe_non (nomark _)))) pss_nil)
    (pss_one (ps_ret (pe_and (pe_not (pe_mx M_is_broken T.clP hr (by first | decide | omega) (no0 (E := fun _ => E0)) (pv 0) (pa_cons (pv 4) pa_nil))) (pe_one (pe_mx M_is_good_move_all T.clP hr (by first | decide | omega) (no0 (E := fun _ => E0)) (pv 0) (pa_cons (pv 1) (pa_cons (pv 4) pa_nil))))))))), ?_⟩
  obtain ⟨dx, aT, aR, aO, hA⟩ := hG.ins
  have c6 := hG.pv.c6
  have hl := hR.len
  refine ⟨_, rfl, a, dx, _, rfl, hA, pF_none (by decide +kernel), _, rfl, _, rfl, _, rfl, a, b, s, m, enc t, rfl, hB, by rw [SPM.enc_len]; omega, fun c H1 hC sm => ?_⟩
  rw [← SPM.moved_is hR.len hm] at hC
  have hG1 := hG.same sm
  have hA1 := sm _ _ hA
  have rm := SPM.Reach.move hG.pv hR hm
  have hd8 := hR.le
  refine ⟨_, rfl, _, rfl, a, CP, dx, _, _, rfl, hA1, T.clP, T.fD, pF_deadline, rfl, _, rfl, ?_⟩
  rw [dec_int]
  refine if_2 (fun c1 => ?_) (fun c1 => ?_)
  · have es : s = p.deadline := by
      have := of_decide_eq_true c1
      have : (s : Int) = (p.deadline : Int) := this
      omega
    refine ⟨_, rfl, a, dx, _, rfl, hA1, pF_none (by decide +kernel), _, rfl, a, aW, c, p, _, rfl, hG1.plan, hG.pv, hC, rm.len, fbc_cases fun v H2 sm2 hv2 => ?_⟩
    refine ⟨rfl, ?_⟩
    have e : decide (v = V.non) = Vbjpae.isGoodMove p s t m := by
      rw [SPM.isGoodMove_last (by omega), Bool.eq_iff_iff, end_good, decide_eq_true_iff]
      rcases hv2 with ⟨rfl, e⟩ | ⟨l, x, rfl, e, _⟩
      · simp [e]
      · simp [e]
    rw [e]
    exact q _ (Same.but (sm.trans sm2) aW) ((hG1.same sm2).won)
  · have hs : s < p.deadline := by
      have := of_decide_eq_false c1
      have : ¬ (s : Int) = (p.deadline : Int) := this
      omega
    rw [SPM.isGoodMove_go hs] at q
    refine ⟨_, rfl, a, dx, _, rfl, hA1, pF_none (by decide +kernel), _, rfl, a, aW, c, p, _, rfl, hG1.plan, hG.pv, .inl hC, rm.len, _, rfl, _, rfl, ?_⟩
    cases hb : Vbjpae.isBroken p (Vbjpae.afterMove p s t m) with
    | true =>
      rw [hb] at q
      exact if_f rfl (q _ (Same.but sm aW) hG1.won)
    | false =>
      rw [hb] at q
      refine if_t rfl ⟨_, rfl, a, dx, _, rfl, hA1, pF_none (by decide +kernel), _, rfl, _, rfl, a, aW, c, p, s, _, rfl, hG1, hC, rm, hs, hn, fun H2 b2 w2 => ?_⟩
      exact q _ (same_but sm b2) w2
theorem ok_wins_any {f : Addr} {fd : FuncData} {n k : Nat} (F : Fun K "wins_any" "Plan.wins_any" sWinsAny f fd) (T : Txt K mg CP CR CE aS) (hk : 1 ≤ k) (M_moves : MetX P w K mg base CX0 1 CP "moves" (spMoves CP)) (M_is_good_move : MetX P w K mg base CX0 k CP "is_good_move" (spIgm P w CP n)) :
    FnOk P w K mg base CX0 (k + 1) f fd ["self", "seen", "moment"] (spWinsAny P w CP n) := by
  have nd := scWinsAny.nd
  refine F.ok scWinsAny (fun vs H Q E h => ?_) (fun cdv A outer s H vs Q E hr h => ?_)
  · obtain ⟨_, _, _, _, _, _, rfl, _⟩ := h
    rfl
  obtain ⟨a, aW, b, p, s, t, rfl, hG, hB, hR, hn, q⟩ := h
  have hr1 : Room 1 (A.deeper (envOfC "Plan.wins_any" (defScope sWinsAny) _ f cdv)) := hr.mono hk
  refine ⟨_, (pss_cons (ps_for PassesOwn.never rfl (pi_list (pe_mx M_moves T.clP hr (by first | decide | omega) (no0 (E := fun _ => E0)) (pv 0) (pa_cons (pv 1) pa_nil))) (pg_name (i := 3) nd rfl (Or.inl rfl)) (pss_one (ps_if (pt_val (pe_mx M_is_good_move T.clP hr (by first | decide | omega) (no0 (E := fun _ => E0)) (pv 0) (pa_cons (pv 2) (pa_cons (pv 1) (pa_cons (pv 3) pa_nil))))) (pss_one (ps_ret pe_bl)) pss_nil)))
    (pss_one (ps_ret pe_bl))), ?_⟩
  obtain ⟨dx, aT, aR, aO, hA⟩ := hG.ins
  refine ⟨_, rfl, a, dx, _, rfl, hA, pF_none (by decide +kernel), _, rfl, a, aW, b, p, t, rfl, hG.plan, hB, hR.len, hG.pv.c6, fun l H1 _ hL sm => ?_⟩
  refine ⟨l, rfl, ⟨_, .inl (.inl hL)⟩, ?_⟩
  have hG1 := hG.same sm
  have hB1 := sm _ _ hB
  refine for_it (walk_list (xs := nv (Vbjpae.movesAt p t))) (fun i σ H' => (∃ x, σ = [some (.ref a), some (.ref b), some (.int s), x]) ∧ But aW H1 H' ∧ WonOk P w p H' aW ∧ ∀ j, j < i → ∀ m, (Vbjpae.movesAt p t)[j]? = some m → Vbjpae.isGoodMove p s t m = false) ⟨⟨_, rfl⟩, But.refl _ _, hG1.won, fun j h => absurd h (Nat.not_lt_zero j)⟩ (fun i σ H' _ h => .inl (.inl (but_lst h.2.1 hG1.won hL))) (fun i x σ H2 H3 hi hP hY => ?_) (fun σ H' hP => ?_)
  · obtain ⟨⟨y, rfl⟩, hb, hw, hp2⟩ := hP
    obtain ⟨eH, hx⟩ := hY
    subst eH
    have hG3 := hG1.but hb hw
    obtain ⟨dx3, aT3, aR3, aO3, hA3⟩ := hG3.ins
    obtain ⟨m, hm, rfl⟩ := nv_at_of hx
    refine ⟨_, rfl, a, dx3, _, rfl, hA3, pF_none (by decide +kernel), _, rfl, _, rfl, _, rfl, a, aW, b, p, s, t, m, rfl, hG3, but_tup hb hG1.won hB1, hR, SPM.mem_movesAt.mp (List.mem_of_getElem? hm), hn, fun H4 b4 w4 => ?_⟩
    refine ⟨_, rfl, ?_⟩
    cases e : Vbjpae.isGoodMove p s t m with
    | false =>
      refine if_f rfl ⟨⟨_, rfl⟩, hb.trans b4, w4, fun j hj m' hm' => ?_⟩
      rcases Nat.lt_or_ge j i with z | z
      · exact hp2 j z m' hm'
      · have : j = i := by omega
        subst this
        rw [hm] at hm'
        cases hm'
        exact e
    | true =>
      refine if_t rfl ?_
      have : (Vbjpae.movesAt p t).any (Vbjpae.isGoodMove p s t) = true := by
        rw [List.any_eq_true]
        exact ⟨m, List.mem_of_getElem? hm, e⟩
      rw [this] at q
      exact q _ (same_but sm (hb.trans b4)) w4
  · obtain ⟨⟨y, rfl⟩, hb, hw, hp2⟩ := hP
    have : (Vbjpae.movesAt p t).any (Vbjpae.isGoodMove p s t) = false := by
      rw [List.any_eq_false]
      intro m hm
      obtain ⟨j, hj⟩ := List.mem_iff_getElem?.mp hm
      rw [nv_len] at hp2
      rw [hp2 j (List.getElem?_eq_some_iff.mp hj).1 m hj]
      exact Bool.false_ne_true
    rw [this] at q
    exact q _ (same_but sm hb) hw
theorem ok_wins {f : Addr} {fd : FuncData} {n k : Nat} (F : Fun K "wins" "Plan.wins" sWins f fd) (T : Txt K mg CP CR CE aS) (hk : 2 ≤ k) (M_is_broken : MetX P w K mg base CX0 2 CP "is_broken" (spIsBroken CP)) (M_wins_any : MetX P w K mg base CX0 k CP "wins_any" (spWinsAny P w CP n)) :
    FnOk P w K mg base CX0 (k + 1) f fd ["self", "position"] (spWins P w CP n) := by
  have nd := scWins.nd
  refine F.ok scWins (fun vs H Q E h => ?_) (fun cdv A outer s H vs Q E hr h => ?_)
  · obtain ⟨_, _, _, _, _, _, rfl, _⟩ := h
    rfl
  obtain ⟨a, aW, qa, p, s, t, rfl, hG, hP, hR, hn, q⟩ := h
  have hr1 : Room 2 (A.deeper (envOfC "Plan.wins" (defScope sWins) _ f cdv)) := hr.mono hk
  have hu := hu_room hr
  refine ⟨_, (pss_cons (ps_if (pt_cmpR (op_pnotin hu) (pv 1) (pe_fldB rfl (pv 0) rfl) (by rfl)) (pss_cons (ps_asg (pv 1) (pg_tupB (n := 2) rfl rfl (pgs_cons (pg_name (i := 2) nd rfl (Or.inl rfl)) (pgs_cons (pg_name (i := 3) nd rfl (Or.inl rfl)) pgs_nil))))
    (pss_one (ps_asg (pe_and (pe_not (pe_mx M_is_broken T.clP hr (by first | decide | omega) (no0 (E := fun _ => E0)) (pv 0) (pa_cons (pv 3) pa_nil))) (pe_one (pe_mx M_wins_any T.clP hr (by first | decide | omega) (no0 (E := fun _ => E0)) (pv 0) (pa_cons (pv 3) (pa_cons (pv 2) pa_nil))))) (pg_sub (pe_fldB rfl (pv 0) rfl) (pv 1) (set_pd hu))))) pss_nil)
    (pss_one (ps_ret (pe_ix (ix_pd hu) (pe_fldB rfl (pv 0) rfl) (pv 1) (fun _ _ => rfl))))), ?_⟩
  obtain ⟨dx, aT, aR, aO, hA⟩ := hG.ins
  obtain ⟨kvs, hD, hM⟩ := hG.won
  refine ⟨_, rfl, _, rfl, a, CP, dx, _, _, rfl, hA, T.clP, T.fW, pF_won, qa, posK s t, aW, kvs, rfl, rfl, hP, hD, _, rfl, ?_⟩
  show if (!(valV kvs (posK s t)).isSome) = true then _ else _
  cases e : valV kvs (posK s t) with
  | some v =>
    have ev := hM.get e
    subst ev
    refine if_f rfl ⟨_, rfl, a, CP, dx, _, _, rfl, hA, T.clP, T.fW, pF_won, _, rfl, aW, qa, posK s t, kvs, _, rfl, rfl, hP, hD, e, ?_⟩
    exact q H (But.refl _ _) hG.won
  | none =>
    refine if_t rfl ?_
    obtain ⟨r, e1, e2⟩ := id hP
    refine ⟨_, rfl, qa, _, rfl, .inl (.inl e1), rfl, _, _, rfl, _, _, rfl, rfl, ?_⟩
    -- the value, whichever way
    have fin : ∀ H1, But aW H H1 → WonOk P w p H1 aW → ∀ Q' : VK, (∀ H2, But aW H1 H2 → (∃ kvs2, PD P w H2 aW kvs2 ∧ Memo p kvs2 ∧ valV kvs2 (posK s t) = some (.bl (Vbjpae.winsAt p s t))) → Q' .non H2) →
        (gSub (tFld K (tVar 0) "won") (tVar 1) (rPSet P w)) (.bl (Vbjpae.winsAt p s t)) [some (.ref a), some (.ref qa), some (.int s), some (.ref r)] H1 fun _ H2 => Q' .non H2 := fun H1 b1 w1 Q' hq' => by
      have hG1 := hG.but b1 w1
      obtain ⟨dx1, aT1, aR1, aO1, hA1⟩ := hG1.ins
      obtain ⟨kvs1, hD1, hM1⟩ := w1
      refine ⟨_, rfl, a, CP, dx1, _, _, rfl, hA1, T.clP, T.fW, pF_won, _, rfl, aW, qa, posK s t, kvs1, rfl, rfl, but_pos b1 hG.won hP, hD1, hM1.len hG.pv, fun H2 hD2 hoth => ?_⟩
      refine hq' H2 (fun c o ec nc => by rw [hoth c nc]; exact ec) ⟨_, hD2, hM1.put hR, ?_⟩
      rw [valV_put, if_pos rfl]
    have tail : ∀ H1 H2, But aW H H1 → But aW H1 H2 → (∃ kvs2, PD P w H2 aW kvs2 ∧ Memo p kvs2 ∧ valV kvs2 (posK s t) = some (.bl (Vbjpae.winsAt p s t))) →
        (tRet (tOp (rPIx P w) (tFld K (tVar 0) "won") (tVar 1))) { nx := fun _ H' => Q .non H', rt := Q } [some (.ref a), some (.ref qa), some (.int s), some (.ref r)] H2 := fun H1 H2 b1 b2 ⟨kvs2, hD2, hM2, e2⟩ => by
      have w2 : WonOk P w p H2 aW := ⟨kvs2, hD2, hM2⟩
      have hG2 := hG.but (b1.trans b2) w2
      obtain ⟨dx2, aT2, aR2, aO2, hA2⟩ := hG2.ins
      refine ⟨_, rfl, a, CP, dx2, _, _, rfl, hA2, T.clP, T.fW, pF_won, _, rfl, aW, qa, posK s t, kvs2, _, rfl, rfl, but_pos (b1.trans b2) hG.won hP, hD2, e2, ?_⟩
      exact q H2 (b1.trans b2) w2
    refine ⟨_, rfl, a, dx, _, rfl, hA, pF_none (by decide +kernel), _, rfl, a, aW, r, p, t, rfl, hG.plan, hG.pv, .inl e2, hR.len, _, rfl, _, rfl, ?_⟩
    have wp := SPM.winsAt_prog hG.pv hR
    cases hb : Vbjpae.isBroken p t with
    | true =>
      rw [hb] at wp
      refine if_f rfl ?_
      rw [show V.bl false = V.bl (Vbjpae.winsAt p s t) by rw [wp]; rfl]
      exact fin H (But.refl _ _) hG.won (fun _ H2 => (tRet (tOp (rPIx P w) (tFld K (tVar 0) "won") (tVar 1))) { nx := fun _ H' => Q .non H', rt := Q } [some (.ref a), some (.ref qa), some (.int s), some (.ref r)] H2) fun H2 b2 hx => tail H H2 (But.refl _ _) b2 hx
    | false =>
      rw [hb] at wp
      refine if_t rfl ⟨_, rfl, a, dx, _, rfl, hA, pF_none (by decide +kernel), _, rfl, _, rfl, a, aW, r, p, s, t, rfl, hG, e2, hR, hn, fun H1 b1 w1 => ?_⟩
      rw [show V.bl ((Vbjpae.movesAt p t).any (Vbjpae.isGoodMove p s t)) = V.bl (Vbjpae.winsAt p s t) by rw [wp]; rfl]
      exact fin H1 b1 w1 (fun _ H2 => (tRet (tOp (rPIx P w) (tFld K (tVar 0) "won") (tVar 1))) { nx := fun _ H' => Q .non H', rt := Q } [some (.ref a), some (.ref qa), some (.int s), some (.ref r)] H2) fun H2 b2 hx => tail H1 H2 b1 b2 hx
end
end SP
end

section
set_option Elab.async false
set_option linter.all false
set_option maxRecDepth 100000
set_option maxHeartbeats 4000000
namespace SP
open PySem PySem.Spec PyProof.Rows L2 SPR
open SPM (enc ov)
abbrev sStrF : Stmt := inClass (top 12) 20
abbrev nStrF : List Str := ["self", "seen", "moment", "mask"]
theorem scStrF : FnScope ["self", "seen", "moment", "mask"] ["self", "seen", "moment"] (defScope sStrF) := ⟨rfl, rfl, rfl, by decide +kernel, rfl, by decide +kernel, by decide +kernel⟩
abbrev sStr : Stmt := inClass (top 12) 19
abbrev nStr : List Str := ["self", "position", "entries", "moment", "seen", "mask", "following"]
theorem scStr : FnScope ["self", "position", "entries", "moment", "seen", "mask", "following"] ["self", "position", "entries"] (defScope sStr) := ⟨rfl, rfl, rfl, by decide +kernel, rfl, by decide +kernel, by decide +kernel⟩
abbrev sRefF : Stmt := inClass (top 12) 22
abbrev nRefF : List Str := ["self", "moment", "after", "p"]
theorem scRefF : FnScope ["self", "moment", "after", "p"] ["self", "moment", "after"] (defScope sRefF) := ⟨rfl, rfl, rfl, by decide +kernel, rfl, by decide +kernel, by decide +kernel⟩
abbrev sRef : Stmt := inClass (top 12) 21
abbrev nRef : List Str := ["self", "position", "positions", "moment", "seen", "mask", "after"]
theorem scRef : FnScope ["self", "position", "positions", "moment", "seen", "mask", "after"] ["self", "position", "positions"] (defScope sRef) := ⟨rfl, rfl, rfl, by decide +kernel, rfl, by decide +kernel, by decide +kernel⟩
def But2 (a b : Addr) (H H' : Hp) : Prop := ∀ c o, H c = some o → c ≠ a → c ≠ b → H' c = some o
theorem But2.refl (a b : Addr) (H : Hp) : But2 a b H H := fun _ _ e _ _ => e
theorem But2.trans {a b : Addr} {H H1 H2 : Hp} (h : But2 a b H H1) (g : But2 a b H1 H2) : But2 a b H H2 := fun c o e n m => g c o (h c o e n m) n m
theorem But.two {a b : Addr} {H H' : Hp} (h : But a H H') : But2 a b H H' := fun c o e n _ => h c o e n
theorem But.twoR {a b : Addr} {H H' : Hp} (h : But b H H') : But2 a b H H' := fun c o e _ n => h c o e n
theorem same_two {a b : Addr} {H H' : Hp} (h : Same H H') : But2 a b H H' := fun c o e _ _ => h c o e
/-- back to a heap in which b was not -/
theorem But2.back {a b : Addr} {H0 H H' : Hp} (h : But a H0 H) (g : But2 a b H H') (hb : H0 b = none) : But a H0 H' := fun c o e n => g c o (h c o e n) n (ne_of_none e hb)
/-- at e: an entry of a strategy -/
def EntAt (H : Hp) (e : Addr) (x : Vbjpae.Entry) : Prop := ∃ b, H e = some (.tup [.int (x.position.moment : Int), .ref b, .int (x.move : Int)]) ∧ H b = some (.tup (iv (enc x.position.seen)))
def PositAt (H : Hp) (q : Addr) (x : Vbjpae.Position) : Prop := PosAt H q (posK x.moment x.seen)
theorem tups_two {P : Program} {w : World} {p : Pln} {aW l : Addr} {H H' : Hp} {ys : List V} (h : But2 aW l H H') (hw : WonOk P w p H aW) (hl : H l = some (.lst ys)) : Tups H H' := fun b xs e => by
  obtain ⟨o, eo⟩ := hw.ext
  exact h b _ e (ne_of e eo fun z => nomatch z) (ne_of e hl fun z => nomatch z)
theorem EntAt.keep {H H' : Hp} {e : Addr} {x : Vbjpae.Entry} (h : EntAt H e x) (t : Tups H H') : EntAt H' e x := let ⟨b, h1, h2⟩ := h; ⟨b, t _ _ h1, t _ _ h2⟩
def spStrF (P : Program) (w : World) (CP : Addr) (n : Nat) : Sp := fun vs H Q _ => ∃ (a aW b : Addr) (p : Pln) (s : Nat) (t : Tms), vs = [.ref a, .ref b, .int s] ∧ GP P w CP H a aW p ∧ H b = some (.tup (iv (enc t))) ∧ SPM.Reach p s t ∧ Vbjpae.winsAt p s t = true ∧ p.deadline - s < n ∧
  ∀ H', But aW H H' → WonOk P w p H' aW → Q (.int (((Vbjpae.goodMoves p s t).headD 0 : Nat) : Int)) H'
def spStr (P : Program) (w : World) (CP CE : Addr) (n : Nat) : Sp := fun vs H Q E => ∃ (a aW q l : Addr) (p : Pln) (s : Nat) (t : Tms) (H0 : Hp) (es : List Addr) (xs : List Vbjpae.Entry), vs = [.ref a, .ref q, .ref l] ∧ GP P w CP H0 a aW p ∧ But aW H0 H ∧ WonOk P w p H aW ∧ H0 l = none ∧
  PosAt H q (posK s t) ∧ SPM.Reach p s t ∧ p.deadline - s < n ∧ Vbjpae.winsAt p s t = true ∧ H l = some (.lst (es.map V.ref)) ∧ Paired (EntAt H) es xs ∧ xs.length ≤ 600 ∧
  (xs.length + (Vbjpae.strategyFrom p (p.deadline - s) s t).length ≤ 600 → ∀ H' es', But2 aW l H H' → WonOk P w p H' aW → H' l = some (.lst (es'.map V.ref)) → Paired (EntAt H') es' (xs ++ Vbjpae.strategyFrom p (p.deadline - s) s t) → Q .non H') ∧
  (600 < xs.length + (Vbjpae.strategyFrom p (p.deadline - s) s t).length → ∀ d H', But aW H0 H' → WonOk P w p H' aW → H' d = some (.xd [("code", .int (-9))]) → E (.ref CE) (some d) H')
def spRefF (P : Program) (w : World) (CP : Addr) (n : Nat) : Sp := fun vs H Q _ => ∃ (a aW b : Addr) (p : Pln) (s : Nat) (t : Tms) (r : Nat), vs = [.ref a, .int s, .ref b] ∧ GP P w CP H a aW p ∧ H b = some (.tup (iv (enc t))) ∧ SPM.Reach p s t ∧ s < p.deadline ∧ Vbjpae.goodReport p (s + 1) t = some r ∧ p.deadline - s < n ∧
  ∀ q H', But aW H H' → WonOk P w p H' aW → PosAt H' q (posK (s + 1) (Vbjpae.afterReport p (s + 1) t r)) → Q (.ref q) H'
def spRef (P : Program) (w : World) (CP CE : Addr) (n : Nat) : Sp := fun vs H Q E => ∃ (a aW q l : Addr) (p : Pln) (s : Nat) (t : Tms) (H0 : Hp) (es : List Addr) (xs : List Vbjpae.Position), vs = [.ref a, .ref q, .ref l] ∧ GP P w CP H0 a aW p ∧ But aW H0 H ∧ WonOk P w p H aW ∧ H0 l = none ∧
  PosAt H q (posK s t) ∧ SPM.Reach p s t ∧ p.deadline - s < n ∧ Vbjpae.winsAt p s t = false ∧ H l = some (.lst (es.map V.ref)) ∧ Paired (PositAt H) es xs ∧ xs.length ≤ 600 ∧
  (xs.length + (Vbjpae.refutationFrom p (p.deadline - s) s t).length ≤ 600 → ∀ H' es', But2 aW l H H' → WonOk P w p H' aW → H' l = some (.lst (es'.map V.ref)) → Paired (PositAt H') es' (xs ++ Vbjpae.refutationFrom p (p.deadline - s) s t) → Q .non H') ∧
  (600 < xs.length + (Vbjpae.refutationFrom p (p.deadline - s) s t).length → ∀ d H', But aW H0 H' → WonOk P w p H' aW → H' d = some (.xd [("code", .int (-9))]) → E (.ref CE) (some d) H')
section
variable {P : Program} {w : World} {K : PySem.W.Frag} {mg : Str → Option Value} {base : Heap} {CP CR CE aS : Addr}
theorem ok_str0 {f : Addr} {fd : FuncData} {k : Nat} (F : Fun K "strategy" "Plan.strategy" sStr f fd) : FnOk P w K mg base (L2.CX P w) (k + 1) f fd ["self", "position", "entries"] (spStr P w CP CE 0) := by
  refine F.okX scStr (fun vs H Q E h => ?_) (fun cdv A outer s H vs Q E hr h => ?_)
  · obtain ⟨_, _, _, _, _, _, _, _, _, _, rfl, _⟩ := h
    rfl
  · obtain ⟨_, _, _, _, _, _, _, _, _, _, _, _, _, _, _, _, _, h, _⟩ := h
    exact absurd h (Nat.not_lt_zero _)
theorem ok_ref0 {f : Addr} {fd : FuncData} {k : Nat} (F : Fun K "refutation" "Plan.refutation" sRef f fd) : FnOk P w K mg base (L2.CX P w) (k + 1) f fd ["self", "position", "positions"] (spRef P w CP CE 0) := by
  refine F.okX scRef (fun vs H Q E h => ?_) (fun cdv A outer s H vs Q E hr h => ?_)
  · obtain ⟨_, _, _, _, _, _, _, _, _, _, rfl, _⟩ := h
    rfl
  · obtain ⟨_, _, _, _, _, _, _, _, _, _, _, _, _, _, _, _, _, h, _⟩ := h
    exact absurd h (Nat.not_lt_zero _)
theorem ok_strF {f : Addr} {fd : FuncData} {n k : Nat} (F : Fun K "strategy_first" "Plan.strategy_first" sStrF f fd) (T : Txt K mg CP CR CE aS) (hk : 1 ≤ k) (M_moves : MetX P w K mg base CX0 1 CP "moves" (spMoves CP)) (M_is_good_move : MetX P w K mg base CX0 k CP "is_good_move" (spIgm P w CP n)) :
    FnOk P w K mg base CX0 (k + 1) f fd ["self", "seen", "moment"] (spStrF P w CP n) := by
  have nd := scStrF.nd
  refine F.ok scStrF (fun vs H Q E h => ?_) (fun cdv A outer s H vs Q E hr h => ?_)
  · obtain ⟨_, _, _, _, _, _, rfl, _⟩ := h
    rfl
  obtain ⟨a, aW, b, p, s, t, rfl, hG, hB, hR, hwin, hn, q⟩ := h
  have hr1 : Room 1 (A.deeper (envOfC "Plan.strategy_first" (defScope sStrF) _ f cdv)) := hr.mono hk
  refine ⟨_, (pss_cons (ps_for PassesOwn.never rfl (pi_list (pe_mx M_moves T.clP hr (by first | decide | omega) (no0 (E := fun _ => E0)) (pv 0) (pa_cons (pv 1) pa_nil))) (pg_name (i := 3) nd rfl (Or.inl rfl)) (pss_one (ps_if (pt_val (pe_mx M_is_good_move T.clP hr (by first | decide | omega) (no0 (E := fun _ => E0)) (pv 0) (pa_cons (pv 2) (pa_cons (pv 1) (pa_cons (pv 3) pa_nil))))) (pss_one (ps_ret (pv 3))) pss_nil)))
    (pss_one ps_never)), ?_⟩
  obtain ⟨dx, aT, aR, aO, hA⟩ := hG.ins
  obtain ⟨m0, hf, hg, hin⟩ := SPM.wins_find hwin
  rw [SPM.goodMoves_first, hf] at q
  refine ⟨_, rfl, a, dx, _, rfl, hA, pF_none (by decide +kernel), _, rfl, a, aW, b, p, t, rfl, hG.plan, hB, hR.len, hG.pv.c6, fun l H1 _ hL sm => ?_⟩
  refine ⟨l, rfl, ⟨_, .inl (.inl hL)⟩, ?_⟩
  have hG1 := hG.same sm
  have hB1 := sm _ _ hB
  refine for_it (walk_list (xs := nv (Vbjpae.movesAt p t))) (fun i σ H' => (∃ x, σ = [some (.ref a), some (.ref b), some (.int s), x]) ∧ But aW H1 H' ∧ WonOk P w p H' aW ∧ ∀ j, j < i → ∀ m, (Vbjpae.movesAt p t)[j]? = some m → Vbjpae.isGoodMove p s t m = false) ⟨⟨_, rfl⟩, But.refl _ _, hG1.won, fun j h => absurd h (Nat.not_lt_zero j)⟩ (fun i σ H' _ h => .inl (.inl (but_lst h.2.1 hG1.won hL))) (fun i x σ H2 H3 hi hP hY => ?_) (fun σ H' hP => ?_)
  · obtain ⟨⟨y, rfl⟩, hb, hw, hp2⟩ := hP
    obtain ⟨eH, hx⟩ := hY
    subst eH
    have hG3 := hG1.but hb hw
    obtain ⟨dx3, aT3, aR3, aO3, hA3⟩ := hG3.ins
    obtain ⟨m, hm, rfl⟩ := nv_at_of hx
    refine ⟨_, rfl, a, dx3, _, rfl, hA3, pF_none (by decide +kernel), _, rfl, _, rfl, _, rfl, a, aW, b, p, s, t, m, rfl, hG3, but_tup hb hG1.won hB1, hR, SPM.mem_movesAt.mp (List.mem_of_getElem? hm), hn, fun H4 b4 w4 => ?_⟩
    refine ⟨_, rfl, ?_⟩
    cases e : Vbjpae.isGoodMove p s t m with
    | false =>
      refine if_f rfl ⟨⟨_, rfl⟩, hb.trans b4, w4, fun j hj m' hm' => ?_⟩
      rcases Nat.lt_or_ge j i with z | z
      · exact hp2 j z m' hm'
      · have : j = i := by omega
        subst this
        rw [hm] at hm'
        cases hm'
        exact e
    | true =>
      refine if_t rfl ⟨_, rfl, ?_⟩
      have em : m = m0 := by
        have := SPM.find_at (f := Vbjpae.isGoodMove p s t) (l := Vbjpae.movesAt p t) hm e fun j hj m' hm' => hp2 j hj m' hm'
        rw [hf] at this
        exact (Option.some.inj this).symm
      subst em
      exact q _ (same_but sm (hb.trans b4)) w4
  · obtain ⟨⟨y, rfl⟩, hb, hw, hp2⟩ := hP
    obtain ⟨j, hj⟩ := List.mem_iff_getElem?.mp hin
    rw [nv_len] at hp2
    have := hp2 j (List.getElem?_eq_some_iff.mp hj).1 m0 hj
    rw [hg] at this
    cases this
theorem ok_refF {f : Addr} {fd : FuncData} {n k : Nat} (F : Fun K "refutation_first" "Plan.refutation_first" sRefF f fd) (T : Txt K mg CP CR CE aS) (hk : 2 ≤ k) (M_followers : MetX P w K mg base CX0 2 CP "followers" (spFollowers CP)) (M_wins : MetX P w K mg base CX0 k CP "wins" (spWins P w CP n)) :
    FnOk P w K mg base CX0 (k + 1) f fd ["self", "moment", "after"] (spRefF P w CP (n + 1)) := by
  have nd := scRefF.nd
  refine F.ok scRefF (fun vs H Q E h => ?_) (fun cdv A outer s H vs Q E hr h => ?_)
  · obtain ⟨_, _, _, _, _, _, _, rfl, _⟩ := h
    rfl
  obtain ⟨a, aW, b, p, s, t, r0, rfl, hG, hB, hR, hs, hgr, hn, q⟩ := h
  have hr2 : Room 2 (A.deeper (envOfC "Plan.refutation_first" (defScope sRefF) _ f cdv)) := hr.mono hk
  refine ⟨_, (pss_cons (ps_for PassesOwn.never rfl (pi_list (pe_mx M_followers T.clP hr (by first | decide | omega) (no0 (E := fun _ => E0)) (pv 0) (pa_cons (pv 1) (pa_cons (pv 2) pa_nil)))) (pg_name (i := 3) nd rfl (Or.inl rfl)) (pss_one (ps_if (pt_not (pt_val (pe_mx M_wins T.clP hr (by first | decide | omega) (no0 (E := fun _ => E0)) (pv 0) (pa_cons (pv 3) pa_nil)))) (pss_one (ps_ret (pv 3))) pss_nil)))
    (pss_one ps_never)), ?_⟩
  obtain ⟨dx, aT, aR, aO, hA⟩ := hG.ins
  refine ⟨_, rfl, a, dx, _, rfl, hA, pF_none (by decide +kernel), _, rfl, _, rfl, a, aW, b, p, s, t, rfl, hG.plan, hG.pv, hB, hR.len, fun l qs H1 _ hL hp sm => ?_⟩
  refine ⟨l, rfl, ⟨_, .inl (.inl hL)⟩, ?_⟩
  have hG1 := hG.same sm
  have lq : (qs.map V.ref).length = (Vbjpae.reportsAt p t (s + 1)).length := by
    rw [List.length_map, Paired.length hp, follow_len]
  refine for_it (walk_list (xs := qs.map V.ref)) (fun i σ H' => (∃ x, σ = [some (.ref a), some (.int s), some (.ref b), x]) ∧ But aW H1 H' ∧ WonOk P w p H' aW ∧ ∀ j, j < i → ∀ r, (Vbjpae.reportsAt p t (s + 1))[j]? = some r → (!Vbjpae.winsAt p (s + 1) (Vbjpae.afterReport p (s + 1) t r)) = false) ⟨⟨_, rfl⟩, But.refl _ _, hG1.won, fun j h => absurd h (Nat.not_lt_zero j)⟩ (fun i σ H' _ h => .inl (.inl (but_lst h.2.1 hG1.won hL))) (fun i x σ H2 H3 hi hP hY => ?_) (fun σ H' hP => ?_)
  · obtain ⟨⟨y, rfl⟩, hb, hw, hp2⟩ := hP
    obtain ⟨eH, hx⟩ := hY
    subst eH
    have hG3 := hG1.but hb hw
    obtain ⟨dx3, aT3, aR3, aO3, hA3⟩ := hG3.ins
    rw [List.getElem?_map] at hx
    obtain ⟨qk, hqk, rfl⟩ := Option.map_eq_some_iff.mp hx
    obtain ⟨kk, hkk, hpos⟩ := paired_at hp i qk hqk
    unfold follow at hkk
    rw [List.getElem?_map] at hkk
    obtain ⟨r, hr', rfl⟩ := Option.map_eq_some_iff.mp hkk
    have rr := SPM.Reach.report hG.pv hR hs (List.mem_of_getElem? hr')
    refine ⟨_, rfl, a, dx3, _, rfl, hA3, pF_none (by decide +kernel), _, rfl, a, aW, qk, p, s + 1, _, rfl, hG3, but_pos hb hG1.won hpos, rr, by omega, fun H4 b4 w4 => ?_⟩
    refine ⟨_, rfl, ?_⟩
    cases e : Vbjpae.winsAt p (s + 1) (Vbjpae.afterReport p (s + 1) t r) with
    | true =>
      refine if_f rfl ⟨⟨_, rfl⟩, hb.trans b4, w4, fun j hj r' hr2' => ?_⟩
      rcases Nat.lt_or_ge j i with z | z
      · exact hp2 j z r' hr2'
      · have : j = i := by omega
        subst this
        rw [hr'] at hr2'
        cases hr2'
        rw [e]; rfl
    | false =>
      refine if_t rfl ⟨_, rfl, ?_⟩
      have em : r = r0 := by
        have := SPM.find_at (f := fun r => !Vbjpae.winsAt p (s + 1) (Vbjpae.afterReport p (s + 1) t r)) (l := Vbjpae.reportsAt p t (s + 1)) hr' (by rw [e]; rfl) fun j hj m' hm' => hp2 j hj m' hm'
        have g2 : (Vbjpae.reportsAt p t (s + 1)).find? (fun r => !Vbjpae.winsAt p (s + 1) (Vbjpae.afterReport p (s + 1) t r)) = some r0 := hgr
        rw [g2] at this
        exact (Option.some.inj this).symm
      subst em
      exact q _ _ (same_but sm (hb.trans b4)) w4 (but_pos (hb.trans b4) hG1.won hpos)
  · obtain ⟨⟨y, rfl⟩, hb, hw, hp2⟩ := hP
    have g2 : (Vbjpae.reportsAt p t (s + 1)).find? (fun r => !Vbjpae.winsAt p (s + 1) (Vbjpae.afterReport p (s + 1) t r)) = some r0 := hgr
    obtain ⟨j, hj⟩ := List.mem_iff_getElem?.mp (List.mem_of_find?_eq_some g2)
    rw [lq] at hp2
    have h1 := hp2 j (List.getElem?_eq_some_iff.mp hj).1 r0 hj
    have h2 := List.find?_some g2
    rw [h1] at h2
    cases h2
end
end SP
end

section
set_option Elab.async false
set_option linter.all false
set_option maxRecDepth 100000
set_option maxHeartbeats 4000000
namespace SP
open PySem PySem.Spec PyProof.Rows L2 SPR
open SPM (enc ov)
section
variable {P : Program} {w : World} {K : PySem.W.Frag} {mg : Str → Option Value} {base : Heap} {CP CR CE aS : Addr}
theorem take_flat_le {α β : Type} (f : α → List β) (l : List α) (i : Nat) : ((l.take i).flatMap f).length ≤ (l.flatMap f).length := by
  conv => rhs; rw [← List.take_append_drop i l, List.flatMap_append, List.length_append]
  omega
theorem take_flat {α β : Type} (f : α → List β) {l : List α} {i : Nat} {x : α} (h : l[i]? = some x) : (l.take (i + 1)).flatMap f = (l.take i).flatMap f ++ f x := by
  rw [List.take_add_one, h, List.flatMap_append]
  simp
theorem won_new {p : Pln} {H : Hp} {aW l : Addr} {o u : HO} (h : WonOk P w p H aW) (hl : H l = some o) (nl : ∀ b, o ≠ .ext b) (nt : ∀ ys, o ≠ .tup ys) : WonOk P w p (upd H l u) aW := by
  obtain ⟨kvs, d, m⟩ := h
  obtain ⟨b, eb⟩ := WonOk.ext ⟨kvs, d, m⟩
  refine ⟨kvs, d.keep (upd_ne (ne_of eb hl fun z => nl _ z.symm)) fun c ys e => ?_, m⟩
  rw [upd_ne (ne_of e hl fun z => nt _ z.symm)]
  exact e
theorem strategy_go {p : Pln} {s : Nat} {t : Tms} (h : s < p.deadline) : Vbjpae.strategyFrom p (p.deadline - s) s t = ⟨⟨s, t⟩, (Vbjpae.goodMoves p s t).headD 0⟩ :: (Vbjpae.reportsAt p (Vbjpae.afterMove p s t ((Vbjpae.goodMoves p s t).headD 0)) (s + 1)).flatMap fun r => Vbjpae.strategyFrom p (p.deadline - (s + 1)) (s + 1) (Vbjpae.afterReport p (s + 1) (Vbjpae.afterMove p s t ((Vbjpae.goodMoves p s t).headD 0)) r) := by
  rw [show p.deadline - s = (p.deadline - (s + 1)) + 1 by omega]
  rfl
theorem strategy_end {p : Pln} {s : Nat} {t : Tms} (h : ¬ s < p.deadline) : Vbjpae.strategyFrom p (p.deadline - s) s t = [⟨⟨s, t⟩, (Vbjpae.goodMoves p s t).headD 0⟩] := by
  rw [show p.deadline - s = 0 by omega]
  rfl
def refChild (p : Pln) (s : Nat) (t : Tms) (m : Nat) : List Vbjpae.Position := if Vbjpae.isBroken p (Vbjpae.afterMove p s t m) = true then [] else match Vbjpae.goodReport p (s + 1) (Vbjpae.afterMove p s t m) with
  | some r => Vbjpae.refutationFrom p (p.deadline - (s + 1)) (s + 1) (Vbjpae.afterReport p (s + 1) (Vbjpae.afterMove p s t m) r)
  | none => []
theorem refutation_go {p : Pln} {s : Nat} {t : Tms} (h : s < p.deadline) : Vbjpae.refutationFrom p (p.deadline - s) s t = ⟨s, t⟩ :: (Vbjpae.movesAt p t).flatMap (refChild p s t) := by
  rw [show p.deadline - s = (p.deadline - (s + 1)) + 1 by omega]
  rfl
theorem refutation_end {p : Pln} {s : Nat} {t : Tms} (h : ¬ s < p.deadline) : Vbjpae.refutationFrom p (p.deadline - s) s t = [⟨s, t⟩] := by
  rw [show p.deadline - s = 0 by omega]
  rfl
theorem nat_lt {i j : Nat} : decide ((i : Int) < (j : Int)) = decide (i < j) := by
  by_cases h : i < j
  · rw [decide_eq_true h, decide_eq_true (by omega)]
  · rw [decide_eq_false h, decide_eq_false (by omega)]
theorem ok_str {f : Addr} {fd : FuncData} {n k k2 : Nat} (F : Fun K "strategy" "Plan.strategy" sStr f fd) (T : Txt K mg CP CR CE aS) (hk : 3 ≤ k) (hk2 : k2 ≤ k) (M_strategy_first : MetX P w K mg base CX0 k CP "strategy_first" (spStrF P w CP (n + 1))) (F_require : FunX P w K mg base (L2.CX P w) 3 "require" (spReq CE)) (M_followers : MetX P w K mg base CX0 2 CP "followers" (spFollowers CP)) (M_after_move : MetX P w K mg base CX0 1 CP "after_move" spAfterMove) (M_strategy : MetX P w K mg base (L2.CX P w) k2 CP "strategy" (spStr P w CP CE n)) :
    FnOk P w K mg base (L2.CX P w) (k + 1) f fd ["self", "position", "entries"] (spStr P w CP CE (n + 1)) := by
  have nd := scStr.nd
  refine F.okX scStr (fun vs H Q E h => ?_) (fun cdv A outer sh H vs Q E hr h => ?_)
  · obtain ⟨_, _, _, _, _, _, _, _, _, _, rfl, _⟩ := h
    rfl
  obtain ⟨a, aW, q0, l, p, s, t, H0, es, xs, rfl, hG0, hb0, hw, hl0, hP, hR, hn, hwin, hL, hE, hx6, qok, qerr⟩ := h
  have hr3 : Room 3 (A.deeper (envOfC "Plan.strategy" (defScope sStr) _ f cdv)) := hr.mono hk
  have tk := takes_of (X := cxOf (L2.CX P w) P w K mg base nStr "Plan.strategy" (defScope sStr) f cdv A outer sh H E) rfl rfl rfl rfl
  refine ⟨_, (pss_cons (ps_asg (pv 1) (pg_tupB (n := 2) rfl rfl (pgs_cons (pg_name (i := 3) nd rfl (Or.inl rfl)) (pgs_cons (pg_name (i := 4) nd rfl (Or.inl rfl)) pgs_nil))))
    (pss_cons (ps_set (i := 5) nd rfl (Or.inl rfl) (pe_mx M_strategy_first T.clP hr (by first | decide | omega) (no0 (E := fun _ => E0)) (pv 0) (pa_cons (pv 4) (pa_cons (pv 3) pa_nil))))
    (pss_cons (ps_expr (pe_fx F_require hr (by first | decide | omega) rfl (fun σ => passAt tk σ) (pa_cons (pe_cmpR op_lt (pe_callB (call_lenQ rfl) (by rfl) T.m_len (by decide +kernel) (pa_cons (pv 2) pa_nil)) (pe_k rfl T.cME) (nomark _)) (pa_cons (pe_un un_neg pe_int) pa_nil))))
    (pss_cons (ps_expr (pe_bm PySem.F.plainAttrs_list PySem.F.slot_list_append PySem.F.type_list_append mt_append (pv 2) (pa_cons (pe_tup (pa_cons (pv 3) (pa_cons (pv 4) (pa_cons (pv 5) pa_nil)))) pa_nil)))
    (pss_one (ps_if (pt_cmpR op_lt (pv 3) (pe_fldB rfl (pv 0) rfl) (nomark _)) (pss_one (ps_for (passes_of rfl) rfl (pi_list (pe_mx M_followers T.clP hr (by first | decide | omega) (no0 (E := fun _ => E0)) (pv 0) (pa_cons (pv 3) (pa_cons (pe_mx M_after_move T.clP hr (by first | decide | omega) (no0 (E := fun _ => E0)) (pv 0) (pa_cons (pv 3) (pa_cons (pv 4) (pa_cons (pv 5) pa_nil)))) pa_nil)))) (pg_name (i := 6) nd rfl (Or.inl rfl)) (pss_one (ps_expr (pe_mx M_strategy T.clP hr (by first | decide | omega) (fun σ => passAt tk σ) (pv 0) (pa_cons (pv 6) (pa_cons (pv 2) pa_nil))))))) pss_nil)))))), ?_⟩
  have hG := hG0.but hb0 hw
  obtain ⟨dx, aT, aR, aO, hA⟩ := hG.ins
  obtain ⟨r, e1, e2⟩ := id hP
  have les : es.length = xs.length := Paired.length hE
  obtain ⟨m0, hf, hg, hin⟩ := SPM.wins_find hwin
  have em : (Vbjpae.goodMoves p s t).headD 0 = m0 := by rw [SPM.goodMoves_first, hf]; rfl
  have hmv := SPM.mem_movesAt.mp hin
  have rm := SPM.Reach.move hG.pv hR hmv
  have c6 := hG.pv.c6
  have htl := hR.len
  refine ⟨_, rfl, q0, _, rfl, .inl (.inl e1), rfl, _, _, rfl, _, _, rfl, rfl, ?_⟩
  refine ⟨_, rfl, a, dx, _, rfl, hA, pF_none (by decide +kernel), _, rfl, _, rfl, a, aW, r, p, s, t, rfl, hG, e2, hR, hwin, hn, fun H1 b1 w1 => ?_⟩
  rw [em]
  have hL1 := but_lst b1 hw hL
  have lenL : 1 ≤ (Vbjpae.strategyFrom p (p.deadline - s) s t).length := by
    by_cases hs : s < p.deadline
    · rw [strategy_go hs]; simp
    · rw [strategy_end hs]; simp
  refine ⟨_, rfl, l, _, rfl, .inl (.inl (.inl hL1)), _, _, rfl, rfl, _, rfl, ?_⟩
  refine ⟨_, _, rfl, fun hlt => ?_, fun hge => ?_⟩
  case refine_2 =>
    have hge : ¬ ((es.map V.ref).length : Int) < 600 := of_decide_eq_false hge
    rw [List.length_map] at hge
    intro d H' sm hd
    exact qerr (by omega) d H' (fun c o ec nc => sm _ _ (b1 _ _ (hb0 _ _ ec nc) nc)) (w1.same sm) hd
  have hlt : ((es.map V.ref).length : Int) < 600 := of_decide_eq_true hlt
  rw [List.length_map] at hlt
  refine ⟨_, rfl, .inl ⟨rfl, _, .inl (.inl hL1)⟩, _, rfl, _, rfl, _, rfl, by show 3 ≤ sizeLine; rw [sizeLine_eq]; decide, fun e he => ?_⟩
  have nle : l ≠ e := ne_of_none hL1 he
  have sm1 : Same H1 (upd H1 e (.tup [.int (s : Int), .ref r, .int (m0 : Int)])) := same_at _ he
  refine ⟨l, _, _, rfl, rfl, sm1 _ _ hL1, by rw [List.length_map]; exact small_lt (by omega), ?_⟩
  -- the heap behind the new entry
  have b3 : But2 aW l H (upd (upd H1 e (.tup [.int (s : Int), .ref r, .int (m0 : Int)])) l (.lst (es.map V.ref ++ [.ref e]))) := (b1.two.trans (same_two sm1)).trans (But.twoR (but_upd _ l _))
  have w3 : WonOk P w p (upd (upd H1 e (.tup [.int (s : Int), .ref r, .int (m0 : Int)])) l (.lst (es.map V.ref ++ [.ref e]))) aW := won_new (w1.same sm1) (sm1 _ _ hL1) (fun _ z => nomatch z) (fun _ z => nomatch z)
  have hL3 : (upd (upd H1 e (.tup [.int (s : Int), .ref r, .int (m0 : Int)])) l (.lst (es.map V.ref ++ [.ref e]))) l = some (.lst ((es ++ [e]).map V.ref)) := by rw [upd_same, List.map_append]; rfl
  have he3 : (upd (upd H1 e (.tup [.int (s : Int), .ref r, .int (m0 : Int)])) l (.lst (es.map V.ref ++ [.ref e]))) e = some (.tup [.int (s : Int), .ref r, .int (m0 : Int)]) := by rw [upd_ne nle.symm]; exact upd_same
  generalize upd (upd H1 e (.tup [.int (s : Int), .ref r, .int (m0 : Int)])) l (.lst (es.map V.ref ++ [.ref e])) = H3 at b3 w3 hL3 he3
  have tp3 := tups_two b3 hw hL
  have hB3 := tp3 _ _ e2
  have hE3 : Paired (EntAt H3) (es ++ [e]) (xs ++ [⟨⟨s, t⟩, m0⟩]) := Paired.snoc (Paired.mapP hE fun _ _ z => z.keep tp3) ⟨r, he3, hB3⟩
  have bk3 := But2.back hb0 b3 hl0
  have hG3 := hG0.but bk3 w3
  obtain ⟨dx3, aT3, aR3, aO3, hA3⟩ := hG3.ins
  refine ⟨_, rfl, _, rfl, a, CP, dx3, _, _, rfl, hA3, T.clP, T.fD, pF_deadline, _, _, rfl, rfl, _, rfl, ?_⟩
  show if decide ((s : Int) < (p.deadline : Int)) = true then _ else _
  rw [nat_lt]
  refine if_2 (fun c1 => ?_) (fun c1 => ?_)
  case refine_2 =>
    have c1 := of_decide_eq_false c1
    rw [strategy_end c1, em] at qok
    refine qok (by rw [List.length_singleton]; omega) _ _ b3 w3 hL3 hE3
  have hs := of_decide_eq_true c1
  rw [strategy_go hs, em] at qok qerr
  generalize hT' : Vbjpae.afterMove p s t m0 = t' at rm qok qerr
  generalize hch : (fun r => Vbjpae.strategyFrom p (p.deadline - (s + 1)) (s + 1) (Vbjpae.afterReport p (s + 1) t' r)) = ch at qok qerr
  rw [List.length_cons] at qok qerr
  refine ⟨_, rfl, a, dx3, _, rfl, hA3, pF_none (by decide +kernel), _, rfl, _, rfl, a, dx3, _, rfl, hA3, pF_none (by decide +kernel), _, rfl, _, rfl, _, rfl, a, r, s, m0, enc t, rfl, hB3, by rw [SPM.enc_len]; omega, fun c H4 hC sm4 => ?_⟩
  rw [← SPM.moved_is hR.len hmv, hT'] at hC
  have hG4 := hG3.same sm4
  refine ⟨a, aW, c, p, s, t', rfl, hG4.plan, hG.pv, hC, rm.len, fun fl qs H5 hfl0 hFL hp sm5 => ?_⟩
  have hG5 := hG4.same sm5
  have sm35 := sm4.trans sm5
  have hL5 := sm35 _ _ hL3
  have nfl : fl ≠ l := fun z => by rw [z, sm4 _ _ hL3] at hfl0; cases hfl0
  refine ⟨fl, rfl, ⟨_, .inl (.inl hFL)⟩, ?_⟩
  have lq : (qs.map V.ref).length = (Vbjpae.reportsAt p t' (s + 1)).length := by
    rw [List.length_map, Paired.length hp, follow_len]
  have keepFL : ∀ H', But2 aW l H5 H' → H' fl = some (.lst (qs.map V.ref)) := fun H' b => by
    obtain ⟨o, eo⟩ := hG5.won.ext
    exact b _ _ hFL (ne_of hFL eo fun z => nomatch z) nfl
  refine for_it (walk_list (xs := qs.map V.ref)) (fun i σ H' => (∃ x, σ = [some (.ref a), some (.ref q0), some (.ref l), some (.int s), some (.ref r), some (.int m0), x]) ∧ But2 aW l H5 H' ∧ WonOk P w p H' aW ∧ ∃ es', H' l = some (.lst (es'.map V.ref)) ∧ Paired (EntAt H') es' (xs ++ (⟨⟨s, t⟩, m0⟩ :: ((Vbjpae.reportsAt p t' (s + 1)).take i).flatMap ch)) ∧ (xs ++ (⟨⟨s, t⟩, m0⟩ :: ((Vbjpae.reportsAt p t' (s + 1)).take i).flatMap ch)).length ≤ 600)
    ⟨⟨_, rfl⟩, But2.refl _ _ _, hG5.won, _, hL5, Paired.mapP hE3 fun _ _ z => z.keep (same_tups sm35), by rw [List.length_append]; simp; omega⟩ (fun i σ H' _ h => .inl (.inl (keepFL _ h.2.1))) (fun i x σ H6 H7 hi hP hY => ?_) (fun σ H' hP => ?_)
  · obtain ⟨⟨y, rfl⟩, hb, hw6, es', hL6, hE6, hlen⟩ := hP
    obtain ⟨eH, hx⟩ := hY
    subst eH
    have b7 : But2 aW l H H7 := (b3.trans (same_two sm35)).trans hb
    have bk7 := But2.back hb0 b7 hl0
    have hG7 := hG0.but bk7 hw6
    obtain ⟨dx7, aT7, aR7, aO7, hA7⟩ := hG7.ins
    rw [List.getElem?_map] at hx
    obtain ⟨qk, hqk, rfl⟩ := Option.map_eq_some_iff.mp hx
    obtain ⟨kk, hkk, hpos⟩ := paired_at hp i qk hqk
    unfold follow at hkk
    rw [List.getElem?_map] at hkk
    obtain ⟨rr, hrr, rfl⟩ := Option.map_eq_some_iff.mp hkk
    have hrin := List.mem_of_getElem? hrr
    have rch := SPM.Reach.report hG.pv rm hs hrin
    have wch := SPM.good_follow hs hg rr (by rw [hT']; exact hrin)
    rw [hT'] at wch
    have hpos7 := hpos.keep (tups_two hb hG5.won hL5)
    have ech : ch rr = Vbjpae.strategyFrom p (p.deadline - (s + 1)) (s + 1) (Vbjpae.afterReport p (s + 1) t' rr) := by rw [← hch]
    have stp := take_flat ch hrr
    have tot := take_flat_le ch (Vbjpae.reportsAt p t' (s + 1)) (i + 1)
    rw [stp, List.length_append] at tot
    rw [List.length_append, List.length_cons] at hlen
    refine ⟨_, rfl, a, dx7, _, rfl, hA7, pF_none (by decide +kernel), _, rfl, _, rfl, a, aW, qk, l, p, s + 1, _, H0, es', _, rfl, hG0, bk7, hw6, hl0, hpos7, rch, by omega, wch, hL6, hE6, by rw [List.length_append, List.length_cons]; exact hlen, fun hle H8 es8 b8 w8 hL8 hE8 => ?_, fun hgt d H8 b8 w8 hd => ?_⟩
    · rw [← ech] at hle hE8
      rw [List.length_append, List.length_cons] at hle
      refine ⟨⟨_, rfl⟩, hb.trans b8, w8, es8, hL8, ?_, ?_⟩
      · rw [stp]
        rw [List.append_assoc, List.cons_append] at hE8
        exact hE8
      · rw [stp, List.length_append, List.length_cons, List.length_append]; omega
    · rw [← ech] at hgt
      rw [List.length_append, List.length_cons] at hgt
      exact qerr (by omega) d H8 b8 w8 hd
  · obtain ⟨⟨y, rfl⟩, hb, hw6, es', hL6, hE6, hlen⟩ := hP
    rw [lq, List.take_length] at hE6 hlen
    rw [List.length_append, List.length_cons] at hlen
    exact qok hlen _ _ ((b3.trans (same_two sm35)).trans hb) hw6 hL6 hE6
theorem ok_ref {f : Addr} {fd : FuncData} {n k k2 k3 : Nat} (F : Fun K "refutation" "Plan.refutation" sRef f fd) (T : Txt K mg CP CR CE aS) (hk : 3 ≤ k) (hk2 : k2 ≤ k) (hk3 : k3 ≤ k) (F_require : FunX P w K mg base (L2.CX P w) 3 "require" (spReq CE)) (M_moves : MetX P w K mg base CX0 1 CP "moves" (spMoves CP)) (M_after_move : MetX P w K mg base CX0 1 CP "after_move" spAfterMove) (M_is_broken : MetX P w K mg base CX0 2 CP "is_broken" (spIsBroken CP)) (M_refutation_first : MetX P w K mg base CX0 k3 CP "refutation_first" (spRefF P w CP (n + 1))) (M_refutation : MetX P w K mg base (L2.CX P w) k2 CP "refutation" (spRef P w CP CE n)) :
    FnOk P w K mg base (L2.CX P w) (k + 1) f fd ["self", "position", "positions"] (spRef P w CP CE (n + 1)) := by
  have nd := scRef.nd
  refine F.okX scRef (fun vs H Q E h => ?_) (fun cdv A outer sh H vs Q E hr h => ?_)
  · obtain ⟨_, _, _, _, _, _, _, _, _, _, rfl, _⟩ := h
    rfl
  obtain ⟨a, aW, q0, l, p, s, t, H0, es, xs, rfl, hG0, hb0, hw, hl0, hP, hR, hn, hwin, hL, hE, hx6, qok, qerr⟩ := h
  have hr3 : Room 3 (A.deeper (envOfC "Plan.refutation" (defScope sRef) _ f cdv)) := hr.mono hk
  have tk := takes_of (X := cxOf (L2.CX P w) P w K mg base nRef "Plan.refutation" (defScope sRef) f cdv A outer sh H E) rfl rfl rfl rfl
  refine ⟨_, (pss_cons (ps_expr (pe_fx F_require hr (by first | decide | omega) rfl (fun σ => passAt tk σ) (pa_cons (pe_cmpR op_lt (pe_callB (call_lenQ rfl) (by rfl) T.m_len (by decide +kernel) (pa_cons (pv 2) pa_nil)) (pe_k rfl T.cME) (nomark _)) (pa_cons (pe_un un_neg pe_int) pa_nil))))
    (pss_cons (ps_expr (pe_bm PySem.F.plainAttrs_list PySem.F.slot_list_append PySem.F.type_list_append mt_append (pv 2) (pa_cons (pv 1) pa_nil)))
    (pss_cons (ps_asg (pv 1) (pg_tupB (n := 2) rfl rfl (pgs_cons (pg_name (i := 3) nd rfl (Or.inl rfl)) (pgs_cons (pg_name (i := 4) nd rfl (Or.inl rfl)) pgs_nil))))
    (pss_one (ps_if (pt_cmpR op_lt (pv 3) (pe_fldB rfl (pv 0) rfl) (nomark _)) (pss_one (ps_for (passes_of rfl) rfl (pi_list (pe_mx M_moves T.clP hr (by first | decide | omega) (no0 (E := fun _ => E0)) (pv 0) (pa_cons (pv 4) pa_nil))) (pg_name (i := 5) nd rfl (Or.inl rfl)) (pss_cons (ps_set (i := 6) nd rfl (Or.inl rfl) (pe_mx M_after_move T.clP hr (by first | decide | omega) (no0 (E := fun _ => E0)) (pv 0) (pa_cons (pv 3) (pa_cons (pv 4) (pa_cons (pv 5) pa_nil)))))
    (pss_one (ps_if (pt_not (pt_val (pe_mx M_is_broken T.clP hr (by first | decide | omega) (no0 (E := fun _ => E0)) (pv 0) (pa_cons (pv 6) pa_nil)))) (pss_one (ps_expr (pe_mx M_refutation T.clP hr (by first | decide | omega) (fun σ => passAt tk σ) (pv 0) (pa_cons (pe_mx M_refutation_first T.clP hr (by first | decide | omega) (no0 (E := fun _ => E0)) (pv 0) (pa_cons (pv 3) (pa_cons (pv 6) pa_nil))) (pa_cons (pv 2) pa_nil))))) pss_nil))))) pss_nil))))), ?_⟩
  have hG := hG0.but hb0 hw
  obtain ⟨r, e1, e2⟩ := id hP
  have les : es.length = xs.length := Paired.length hE
  have c6 := hG.pv.c6
  have htl := hR.len
  have lenL : 1 ≤ (Vbjpae.refutationFrom p (p.deadline - s) s t).length := by
    by_cases hs : s < p.deadline
    · rw [refutation_go hs]; simp
    · rw [refutation_end hs]; simp
  refine ⟨_, rfl, l, _, rfl, .inl (.inl (.inl hL)), _, _, rfl, rfl, _, rfl, ?_⟩
  refine ⟨_, _, rfl, fun hlt => ?_, fun hge => ?_⟩
  case refine_2 =>
    have hge : ¬ ((es.map V.ref).length : Int) < 600 := of_decide_eq_false hge
    rw [List.length_map] at hge
    intro d H' sm hd
    exact qerr (by omega) d H' (fun c o ec nc => sm _ _ (hb0 _ _ ec nc)) (hw.same sm) hd
  have hlt : ((es.map V.ref).length : Int) < 600 := of_decide_eq_true hlt
  rw [List.length_map] at hlt
  refine ⟨_, rfl, .inl ⟨rfl, _, .inl (.inl hL)⟩, _, rfl, l, _, _, rfl, rfl, hL, by rw [List.length_map]; exact small_lt (by omega), ?_⟩
  have b3 : But2 aW l H (upd H l (.lst (es.map V.ref ++ [.ref q0]))) := But.twoR (but_upd _ l _)
  have w3 : WonOk P w p (upd H l (.lst (es.map V.ref ++ [.ref q0]))) aW := won_new hw hL (fun _ z => nomatch z) (fun _ z => nomatch z)
  have hL3 : (upd H l (.lst (es.map V.ref ++ [.ref q0]))) l = some (.lst ((es ++ [q0]).map V.ref)) := by rw [upd_same, List.map_append]; rfl
  generalize upd H l (.lst (es.map V.ref ++ [.ref q0])) = H3 at b3 w3 hL3
  have tp3 := tups_two b3 hw hL
  have hB3 := tp3 _ _ e2
  have hE3 : Paired (PositAt H3) (es ++ [q0]) (xs ++ [⟨s, t⟩]) := Paired.snoc (Paired.mapP hE fun _ _ z => z.keep tp3) (hP.keep tp3)
  have bk3 := But2.back hb0 b3 hl0
  have hG3 := hG0.but bk3 w3
  obtain ⟨dx3, aT3, aR3, aO3, hA3⟩ := hG3.ins
  refine ⟨_, rfl, q0, _, rfl, .inl (.inl (tp3 _ _ e1)), rfl, _, _, rfl, _, _, rfl, rfl, ?_⟩
  refine ⟨_, rfl, _, rfl, a, CP, dx3, _, _, rfl, hA3, T.clP, T.fD, pF_deadline, _, _, rfl, rfl, _, rfl, ?_⟩
  show if decide ((s : Int) < (p.deadline : Int)) = true then _ else _
  rw [nat_lt]
  refine if_2 (fun c1 => ?_) (fun c1 => ?_)
  case refine_2 =>
    have c1 := of_decide_eq_false c1
    rw [refutation_end c1] at qok
    refine qok (by rw [List.length_singleton]; omega) _ _ b3 w3 hL3 hE3
  have hs := of_decide_eq_true c1
  rw [refutation_go hs] at qok qerr
  rw [List.length_cons] at qok qerr
  have hall := SPM.loses_all hwin
  refine ⟨_, rfl, a, dx3, _, rfl, hA3, pF_none (by decide +kernel), _, rfl, a, aW, r, p, t, rfl, hG3.plan, hB3, hR.len, c6, fun fl H5 hfl0 hFL sm5 => ?_⟩
  have hG5 := hG3.same sm5
  have hL5 := sm5 _ _ hL3
  have hB5 := sm5 _ _ hB3
  have nfl : fl ≠ l := fun z => by rw [z, hL3] at hfl0; cases hfl0
  refine ⟨fl, rfl, ⟨_, .inl (.inl hFL)⟩, ?_⟩
  have keepFL : ∀ H', But2 aW l H5 H' → H' fl = some (.lst (nv (Vbjpae.movesAt p t))) := fun H' b => by
    obtain ⟨o, eo⟩ := hG5.won.ext
    exact b _ _ hFL (ne_of hFL eo fun z => nomatch z) nfl
  refine for_it (walk_list (xs := nv (Vbjpae.movesAt p t))) (fun i σ H' => (∃ x y, σ = [some (.ref a), some (.ref q0), some (.ref l), some (.int s), some (.ref r), x, y]) ∧ But2 aW l H5 H' ∧ WonOk P w p H' aW ∧ ∃ es', H' l = some (.lst (es'.map V.ref)) ∧ Paired (PositAt H') es' (xs ++ (⟨s, t⟩ :: ((Vbjpae.movesAt p t).take i).flatMap (refChild p s t))) ∧ (xs ++ (⟨s, t⟩ :: ((Vbjpae.movesAt p t).take i).flatMap (refChild p s t))).length ≤ 600)
    ⟨⟨_, _, rfl⟩, But2.refl _ _ _, hG5.won, _, hL5, Paired.mapP hE3 fun _ _ z => z.keep (same_tups sm5), by rw [List.length_append]; simp; omega⟩ (fun i σ H' _ h => .inl (.inl (keepFL _ h.2.1))) (fun i x σ H6 H7 hi hP hY => ?_) (fun σ H' hP => ?_)
  · obtain ⟨⟨y, y', rfl⟩, hb, hw6, es', hL6, hE6, hlen⟩ := hP
    obtain ⟨eH, hx⟩ := hY
    subst eH
    have b7 : But2 aW l H H7 := (b3.trans (same_two sm5)).trans hb
    have bk7 := But2.back hb0 b7 hl0
    have hG7 := hG0.but bk7 hw6
    obtain ⟨dx7, aT7, aR7, aO7, hA7⟩ := hG7.ins
    obtain ⟨m, hm, rfl⟩ := nv_at_of hx
    have hmin := List.mem_of_getElem? hm
    have hmv := SPM.mem_movesAt.mp hmin
    have rm := SPM.Reach.move hG.pv hR hmv
    have hB7 := tups_two hb hG5.won hL5 _ _ hB5
    have stp := take_flat (refChild p s t) hm
    have tot := take_flat_le (refChild p s t) (Vbjpae.movesAt p t) (i + 1)
    rw [stp, List.length_append] at tot
    refine ⟨_, rfl, a, dx7, _, rfl, hA7, pF_none (by decide +kernel), _, rfl, _, rfl, _, rfl, a, r, s, m, enc t, rfl, hB7, by rw [SPM.enc_len]; omega, fun c H8 hC sm8 => ?_⟩
    rw [← SPM.moved_is hR.len hmv] at hC
    have hG8 := hG7.same sm8
    have hA8 := sm8 _ _ hA7
    have hL8 := sm8 _ _ hL6
    have b8 : But2 aW l H5 H8 := hb.trans (same_two sm8)
    refine ⟨_, rfl, a, dx7, _, rfl, hA8, pF_none (by decide +kernel), _, rfl, a, aW, c, p, _, rfl, hG8.plan, hG.pv, .inl hC, rm.len, _, rfl, ?_⟩
    cases hbr : Vbjpae.isBroken p (Vbjpae.afterMove p s t m) with
    | true =>
      have ech : refChild p s t m = [] := by unfold refChild; rw [if_pos hbr]
      refine if_f rfl ⟨⟨_, _, rfl⟩, b8, hG8.won, es', hL8, ?_, ?_⟩
      · rw [stp, ech, List.append_nil]
        exact Paired.mapP hE6 fun _ _ z => z.keep (same_tups sm8)
      · rw [stp, ech, List.append_nil]; exact hlen
    | false =>
      obtain ⟨rr, hgr, hrin, hrw⟩ := SPM.bad_report hs (hall m hmin) hbr
      have ech : refChild p s t m = Vbjpae.refutationFrom p (p.deadline - (s + 1)) (s + 1) (Vbjpae.afterReport p (s + 1) (Vbjpae.afterMove p s t m) rr) := by
        unfold refChild
        rw [if_neg (by rw [hbr]; exact Bool.false_ne_true), hgr]
      have rch := SPM.Reach.report hG.pv rm hs hrin
      rw [List.length_append, List.length_cons] at hlen
      refine if_t rfl ?_
      refine ⟨_, rfl, a, dx7, _, rfl, hA8, pF_none (by decide +kernel), ?_⟩
      refine ⟨_, rfl, a, dx7, _, rfl, hA8, pF_none (by decide +kernel), _, rfl, _, rfl, a, aW, c, p, s, _, rr, rfl, hG8, hC, rm, hs, hgr, hn, fun qn H9 b9 w9 hpos => ?_⟩
      have b9' : But2 aW l H5 H9 := b8.trans b9.two
      have bk9 : But aW H0 H9 := fun c o ec nc => b9 _ _ (sm8 _ _ (bk7 _ _ ec nc)) nc
      have tp9 : Tups H8 H9 := fun b' ys e => but_tup b9 hG8.won e
      refine ⟨_, rfl, a, aW, qn, l, p, s + 1, _, H0, es', _, rfl, hG0, bk9, w9, hl0, hpos, rch, by omega, hrw, but_lst b9 hG8.won hL8, Paired.mapP hE6 fun _ _ z => (z.keep (same_tups sm8)).keep tp9, by rw [List.length_append, List.length_cons]; exact hlen, fun hle H10 es10 b10 w10 hL10 hE10 => ?_, fun hgt d H10 b10 w10 hd => ?_⟩
      · rw [← ech] at hle hE10
        rw [List.length_append, List.length_cons] at hle
        refine ⟨⟨_, _, rfl⟩, b9'.trans b10, w10, es10, hL10, ?_, ?_⟩
        · rw [stp]
          rw [List.append_assoc, List.cons_append] at hE10
          exact hE10
        · rw [stp, List.length_append, List.length_cons, List.length_append]; omega
      · rw [← ech] at hgt
        rw [List.length_append, List.length_cons] at hgt
        exact qerr (by omega) d H10 b10 w10 hd
  · obtain ⟨⟨y, y', rfl⟩, hb, hw6, es', hL6, hE6, hlen⟩ := hP
    rw [nv_len, List.take_length] at hE6 hlen
    rw [List.length_append, List.length_cons] at hlen
    exact qok hlen _ _ ((b3.trans (same_two sm5)).trans hb) hw6 hL6 hE6
end
end SP
end

section
set_option Elab.async false
set_option linter.all false
set_option maxRecDepth 100000
set_option maxHeartbeats 4000000
namespace SP
open PySem PySem.Spec PyProof.Rows L2 SPR
open SPM (enc ov)
abbrev sIpos : Stmt := inClass (top 12) 23
abbrev nIpos : List Str := ["self", "moment", "seen", "s"]
theorem scIpos : FnScope ["self", "moment", "seen", "s"] ["self", "moment", "seen"] (defScope sIpos) := ⟨rfl, rfl, rfl, by decide +kernel, rfl, by decide +kernel, by decide +kernel⟩
abbrev sEf : Stmt := inClass (top 12) 24
abbrev nEf : List Str := ["self", "moment", "seen", "mask", "known", "after"]
theorem scEf : FnScope ["self", "moment", "seen", "mask", "known", "after"] ["self", "moment", "seen", "mask", "known"] (defScope sEf) := ⟨rfl, rfl, rfl, by decide +kernel, rfl, by decide +kernel, by decide +kernel⟩
abbrev sEfa : Stmt := inClass (top 12) 25
abbrev nEfa : List Str := ["self", "moment", "after", "known", "position"]
theorem scEfa : FnScope ["self", "moment", "after", "known", "position"] ["self", "moment", "after", "known"] (defScope sEfa) := ⟨rfl, rfl, rfl, by decide +kernel, rfl, by decide +kernel, by decide +kernel⟩
abbrev sIsa : Stmt := inClass (top 12) 26
abbrev nIsa : List Str := ["self", "moment", "seen", "mask", "known", "after"]
theorem scIsa : FnScope ["self", "moment", "seen", "mask", "known", "after"] ["self", "moment", "seen", "mask", "known"] (defScope sIsa) := ⟨rfl, rfl, rfl, by decide +kernel, rfl, by decide +kernel, by decide +kernel⟩
abbrev sIsaa : Stmt := inClass (top 12) 27
abbrev nIsaa : List Str := ["self", "moment", "after", "known", "position"]
theorem scIsaa : FnScope ["self", "moment", "after", "known", "position"] ["self", "moment", "after", "known"] (defScope sIsaa) := ⟨rfl, rfl, rfl, by decide +kernel, rfl, by decide +kernel, by decide +kernel⟩
/-- the dict's keys are just these positions -/
def Known (kvs : List (PKey × V)) (all : List Vbjpae.Position) : Prop := ∀ (s : Nat) (t : Tms), (valV kvs (posK s t)).isSome = all.contains ⟨s, t⟩
def spIpos (CP : Addr) : Sp := fun vs H Q _ => ∃ (a aW b : Addr) (p : Pln) (s : Nat) (t : Tms), vs = [.ref a, .int s, .ref b] ∧ PlanAt CP H a (rp p) aW ∧ SPM.PV p ∧ H b = some (.tup (iv (enc t))) ∧ t.length = p.count ∧
  ∀ H', Same H H' → Q (.bl (Vbjpae.isPosition p ⟨s, t⟩)) H'
def spEfa (P : Program) (w : World) (CP : Addr) : Sp := fun vs H Q _ => ∃ (a aW b aK : Addr) (p : Pln) (s : Nat) (t : Tms) (kvs : List (PKey × V)) (all : List Vbjpae.Position), vs = [.ref a, .int s, .ref b, .ref aK] ∧ PlanAt CP H a (rp p) aW ∧ SPM.PV p ∧ H b = some (.tup (iv (enc t))) ∧ t.length = p.count ∧ PD P w H aK kvs ∧ Known kvs all ∧
  ∀ H', Same H H' → Q (.bl ((Vbjpae.reportsAt p t (s + 1)).all fun r => all.contains ⟨s + 1, Vbjpae.afterReport p (s + 1) t r⟩)) H'
def spIsaa (P : Program) (w : World) (CP : Addr) : Sp := fun vs H Q _ => ∃ (a aW b aK : Addr) (p : Pln) (s : Nat) (t : Tms) (kvs : List (PKey × V)) (all : List Vbjpae.Position), vs = [.ref a, .int s, .ref b, .ref aK] ∧ PlanAt CP H a (rp p) aW ∧ SPM.PV p ∧ H b = some (.tup (iv (enc t))) ∧ t.length = p.count ∧ PD P w H aK kvs ∧ Known kvs all ∧
  ∀ H', Same H H' → Q (.bl ((Vbjpae.reportsAt p t (s + 1)).any fun r => all.contains ⟨s + 1, Vbjpae.afterReport p (s + 1) t r⟩)) H'
def spEf (P : Program) (w : World) (CP : Addr) : Sp := fun vs H Q _ => ∃ (a aW b aK : Addr) (p : Pln) (s m : Nat) (t : Tms) (kvs : List (PKey × V)) (all : List Vbjpae.Position), vs = [.ref a, .int s, .ref b, .int m, .ref aK] ∧ PlanAt CP H a (rp p) aW ∧ SPM.PV p ∧ H b = some (.tup (iv (enc t))) ∧ t.length = p.count ∧ m < 2 ^ 20 ∧ PD P w H aK kvs ∧ Known kvs all ∧
  ∀ H', Same H H' → Q (.int ((Vbjpae.entryFault p all ⟨⟨s, t⟩, m⟩ : Nat) : Int)) H'
def spIsa (P : Program) (w : World) (CP : Addr) : Sp := fun vs H Q _ => ∃ (a aW b aK : Addr) (p : Pln) (s m : Nat) (t : Tms) (kvs : List (PKey × V)) (all : List Vbjpae.Position), vs = [.ref a, .int s, .ref b, .int m, .ref aK] ∧ PlanAt CP H a (rp p) aW ∧ SPM.PV p ∧ H b = some (.tup (iv (enc t))) ∧ t.length = p.count ∧ s ≤ p.deadline ∧ Vbjpae.isMove p t m = true ∧ PD P w H aK kvs ∧ Known kvs all ∧
  ∀ H', Same H H' → Q (.bl (Vbjpae.isAnswered p all ⟨s, t⟩ m)) H'
section
variable {P : Program} {w : World} {K : PySem.W.Frag} {mg : Str → Option Value} {base : Heap} {CP CR CE aS : Addr}
theorem nat_le {i j : Nat} : decide ((i : Int) ≤ (j : Int)) = decide (i ≤ j) := by
  by_cases h : i ≤ j
  · rw [decide_eq_true h, decide_eq_true (by omega)]
  · rw [decide_eq_false h, decide_eq_false (by omega)]
theorem ok_ipos {f : Addr} {fd : FuncData} (F : Fun K "is_position" "Plan.is_position" sIpos f fd) (T : Txt K mg CP CR CE aS) : FnOk P w K mg base CX0 1 f fd ["self", "moment", "seen"] (spIpos CP) := by
  have nd := scIpos.nd
  refine F.ok scIpos (fun vs H Q E h => ?_) (fun cdv A outer sh H vs Q E hr h => ?_)
  · obtain ⟨_, _, _, _, _, _, rfl, _⟩ := h
    rfl
  obtain ⟨a, aW, b, p, s, t, rfl, ⟨dx, aT, aR, aO, hA, _⟩, hv, hB, hl, q⟩ := h
  refine ⟨_, (pss_one (ps_ret (pe_and (pe_cmpR op_le (pv 1) (pe_fldB rfl (pv 0) rfl) (nomark _)) (pe_and (pe_callB (cr_all rfl) (by rfl) T.m_all (by decide +kernel) (pa_cons (pe_lc (own := [("s", 3)]) rfl nd (pi_tup (pv 2)) (blkOk_by (own := [("s", 3)]) (N := ["self", "moment", "seen", "s"]) (sc := (defScope sIpos)) (by decide +kernel)) (fun _ _ _ _ _ => (pg_name (i := 3) nd rfl (Or.inl rfl) (Or.inr rfl))) (fun _ _ _ _ _ => pts_nil) (fun _ _ _ _ _ => (pe_cmpR op_le (pv 3) (pv 1) (nomark _)))) pa_nil)) (pe_one (pe_cmpR op_eq (pe_ix (ix_tupB rfl) (pv 2) pe_int (fun _ _ => rfl)) pe_int (nomark _))))))), ?_⟩
  have hpos : Vbjpae.isPosition p ⟨s, t⟩ = (decide (s ≤ p.deadline) && (((t.map fun x => decide (ov x ≤ (s : Int))).all id) && decide (V.int (ov (VbjpCore.timeAt t 0)) = V.int 0))) := by
    unfold Vbjpae.isPosition
    rw [Bool.eq_iff_iff]
    simp only [Bool.and_eq_true, decide_eq_true_eq, beq_iff_eq]
    refine and_congr_right fun _ => ?_
    have h1 : (t.map fun x => decide (ov x ≤ (s : Int))).all id = true ↔ (t.all fun t => t.all fun a => decide (a ≤ s)) = true := by
      rw [List.all_eq_true, List.all_eq_true]
      constructor
      · intro h x hx
        have := h _ (List.mem_map.mpr ⟨x, hx, rfl⟩)
        cases x with
        | none => rfl
        | some y =>
          simp [SPM.ov, Vbjpae.optional] at this
          simp; omega
      · intro h x hx
        obtain ⟨y, hy, rfl⟩ := List.mem_map.mp hx
        have := h y hy
        cases y with
        | none => simp [SPM.ov, Vbjpae.optional] <;> omega
        | some z =>
          simp at this
          simp [SPM.ov, Vbjpae.optional] <;> omega
    rw [h1]
    have h2 : V.int (ov (VbjpCore.timeAt t 0)) = V.int 0 ↔ VbjpCore.timeAt t 0 = some 0 := by
      constructor
      · intro h
        exact SPM.opt_inj (x := VbjpCore.timeAt t 0) (y := some 0) (V.int.inj h)
      · intro h; rw [h]; rfl
    rw [h2]
    constructor
    · rintro ⟨_, h3, h4⟩; exact ⟨h4, h3⟩
    · rintro ⟨h4, h3⟩; exact ⟨hl, h3, h4⟩
  rw [hpos] at q
  refine ⟨_, rfl, _, rfl, a, CP, dx, _, _, rfl, hA, T.clP, T.fD, pF_deadline, _, _, rfl, rfl, _, rfl, ?_⟩
  show if decide ((s : Int) ≤ (p.deadline : Int)) = true then _ else _
  rw [nat_le]
  cases c1 : decide (s ≤ p.deadline) with
  | false => rw [c1] at q; exact if_f rfl (q H (Same.refl H))
  | true =>
    rw [c1] at q
    refine if_t rfl ?_
    refine ⟨_, rfl, b, rfl, ⟨_, .inl (.inl hB)⟩, fun c hc => ?_⟩
    have nB : b ≠ c := ne_of_none hB hc
    refine lc_it (walk_tup (xs := iv (enc t))) (fun i H1 => But c H H1 ∧ H1 c = some (.lst (((t.take i).map fun x => decide (ov x ≤ (s : Int))).map V.bl))) ⟨but_upd H c _, upd_same⟩ (fun i H1 _ h => .inl (.inl (h.1 _ _ hB nB))) (fun i x H1 H2 hi hP hY => ?_) (fun H1 h => ?_)
    · obtain ⟨hb, hC⟩ := hP
      obtain ⟨eH, hx⟩ := hY
      subst eH
      obtain ⟨z, hz, rfl⟩ := at_int_of hx
      rw [List.getElem?_map] at hz
      obtain ⟨o, ho, rfl⟩ := Option.map_eq_some_iff.mp hz
      rw [iv_len, SPM.enc_len] at hi
      have c6 := hv.c6
      refine ⟨rfl, ?_⟩
      dsimp only [tYes]
      rw [if_pos rfl]
      refine ⟨_, rfl, _, rfl, _, _, rfl, rfl, _, hC, ?_, hb.trans (but_upd _ c _), ?_⟩
      · rw [List.length_map, List.length_map, List.length_take]; exact small_lt (by omega)
      · rw [upd_same, List.take_add_one, ho]
        simp
    · obtain ⟨hb, hC⟩ := h
      rw [iv_len, SPM.enc_len, List.take_length] at hC
      have sm : Same H H1 := But.of_new hc hb
      refine ⟨c, _, rfl, .inl (.inl hC), _, rfl, ?_⟩
      cases c2 : ((t.map fun x => decide (ov x ≤ (s : Int))).all id) with
      | false => rw [c2] at q; exact if_f rfl (q H1 sm)
      | true =>
        rw [c2] at q
        refine if_t rfl ?_
        refine ⟨_, rfl, b, _, 0, _, rfl, rfl, .inl (.inl (sm _ _ hB)), atI_nat (j := 0) (seen_at (by have := hv.c1; omega)), rfl, ?_⟩
        exact q H1 sm
theorem ok_efa {f : Addr} {fd : FuncData} (F : Fun K "entry_fault_all" "Plan.entry_fault_all" sEfa f fd) (T : Txt K mg CP CR CE aS) (M_followers : MetX P w K mg base CX0 2 CP "followers" (spFollowers CP)) : FnOk P w K mg base CX0 3 f fd ["self", "moment", "after", "known"] (spEfa P w CP) := by
  have nd := scEfa.nd
  refine F.ok scEfa (fun vs H Q E h => ?_) (fun cdv A outer sh H vs Q E hr h => ?_)
  · obtain ⟨_, _, _, _, _, _, _, _, _, rfl, _⟩ := h
    rfl
  obtain ⟨a, aW, b, aK, p, s, t, kvs, all, rfl, hPA, hv, hB, hl, hD, hK, q⟩ := h
  have hu := hu_room hr
  refine ⟨_, (pss_cons (ps_for PassesOwn.never rfl (pi_list (pe_mx M_followers T.clP hr (by first | decide | omega) (no0 (E := fun _ => E0)) (pv 0) (pa_cons (pv 1) (pa_cons (pv 2) pa_nil)))) (pg_name (i := 4) nd rfl (Or.inl rfl)) (pss_one (ps_if (pt_cmpR (op_pnotin hu) (pv 4) (pv 3) (by rfl)) (pss_one (ps_ret pe_bl)) pss_nil)))
    (pss_one (ps_ret pe_bl))), ?_⟩
  obtain ⟨dx, aT, aR, aO, hA, _⟩ := id hPA
  refine ⟨_, rfl, a, dx, _, rfl, hA, pF_none (by decide +kernel), _, rfl, _, rfl, a, aW, b, p, s, t, rfl, hPA, hv, hB, hl, fun l qs H1 _ hL hp sm => ?_⟩
  refine ⟨l, rfl, ⟨_, .inl (.inl hL)⟩, ?_⟩
  have lq : (qs.map V.ref).length = (Vbjpae.reportsAt p t (s + 1)).length := by
    rw [List.length_map, Paired.length hp, follow_len]
  refine for_it (walk_list (xs := qs.map V.ref)) (fun i σ H' => (∃ x, σ = [some (.ref a), some (.int s), some (.ref b), some (.ref aK), x]) ∧ H' = H1 ∧ ∀ j, j < i → ∀ r, (Vbjpae.reportsAt p t (s + 1))[j]? = some r → all.contains ⟨s + 1, Vbjpae.afterReport p (s + 1) t r⟩ = true) ⟨⟨_, rfl⟩, rfl, fun j h => absurd h (Nat.not_lt_zero j)⟩ (fun i σ H' _ h => by rw [h.2.1]; exact .inl (.inl hL)) (fun i x σ H2 H3 hi hP hY => ?_) (fun σ H' hP => ?_)
  · obtain ⟨⟨y, rfl⟩, eH1, hp2⟩ := hP
    obtain ⟨eH, hx⟩ := hY
    rw [eH1] at eH
    subst eH
    rw [List.getElem?_map] at hx
    obtain ⟨qk, hqk, rfl⟩ := Option.map_eq_some_iff.mp hx
    obtain ⟨kk, hkk, hpos⟩ := paired_at hp i qk hqk
    unfold follow at hkk
    rw [List.getElem?_map] at hkk
    obtain ⟨r, hr', rfl⟩ := Option.map_eq_some_iff.mp hkk
    refine ⟨_, rfl, _, rfl, qk, posK (s + 1) (Vbjpae.afterReport p (s + 1) t r), aK, kvs, rfl, rfl, hpos, hD.same sm, _, rfl, ?_⟩
    show if (!(valV kvs (posK (s + 1) (Vbjpae.afterReport p (s + 1) t r))).isSome) = true then _ else _
    rw [hK]
    cases e : all.contains ⟨s + 1, Vbjpae.afterReport p (s + 1) t r⟩ with
    | true =>
      refine if_f rfl ⟨⟨_, rfl⟩, rfl, fun j hj r' hr2' => ?_⟩
      rcases Nat.lt_or_ge j i with z | z
      · exact hp2 j z r' hr2'
      · have : j = i := by omega
        subst this
        rw [hr'] at hr2'
        cases hr2'
        exact e
    | false =>
      refine if_t rfl ?_
      have : ((Vbjpae.reportsAt p t (s + 1)).all fun r => all.contains ⟨s + 1, Vbjpae.afterReport p (s + 1) t r⟩) = false := by
        rw [List.all_eq_false]
        exact ⟨r, List.mem_of_getElem? hr', by rw [e]; exact Bool.false_ne_true⟩
      rw [this] at q
      exact q _ sm
  · obtain ⟨⟨y, rfl⟩, rfl, hp2⟩ := hP
    have : ((Vbjpae.reportsAt p t (s + 1)).all fun r => all.contains ⟨s + 1, Vbjpae.afterReport p (s + 1) t r⟩) = true := by
      rw [List.all_eq_true]
      intro r hr'
      obtain ⟨j, hj⟩ := List.mem_iff_getElem?.mp hr'
      rw [lq] at hp2
      exact hp2 j (List.getElem?_eq_some_iff.mp hj).1 r hj
    rw [this] at q
    exact q _ sm
theorem ok_isaa {f : Addr} {fd : FuncData} (F : Fun K "is_answered_any" "Plan.is_answered_any" sIsaa f fd) (T : Txt K mg CP CR CE aS) (M_followers : MetX P w K mg base CX0 2 CP "followers" (spFollowers CP)) : FnOk P w K mg base CX0 3 f fd ["self", "moment", "after", "known"] (spIsaa P w CP) := by
  have nd := scIsaa.nd
  refine F.ok scIsaa (fun vs H Q E h => ?_) (fun cdv A outer sh H vs Q E hr h => ?_)
  · obtain ⟨_, _, _, _, _, _, _, _, _, rfl, _⟩ := h
    rfl
  obtain ⟨a, aW, b, aK, p, s, t, kvs, all, rfl, hPA, hv, hB, hl, hD, hK, q⟩ := h
  have hu := hu_room hr
  refine ⟨_, (pss_cons (ps_for PassesOwn.never rfl (pi_list (pe_mx M_followers T.clP hr (by first | decide | omega) (no0 (E := fun _ => E0)) (pv 0) (pa_cons (pv 1) (pa_cons (pv 2) pa_nil)))) (pg_name (i := 4) nd rfl (Or.inl rfl)) (pss_one (ps_if (pt_cmpR (op_pin hu) (pv 4) (pv 3) (by rfl)) (pss_one (ps_ret pe_bl)) pss_nil)))
    (pss_one (ps_ret pe_bl))), ?_⟩
  obtain ⟨dx, aT, aR, aO, hA, _⟩ := id hPA
  refine ⟨_, rfl, a, dx, _, rfl, hA, pF_none (by decide +kernel), _, rfl, _, rfl, a, aW, b, p, s, t, rfl, hPA, hv, hB, hl, fun l qs H1 _ hL hp sm => ?_⟩
  refine ⟨l, rfl, ⟨_, .inl (.inl hL)⟩, ?_⟩
  have lq : (qs.map V.ref).length = (Vbjpae.reportsAt p t (s + 1)).length := by
    rw [List.length_map, Paired.length hp, follow_len]
  refine for_it (walk_list (xs := qs.map V.ref)) (fun i σ H' => (∃ x, σ = [some (.ref a), some (.int s), some (.ref b), some (.ref aK), x]) ∧ H' = H1 ∧ ∀ j, j < i → ∀ r, (Vbjpae.reportsAt p t (s + 1))[j]? = some r → all.contains ⟨s + 1, Vbjpae.afterReport p (s + 1) t r⟩ = false) ⟨⟨_, rfl⟩, rfl, fun j h => absurd h (Nat.not_lt_zero j)⟩ (fun i σ H' _ h => by rw [h.2.1]; exact .inl (.inl hL)) (fun i x σ H2 H3 hi hP hY => ?_) (fun σ H' hP => ?_)
  · obtain ⟨⟨y, rfl⟩, eH1, hp2⟩ := hP
    obtain ⟨eH, hx⟩ := hY
    rw [eH1] at eH
    subst eH
    rw [List.getElem?_map] at hx
    obtain ⟨qk, hqk, rfl⟩ := Option.map_eq_some_iff.mp hx
    obtain ⟨kk, hkk, hpos⟩ := paired_at hp i qk hqk
    unfold follow at hkk
    rw [List.getElem?_map] at hkk
    obtain ⟨r, hr', rfl⟩ := Option.map_eq_some_iff.mp hkk
    refine ⟨_, rfl, _, rfl, qk, posK (s + 1) (Vbjpae.afterReport p (s + 1) t r), aK, kvs, rfl, rfl, hpos, hD.same sm, _, rfl, ?_⟩
    show if ((valV kvs (posK (s + 1) (Vbjpae.afterReport p (s + 1) t r))).isSome) = true then _ else _
    rw [hK]
    cases e : all.contains ⟨s + 1, Vbjpae.afterReport p (s + 1) t r⟩ with
    | false =>
      refine if_f rfl ⟨⟨_, rfl⟩, rfl, fun j hj r' hr2' => ?_⟩
      rcases Nat.lt_or_ge j i with z | z
      · exact hp2 j z r' hr2'
      · have : j = i := by omega
        subst this
        rw [hr'] at hr2'
        cases hr2'
        exact e
    | true =>
      refine if_t rfl ?_
      have : ((Vbjpae.reportsAt p t (s + 1)).any fun r => all.contains ⟨s + 1, Vbjpae.afterReport p (s + 1) t r⟩) = true := by
        rw [List.any_eq_true]
        exact ⟨r, List.mem_of_getElem? hr', e⟩
      rw [this] at q
      exact q _ sm
  · obtain ⟨⟨y, rfl⟩, rfl, hp2⟩ := hP
    have : ((Vbjpae.reportsAt p t (s + 1)).any fun r => all.contains ⟨s + 1, Vbjpae.afterReport p (s + 1) t r⟩) = false := by
      rw [List.any_eq_false]
      intro r hr'
      obtain ⟨j, hj⟩ := List.mem_iff_getElem?.mp hr'
      rw [lq] at hp2
      rw [hp2 j (List.getElem?_eq_some_iff.mp hj).1 r hj]
      exact Bool.false_ne_true
    rw [this] at q
    exact q _ sm
theorem ok_ef {f : Addr} {fd : FuncData} (F : Fun K "entry_fault" "Plan.entry_fault" sEf f fd) (T : Txt K mg CP CR CE aS) (M_is_position : MetX P w K mg base CX0 1 CP "is_position" (spIpos CP)) (M_is_move : MetX P w K mg base CX0 2 CP "is_move" (spIsMove CP)) (M_after_move : MetX P w K mg base CX0 1 CP "after_move" spAfterMove) (M_is_broken : MetX P w K mg base CX0 2 CP "is_broken" (spIsBroken CP)) (M_first_bad_completion : MetX P w K mg base CX0 3 CP "first_bad_completion" (spFbc CP)) (M_entry_fault_all : MetX P w K mg base CX0 3 CP "entry_fault_all" (spEfa P w CP)) : FnOk P w K mg base CX0 4 f fd ["self", "moment", "seen", "mask", "known"] (spEf P w CP) := by
  have nd := scEf.nd
  refine F.ok scEf (fun vs H Q E h => ?_) (fun cdv A outer sh H vs Q E hr h => ?_)
  · obtain ⟨_, _, _, _, _, _, _, _, _, _, rfl, _⟩ := h
    rfl
  obtain ⟨a, aW, b, aK, p, s, m, t, kvs, all, rfl, hPA, hv, hB, hl, hm20, hD, hK, q⟩ := h
  refine ⟨_, (pss_cons (ps_if (pt_not (pt_val (pe_mx M_is_position T.clP hr (by first | decide | omega) (no0 (E := fun _ => E0)) (pv 0) (pa_cons (pv 1) (pa_cons (pv 2) pa_nil))))) (pss_one (ps_ret pe_int)) pss_nil)
    (pss_cons (ps_if (pt_not (pt_val (pe_mx M_is_move T.clP hr (by first | decide | omega) (no0 (E := fun _ => E0)) (pv 0) (pa_cons (pv 2) (pa_cons (pv 3) pa_nil))))) (pss_one (ps_ret pe_int)) pss_nil)
    (pss_cons (ps_set (i := 5) nd rfl (Or.inl rfl) (pe_mx M_after_move T.clP hr (by first | decide | omega) (no0 (E := fun _ => E0)) (pv 0) (pa_cons (pv 1) (pa_cons (pv 2) (pa_cons (pv 3) pa_nil)))))
    (pss_cons (ps_if (pt_cmpR op_eq (pv 1) (pe_fldB rfl (pv 0) rfl) (nomark _)) (pss_one (ps_ret (pe_ifExp (pt_cmpR op_notN (pe_mx M_first_bad_completion T.clP hr (by first | decide | omega) (no0 (E := fun _ => E0)) (pv 0) (pa_cons (pv 5) pa_nil)) pe_non (nomark _)) pe_int pe_int))) pss_nil)
    (pss_cons (ps_if (pt_val (pe_mx M_is_broken T.clP hr (by first | decide | omega) (no0 (E := fun _ => E0)) (pv 0) (pa_cons (pv 5) pa_nil))) (pss_one (ps_ret pe_int)) pss_nil)
    (pss_one (ps_ret (pe_ifExp (pt_val (pe_mx M_entry_fault_all T.clP hr (by first | decide | omega) (no0 (E := fun _ => E0)) (pv 0) (pa_cons (pv 1) (pa_cons (pv 5) (pa_cons (pv 4) pa_nil))))) pe_int pe_int)))))))), ?_⟩
  obtain ⟨dx, aT, aR, aO, hA, _⟩ := id hPA
  unfold Vbjpae.entryFault at q
  dsimp only at q
  refine ⟨_, rfl, a, dx, _, rfl, hA, pF_none (by decide +kernel), _, rfl, _, rfl, a, aW, b, p, s, t, rfl, hPA, hv, hB, hl, fun H1 sm1 => ?_⟩
  refine ⟨_, rfl, ?_⟩
  cases c1 : Vbjpae.isPosition p ⟨s, t⟩ with
  | false => rw [if_pos c1] at q; exact if_t rfl (q H1 sm1)
  | true =>
    rw [if_neg (by rw [c1]; simp)] at q
    refine if_f rfl ?_
    have hA1 := sm1 _ _ hA
    have hB1 := sm1 _ _ hB
    refine ⟨_, rfl, a, dx, _, rfl, hA1, pF_none (by decide +kernel), _, rfl, _, rfl, a, aW, b, p, t, m, rfl, hPA.same sm1, hB1, hl, hm20, ?_⟩
    refine ⟨_, rfl, ?_⟩
    cases c2 : Vbjpae.isMove p t m with
    | false => rw [if_pos c2] at q; exact if_t rfl (q H1 sm1)
    | true =>
      rw [if_neg (by rw [c2]; simp)] at q
      refine if_f rfl ?_
      have c6 := hv.c6
      refine ⟨_, rfl, a, dx, _, rfl, hA1, pF_none (by decide +kernel), _, rfl, _, rfl, _, rfl, a, b, s, m, enc t, rfl, hB1, by rw [SPM.enc_len]; omega, fun c H2 hC sm2 => ?_⟩
      rw [← SPM.moved_is hl c2] at hC
      have smA := sm1.trans sm2
      have hA2 := smA _ _ hA
      have hl2 : (Vbjpae.afterMove p s t m).length = p.count := by rw [SPM.afterMove_len, hl]
      have hsd : s ≤ p.deadline := by
        unfold Vbjpae.isPosition at c1
        simp at c1
        exact c1.1
      refine ⟨_, rfl, _, rfl, a, CP, dx, _, _, rfl, hA2, T.clP, T.fD, pF_deadline, rfl, _, rfl, ?_⟩
      rw [dec_int]
      refine if_2 (fun c3 => ?_) (fun c3 => ?_)
      · have es : s = p.deadline := by
          have := of_decide_eq_true c3
          have : (s : Int) = (p.deadline : Int) := this
          omega
        rw [if_pos (by omega : p.deadline ≤ s)] at q
        refine ⟨_, rfl, a, dx, _, rfl, hA2, pF_none (by decide +kernel), _, rfl, a, aW, c, p, _, rfl, hPA.same smA, hv, hC, hl2, fbc_cases fun v H3 sm3 hv3 => ?_⟩
        refine ⟨rfl, _, rfl, ?_⟩
        rcases hv3 with ⟨rfl, e⟩ | ⟨l, x, rfl, e, _⟩
        · rw [if_pos (end_good.mpr e)] at q
          exact if_f (by simp) (q H3 (smA.trans sm3))
        · rw [if_neg (by rw [end_good, e]; simp)] at q
          exact if_t (by simp) (q H3 (smA.trans sm3))
      · have hs : ¬ p.deadline ≤ s := by
          have := of_decide_eq_false c3
          have : ¬ (s : Int) = (p.deadline : Int) := this
          omega
        rw [if_neg hs] at q
        refine ⟨_, rfl, a, dx, _, rfl, hA2, pF_none (by decide +kernel), _, rfl, a, aW, c, p, _, rfl, hPA.same smA, hv, .inl hC, hl2, _, rfl, ?_⟩
        cases c4 : Vbjpae.isBroken p (Vbjpae.afterMove p s t m) with
        | true =>
          rw [if_pos c4] at q
          exact if_t rfl (q H2 smA)
        | false =>
          rw [if_neg (by rw [c4]; simp)] at q
          refine if_f rfl ?_
          refine ⟨_, rfl, a, dx, _, rfl, hA2, pF_none (by decide +kernel), _, rfl, _, rfl, _, rfl, a, aW, c, aK, p, s, _, kvs, all, rfl, hPA.same smA, hv, hC, hl2, hD.same smA, hK, fun H3 sm3 => ?_⟩
          refine ⟨_, rfl, if_2 (fun c5 => ?_) (fun c5 => ?_)⟩
          · rw [if_pos c5] at q
            exact q H3 (smA.trans sm3)
          · rw [if_neg (by rw [c5]; exact Bool.false_ne_true)] at q
            exact q H3 (smA.trans sm3)
theorem ok_isa {f : Addr} {fd : FuncData} (F : Fun K "is_answered" "Plan.is_answered" sIsa f fd) (T : Txt K mg CP CR CE aS) (M_after_move : MetX P w K mg base CX0 1 CP "after_move" spAfterMove) (M_is_broken : MetX P w K mg base CX0 2 CP "is_broken" (spIsBroken CP)) (M_first_bad_completion : MetX P w K mg base CX0 3 CP "first_bad_completion" (spFbc CP)) (M_is_answered_any : MetX P w K mg base CX0 3 CP "is_answered_any" (spIsaa P w CP)) : FnOk P w K mg base CX0 4 f fd ["self", "moment", "seen", "mask", "known"] (spIsa P w CP) := by
  have nd := scIsa.nd
  refine F.ok scIsa (fun vs H Q E h => ?_) (fun cdv A outer sh H vs Q E hr h => ?_)
  · obtain ⟨_, _, _, _, _, _, _, _, _, _, rfl, _⟩ := h
    rfl
  obtain ⟨a, aW, b, aK, p, s, m, t, kvs, all, rfl, hPA, hv, hB, hl, hsd, c2, hD, hK, q⟩ := h
  refine ⟨_, (pss_cons (ps_set (i := 5) nd rfl (Or.inl rfl) (pe_mx M_after_move T.clP hr (by first | decide | omega) (no0 (E := fun _ => E0)) (pv 0) (pa_cons (pv 1) (pa_cons (pv 2) (pa_cons (pv 3) pa_nil)))))
    (pss_cons (ps_if (pt_cmpR op_eq (pv 1) (pe_fldB rfl (pv 0) rfl) (nomark _)) (pss_one (ps_ret (pe_cmpR op_notN (pe_mx M_first_bad_completion T.clP hr (by first | decide | omega) (no0 (E := fun _ => E0)) (pv 0) (pa_cons (pv 5) pa_nil)) pe_non (nomark _)))) pss_nil)
    (pss_one (ps_ret (pe_or (pe_mx M_is_broken T.clP hr (by first | decide | omega) (no0 (E := fun _ => E0)) (pv 0) (pa_cons (pv 5) pa_nil)) (pe_one (pe_mx M_is_answered_any T.clP hr (by first | decide | omega) (no0 (E := fun _ => E0)) (pv 0) (pa_cons (pv 1) (pa_cons (pv 5) (pa_cons (pv 4) pa_nil)))))))))), ?_⟩
  obtain ⟨dx, aT, aR, aO, hA, _⟩ := id hPA
  unfold Vbjpae.isAnswered at q
  dsimp only at q
  have c6 := hv.c6
  refine ⟨_, rfl, a, dx, _, rfl, hA, pF_none (by decide +kernel), _, rfl, _, rfl, _, rfl, a, b, s, m, enc t, rfl, hB, by rw [SPM.enc_len]; omega, fun c H2 hC smA => ?_⟩
  rw [← SPM.moved_is hl c2] at hC
  have hA2 := smA _ _ hA
  have hl2 : (Vbjpae.afterMove p s t m).length = p.count := by rw [SPM.afterMove_len, hl]
  refine ⟨_, rfl, _, rfl, a, CP, dx, _, _, rfl, hA2, T.clP, T.fD, pF_deadline, rfl, _, rfl, ?_⟩
  rw [dec_int]
  refine if_2 (fun c3 => ?_) (fun c3 => ?_)
  · have es : s = p.deadline := by
      have := of_decide_eq_true c3
      have : (s : Int) = (p.deadline : Int) := this
      omega
    rw [if_pos (by omega : p.deadline ≤ s)] at q
    refine ⟨_, rfl, a, dx, _, rfl, hA2, pF_none (by decide +kernel), _, rfl, a, aW, c, p, _, rfl, hPA.same smA, hv, hC, hl2, fbc_cases fun v H3 sm3 hv3 => ?_⟩
    refine ⟨rfl, ?_⟩
    have e : (!decide (v = V.non)) = !Vbjpae.isGoodEnd p (Vbjpae.afterMove p s t m) := by
      congr 1
      rw [Bool.eq_iff_iff, end_good, decide_eq_true_iff]
      rcases hv3 with ⟨rfl, e⟩ | ⟨l, x, rfl, e, _⟩
      · simp [e]
      · simp [e]
    rw [e]
    exact q H3 (smA.trans sm3)
  · have hs : ¬ p.deadline ≤ s := by
      have := of_decide_eq_false c3
      have : ¬ (s : Int) = (p.deadline : Int) := this
      omega
    rw [if_neg hs] at q
    refine ⟨_, rfl, a, dx, _, rfl, hA2, pF_none (by decide +kernel), _, rfl, a, aW, c, p, _, rfl, hPA.same smA, hv, .inl hC, hl2, _, rfl, ?_⟩
    cases c4 : Vbjpae.isBroken p (Vbjpae.afterMove p s t m) with
    | true =>
      rw [c4] at q
      exact if_t rfl (q H2 smA)
    | false =>
      rw [c4] at q
      refine if_f rfl ?_
      exact ⟨_, rfl, a, dx, _, rfl, hA2, pF_none (by decide +kernel), _, rfl, _, rfl, _, rfl, a, aW, c, aK, p, s, _, kvs, all, rfl, hPA.same smA, hv, hC, hl2, hD.same smA, hK, fun H3 sm3 => q H3 (smA.trans sm3)⟩
end
end SP
end

section
set_option Elab.async false
set_option linter.all false
set_option maxRecDepth 100000
set_option maxHeartbeats 4000000
namespace SP
open PySem PySem.Spec PyProof.Rows L2 SPR
open SPM (enc ov)
abbrev sPlanInit : Stmt := inClass (top 12) 0
abbrev nPlanInit : List Str := ["self", "events", "deadline", "tasks", "requirements", "finishes", "e", "task"]
theorem scPlanInit : FnScope ["self", "events", "deadline", "tasks", "requirements", "finishes", "e", "task"] ["self", "events", "deadline", "tasks", "requirements"] (defScope sPlanInit) := ⟨rfl, rfl, rfl, by decide +kernel, rfl, by decide +kernel, by decide +kernel⟩
/-! ### what a test gives, the heap as it was -/
def TEv (t : TE) (σ : Stt) (H : Hp) (v : V) : Prop := ∀ Q : VK, Q v H → t σ H Q
def TTv (t : TT) (σ : Stt) (H : Hp) (b : Bool) : Prop := ∀ Q : Bool → Hp → Prop, Q b H → t σ H Q
section
variable {σ : Stt} {H : Hp} {ta tb tc td : TE} {i j k l : Int} {f g h : Int → Int → Bool}
theorem tev_var {n : Nat} {v : V} (e : σ[n]? = some (some v)) : TEv (tVar n) σ H v := fun _ q => ⟨_, e, q⟩
theorem tev_c {v : V} : TEv (tC v) σ H v := fun _ q => q
theorem tev_op {g : Int → Int → V} (a : TEv ta σ H (.int i)) (b : TEv tb σ H (.int j)) : TEv (tOp (rI0 g) ta tb) σ H (g i j) := fun _ q => a _ (b _ ⟨_, _, rfl, rfl, q⟩)
theorem tev_chain (a : TEv ta σ H (.int i)) (b : TEv tb σ H (.int j)) (c : TEv tc σ H (.int k)) : TEv (tChain (rI0 fun i j => .bl (f i j)) (rI0 fun i j => .bl (g i j)) ta tb tc) σ H (.bl (f i j && g j k)) := fun Q q => a _ (b _ ⟨_, _, rfl, rfl, _, rfl, by
  cases e : f i j with
  | true => rw [e] at q; exact if_t rfl (c _ ⟨_, _, rfl, rfl, q⟩)
  | false => rw [e] at q; exact if_f rfl q⟩)
theorem tev_chain3 (a : TEv ta σ H (.int i)) (b : TEv tb σ H (.int j)) (c : TEv tc σ H (.int k)) (d : TEv td σ H (.int l)) : TEv (tChain3 (rI0 fun i j => .bl (f i j)) (rI0 fun i j => .bl (g i j)) (rI0 fun i j => .bl (h i j)) ta tb tc td) σ H (.bl (f i j && (g j k && h k l))) := fun Q q => a _ (b _ ⟨_, _, rfl, rfl, _, rfl, by
  cases e : f i j with
  | true =>
    rw [e] at q
    refine if_t rfl (c _ ⟨_, _, rfl, rfl, _, rfl, ?_⟩)
    cases e2 : g j k with
    | true => rw [e2] at q; exact if_t rfl (d _ ⟨_, _, rfl, rfl, q⟩)
    | false => rw [e2] at q; exact if_f rfl q
  | false => rw [e] at q; exact if_f rfl q⟩)
theorem tev_andV {b1 b2 : Bool} (a : TEv ta σ H (.bl b1)) (b : TEv tb σ H (.bl b2)) : TEv (tAndV ta tb) σ H (.bl (b1 && b2)) := fun Q q => a _ ⟨_, rfl, by
  cases b1 with
  | true => exact if_t rfl (b _ q)
  | false => exact if_f rfl q⟩
theorem ttv_test {t : TE} {b : Bool} (a : TEv t σ H (.bl b)) : TTv (tTest t) σ H b := fun _ q => a _ ⟨_, rfl, q⟩
theorem ttv_tB {t : TE} {b : Bool} (a : TEv t σ H (.bl b)) : TTv (tB t) σ H b := fun _ q => a _ ⟨_, rfl, q⟩
theorem ttv_and {t u : TT} {b1 b2 : Bool} (a : TTv t σ H b1) (b : TTv u σ H b2) : TTv (tAnd t u) σ H (b1 && b2) := fun Q q => a _ (by
  cases b1 with
  | true => exact if_t rfl (b _ q)
  | false => exact if_f rfl q)
theorem ttv_or {t u : TT} {b1 b2 : Bool} (a : TTv t σ H b1) (b : TTv u σ H b2) : TTv (tOr t u) σ H (b1 || b2) := fun Q q => a _ (by
  cases b1 with
  | true => exact if_t rfl q
  | false => exact if_f rfl (b _ q))
theorem ttv_not {t : TT} {b : Bool} (a : TTv t σ H b) : TTv (tNot t) σ H (!b) := fun _ q => a _ q
theorem ifS_of {c : TT} {t u : TS} {D : Ends} {b : Bool} (h : TTv c σ H b) (h1 : b = true → t D σ H) (h2 : b = false → u D σ H) : tIfS c t u D σ H := h _ (if_2 h1 h2)
end

/-! ### what a plan has to fulfil, as the program asks it -/
def fins (r : RP) : List Int := r.ts.map fun row => row.getD 1 0
def starts (r : RP) : List Int := r.ts.map fun row => row.getD 0 0
def pairs (r : RP) : List (Int × Int) := r.ts.map fun row => (row.getD 1 0, row.getD 0 0)
/-- going back from an event, task by task: whether that ends within so many steps -/
def chase (l : List (Int × Int)) : Nat → Int → Bool
  | 0, _ => false
  | n + 1, e => match l.find? fun q => decide (q.1 = e) with
    | none => true
    | some q => chase l n q.2
structure TOk (r : RP) (row : List Int) : Prop where
  a : 0 ≤ row.getD 0 0 ∧ row.getD 0 0 < r.ev
  b : 0 < row.getD 1 0 ∧ row.getD 1 0 < r.ev
  c : row.getD 1 0 ≠ row.getD 0 0
  d : (fins r).count (row.getD 1 0) = 1
  e : 1 ≤ row.getD 2 0 ∧ row.getD 2 0 ≤ row.getD 3 0 ∧ row.getD 3 0 ≤ 1000
  f : 0 ≤ row.getD 4 0 ∧ row.getD 4 0 ≤ r.dl + 1
  g : row.getD 1 0 ∈ starts r → row.getD 4 0 = 0
structure QOk (r : RP) (row : List Int) : Prop where
  a : 0 ≤ row.getD 0 0 ∧ row.getD 0 0 < r.ev
  b : 0 ≤ row.getD 1 0 ∧ row.getD 1 0 < r.ev
  c : -1000 ≤ row.getD 2 0 ∧ row.getD 2 0 ≤ 1000
structure ValidR (r : RP) : Prop where
  t : ∀ row ∈ r.ts, TOk r row
  ring : ∀ e ∈ fins r, chase (pairs r) (r.ts.length + 1) e = true
  q : ∀ row ∈ r.rs, QOk r row
/-- the program's own list of a raw plan -/
def ownR (r : RP) : List Int := ((List.range r.ev.toNat).map Int.ofNat).filter fun e => !(fins r).contains e
def spPlanInit (P : Program) (w : World) (CP : Addr) : Sp := fun vs H Q _ => ∃ (a dx aT aR : Addr) (ev dl : Int) (ts rs : List (List Int)), vs = [.ref a, .int ev, .int dl, .ref aT, .ref aR] ∧ H a = some (.ins CP dx []) ∧ RowsAt H aT ts ∧ RowsAt H aR rs ∧ 0 ≤ ev ∧ ev ≤ 1000 ∧ (∀ row ∈ ts, row.length = 5) ∧ ts.length ≤ 100000 ∧
  ∀ H' aW aO r, r = RP.mk ev dl ts rs (ownR ⟨ev, dl, ts, rs, []⟩) → PlanAt CP H' a r aW → H' a = some (.ins CP dx (pF r aT aR aO aW)) → H aO = none → PD P w H' aW [] → But a H H' → Q .non H'
def spIsValid (CP : Addr) : Sp := fun vs H Q _ => ∃ (a aW : Addr) (r : RP), vs = [.ref a] ∧ PlanAt CP H a r aW ∧ r.ts.length ≤ 3 ∧ r.rs.length ≤ 20 ∧ (∀ row ∈ r.ts, row.length = 5) ∧ (∀ row ∈ r.rs, row.length = 3) ∧
  ∀ b, (b = true ↔ ValidR r) → ∀ H', Same H H' → Q (.bl b) H'
section
variable {P : Program} {w : World} {K : PySem.W.Frag} {mg : Str → Option Value} {base : Heap} {CP CR CE aS : Addr}
theorem putF_app (f : Str) (v : V) : ∀ fs : List (Str × V), (∀ g ∈ fs.map (·.1), g ≠ f) → putF f v fs = fs ++ [(f, v)]
  | [], _ => rfl
  | (g, x) :: r, h => by
    unfold putF
    rw [if_neg (h g List.mem_cons_self), putF_app f v r fun g' hg' => h g' (List.mem_cons_of_mem _ hg')]
    rfl
theorem key_in (l : List Int) (e : Int) : (valV (mergeK [] (l.map fun z => ((Sum.inl z : Key), V.bl true))) (Sum.inl e)).isSome = l.contains e := by
  have gen : ∀ (l : List Int) (acc : List (Key × V)), (valV (mergeK acc (l.map fun z => ((Sum.inl z : Key), V.bl true))) (Sum.inl e)).isSome = ((valV acc (Sum.inl e)).isSome || l.contains e) := by
    intro l
    induction l with
    | nil => intro acc; simp [mergeK]
    | cons z l ih =>
      intro acc
      show (valV (mergeK (putK acc (Sum.inl z) (.bl true)) (l.map fun z => ((Sum.inl z : Key), V.bl true))) (Sum.inl e)).isSome = _
      rw [ih, valV_put]
      by_cases h : (Sum.inl e : Key) = Sum.inl z
      · have : e = z := Sum.inl.inj h
        subst this
        simp
      · have h2 : ¬ e = z := fun q => h (by rw [q])
        rw [if_neg h]
        have : (z :: l).contains e = l.contains e := by simp [h2]
        rw [this]
  have := gen l []
  simpa [valV_nil] using this
theorem ok_plan_init {f : Addr} {fd : FuncData} (F : Fun K "__init__" "Plan.__init__" sPlanInit f fd) (T : Txt K mg CP CR CE aS) : FnOk P w K mg base CX0 1 f fd ["self", "events", "deadline", "tasks", "requirements"] (spPlanInit P w CP) := by
  have nd := scPlanInit.nd
  refine F.ok scPlanInit (fun vs H Q E h => ?_) (fun cdv A outer sh H vs Q E hr h => ?_)
  · obtain ⟨_, _, _, _, _, _, _, _, rfl, _⟩ := h
    rfl
  obtain ⟨a, dx, aT, aR, ev, dl, ts, rs, rfl, hA, hT, hR, h0, h1, h5, hz, q⟩ := h
  have hu := hu_room hr
  have hu1 := hu1_room hr
  refine ⟨_, (pss_cons (ps_fld (pv 0) (pv 1) rfl)
    (pss_cons (ps_fld (pv 0) (pv 2) rfl)
    (pss_cons (ps_fld (pv 0) (pv 3) rfl)
    (pss_cons (ps_fld (pv 0) (pv 4) rfl)
    (pss_cons (ps_set (i := 5) nd rfl (Or.inr rfl) (pe_callTy (call_dictP rfl) (by rfl) T.m_dict (by decide +kernel) (pa_cons (pe_lc (own := [("task", 7)]) rfl nd (pi_list (pv 3)) (blkOk_by (own := [("task", 7)]) (N := ["self", "events", "deadline", "tasks", "requirements", "finishes", "e", "task"]) (sc := (defScope sPlanInit)) (by decide +kernel)) (fun _ _ _ _ _ => (pg_name (i := 7) nd rfl (Or.inl rfl) (Or.inr rfl))) (fun _ _ _ _ _ => pts_nil) (fun _ _ _ _ _ => (pe_tup (pa_cons (pe_ix (ix_tupB blkK) (pv 7) pe_int (fun _ _ => rfl)) (pa_cons pe_bl pa_nil))))) pa_nil)))
    (pss_cons (ps_fld (pv 0) (pe_lc (own := [("e", 6)]) rfl nd (pi_range1 rfl T.m_range (pa_cons (pv 1) pa_nil)) (blkOk_by (own := [("e", 6)]) (N := ["self", "events", "deadline", "tasks", "requirements", "finishes", "e", "task"]) (sc := (defScope sPlanInit)) (by decide +kernel)) (fun _ _ _ _ _ => (pg_name (i := 6) nd rfl (Or.inl rfl) (Or.inr rfl))) (fun _ _ _ _ _ => (pts_one (pt_cmp (pc_dnotin hu1 (pv 6) (pv 5)) rfl))) (fun _ _ _ _ _ => (pv 6))) rfl)
    (pss_one (ps_fld (pv 0) pe_pnew rfl)))))))), ?_⟩
  have l1000 : ∀ n : Nat, n ≤ 6 → n < 1000 := fun n h => by omega
  refine ⟨_, rfl, _, rfl, a, CP, dx, _, rfl, hA, T.clP, T.fE, by show 0 < 1000; decide, ?_⟩
  refine ⟨_, rfl, _, rfl, a, CP, dx, _, rfl, upd_same, T.clP, T.fD, by show 1 < 1000; decide, ?_⟩
  refine ⟨_, rfl, _, rfl, a, CP, dx, _, rfl, upd_same, T.clP, T.fT, ?_, ?_⟩
  · show (putF "deadline" (.int dl) (putF "events" (.int ev) [])).length < 1000
    rw [putF_app _ _ (putF "events" (.int ev) []) (by show ∀ g ∈ (["events"] : List Str), g ≠ "deadline"; decide +kernel)]
    show 2 < 1000
    decide
  have p2 : putF "deadline" (V.int dl) (putF "events" (V.int ev) []) = ([("events", .int ev), ("deadline", .int dl)] : List (Str × V)) := by
    rw [putF_app _ _ (putF "events" (.int ev) []) (by show ∀ g ∈ (["events"] : List Str), g ≠ "deadline"; decide +kernel)]; rfl
  rw [p2]
  have p3 : putF "tasks" (V.ref aT) ([("events", .int ev), ("deadline", .int dl)] : List (Str × V)) = ([("events", .int ev), ("deadline", .int dl), ("tasks", .ref aT)] : List (Str × V)) := putF_app _ _ _ (by show ∀ g ∈ (["events", "deadline"] : List Str), g ≠ "tasks"; decide +kernel)
  rw [p3]
  refine ⟨_, rfl, _, rfl, a, CP, dx, _, rfl, upd_same, T.clP, T.fR, by show 3 < 1000; decide, ?_⟩
  have p4 : putF "requirements" (V.ref aR) ([("events", .int ev), ("deadline", .int dl), ("tasks", .ref aT)] : List (Str × V)) = ([("events", .int ev), ("deadline", .int dl), ("tasks", .ref aT), ("requirements", .ref aR)] : List (Str × V)) := putF_app _ _ _ (by show ∀ g ∈ (["events", "deadline", "tasks"] : List Str), g ≠ "requirements"; decide +kernel)
  rw [p4, upd_upd, upd_upd, upd_upd]
  -- the heap: a's four fields written
  obtain ⟨qs, hT1, hq⟩ := id hT
  have nAT : aT ≠ a := ne_of hT1 hA fun z => nomatch z
  have b4 := but_upd H a (.ins CP dx [("events", .int ev), ("deadline", .int dl), ("tasks", .ref aT), ("requirements", .ref aR)])
  have hA4 : (upd H a (.ins CP dx [("events", .int ev), ("deadline", .int dl), ("tasks", .ref aT), ("requirements", .ref aR)])) a = _ := upd_same
  generalize upd H a (.ins CP dx [("events", .int ev), ("deadline", .int dl), ("tasks", .ref aT), ("requirements", .ref aR)]) = H4 at b4 hA4
  have hT4 := b4 _ _ hT1 nAT
  have hq4 : Paired (fun q r => H4 q = some (.tup (r.map V.int))) qs ts := Paired.mapP hq fun q r z => b4 _ _ z (ne_of z hA fun z => nomatch z)
  have lq : qs.length = ts.length := Paired.length hq
  -- finishes
  refine ⟨_, rfl, aT, rfl, ⟨_, .inl (.inl hT4)⟩, fun c hc => ?_⟩
  have nTc : aT ≠ c := ne_of_none hT4 hc
  refine lc_it (walk_list (xs := qs.map V.ref)) (fun i H1 => But c H4 H1 ∧ ∃ ps : List Addr, H1 c = some (.lst (ps.map V.ref)) ∧ Paired (fun p (kv : Key × V) => H1 p = some (.tup [kV kv.1, kv.2])) ps ((ts.take i).map fun row => ((Sum.inl (row.getD 1 0) : Key), V.bl true))) ⟨but_upd H4 c _, [], upd_same, .nil⟩ (fun i H1 _ h => .inl (.inl (h.1 _ _ hT4 nTc))) (fun i x H1 H2 hi hP hY => ?_) (fun H1 h => ?_)
  · obtain ⟨hb, ps, hC, hp⟩ := hP
    obtain ⟨eH, hx⟩ := hY
    subst eH
    rw [List.length_map] at hi
    rw [List.getElem?_map] at hx
    obtain ⟨qk, hqk, rfl⟩ := Option.map_eq_some_iff.mp hx
    obtain ⟨row, hrow, hrq⟩ := paired_at hq4 i qk hqk
    have hrq2 := hb _ _ hrq (ne_of_none hrq hc)
    have l5 := h5 row (List.mem_of_getElem? hrow)
    have hr1 : (row.map V.int)[1]? = some (V.int (row.getD 1 0)) := by
      have : row[1]? = some (row.getD 1 0) := by simp [List.getD_eq_getElem?_getD, List.getElem?_eq_getElem (show 1 < row.length by omega)]
      rw [List.getElem?_map, this]; rfl
    refine ⟨rfl, ?_⟩
    dsimp only [tYes]
    rw [if_pos rfl]
    refine ⟨_, rfl, qk, _, 1, _, rfl, rfl, .inl (.inl hrq2), atI_nat (j := 1) hr1, ?_⟩
    refine ⟨by show 2 ≤ sizeLine; rw [sizeLine_eq]; decide, fun p hp0 => ?_⟩
    have np : c ≠ p := ne_of_none hC hp0
    refine ⟨_, by rw [upd_ne np]; exact hC, ?_, (hb.same (same_at _ hp0)).trans (but_upd _ c _), ps ++ [p], by rw [upd_same, List.map_append]; rfl, ?_⟩
    · rw [List.length_map, Paired.length hp, List.length_map, List.length_take]
      exact small_lt (by omega)
    · rw [List.take_add_one, hrow, List.map_append]
      refine Paired.snoc (Paired.mapP hp fun p' kv z => ?_) ?_
      · have n1 : p' ≠ p := ne_of_none z hp0
        have n2 : p' ≠ c := ne_of z hC fun z => nomatch z
        rw [upd_ne n2, upd_ne n1]; exact z
      · rw [upd_ne np.symm]; exact upd_same
  obtain ⟨hb, ps, hC, hp⟩ := h
  rw [List.length_map, lq, List.take_length] at hp
  have sm1 : Same H4 H1 := But.of_new hc hb
  refine ⟨c, ps, _, rfl, .inl (.inl hC), Paired.mapP hp fun _ _ z => .inl (.inl z), fun d hd => ?_⟩
  have sm2 : Same H4 (upd H1 d (.dK (mergeK [] (ts.map fun row => ((Sum.inl (row.getD 1 0) : Key), V.bl true))))) := sm1.trans (same_at _ hd)
  have hD : (upd H1 d (.dK (mergeK [] (ts.map fun row => ((Sum.inl (row.getD 1 0) : Key), V.bl true))))) d = _ := upd_same
  generalize upd H1 d (.dK (mergeK [] (ts.map fun row => ((Sum.inl (row.getD 1 0) : Key), V.bl true)))) = H5 at sm2 hD
  clear hb hp hC sm1 hc nTc
  have ekv : (ts.map fun row => ((Sum.inl (row.getD 1 0) : Key), V.bl true)) = (fins ⟨ev, dl, ts, rs, []⟩).map fun z => ((Sum.inl z : Key), V.bl true) := by unfold fins; rw [List.map_map]; rfl
  rw [ekv] at hD
  -- own
  have hev : ∃ n : Nat, ev = (n : Int) := ⟨ev.toNat, by omega⟩
  obtain ⟨nn, rfl⟩ := hev
  refine ⟨_, rfl, _, rfl, by omega, by omega, ?_⟩
  rw [Int.toNat_natCast]
  intro o ho
  have nDo : d ≠ o := ne_of_none hD ho
  refine lc_it walk_range (fun i H1 => But o H5 H1 ∧ H1 o = some (.lst (iv (((List.range i).map Int.ofNat).filter fun e => !(fins ⟨(nn : Int), dl, ts, rs, []⟩).contains e)))) ⟨but_upd H5 o _, upd_same⟩ (fun _ _ _ _ => trivial) (fun i x H1 H2 hi hP hY => ?_) (fun H1 h => ?_)
  · obtain ⟨hb, hO⟩ := hP
    obtain ⟨eH, rfl⟩ := hY
    subst eH
    have hD2 := hb _ _ hD nDo
    refine ⟨rfl, ?_⟩
    dsimp only
    rw [Int.zero_add]
    refine ⟨_, rfl, _, rfl, d, _, rfl, .inl ⟨_, Sum.inl (i : Int), .inl hD2, rfl, rfl⟩, _, rfl, ?_⟩
    rw [key_in]
    have stp : ((List.range (i + 1)).map Int.ofNat).filter (fun e => !(fins ⟨(nn : Int), dl, ts, rs, []⟩).contains e) = ((List.range i).map Int.ofNat).filter (fun e => !(fins ⟨(nn : Int), dl, ts, rs, []⟩).contains e) ++ (if (!(fins ⟨(nn : Int), dl, ts, rs, []⟩).contains (i : Int)) = true then [(i : Int)] else []) := by
      rw [List.range_succ, List.map_append, List.filter_append]
      congr 1
      simp only [List.map_cons, List.map_nil, List.filter_cons, List.filter_nil]
      rfl
    refine if_2 (fun c1 => ?_) (fun c1 => ?_)
    · refine ⟨_, rfl, _, hO, ?_, hb.trans (but_upd _ o _), ?_⟩
      · rw [iv_len]
        refine small_lt (Nat.lt_of_le_of_lt (List.length_filter_le _ _) ?_)
        rw [List.length_map, List.length_range]; omega
      · rw [upd_same, stp, if_pos c1]
        simp [iv]
    · refine ⟨hb, ?_⟩
      rw [hO, stp, if_neg (by rw [c1]; exact Bool.false_ne_true), List.append_nil]
  obtain ⟨hb, hO⟩ := h
  have sm6 : Same H4 H1 := sm2.trans (But.of_new ho hb)
  have hA6 := sm6 _ _ hA4
  refine ⟨_, rfl, a, CP, dx, _, rfl, hA6, T.clP, T.fO, by show 4 < 1000; decide, ?_⟩
  have p5 : putF "own" (V.ref o) ([("events", .int (nn : Int)), ("deadline", .int dl), ("tasks", .ref aT), ("requirements", .ref aR)] : List (Str × V)) = ([("events", .int (nn : Int)), ("deadline", .int dl), ("tasks", .ref aT), ("requirements", .ref aR), ("own", .ref o)] : List (Str × V)) := putF_app _ _ _ (by show ∀ g ∈ (["events", "deadline", "tasks", "requirements"] : List Str), g ≠ "own"; decide +kernel)
  rw [p5]
  intro aW H7 hW0 hPD hoth
  have nAW : a ≠ aW := ne_of_none (o := .ins _ _ _) upd_same hW0
  refine ⟨_, rfl, a, CP, dx, _, rfl, by rw [hoth _ nAW]; exact upd_same, T.clP, T.fW, by show 5 < 1000; decide, ?_⟩
  have p6 : putF "won" (V.ref aW) ([("events", .int (nn : Int)), ("deadline", .int dl), ("tasks", .ref aT), ("requirements", .ref aR), ("own", .ref o)] : List (Str × V)) = pF ⟨(nn : Int), dl, ts, rs, ownR ⟨(nn : Int), dl, ts, rs, []⟩⟩ aT aR o aW := putF_app _ _ _ (by show ∀ g ∈ (["events", "deadline", "tasks", "requirements", "own"] : List Str), g ≠ "won"; decide +kernel)
  rw [p6]
  have bu : ∀ b o', b ≠ a → H4 b = some o' → (upd H7 a (.ins CP dx (pF ⟨(nn : Int), dl, ts, rs, ownR ⟨(nn : Int), dl, ts, rs, []⟩⟩ aT aR o aW))) b = some o' := fun b o' n e => by
    have e6 := sm6 _ _ e
    have : (upd H1 a (.ins CP dx [("events", .int (nn : Int)), ("deadline", .int dl), ("tasks", .ref aT), ("requirements", .ref aR), ("own", .ref o)])) b = some o' := by rw [upd_ne n]; exact e6
    rw [upd_ne n, hoth b (ne_of_none this hW0)]
    exact this
  have kp : ∀ b o', b ≠ a → H1 b = some o' → (upd H7 a (.ins CP dx (pF ⟨(nn : Int), dl, ts, rs, ownR ⟨(nn : Int), dl, ts, rs, []⟩⟩ aT aR o aW))) b = some o' := fun b o' n e => by
    have : (upd H1 a (.ins CP dx [("events", .int (nn : Int)), ("deadline", .int dl), ("tasks", .ref aT), ("requirements", .ref aR), ("own", .ref o)])) b = some o' := by rw [upd_ne n]; exact e
    rw [upd_ne n, hoth b (ne_of_none this hW0)]
    exact this
  have oN : H o = none := by
    cases e : H o with
    | none => rfl
    | some u =>
      by_cases z : o = a
      · rw [z] at ho
        rw [sm2 _ _ hA4] at ho
        cases ho
      · rw [sm2 _ _ (b4 _ _ e z)] at ho
        cases ho
  refine q _ aW o _ rfl ⟨dx, aT, aR, o, upd_same, ?_, ?_, ?_⟩ upd_same oN ?_ ?_
  · exact ⟨qs, bu _ _ nAT hT4, Paired.mapP hq4 fun q' r' z => bu _ _ (ne_of z hA4 fun z => nomatch z) z⟩
  · obtain ⟨qs2, hR1, hq2⟩ := hR
    exact ⟨qs2, bu _ _ (ne_of hR1 hA fun z => nomatch z) (b4 _ _ hR1 (ne_of hR1 hA fun z => nomatch z)), Paired.mapP hq2 fun q' r' z => bu _ _ (ne_of z hA fun z => nomatch z) (b4 _ _ z (ne_of z hA fun z => nomatch z))⟩
  · have no : o ≠ a := ne_of hO hA6 fun z => nomatch z
    refine (kp _ _ no hO).trans ?_
    rfl
  · refine hPD.keep (upd_ne nAW.symm) fun b ys e => ?_
    have : b ≠ a := by
      intro z
      subst z
      rw [hoth _ nAW, upd_same] at e
      cases e
    rw [upd_ne this]; exact e
  · exact fun b o' e n => bu _ _ n (b4 _ _ e n)
end
end SP
end

section
set_option Elab.async false
set_option linter.all false
set_option maxRecDepth 100000
set_option maxHeartbeats 4000000
namespace SP
open PySem PySem.Spec PyProof.Rows L2 SPR
open SPM (enc ov)
abbrev sIsValid : Stmt := inClass (top 12) 1
abbrev nIsValid : List Str := ["self", "events", "deadline", "finishes", "starts", "start", "finish", "least", "greatest", "delay", "following", "event", "broken", "unused", "task", "least_2", "greatest_2", "delay_2", "source", "target", "number"]
theorem scIsValid : FnScope ["self", "events", "deadline", "finishes", "starts", "start", "finish", "least", "greatest", "delay", "following", "event", "broken", "unused", "task", "least_2", "greatest_2", "delay_2", "source", "target", "number"] ["self"] (defScope sIsValid) := ⟨rfl, rfl, rfl, by decide +kernel, rfl, by decide +kernel, by decide +kernel⟩
abbrev iv4 (a lf ls : Addr) (ev dl : Int) (x5 x6 x7 x8 x9 : Option V) : Stt := [some (.ref a), some (.int ev), some (.int dl), some (.ref lf), some (.ref ls), x5, x6, x7, x8, x9, none, none, none, none, none, none, none, none, none, none, none]
abbrev iv6 (a lf ls d : Addr) (ev dl : Int) (x5 x6 x7 x8 x9 x11 x12 x13 : Option V) : Stt := [some (.ref a), some (.int ev), some (.int dl), some (.ref lf), some (.ref ls), x5, x6, x7, x8, x9, some (.ref d), x11, x12, x13, none, none, none, none, none, none, none]
theorem rows_raw {H : Hp} {qs : List Addr} {ts : List (List Int)} (r : Paired (fun q r => H q = some (.tup (r.map V.int))) qs ts) {i : Nat} {x : V} (h : (qs.map V.ref)[i]? = some x) : ∃ q row, x = .ref q ∧ ts[i]? = some row ∧ H q = some (.tup (iv row)) := by
  rw [List.getElem?_map] at h
  obtain ⟨q, hq, rfl⟩ := Option.map_eq_some_iff.mp h
  obtain ⟨y, h1, h2⟩ := paired_at r i q hq
  exact ⟨q, y, rfl, h1, h2⟩
theorem len5 {row : List Int} (h : row.length = 5) : ∃ a b c d e, row = [a, b, c, d, e] := by
  match row, h with
  | [a, b, c, d, e], _ => exact ⟨a, b, c, d, e, rfl⟩
theorem len3 {row : List Int} (h : row.length = 3) : ∃ a b c, row = [a, b, c] := by
  match row, h with
  | [a, b, c], _ => exact ⟨a, b, c, rfl⟩
theorem inV_iv (z : Int) (xs : List Int) : inV (.int z) (iv xs) = decide (z ∈ xs) := by
  unfold inV
  rw [Bool.eq_iff_iff, List.any_eq_true, decide_eq_true_iff]
  constructor
  · rintro ⟨v, hv, e⟩
    obtain ⟨y, hy, rfl⟩ := List.mem_map.mp hv
    have : y = z := by simpa [eqV] using e
    exact this ▸ hy
  · intro h
    exact ⟨.int z, List.mem_map.mpr ⟨z, h, rfl⟩, by simp [eqV]⟩
theorem iv_flat (xs : List Int) : (iv xs).all flatV = true := by
  rw [List.all_eq_true]
  intro v hv
  obtain ⟨z, _, rfl⟩ := List.mem_map.mp hv
  rfl
theorem merge_new (more : List (Key × V)) : ∀ acc : List (Key × V), ((acc ++ more).map (·.1)).Nodup → mergeK acc more = acc ++ more := by
  induction more with
  | nil => intro acc _; simp [mergeK]
  | cons kv more ih =>
    intro acc h
    have hn : valV acc kv.1 = none := by
      cases e : valV acc kv.1 with
      | none => rfl
      | some v =>
        have hin := valV_in e
        rw [List.map_append, List.map_cons] at h
        have := (List.nodup_append.mp h).2.2 _ hin _ List.mem_cons_self
        exact absurd rfl this
    show mergeK (putK acc kv.1 kv.2) more = _
    rw [putK_new _ hn, ih _ (by rw [List.append_assoc]; exact h), List.append_assoc]
    rfl
theorem get_pairs (l : List (Int × Int)) (h : (l.map (·.1)).Nodup) (e : Int) : valV (mergeK [] (l.map fun q => ((Sum.inl q.1 : Key), V.int q.2))) (Sum.inl e) = (l.find? fun q => decide (q.1 = e)).map fun q => V.int q.2 := by
  rw [merge_new]
  · rw [List.nil_append]
    clear h
    induction l with
    | nil => rfl
    | cons q l ih =>
      rw [List.map_cons, List.find?_cons]
      by_cases h : q.1 = e
      · rw [valV_pos (by rw [h]), decide_eq_true h]; rfl
      · rw [valV_neg (fun z => h (Sum.inl.inj z)), decide_eq_false h]; exact ih
  · rw [List.nil_append, List.map_map]
    have : (l.map ((fun x : Key × V => x.1) ∘ fun q : Int × Int => ((Sum.inl q.1 : Key), V.int q.2))) = (l.map (·.1)).map Sum.inl := by rw [List.map_map]; rfl
    rw [this]
    exact List.Pairwise.map _ (fun a b hab z => hab (Sum.inl.inj z)) h
def qB (r : RP) (a0 a1 a2 : Int) : Bool := (decide (0 ≤ a0) && decide (a0 < r.ev)) && ((decide (0 ≤ a1) && decide (a1 < r.ev)) && (decide (-1000 ≤ a2) && decide (a2 ≤ 1000)))
section
variable {P : Program} {w : World} {K : PySem.W.Frag} {mg : Str → Option Value} {base : Heap} {CP CR CE aS : Addr}
theorem chase_none {l : List (Int × Int)} {n : Nat} {e : Int} (h : (l.find? fun q => decide (q.1 = e)) = none) : chase l (n + 1) e = true := by
  unfold chase
  rw [h]
theorem chase_some {l : List (Int × Int)} {n : Nat} {e : Int} {q : Int × Int} (h : (l.find? fun q => decide (q.1 = e)) = some q) : chase l (n + 1) e = chase l n q.2 := by
  rw [chase, h]
theorem ok_is_valid {f : Addr} {fd : FuncData} (F : Fun K "is_valid" "Plan.is_valid" sIsValid f fd) (T : Txt K mg CP CR CE aS) : FnOk P w K mg base CX0 1 f fd ["self"] (spIsValid CP) := by
  have nd := scIsValid.nd
  refine F.ok scIsValid (fun vs H Q E h => ?_) (fun cdv A outer sh H vs Q E hr h => ?_)
  · obtain ⟨_, _, _, rfl, _⟩ := h
    rfl
  obtain ⟨a, aW, r, rfl, ⟨dx, aT, aR, aO, hA, ⟨qs, hT, hq⟩, ⟨qs2, hR, hq2⟩, hO⟩, ht3, hr20, h5, h3, q⟩ := h
  have hu := hu_room hr
  have hu1 := hu1_room hr
  refine ⟨_, (pss_cons (ps_asg (pe_tup (pa_cons (pe_fldB rfl (pv 0) rfl) (pa_cons (pe_fldB rfl (pv 0) rfl) pa_nil))) (pg_tupB (n := 2) rfl rfl (pgs_cons (pg_name (i := 1) nd rfl (Or.inr rfl)) (pgs_cons (pg_name (i := 2) nd rfl (Or.inl rfl)) pgs_nil))))
    (pss_cons (ps_setLc (i := 3) (own := [("task", 14)]) rfl nd rfl rfl (sw_true rfl rfl rfl (by decide +kernel)) (pi_list (pe_fldB rfl (pv 0) rfl)) (blkOk_by (own := [("task", 14)]) (N := ["self", "events", "deadline", "finishes", "starts", "start", "finish", "least", "greatest", "delay", "following", "event", "broken", "unused", "task", "least_2", "greatest_2", "delay_2", "source", "target", "number"]) (sc := (defScope sIsValid)) (by decide +kernel)) (fun _ _ _ _ _ => (pg_name (i := 14) nd rfl (Or.inl rfl) (Or.inr rfl))) (fun _ _ _ _ _ => pts_nil) (fun _ _ _ _ _ => (pe_ix (ix_tupB blkK) (pv 14) pe_int (fun _ _ => rfl))))
    (pss_cons (ps_setLc (i := 4) (own := [("task", 14)]) rfl nd rfl rfl (sw_true rfl rfl rfl (by decide +kernel)) (pi_list (pe_fldB rfl (pv 0) rfl)) (blkOk_by (own := [("task", 14)]) (N := ["self", "events", "deadline", "finishes", "starts", "start", "finish", "least", "greatest", "delay", "following", "event", "broken", "unused", "task", "least_2", "greatest_2", "delay_2", "source", "target", "number"]) (sc := (defScope sIsValid)) (by decide +kernel)) (fun _ _ _ _ _ => (pg_name (i := 14) nd rfl (Or.inl rfl) (Or.inr rfl))) (fun _ _ _ _ _ => pts_nil) (fun _ _ _ _ _ => (pe_ix (ix_tupB blkK) (pv 14) pe_int (fun _ _ => rfl))))
    (pss_cons (ps_for PassesOwn.never rfl (pi_list (pe_fldB rfl (pv 0) rfl)) (pg_tupB (n := 5) rfl rfl (pgs_cons (pg_name (i := 5) nd rfl (Or.inl rfl)) (pgs_cons (pg_name (i := 6) nd rfl (Or.inl rfl)) (pgs_cons (pg_name (i := 7) nd rfl (Or.inl rfl)) (pgs_cons (pg_name (i := 8) nd rfl (Or.inl rfl)) (pgs_cons (pg_name (i := 9) nd rfl (Or.inl rfl)) pgs_nil)))))) (pss_cons (ps_if (pt_not (PW.pt (pw_and (pt_chain op_le op_lt pe_int (pv 5) (pv 1)) (pw_and (pt_chain op_lt op_lt pe_int (pv 6) (pv 1)) (pw_and (pt_cmpR op_ne (pv 6) (pv 5) (nomark _)) (pw_and1 (pt_cmpR op_eq (pe_bm PySem.F.plainAttrs_list PySem.F.slot_list_count PySem.F.type_list_count mt_lcount (pv 3) (pa_cons (pv 6) pa_nil)) pe_int (nomark _)))))))) (pss_one (ps_ret pe_bl)) pss_nil)
    (pss_cons (ps_if (pt_not (PW.pt (pw_and (pt_chain3 op_le op_le op_le pe_int (pv 7) (pv 8) pe_int) (pw_and1 (pt_chain op_le op_le pe_int (pv 9) (pe_op op_add (pv 2) pe_int)))))) (pss_one (ps_ret pe_bl)) pss_nil)
    (pss_one (ps_if (PW.pt (pw_and (pt_cmpR op_in_seq (pv 6) (pv 4) (by rfl)) (pw_and1 (pt_cmpR op_ne (pv 9) pe_int (nomark _))))) (pss_one (ps_ret pe_bl)) pss_nil)))))
    (pss_cons (ps_set (i := 10) nd rfl (Or.inl rfl) (pe_callTy (call_dictP rfl) (by rfl) T.m_dict (by decide +kernel) (pa_cons (pe_lc (own := [("start", 5), ("finish", 6), ("least_2", 15), ("greatest_2", 16), ("delay_2", 17)]) rfl nd (pi_list (pe_fldB rfl (pv 0) rfl)) (blkOk_by (own := [("start", 5), ("finish", 6), ("least_2", 15), ("greatest_2", 16), ("delay_2", 17)]) (N := ["self", "events", "deadline", "finishes", "starts", "start", "finish", "least", "greatest", "delay", "following", "event", "broken", "unused", "task", "least_2", "greatest_2", "delay_2", "source", "target", "number"]) (sc := (defScope sIsValid)) (by decide +kernel)) (fun _ _ _ _ _ => (pg_tupB (n := 5) blkK rfl (pgs_cons (pg_name (i := 5) nd rfl (Or.inl rfl) (Or.inr rfl)) (pgs_cons (pg_name (i := 6) nd rfl (Or.inl rfl) (Or.inr rfl)) (pgs_cons (pg_name (i := 15) nd rfl (Or.inl rfl) (Or.inr rfl)) (pgs_cons (pg_name (i := 16) nd rfl (Or.inl rfl) (Or.inr rfl)) (pgs_cons (pg_name (i := 17) nd rfl (Or.inl rfl) (Or.inr rfl)) pgs_nil))))))) (fun _ _ _ _ _ => pts_nil) (fun _ _ _ _ _ => (pe_tup (pa_cons (pv 6) (pa_cons (pv 5) pa_nil))))) pa_nil)))
    (pss_cons (ps_for PassesOwn.never rfl (pi_list (pv 3)) (pg_name (i := 11) nd rfl (Or.inl rfl)) (pss_cons (ps_set (i := 12) nd rfl (Or.inl rfl) pe_bl)
    (pss_cons (ps_for PassesOwn.never rfl (pi_range1 rfl T.m_range (pa_cons (pe_op op_add (pe_callB (call_lenQ rfl) (by rfl) T.m_len (by decide +kernel) (pa_cons (pe_fldB rfl (pv 0) rfl) pa_nil)) pe_int) pa_nil)) (pg_name (i := 13) nd rfl (Or.inl rfl)) (pss_cons (ps_set (i := 11) nd rfl (Or.inl rfl) (pe_dget1 hu1 (pv 10) (pv 11) ⟨rfl, rfl, rfl, rfl⟩))
    (pss_one (ps_if (pt_cmpR op_isN (pv 11) pe_non (nomark _)) (pss_cons (ps_set (i := 12) nd rfl (Or.inl rfl) pe_bl)
    (pss_one ps_break)) pss_nil))))
    (pss_one (ps_if (pt_not (pt_val (pv 12))) (pss_one (ps_ret pe_bl)) pss_nil)))))
    (pss_one (ps_ret (pe_callB (cr_all rfl) (by rfl) T.m_all (by decide +kernel) (pa_cons (pe_lc (own := [("source", 18), ("target", 19), ("number", 20)]) rfl nd (pi_list (pe_fldB rfl (pv 0) rfl)) (blkOk_by (own := [("source", 18), ("target", 19), ("number", 20)]) (N := ["self", "events", "deadline", "finishes", "starts", "start", "finish", "least", "greatest", "delay", "following", "event", "broken", "unused", "task", "least_2", "greatest_2", "delay_2", "source", "target", "number"]) (sc := (defScope sIsValid)) (by decide +kernel)) (fun _ _ _ _ _ => (pg_tupB (n := 3) blkK rfl (pgs_cons (pg_name (i := 18) nd rfl (Or.inl rfl) (Or.inr rfl)) (pgs_cons (pg_name (i := 19) nd rfl (Or.inl rfl) (Or.inr rfl)) (pgs_cons (pg_name (i := 20) nd rfl (Or.inl rfl) (Or.inr rfl)) pgs_nil))))) (fun _ _ _ _ _ => pts_nil) (fun _ _ _ _ _ => (pe_and (pe_chain op_le op_lt pe_int (pv 18) (pv 1)) (pe_and (pe_chain op_le op_lt pe_int (pv 19) (pv 1)) (pe_one (pe_chain op_le op_le (pe_un un_neg pe_int) (pv 20) pe_int)))))) pa_nil)))))))))), ?_⟩
  have lq : qs.length = r.ts.length := Paired.length hq
  have lq2 : qs2.length = r.rs.length := Paired.length hq2
  have no : ∀ H', Same H H' → ¬ ValidR r → Q (.bl false) H' := fun H' sm h => q false ⟨fun z => (nomatch z), fun z => absurd z h⟩ H' sm
  refine ⟨_, rfl, a, CP, dx, _, _, rfl, hA, T.clP, T.fE, pF_events, _, rfl, a, CP, dx, _, _, rfl, hA, T.clP, T.fD, pF_deadline, by show 2 ≤ sizeLine; rw [sizeLine_eq]; decide, fun u hu0 => ?_⟩
  refine ⟨u, _, rfl, .inl (.inl upd_same), rfl, _, _, rfl, _, _, rfl, rfl, ?_⟩
  have sm0 : Same H (upd H u (.tup [.int r.ev, .int r.dl])) := same_at _ hu0
  generalize upd H u (.tup [.int r.ev, .int r.dl]) = H0 at sm0
  -- a column of the tasks
  have col : ∀ (σ : Stt) (n : Nat) (Q' : VK) (G : Hp), n < 5 → σ[0]? = some (some (.ref a)) → (∀ v, ((wipe σ [14]).set 14 (some v))[14]? = some (some v)) → (∀ v, wipe ((wipe σ [14]).set 14 (some v)) [14] = wipe σ [14]) → Same H G → (∀ c G', G c = none → Same G G' → G' c = some (.lst (iv (r.ts.map fun row => row.getD n 0))) → Q' (.ref c) G') →
      (tLc (iList K (tFld K (tVar 0) "tasks")) (gName 14) tYes (tOp (rIxT K) (tVar 14) (tC (.int (n : Int)))) [14]) σ G Q' := fun σ n Q' G hn hs0 hs1 hs2 smG hQ => by
    have hTG := smG _ _ hT
    refine ⟨_, hs0, a, CP, dx, _, _, rfl, smG _ _ hA, T.clP, T.fT, pF_tasks, aT, rfl, ⟨_, .inl (.inl hTG)⟩, fun c hc => ?_⟩
    have nc : aT ≠ c := ne_of_none hTG hc
    refine lc_it (walk_list (xs := qs.map V.ref)) (fun i H1 => But c G H1 ∧ H1 c = some (.lst (iv ((r.ts.take i).map fun row => row.getD n 0)))) ⟨but_upd G c _, upd_same⟩ (fun i H1 _ h => .inl (.inl (h.1 _ _ hTG nc))) (fun i x H1 H2 hi hP hY => ?_) (fun H1 h => ?_)
    · obtain ⟨hb, hC⟩ := hP
      obtain ⟨eH, hx⟩ := hY
      subst eH
      obtain ⟨qk, row, rfl, hrow, hrq⟩ := rows_raw hq hx
      rw [List.length_map] at hi
      have hrq2 := hb _ _ (smG _ _ hrq) (ne_of_none (smG _ _ hrq) hc)
      have l5 := h5 row (List.mem_of_getElem? hrow)
      have hrn : (iv row)[n]? = some (V.int (row.getD n 0)) := by
        have : row[n]? = some (row.getD n 0) := by simp [List.getD_eq_getElem?_getD, List.getElem?_eq_getElem (show n < row.length by omega)]
        rw [List.getElem?_map, this]; rfl
      refine ⟨hs2 _, ?_⟩
      dsimp only [tYes]
      rw [if_pos rfl]
      refine ⟨_, hs1 _, qk, _, (n : Int), _, rfl, rfl, .inl (.inl hrq2), atI_nat hrn, ?_⟩
      refine ⟨_, hC, ?_, hb.trans (but_upd _ c _), ?_⟩
      · rw [iv_len, List.length_map, List.length_take]; exact small_lt (by omega)
      · rw [upd_same, List.take_add_one, hrow]
        simp [iv]
    · obtain ⟨hb, hC⟩ := h
      rw [List.length_map, lq, List.take_length] at hC
      exact hQ c H1 hc (But.of_new hc hb) hC
  dsimp only [tSeq, tAsg]
  refine col [some (.ref a), some (.int r.ev), some (.int r.dl), none, none, none, none, none, none, none, none, none, none, none, none, none, none, none, none, none, none] 1 _ _ (by decide) rfl (fun _ => rfl) (fun _ => rfl) sm0 fun lf H1 _ sm1 hF => ?_
  dsimp only [gName, tSeq, tAsg]
  refine col [some (.ref a), some (.int r.ev), some (.int r.dl), some (.ref lf), none, none, none, none, none, none, none, none, none, none, none, none, none, none, none, none, none] 0 _ _ (by decide) rfl (fun _ => rfl) (fun _ => rfl) (sm0.trans sm1) fun ls H2 _ sm2 hS => ?_
  have smH2 := sm0.trans (sm1.trans sm2)
  have hF2 : H2 lf = some (.lst (iv (fins r))) := sm2 _ _ hF
  have hS2 : H2 ls = some (.lst (iv (starts r))) := hS
  have hT2 := smH2 _ _ hT
  clear col sm1 sm2 hF hS
  -- each task
  refine ⟨_, rfl, a, CP, dx, _, _, rfl, smH2 _ _ hA, T.clP, T.fT, pF_tasks, aT, rfl, ⟨_, .inl (.inl hT2)⟩, ?_⟩
  refine for_it (walk_list (xs := qs.map V.ref)) (fun i σ H' => (∃ x5 x6 x7 x8 x9, σ = iv4 a lf ls r.ev r.dl x5 x6 x7 x8 x9) ∧ H' = H2 ∧ ∀ j, j < i → ∀ row, r.ts[j]? = some row → TOk r row) ⟨⟨_, _, _, _, _, rfl⟩, rfl, fun j h => absurd h (Nat.not_lt_zero j)⟩ (fun i σ H' _ h => by rw [h.2.1]; exact .inl (.inl hT2)) (fun i x σ H3 H4 hi hP hY => ?_) (fun σ H' hP => ?_)
  · obtain ⟨⟨x5, x6, x7, x8, x9, rfl⟩, eH1, hp2⟩ := hP
    obtain ⟨eH, hx⟩ := hY
    rw [eH1] at eH
    subst eH
    obtain ⟨qk, row, rfl, hrow, hrq⟩ := rows_raw hq hx
    have hin := List.mem_of_getElem? hrow
    obtain ⟨a0, a1, a2, a3, a4, rfl⟩ := len5 (h5 row hin)
    have noT : ¬ TOk r [a0, a1, a2, a3, a4] → Q (.bl false) H4 := fun h => no H4 smH2 fun v => h (v.t _ hin)
    refine ⟨qk, _, rfl, .inl (.inl (smH2 _ _ hrq)), rfl, _, _, rfl, _, _, rfl, _, _, rfl, _, _, rfl, _, _, rfl, rfl, ?_⟩
    dsimp only [tSeq, tNext]
    refine ifS_of (ttv_not (ttv_and (ttv_test (tev_chain (f := fun i j => decide (i ≤ j)) (g := fun i j => decide (i < j)) tev_c (tev_var rfl) (tev_var rfl))) (ttv_and (ttv_test (tev_chain (f := fun i j => decide (i < j)) (g := fun i j => decide (i < j)) tev_c (tev_var rfl) (tev_var rfl))) (ttv_and (b1 := !decide (V.int a1 = V.int a0)) (ttv_test fun Q q => ⟨_, rfl, _, rfl, rfl, q⟩) (ttv_test (b := decide (V.int ((fins r).count a1 : Nat) = V.int 1)) fun Q q => ⟨_, rfl, .inl ⟨rfl, _, .inl (.inl hF2)⟩, _, rfl, lf, fins r, a1, rfl, rfl, .inl (.inl hF2), rfl, q⟩))))) (fun c1 => ?_) (fun c1 => ?_)
    · refine noT fun t => ?_
      have h1 := t.a; have h2 := t.b; have h3' := t.c; have h4 := t.d
      simp only [List.getD_cons_zero, List.getD_cons_succ] at h1 h2 h3' h4
      rw [dec_int, dec_int, h4] at c1
      simp [h1, h2, h3'] at c1
    · rw [dec_int, dec_int] at c1
      have c1' : ((0 ≤ a0 ∧ a0 < r.ev) ∧ (0 < a1 ∧ a1 < r.ev) ∧ a1 ≠ a0 ∧ (((fins r).count a1 : Nat) : Int) = 1) := by simpa [not_imp] using c1
      obtain ⟨t1, t2, t3, t4⟩ := c1'
      dsimp only [tSeq, tNext]
      refine ifS_of (ttv_not (ttv_and (ttv_test (tev_chain3 (f := fun i j => decide (i ≤ j)) (g := fun i j => decide (i ≤ j)) (h := fun i j => decide (i ≤ j)) tev_c (tev_var rfl) (tev_var rfl) tev_c)) (ttv_test (tev_chain (f := fun i j => decide (i ≤ j)) (g := fun i j => decide (i ≤ j)) tev_c (tev_var rfl) (tev_op (tev_var rfl) tev_c))))) (fun c2 => ?_) (fun c2 => ?_)
      · refine noT fun t => ?_
        have h1 := t.e; have h2 := t.f
        simp only [List.getD_cons_zero, List.getD_cons_succ] at h1 h2
        simp [h1, h2] at c2
      · have c2' : (1 ≤ a2 ∧ a2 ≤ a3 ∧ a3 ≤ 1000) ∧ (0 ≤ a4 ∧ a4 ≤ r.dl + 1) := by simpa [not_imp] using c2
        obtain ⟨t5, t6⟩ := c2'
        dsimp only [tSeq, tNext]
        refine ifS_of (ttv_and (b1 := decide (a1 ∈ starts r)) (ttv_test fun Q q => ⟨_, rfl, _, rfl, ls, _, rfl, .inl (.inl (.inl hS2)), rfl, iv_flat _, ?_⟩) (b2 := !decide (V.int a4 = V.int 0)) (ttv_test fun Q q => ⟨_, rfl, rfl, q⟩)) (fun c3 => ?_) (fun c3 => ?_)
        · show Q (V.bl (inV (.int a1) (iv (starts r)))) _
          rw [inV_iv]; exact q
        · rw [dec_int] at c3
          have c3' : a1 ∈ starts r ∧ ¬ a4 = 0 := by simpa using c3
          refine noT fun t => ?_
          have h1 := t.g
          simp only [List.getD_cons_zero, List.getD_cons_succ] at h1
          exact c3'.2 (h1 c3'.1)
        · rw [dec_int] at c3
          have c3' : a1 ∈ starts r → a4 = 0 := by simpa using c3
          refine ⟨⟨_, _, _, _, _, rfl⟩, rfl, fun j hj row' hrow' => ?_⟩
          rcases Nat.lt_or_ge j i with z | z
          · exact hp2 j z row' hrow'
          · have : j = i := by omega
            subst this
            rw [hrow] at hrow'
            cases hrow'
            exact ⟨t1, t2, t3, by have : (((fins r).count a1 : Nat) : Int) = 1 := t4; show (fins r).count a1 = 1; omega, t5, t6, c3'⟩
  obtain ⟨⟨x5, x6, x7, x8, x9, rfl⟩, rfl, hp2⟩ := hP
  rw [List.length_map, lq] at hp2
  have tok : ∀ row ∈ r.ts, TOk r row := fun row h => by
    obtain ⟨j, hj⟩ := List.mem_iff_getElem?.mp h
    exact hp2 j (List.getElem?_eq_some_iff.mp hj).1 row hj
  have ndf : (fins r).Nodup := by
    rw [List.nodup_iff_count]
    intro e
    by_cases he : e ∈ fins r
    · obtain ⟨row, hrow, rfl⟩ := List.mem_map.mp he
      exact Nat.le_of_eq (tok row hrow).d
    · rw [List.count_eq_zero_of_not_mem he]; omega
  clear hp2
  -- following
  refine ⟨_, rfl, a, CP, dx, _, _, rfl, smH2 _ _ hA, T.clP, T.fT, pF_tasks, aT, rfl, ⟨_, .inl (.inl hT2)⟩, fun c hc => ?_⟩
  have nc : aT ≠ c := ne_of_none hT2 hc
  refine lc_it (walk_list (xs := qs.map V.ref)) (fun i H1 => But c H' H1 ∧ ∃ ps : List Addr, H1 c = some (.lst (ps.map V.ref)) ∧ Paired (fun p (kv : Key × V) => H1 p = some (.tup [kV kv.1, kv.2])) ps (((pairs r).take i).map fun q => ((Sum.inl q.1 : Key), V.int q.2))) ⟨but_upd H' c _, [], upd_same, .nil⟩ (fun i H1 _ h => .inl (.inl (h.1 _ _ hT2 nc))) (fun i x H1 H2 hi hP hY => ?_) (fun H1 h => ?_)
  · obtain ⟨hb, ps, hC, hp⟩ := hP
    obtain ⟨eH, hx⟩ := hY
    subst eH
    obtain ⟨qk, row, rfl, hrow, hrq⟩ := rows_raw hq hx
    rw [List.length_map] at hi
    have hrq2 := hb _ _ (smH2 _ _ hrq) (ne_of_none (smH2 _ _ hrq) hc)
    obtain ⟨a0, a1, a2, a3, a4, rfl⟩ := len5 (h5 row (List.mem_of_getElem? hrow))
    refine ⟨qk, _, rfl, .inl (.inl hrq2), rfl, _, _, rfl, _, _, rfl, _, _, rfl, _, _, rfl, _, _, rfl, rfl, rfl, ?_⟩
    dsimp only [tYes]
    rw [if_pos rfl]
    refine ⟨_, rfl, _, rfl, by show 2 ≤ sizeLine; rw [sizeLine_eq]; decide, fun p hp0 => ?_⟩
    have np : c ≠ p := ne_of_none hC hp0
    refine ⟨_, by rw [upd_ne np]; exact hC, ?_, (hb.same (same_at _ hp0)).trans (but_upd _ c _), ps ++ [p], by rw [upd_same, List.map_append]; rfl, ?_⟩
    · rw [List.length_map, Paired.length hp, List.length_map, List.length_take]
      have : (pairs r).length = r.ts.length := List.length_map _
      exact small_lt (by omega)
    · have : (pairs r)[i]? = some (a1, a0) := by unfold pairs; rw [List.getElem?_map, hrow]; rfl
      rw [List.take_add_one, this, List.map_append]
      refine Paired.snoc (Paired.mapP hp fun p' kv z => ?_) ?_
      · have n1 : p' ≠ p := ne_of_none z hp0
        have n2 : p' ≠ c := ne_of z hC fun z => nomatch z
        rw [upd_ne n2, upd_ne n1]; exact z
      · rw [upd_ne np.symm]; exact upd_same
  obtain ⟨hb, ps, hC, hp⟩ := h
  have lpr : (pairs r).length = r.ts.length := List.length_map _
  rw [List.length_map, lq, ← lpr, List.take_length] at hp
  have sm1 : Same H' H1 := But.of_new hc hb
  refine ⟨c, ps, _, rfl, .inl (.inl hC), Paired.mapP hp fun _ _ z => .inl (.inl z), fun d hd => ?_⟩
  have sm2 : Same H' (upd H1 d (.dK (mergeK [] ((pairs r).map fun q => ((Sum.inl q.1 : Key), V.int q.2))))) := sm1.trans (same_at _ hd)
  have hD : (upd H1 d (.dK (mergeK [] ((pairs r).map fun q => ((Sum.inl q.1 : Key), V.int q.2))))) d = some (.dK (mergeK [] ((pairs r).map fun q => ((Sum.inl q.1 : Key), V.int q.2)))) := upd_same
  generalize upd H1 d (.dK (mergeK [] ((pairs r).map fun q => ((Sum.inl q.1 : Key), V.int q.2)))) = H5 at sm2 hD
  clear hb hp hC sm1 hc nc
  have smH5 := smH2.trans sm2
  have hF5 := sm2 _ _ hF2
  have hT5 := smH5 _ _ hT
  have hA5 := smH5 _ _ hA
  have efp : (pairs r).map (·.1) = fins r := by unfold pairs fins; rw [List.map_map]; rfl
  have get := get_pairs (pairs r) (by rw [efp]; exact ndf)
  -- each end
  refine ⟨_, rfl, lf, rfl, ⟨_, .inl (.inl hF5)⟩, ?_⟩
  refine for_it (walk_list (xs := iv (fins r))) (fun i σ H' => (∃ x5 x6 x7 x8 x9 x11 x12 x13, σ = iv6 a lf ls d r.ev r.dl x5 x6 x7 x8 x9 x11 x12 x13) ∧ H' = H5 ∧ ∀ j, j < i → ∀ e, (fins r)[j]? = some e → chase (pairs r) (r.ts.length + 1) e = true) ⟨⟨_, _, _, _, _, _, _, _, rfl⟩, rfl, fun j h => absurd h (Nat.not_lt_zero j)⟩ (fun i σ H' _ h => by rw [h.2.1]; exact .inl (.inl hF5)) (fun i x σ H3 H4 hi hP hY => ?_) (fun σ H' hP => ?_)
  · obtain ⟨⟨x5, x6, x7, x8, x9, x11, x12, x13, rfl⟩, eH1, hp2⟩ := hP
    obtain ⟨eH, hx⟩ := hY
    rw [eH1] at eH
    subst eH
    obtain ⟨e0, he0, rfl⟩ := at_int_of hx
    refine ⟨_, rfl, a, CP, dx, _, _, rfl, hA5, T.clP, T.fT, pF_tasks, aT, _, rfl, .inl (.inl (.inl hT5)), _, _, rfl, rfl, _, rfl, ?_⟩
    rw [List.length_map, lq]
    refine ⟨by omega, by omega, ?_⟩
    rw [show ((r.ts.length : Int) + 1).toNat = r.ts.length + 1 by omega]
    refine for_itb walk_range (fun j σ G => (∃ ej x13, σ = iv6 a lf ls d r.ev r.dl x5 x6 x7 x8 x9 (some (.int ej)) (some (.bl false)) x13 ∧ chase (pairs r) (r.ts.length + 1) e0 = chase (pairs r) (r.ts.length + 1 - j) ej) ∧ G = H4)
      (fun σ G => (∃ x11 x13, σ = iv6 a lf ls d r.ev r.dl x5 x6 x7 x8 x9 x11 (some (.bl (chase (pairs r) (r.ts.length + 1) e0))) x13) ∧ G = H4) ⟨⟨e0, _, rfl, rfl⟩, rfl⟩ (fun _ _ _ _ _ => trivial) (fun bk j x σ G1 G2 hj hP hY => ?_) (fun σ G hP => ?_) (fun σ G hM => ?_)
    · obtain ⟨⟨ej, x13', rfl, hch⟩, eG⟩ := hP
      obtain ⟨eG2, rfl⟩ := hY
      rw [eG] at eG2
      subst eG2
      have en : r.ts.length + 1 - j = (r.ts.length + 1 - (j + 1)) + 1 := by omega
      refine ⟨_, rfl, d, rfl, .inl ⟨_, .inl hD⟩, _, rfl, _, .inl ⟨_, Sum.inl ej, .inl hD, rfl, rfl⟩, ?_⟩
      rw [get ej]
      cases ef : (pairs r).find? fun q => decide (q.1 = ej) with
      | none =>
        refine ⟨_, rfl, rfl, _, rfl, if_t rfl ?_⟩
        refine bk _ _ ⟨⟨some .non, some (.int (0 + (j : Int))), ?_⟩, rfl⟩
        rw [hch, en, chase_none ef]
        rfl
      | some qq =>
        refine ⟨_, rfl, rfl, _, rfl, if_f rfl ?_⟩
        refine ⟨⟨qq.2, _, rfl, ?_⟩, rfl⟩
        rw [hch, en, chase_some ef]
    · obtain ⟨⟨ej, x13', rfl, hch⟩, rfl⟩ := hP
      refine ⟨⟨some (.int ej), x13', ?_⟩, rfl⟩
      rw [hch, Nat.sub_self]
      rfl
    · obtain ⟨⟨y11, y13, rfl⟩, rfl⟩ := hM
      refine ⟨_, rfl, _, rfl, ?_⟩
      cases ec : chase (pairs r) (r.ts.length + 1) e0 with
      | false =>
        refine if_t rfl (no _ smH5 fun v => ?_)
        have := v.ring e0 (List.mem_of_getElem? he0)
        rw [ec] at this
        cases this
      | true =>
        refine if_f rfl ⟨⟨_, _, _, _, _, _, _, _, rfl⟩, rfl, fun j hj e he => ?_⟩
        rcases Nat.lt_or_ge j i with z | z
        · exact hp2 j z e he
        · have : j = i := by omega
          subst this
          rw [he0] at he
          cases he
          exact ec
  obtain ⟨⟨y5, y6, y7, y8, y9, y11, y12, y13, rfl⟩, rfl, hp2⟩ := hP
  rw [iv_len] at hp2
  have ring : ∀ e ∈ fins r, chase (pairs r) (r.ts.length + 1) e = true := fun e h => by
    obtain ⟨j, hj⟩ := List.mem_iff_getElem?.mp h
    exact hp2 j (List.getElem?_eq_some_iff.mp hj).1 e hj
  clear hp2
  -- the requirements
  have hR5 := smH5 _ _ hR
  refine ⟨_, rfl, a, CP, dx, _, _, rfl, hA5, T.clP, T.fR, pF_reqs, aR, rfl, ⟨_, .inl (.inl hR5)⟩, fun o ho => ?_⟩
  have nRo : aR ≠ o := ne_of_none hR5 ho
  refine lc_it (walk_list (xs := qs2.map V.ref)) (fun i H1 => But o H' H1 ∧ H1 o = some (.lst (((r.rs.take i).map fun row => qB r (row.getD 0 0) (row.getD 1 0) (row.getD 2 0)).map V.bl))) ⟨but_upd H' o _, upd_same⟩ (fun i H1 _ h => .inl (.inl (h.1 _ _ hR5 nRo))) (fun i x H1 H2 hi hP hY => ?_) (fun H1 h => ?_)
  · obtain ⟨hb, hC⟩ := hP
    obtain ⟨eH, hx⟩ := hY
    subst eH
    obtain ⟨qk, row, rfl, hrow, hrq⟩ := rows_raw hq2 hx
    rw [List.length_map] at hi
    have hrq2 := hb _ _ (smH5 _ _ hrq) (ne_of_none (smH5 _ _ hrq) ho)
    obtain ⟨a0, a1, a2, rfl⟩ := len3 (h3 row (List.mem_of_getElem? hrow))
    refine ⟨qk, _, rfl, .inl (.inl hrq2), rfl, _, _, rfl, _, _, rfl, _, _, rfl, rfl, rfl, ?_⟩
    dsimp only [tYes]
    rw [if_pos rfl]
    refine tev_andV (tev_chain (f := fun i j => decide (i ≤ j)) (g := fun i j => decide (i < j)) tev_c (tev_var rfl) (tev_var rfl)) (tev_andV (tev_chain (f := fun i j => decide (i ≤ j)) (g := fun i j => decide (i < j)) tev_c (tev_var rfl) (tev_var rfl)) (tev_chain (f := fun i j => decide (i ≤ j)) (g := fun i j => decide (i ≤ j)) (i := -1000) (fun Q q => ⟨_, rfl, q⟩) (tev_var rfl) tev_c)) _ ?_
    refine ⟨_, hC, ?_, hb.trans (but_upd _ o _), ?_⟩
    · rw [List.length_map, List.length_map, List.length_take]; exact small_lt (by omega)
    · rw [upd_same, List.take_add_one, hrow, List.map_append, List.map_append]
      rfl
  · obtain ⟨hb, hC⟩ := h
    rw [List.length_map, lq2, List.take_length] at hC
    have smF : Same H H1 := smH5.trans (But.of_new ho hb)
    refine ⟨o, _, rfl, .inl (.inl hC), ?_⟩
    refine q _ ?_ H1 smF
    rw [List.all_eq_true]
    have qiff : ∀ row : List Int, qB r (row.getD 0 0) (row.getD 1 0) (row.getD 2 0) = true ↔ QOk r row := fun row => by
      unfold qB
      simp only [Bool.and_eq_true, decide_eq_true_eq]
      exact ⟨fun ⟨x, y, z⟩ => ⟨x, y, z⟩, fun ⟨x, y, z⟩ => ⟨x, y, z⟩⟩
    constructor
    · intro h
      refine ⟨tok, ring, fun row hrow => (qiff row).mp (h _ (List.mem_map.mpr ⟨row, hrow, rfl⟩))⟩
    · intro v b hb'
      obtain ⟨row, hrow, rfl⟩ := List.mem_map.mp hb'
      exact (qiff row).mpr (v.q row hrow)
end
end SP
end

section
set_option Elab.async false
set_option linter.all false
set_option maxRecDepth 100000
set_option maxHeartbeats 4000000
namespace SP
open PySem PySem.Spec PyProof.Rows L2 SPR
open SPM (enc ov)
abbrev sWithLen : Stmt := top 14
abbrev nWithLen : List Str := ["items"]
theorem scWithLen : FnScope ["items"] ["items"] (defScope sWithLen) := ⟨rfl, rfl, rfl, by decide +kernel, rfl, by decide +kernel, by decide +kernel⟩
abbrev sGroups : Stmt := top 15
abbrev nGroups : List Str := ["items", "length", "i"]
theorem scGroups : FnScope ["items", "length", "i"] ["items", "length"] (defScope sGroups) := ⟨rfl, rfl, rfl, by decide +kernel, rfl, by decide +kernel, by decide +kernel⟩
abbrev sO12a : Stmt := top 16
abbrev nO12a : List Str := ["row", "s"]
theorem scO12a : FnScope ["row", "s"] ["row"] (defScope sO12a) := ⟨rfl, rfl, rfl, by decide +kernel, rfl, by decide +kernel, by decide +kernel⟩
abbrev sO12b : Stmt := top 17
abbrev nO12b : List Str := ["rows", "row"]
theorem scO12b : FnScope ["rows", "row"] ["rows"] (defScope sO12b) := ⟨rfl, rfl, rfl, by decide +kernel, rfl, by decide +kernel, by decide +kernel⟩
abbrev sO13a : Stmt := top 18
abbrev nO13a : List Str := ["row", "s"]
theorem scO13a : FnScope ["row", "s"] ["row"] (defScope sO13a) := ⟨rfl, rfl, rfl, by decide +kernel, rfl, by decide +kernel, by decide +kernel⟩
abbrev sO13b : Stmt := top 19
abbrev nO13b : List Str := ["rows", "row"]
theorem scO13b : FnScope ["rows", "row"] ["rows"] (defScope sO13b) := ⟨rfl, rfl, rfl, by decide +kernel, rfl, by decide +kernel, by decide +kernel⟩
abbrev sO10l : Stmt := top 25
abbrev nO10l : List Str := ["entries", "out", "moment", "seen", "mask", "n"]
theorem scO10l : FnScope ["entries", "out", "moment", "seen", "mask", "n"] ["entries"] (defScope sO10l) := ⟨rfl, rfl, rfl, by decide +kernel, rfl, by decide +kernel, by decide +kernel⟩
abbrev sO11l : Stmt := top 24
abbrev nO11l : List Str := ["positions", "out", "moment", "seen", "n"]
theorem scO11l : FnScope ["positions", "out", "moment", "seen", "n"] ["positions"] (defScope sO11l) := ⟨rfl, rfl, rfl, by decide +kernel, rfl, by decide +kernel, by decide +kernel⟩
theorem cut_nat (xs : List V) (i j : Nat) : cutV xs (some (i : Int)) (some (j : Int)) = (xs.drop i).take (j - i) := by
  unfold cutV
  rw [HT.sIx_nat, HT.sIx_nat]
  by_cases h : i ≤ xs.length
  · rw [Nat.min_eq_left h]
    by_cases h2 : j ≤ xs.length
    · rw [Nat.min_eq_left h2]
    · rw [Nat.min_eq_right (by omega), List.take_of_length_le (by rw [List.length_drop]; omega), List.take_of_length_le (by rw [List.length_drop]; omega)]
  · rw [List.drop_eq_nil_of_le (by omega), List.drop_eq_nil_of_le (by omega)]
    simp
theorem cut_1 (xs : List V) : cutV xs (some 1) none = xs.drop 1 := by
  unfold cutV
  rw [HT.sIx_none, show (1 : Int) = ((1 : Nat) : Int) from rfl, HT.sIx_nat]
  by_cases h : 1 ≤ xs.length
  · rw [Nat.min_eq_left h, List.take_of_length_le (by rw [List.length_drop]; omega)]
  · rw [List.drop_eq_nil_of_le (by omega), List.drop_eq_nil_of_le (by omega)]
    simp
theorem cut_1n (xs : List V) (h : 2 ≤ xs.length) : cutV xs (some 1) (some (-1)) = (xs.drop 1).take (xs.length - 2) := by
  unfold cutV
  rw [show (1 : Int) = ((1 : Nat) : Int) from rfl, HT.sIx_nat, Nat.min_eq_left (by omega)]
  congr 1
  have e : HT.sIx xs.length xs.length (some (-((1 : Nat) : Int))) = (-((1 : Nat) : Int) + (xs.length : Int)).toNat := by
    simp only [HT.sIx]
    rw [if_pos (by decide)]
  rw [e]
  omega
theorem iv_drop (xs : List Int) (n : Nat) : (iv xs).drop n = iv (xs.drop n) := by simp [iv, List.map_drop]
theorem iv_take (xs : List Int) (n : Nat) : (iv xs).take n = iv (xs.take n) := by simp [iv, List.map_take]
/-- the items in groups -/
def chunks (k : Nat) (l : List Int) : List (List Int) := (List.range (l.length / k)).map fun i => (l.drop (i * k)).take k
def timeOk (z : Int) : Bool := decide (-1 ≤ z) && decide (z ≤ 1000)
def momOk (z : Int) : Bool := decide (0 ≤ z) && decide (z ≤ 1000)
def spWithLen : Sp := fun vs H Q _ => ∃ (b : Addr) (xs : List Nat), vs = [.ref b] ∧ H b = some (.lst (nv xs)) ∧ xs.length ≤ 1000 ∧ ∀ c H', H c = none → H' c = some (.lst (nv (xs.length :: xs))) → Same H H' → Q (.ref c) H'
def spGroups (CE : Addr) : Sp := fun vs H Q E => ∃ (b : Addr) (l : List Int) (k : Nat), vs = [.ref b, .int k] ∧ H b = some (.lst (iv l)) ∧ l.length ≤ 100000 ∧ 0 < k ∧ k ≤ 1000 ∧
  (l.length % k = 0 → ∀ c H', H c = none → RowsAt H' c (chunks k l) → Same H H' → Q (.ref c) H') ∧ (l.length % k ≠ 0 → Err CE E H (-1))
def spO12a : Sp := fun vs H Q _ => ∃ (b : Addr) (row : List Int), vs = [.ref b] ∧ H b = some (.tup (iv row)) ∧ 2 ≤ row.length ∧ ∀ H', Same H H' → Q (.bl (((row.drop 1).take (row.length - 2)).all timeOk)) H'
def spO13a : Sp := fun vs H Q _ => ∃ (b : Addr) (row : List Int), vs = [.ref b] ∧ H b = some (.tup (iv row)) ∧ 1 ≤ row.length ∧ ∀ H', Same H H' → Q (.bl ((row.drop 1).all timeOk)) H'
def r12 (row : List Int) : Bool := momOk (row.getD 0 0) && (((row.drop 1).take (row.length - 2)).all timeOk && momOk (row.getD (row.length - 1) 0))
def r13 (row : List Int) : Bool := momOk (row.getD 0 0) && (row.drop 1).all timeOk
def spO12b : Sp := fun vs H Q _ => ∃ (b : Addr) (rows : List (List Int)), vs = [.ref b] ∧ RowsAt H b rows ∧ (∀ row ∈ rows, 2 ≤ row.length) ∧ ∀ H', Same H H' → Q (.bl (rows.all r12)) H'
def spO13b : Sp := fun vs H Q _ => ∃ (b : Addr) (rows : List (List Int)), vs = [.ref b] ∧ RowsAt H b rows ∧ (∀ row ∈ rows, 2 ≤ row.length) ∧ ∀ H', Same H H' → Q (.bl (rows.all r13)) H'
def posF (x : Vbjpae.Position) : List Int := (x.moment : Int) :: enc x.seen
def entF (x : Vbjpae.Entry) : List Int := posF x.position ++ [(x.move : Int)]
def spO10l : Sp := fun vs H Q _ => ∃ (l : Addr) (es : List Addr) (xs : List Vbjpae.Entry), vs = [.ref l] ∧ H l = some (.lst (es.map V.ref)) ∧ Paired (EntAt H) es xs ∧ xs.length ≤ 600 ∧ (∀ x ∈ xs, x.position.seen.length ≤ 6 ∧ x.position.seen ≠ []) ∧ ∀ c H', H' c = some (.lst (iv (xs.flatMap entF))) → Same H H' → Q (.ref c) H'
def spO11l : Sp := fun vs H Q _ => ∃ (l : Addr) (es : List Addr) (xs : List Vbjpae.Position), vs = [.ref l] ∧ H l = some (.lst (es.map V.ref)) ∧ Paired (PositAt H) es xs ∧ xs.length ≤ 600 ∧ (∀ x ∈ xs, x.seen.length ≤ 6 ∧ x.seen ≠ []) ∧ ∀ c H', H' c = some (.lst (iv (xs.flatMap posF))) → Same H H' → Q (.ref c) H'
section
variable {P : Program} {w : World} {K : PySem.W.Frag} {mg : Str → Option Value} {base : Heap} {CP CR CE aS : Addr}
theorem ok_with_length {f : Addr} {fd : FuncData} (F : Fun K "with_length" "with_length" sWithLen f fd) (T : Txt K mg CP CR CE aS) : FnOk P w K mg base CX0 1 f fd ["items"] spWithLen := by
  have nd := scWithLen.nd
  refine F.ok scWithLen (fun vs H Q E h => ?_) (fun cdv A outer sh H vs Q E hr h => ?_)
  · obtain ⟨_, _, rfl, _⟩ := h
    rfl
  obtain ⟨b, xs, rfl, hB, hz, q⟩ := h
  refine ⟨_, (pss_one (ps_ret (pe_op op_cat (pe_lst (pa_cons (pe_callB (call_lenQ rfl) (by rfl) T.m_len (by decide +kernel) (pa_cons (pv 0) pa_nil)) pa_nil)) (pe_callTy (call_listQ rfl) (by rfl) T.m_list (by decide +kernel) (pa_cons (pv 0) pa_nil))))), ?_⟩
  refine ⟨_, rfl, b, _, rfl, .inl (.inl (.inl hB)), by show 1 ≤ sizeLine; rw [sizeLine_eq]; decide, fun c hc => ?_⟩
  have sm := same_at (.lst [V.int ((nv xs).length : Nat)]) hc
  have hC : (upd H c (.lst [V.int ((nv xs).length : Nat)])) c = _ := upd_same
  generalize upd H c (.lst [V.int ((nv xs).length : Nat)]) = H1 at sm hC
  refine ⟨_, rfl, b, _, rfl, .inl (.inl (.inl (sm _ _ hB))), fun d hd => ?_⟩
  have nd' : c ≠ d := ne_of_none hC hd
  refine ⟨c, d, _, _, rfl, rfl, by rw [upd_ne nd']; exact hC, upd_same, ?_, fun e he => ?_⟩
  · rw [nv_len, sizeLine_eq]; show 1 + xs.length ≤ 16777216; omega
  · have s3 : Same H1 (upd (upd H1 d (.lst (nv xs))) e (.lst ([V.int ((nv xs).length : Nat)] ++ nv xs))) := (same_at _ hd).trans (same_at _ he)
    refine q e _ (sm.free ((same_at _ hd).free he)) ?_ (sm.trans s3)
    rw [upd_same, nv_len]
    rfl
theorem range_kn {n k : Nat} (hk : 0 < k) (hm : n % k = 0) : Builtin.Range.rangeSize 0 (n : Int) (k : Int) = ((n / k : Nat) : Int) := by
  have hn : n = k * (n / k) := by have := Nat.div_add_mod n k; omega
  generalize n / k = m at hn
  subst hn
  rw [PyProof.Rows.rangeSize_pos (by omega) (by omega)]
  have e : ((k * m : Nat) : Int) + (k : Int) - 1 = ((k : Int) - 1) + (k : Int) * (m : Int) := by rw [Int.natCast_mul]; omega
  rw [e, Int.add_mul_ediv_left _ _ (by omega), Int.ediv_eq_zero_of_lt (by omega) (by omega), Int.zero_add]
theorem range_k {n k : Nat} (hk : 0 < k) (hk2 : k ≤ 1000) (hz : n ≤ 100000) (hm : n % k = 0) : RgC 0 (n : Int) (k : Int) (n / k) := by
  refine ⟨by omega, by omega, ?_, range_kn hk hm⟩
  unfold Builtin.Range.small
  rw [range_kn hk hm]
  have hn : n = k * (n / k) := by have := Nat.div_add_mod n k; omega
  have h1 : n / k ≤ n := Nat.div_le_self _ _
  have h3 : (((n / k : Nat) : Int) - 1) * (k : Int) ≤ (n : Int) := by
    have : ((n / k : Nat) : Int) * (k : Int) = (n : Int) := by rw [← Int.natCast_mul, Nat.mul_comm, ← hn]
    rw [Int.sub_mul]; omega
  generalize n / k = m at h1 h3
  simp only [Builtin.Range.rangeFitsLong, Bool.and_eq_true, Bool.or_eq_true, decide_eq_true_eq, beq_iff_eq]
  rw [if_pos (show (k : Int) > 0 by omega)]
  simp only [Bool.and_eq_true, decide_eq_true_eq]
  omega
theorem ok_groups {f : Addr} {fd : FuncData} (F : Fun K "groups" "groups" sGroups f fd) (T : Txt K mg CP CR CE aS) (F_require : FunX P w K mg base (L2.CX P w) 3 "require" (spReq CE)) : FnOk P w K mg base (L2.CX P w) 4 f fd ["items", "length"] (spGroups CE) := by
  have nd := scGroups.nd
  refine F.okX scGroups (fun vs H Q E h => ?_) (fun cdv A outer sh H vs Q E hr h => ?_)
  · obtain ⟨_, _, _, rfl, _⟩ := h
    rfl
  obtain ⟨b, l, k, rfl, hB, hz, hk, hk2, q, qe⟩ := h
  have tk := takes_of (X := cxOf (L2.CX P w) P w K mg base nGroups "groups" (defScope sGroups) f cdv A outer sh H E) rfl rfl rfl rfl
  refine ⟨_, (pss_cons (ps_expr (pe_fx F_require hr (by first | decide | omega) rfl (fun σ => passAt tk σ) (pa_cons (pe_cmpR op_eq (pe_op op_mod (pe_callB (call_lenQ rfl) (by rfl) T.m_len (by decide +kernel) (pa_cons (pv 0) pa_nil)) (pv 1)) pe_int (nomark _)) (pa_cons (pe_un un_neg pe_int) pa_nil))))
    (pss_one (ps_ret (pe_lc (own := [("i", 2)]) rfl nd (pi_range3 rfl T.m_range (pa_cons pe_int (pa_cons (pe_callB (call_lenQ rfl) (by rfl) T.m_len (by decide +kernel) (pa_cons (pv 0) pa_nil)) (pa_cons (pv 1) pa_nil)))) (blkOk_by (own := [("i", 2)]) (N := ["items", "length", "i"]) (sc := (defScope sGroups)) (by decide +kernel)) (fun _ _ _ _ _ => (pg_name (i := 2) nd rfl (Or.inl rfl) (Or.inr rfl))) (fun _ _ _ _ _ => pts_nil) (fun _ _ _ _ _ => (pe_callTy (call_tupleQ blkK) (by rfl) T.m_tuple (by decide +kernel) (pa_cons (pe_slice (sl_listB blkK) (pv 0) (po_some (pv 2)) (po_some (pe_op op_add (pv 2) (pv 1)))) pa_nil))))))), ?_⟩
  refine ⟨_, rfl, b, _, rfl, .inl (.inl (.inl hB)), _, rfl, _, _, rfl, rfl, by show (0 : Int) < (k : Int); omega, rfl, _, rfl, ?_⟩
  refine ⟨_, _, rfl, fun c1 => ?_, fun c1 => ?_⟩
  case refine_2 =>
    have c1 := of_decide_eq_false c1
    refine qe fun h => c1 ?_
    show V.int (((iv l).length : Int) % (k : Int)) = V.int 0
    rw [iv_len, ← Int.natCast_emod, h]
    rfl
  have c1 : V.int (((iv l).length : Int) % (k : Int)) = V.int 0 := of_decide_eq_true c1
  have hm : l.length % k = 0 := by
    have := V.int.inj c1
    rw [iv_len] at this
    omega
  refine ⟨_, rfl, b, _, rfl, .inl (.inl (.inl hB)), _, rfl, 0, _, (k : Int), l.length / k, rfl, ?_, fun c hc => ?_⟩
  · rw [iv_len]
    exact range_k hk hk2 hz hm
  have nb : b ≠ c := ne_of_none hB hc
  refine lc_it walk_rangeC (fun i H1 => But c H H1 ∧ ∃ ts : List Addr, H1 c = some (.lst (ts.map V.ref)) ∧ Paired (fun q r => H1 q = some (.tup (iv r))) ts ((chunks k l).take i)) ⟨but_upd H c _, [], upd_same, .nil⟩ (fun _ _ _ _ => trivial) (fun i x H1 H2 hi hP hY => ?_) (fun H1 h => ?_)
  · obtain ⟨hb, ts, hC, hp⟩ := hP
    obtain ⟨eH, rfl⟩ := hY
    subst eH
    have hB2 := hb _ _ hB nb
    have ei : (0 : Int) + (i : Nat) * (k : Int) = ((i * k : Nat) : Int) := by rw [Int.zero_add, Int.natCast_mul]
    have ei2 : ((i * k : Nat) : Int) + (k : Int) = ((i * k + k : Nat) : Int) := by omega
    dsimp only
    rw [ei]
    refine ⟨rfl, ?_⟩
    dsimp only [tYes]
    rw [if_pos rfl]
    refine ⟨_, rfl, _, rfl, _, rfl, _, rfl, _, rfl, _, _, rfl, rfl, _, rfl, ?_⟩
    dsimp only
    rw [ei2]
    refine ⟨b, _, rfl, .inl (.inl hB2), fun d hd => ?_⟩
    rw [cut_nat, iv_drop, iv_take, show i * k + k - i * k = k by omega]
    have nd' : c ≠ d := ne_of_none hC hd
    have sm2 := same_at (.lst (iv ((l.drop (i * k)).take k))) hd
    have hD : (upd H2 d (.lst (iv ((l.drop (i * k)).take k)))) d = some (.lst (iv ((l.drop (i * k)).take k))) := upd_same
    refine ⟨d, _, rfl, .inl ⟨.inl (.inl hD), fun e he => ?_⟩⟩
    have ne : c ≠ e := ne_of_none (sm2 _ _ hC) he
    have sm3 := sm2.trans (same_at (.tup (iv ((l.drop (i * k)).take k))) he)
    refine ⟨_, by rw [upd_ne ne]; exact sm2 _ _ hC, ?_, (hb.same sm3).trans (but_upd _ c _), ts ++ [e], by rw [upd_same, List.map_append]; rfl, ?_⟩
    · rw [List.length_map, Paired.length hp, List.length_take]
      refine small_lt ?_
      have : l.length / k ≤ l.length := Nat.div_le_self _ _
      omega
    · have : (chunks k l)[i]? = some ((l.drop (i * k)).take k) := by
        unfold chunks
        rw [List.getElem?_map, List.getElem?_range hi]; rfl
      rw [List.take_add_one, this]
      refine Paired.snoc (Paired.mapP hp fun q r z => ?_) ?_
      · rw [upd_ne (ne_of z hC fun z => nomatch z)]; exact sm3 _ _ z
      · rw [upd_ne ne.symm]; exact upd_same
  · obtain ⟨hb, ts, hC, hp⟩ := h
    rw [List.take_of_length_le (by unfold chunks; rw [List.length_map, List.length_range]; exact Nat.le_refl _)] at hp
    exact q hm c H1 hc ⟨ts, hC, hp⟩ (But.of_new hc hb)
theorem time_chain {σ : Stt} {H : Hp} {i : Nat} {z : Int} (h : σ[i]? = some (some (.int z))) : TEv (tChain (rI0 fun i j => V.bl (decide (i ≤ j))) (rI0 fun i j => V.bl (decide (i ≤ j))) (tC (V.int (-1))) (tVar i) (tC (V.int 1000))) σ H (.bl (timeOk z)) :=
  tev_chain (f := fun i j => decide (i ≤ j)) (g := fun i j => decide (i ≤ j)) tev_c (tev_var h) tev_c
theorem ok_o12a {f : Addr} {fd : FuncData} (F : Fun K "operation_12_all" "operation_12_all" sO12a f fd) (T : Txt K mg CP CR CE aS) : FnOk P w K mg base CX0 1 f fd ["row"] spO12a := by
  have nd := scO12a.nd
  refine F.ok scO12a (fun vs H Q E h => ?_) (fun cdv A outer sh H vs Q E hr h => ?_)
  · obtain ⟨_, _, rfl, _⟩ := h
    rfl
  obtain ⟨b, row, rfl, hB, hl, q⟩ := h
  refine ⟨_, (pss_cons (ps_for PassesOwn.never rfl (pi_tup (pe_slice (sl_tupAB rfl) (pv 0) (po_some pe_int) (po_some (pe_un un_neg pe_int)))) (pg_name (i := 1) nd rfl (Or.inl rfl)) (pss_one (ps_if (pt_not (pt_chain op_le op_le (pe_k rfl T.cUN) (pv 1) pe_int)) (pss_one (ps_ret pe_bl)) pss_nil)))
    (pss_one (ps_ret pe_bl))), ?_⟩
  have e1 : cutV (iv row) (some 1) (some (-1)) = iv ((row.drop 1).take (row.length - 2)) := by rw [cut_1n _ (by rw [iv_len]; exact hl), iv_len, iv_drop, iv_take]
  refine ⟨_, rfl, _, rfl, _, rfl, _, rfl, b, _, rfl, .inl (.inl hB), fun hw => ?_, fun _ c hc => ?_⟩
  · exfalso
    have : HT.sIx (iv row).length 0 (some 1) = 1 := by
      rw [show (1 : Int) = ((1 : Nat) : Int) from rfl, HT.sIx_nat, iv_len, Nat.min_eq_left (by omega)]
    rw [this] at hw
    omega
  rw [e1]
  have sm := same_at (.tup (iv ((row.drop 1).take (row.length - 2)))) hc
  have hC : (upd H c (.tup (iv ((row.drop 1).take (row.length - 2))))) c = some (.tup (iv ((row.drop 1).take (row.length - 2)))) := upd_same
  generalize upd H c (.tup (iv ((row.drop 1).take (row.length - 2)))) = H1 at sm hC
  generalize (row.drop 1).take (row.length - 2) = xs at hC q
  refine ⟨c, rfl, ⟨_, .inl (.inl hC)⟩, ?_⟩
  refine for_it (walk_tup (xs := iv xs)) (fun i σ H' => (∃ x, σ = [some (.ref b), x]) ∧ H' = H1 ∧ ∀ j, j < i → ∀ z, xs[j]? = some z → timeOk z = true) ⟨⟨_, rfl⟩, rfl, fun j h => absurd h (Nat.not_lt_zero j)⟩ (fun i σ H' _ h => by rw [h.2.1]; exact .inl (.inl hC)) (fun i x σ H2 H3 hi hP hY => ?_) (fun σ H' hP => ?_)
  · obtain ⟨⟨y, rfl⟩, eH1, hp2⟩ := hP
    obtain ⟨eH, hx⟩ := hY
    rw [eH1] at eH
    subst eH
    obtain ⟨z, hz, rfl⟩ := at_int_of hx
    dsimp only [gName, List.set]
    refine ifS_of (ttv_not (ttv_test (time_chain rfl))) (fun c1 => ?_) (fun c1 => ?_)
    · have e : xs.all timeOk = false := by
        rw [List.all_eq_false]
        exact ⟨z, List.mem_of_getElem? hz, by simpa using c1⟩
      rw [e] at q
      exact q _ sm
    · refine ⟨⟨_, rfl⟩, rfl, fun j hj z' hz' => ?_⟩
      rcases Nat.lt_or_ge j i with h | h
      · exact hp2 j h z' hz'
      · have : j = i := by omega
        subst this
        rw [hz] at hz'
        cases hz'
        simpa using c1
  · obtain ⟨⟨y, rfl⟩, rfl, hp2⟩ := hP
    have e : xs.all timeOk = true := by
      rw [List.all_eq_true]
      intro z hz
      obtain ⟨j, hj⟩ := List.mem_iff_getElem?.mp hz
      rw [iv_len] at hp2
      exact hp2 j (List.getElem?_eq_some_iff.mp hj).1 z hj
    rw [e] at q
    exact q _ sm
theorem ok_o13a {f : Addr} {fd : FuncData} (F : Fun K "operation_13_all" "operation_13_all" sO13a f fd) (T : Txt K mg CP CR CE aS) : FnOk P w K mg base CX0 1 f fd ["row"] spO13a := by
  have nd := scO13a.nd
  refine F.ok scO13a (fun vs H Q E h => ?_) (fun cdv A outer sh H vs Q E hr h => ?_)
  · obtain ⟨_, _, rfl, _⟩ := h
    rfl
  obtain ⟨b, row, rfl, hB, hl, q⟩ := h
  refine ⟨_, (pss_cons (ps_for PassesOwn.never rfl (pi_tup (pe_slice (sl_tupAB rfl) (pv 0) (po_some pe_int) po_none)) (pg_name (i := 1) nd rfl (Or.inl rfl)) (pss_one (ps_if (pt_not (pt_chain op_le op_le (pe_k rfl T.cUN) (pv 1) pe_int)) (pss_one (ps_ret pe_bl)) pss_nil)))
    (pss_one (ps_ret pe_bl))), ?_⟩
  have e1 : cutV (iv row) (some 1) none = iv (row.drop 1) := by rw [cut_1 _, iv_drop]
  refine ⟨_, rfl, _, rfl, b, _, rfl, .inl (.inl hB), fun hw => ?_, fun _ c hc => ?_⟩
  · exfalso
    have : HT.sIx (iv row).length 0 (some 1) = 1 := by
      rw [show (1 : Int) = ((1 : Nat) : Int) from rfl, HT.sIx_nat, iv_len, Nat.min_eq_left (by omega)]
    rw [this] at hw
    omega
  rw [e1]
  have sm := same_at (.tup (iv (row.drop 1))) hc
  have hC : (upd H c (.tup (iv (row.drop 1)))) c = some (.tup (iv (row.drop 1))) := upd_same
  generalize upd H c (.tup (iv (row.drop 1))) = H1 at sm hC
  generalize row.drop 1 = xs at hC q
  refine ⟨c, rfl, ⟨_, .inl (.inl hC)⟩, ?_⟩
  refine for_it (walk_tup (xs := iv xs)) (fun i σ H' => (∃ x, σ = [some (.ref b), x]) ∧ H' = H1 ∧ ∀ j, j < i → ∀ z, xs[j]? = some z → timeOk z = true) ⟨⟨_, rfl⟩, rfl, fun j h => absurd h (Nat.not_lt_zero j)⟩ (fun i σ H' _ h => by rw [h.2.1]; exact .inl (.inl hC)) (fun i x σ H2 H3 hi hP hY => ?_) (fun σ H' hP => ?_)
  · obtain ⟨⟨y, rfl⟩, eH1, hp2⟩ := hP
    obtain ⟨eH, hx⟩ := hY
    rw [eH1] at eH
    subst eH
    obtain ⟨z, hz, rfl⟩ := at_int_of hx
    dsimp only [gName, List.set]
    refine ifS_of (ttv_not (ttv_test (time_chain rfl))) (fun c1 => ?_) (fun c1 => ?_)
    · have e : xs.all timeOk = false := by
        rw [List.all_eq_false]
        exact ⟨z, List.mem_of_getElem? hz, by simpa using c1⟩
      rw [e] at q
      exact q _ sm
    · refine ⟨⟨_, rfl⟩, rfl, fun j hj z' hz' => ?_⟩
      rcases Nat.lt_or_ge j i with h | h
      · exact hp2 j h z' hz'
      · have : j = i := by omega
        subst this
        rw [hz] at hz'
        cases hz'
        simpa using c1
  · obtain ⟨⟨y, rfl⟩, rfl, hp2⟩ := hP
    have e : xs.all timeOk = true := by
      rw [List.all_eq_true]
      intro z hz
      obtain ⟨j, hj⟩ := List.mem_iff_getElem?.mp hz
      rw [iv_len] at hp2
      exact hp2 j (List.getElem?_eq_some_iff.mp hj).1 z hj
    rw [e] at q
    exact q _ sm
theorem row_at0 {row : List Int} (h : 2 ≤ row.length) : atI (iv row) 0 = some (V.int (row.getD 0 0)) := by
  have : row[0]? = some (row.getD 0 0) := by simp [List.getD_eq_getElem?_getD, List.getElem?_eq_getElem (show 0 < row.length by omega)]
  exact atI_nat (j := 0) (by rw [List.getElem?_map, this]; rfl)
theorem row_atl {row : List Int} (h : 2 ≤ row.length) : atI (iv row) (-1) = some (V.int (row.getD (row.length - 1) 0)) := by
  have hn : row ≠ [] := by intro z; rw [z] at h; simp at h
  have e : iv row = iv row.dropLast ++ [V.int (row.getLast hn)] := by
    conv => lhs; rw [← List.dropLast_concat_getLast hn]
    simp [iv]
  rw [e, atI_last]
  congr 2
  rw [List.getLast_eq_getElem, List.getD_eq_getElem?_getD, List.getElem?_eq_getElem (by omega)]
  rfl
theorem ok_o12b {f : Addr} {fd : FuncData} (F : Fun K "operation_12_all_2" "operation_12_all_2" sO12b f fd) (T : Txt K mg CP CR CE aS) (F_operation_12_all : FunX P w K mg base CX0 1 "operation_12_all" spO12a) : FnOk P w K mg base CX0 2 f fd ["rows"] spO12b := by
  have nd := scO12b.nd
  refine F.ok scO12b (fun vs H Q E h => ?_) (fun cdv A outer sh H vs Q E hr h => ?_)
  · obtain ⟨_, _, rfl, _⟩ := h
    rfl
  obtain ⟨b, rows, rfl, ⟨qs, hB, hq⟩, h2, q⟩ := h
  refine ⟨_, (pss_cons (ps_for PassesOwn.never rfl (pi_list (pv 0)) (pg_name (i := 1) nd rfl (Or.inl rfl)) (pss_one (ps_if (pt_not (PW.pt (pw_and (pt_chain op_le op_le pe_int (pe_ix (ix_tupB rfl) (pv 1) pe_int (fun _ _ => rfl)) pe_int) (pw_and (pt_val (pe_fx F_operation_12_all hr (by first | decide | omega) rfl (no0 (E := fun _ => E0)) (pa_cons (pv 1) pa_nil))) (pw_and1 (pt_chain op_le op_le pe_int (pe_ix (ix_tupB rfl) (pv 1) (pe_un un_neg pe_int) (fun _ _ => rfl)) pe_int)))))) (pss_one (ps_ret pe_bl)) pss_nil)))
    (pss_one (ps_ret pe_bl))), ?_⟩
  refine ⟨_, rfl, b, rfl, ⟨_, .inl (.inl hB)⟩, ?_⟩
  refine for_it (walk_list (xs := qs.map V.ref)) (fun i σ H' => (∃ x, σ = [some (.ref b), x]) ∧ Same H H' ∧ ∀ j, j < i → ∀ row, rows[j]? = some row → r12 row = true) ⟨⟨_, rfl⟩, Same.refl H, fun j h => absurd h (Nat.not_lt_zero j)⟩ (fun i σ H' _ h => .inl (.inl (h.2.1 _ _ hB))) (fun i x σ H2 H3 hi hP hY => ?_) (fun σ H' hP => ?_)
  · obtain ⟨⟨y, rfl⟩, sm, hp2⟩ := hP
    obtain ⟨eH, hx⟩ := hY
    subst eH
    obtain ⟨qk, row, rfl, hrow, hrq⟩ := rows_raw hq hx
    have hr2 := h2 row (List.mem_of_getElem? hrow)
    have hrq2 := sm _ _ hrq
    have bad : ∀ H', Same H3 H' → r12 row = false → Q (.bl false) H' := fun H' s' h => by
      have e : rows.all r12 = false := by
        rw [List.all_eq_false]
        exact ⟨row, List.mem_of_getElem? hrow, by rw [h]; exact Bool.false_ne_true⟩
      rw [e] at q
      exact q _ (sm.trans s')
    have good : ∀ H', Same H3 H' → r12 row = true → (fun i σ H' => (∃ x, σ = [some (V.ref b), x]) ∧ Same H H' ∧ ∀ j, j < i → ∀ row, rows[j]? = some row → r12 row = true) (i + 1) [some (.ref b), some (.ref qk)] H' := fun H' s' h => by
      refine ⟨⟨_, rfl⟩, sm.trans s', fun j hj row' hr' => ?_⟩
      rcases Nat.lt_or_ge j i with z | z
      · exact hp2 j z row' hr'
      · have : j = i := by omega
        subst this
        rw [hrow] at hr'
        cases hr'
        exact h
    have t1 : TEv (tChain (rI0 fun i j => V.bl (decide (i ≤ j))) (rI0 fun i j => V.bl (decide (i ≤ j))) (tC (V.int 0)) (tOp (rIxT K) (tVar 1) (tC (V.int 0))) (tC (V.int 1000))) [some (.ref b), some (.ref qk)] H3 (.bl (momOk (row.getD 0 0))) :=
      tev_chain (f := fun i j => decide (i ≤ j)) (g := fun i j => decide (i ≤ j)) tev_c (fun Q q => ⟨_, rfl, qk, _, 0, _, rfl, rfl, .inl (.inl hrq2), row_at0 hr2, q⟩) tev_c
    unfold r12 at bad good
    refine ttv_test t1 _ ?_
    cases c1 : momOk (row.getD 0 0) with
    | false => rw [c1] at bad; exact if_f rfl (if_t rfl (bad _ (Same.refl _) rfl))
    | true =>
      rw [c1] at bad good
      refine if_t rfl ?_
      refine ⟨_, rfl, qk, row, rfl, hrq2, hr2, fun H4 s4 => ⟨_, rfl, ?_⟩⟩
      cases c2 : ((row.drop 1).take (row.length - 2)).all timeOk with
      | false => rw [c2] at bad; exact if_f rfl (if_t rfl (bad _ s4 rfl))
      | true =>
        rw [c2] at bad good
        refine if_t rfl ?_
        have t2 : TEv (tChain (rI0 fun i j => V.bl (decide (i ≤ j))) (rI0 fun i j => V.bl (decide (i ≤ j))) (tC (V.int 0)) (tOp (rIxT K) (tVar 1) (tUn (rU fun i => V.int (-i)) (tC (V.int 1)))) (tC (V.int 1000))) [some (.ref b), some (.ref qk)] H4 (.bl (momOk (row.getD (row.length - 1) 0))) :=
          tev_chain (f := fun i j => decide (i ≤ j)) (g := fun i j => decide (i ≤ j)) tev_c (fun Q q => ⟨_, rfl, _, rfl, qk, _, -1, _, rfl, rfl, .inl (.inl (s4 _ _ hrq2)), row_atl hr2, q⟩) tev_c
        refine ttv_test t2 _ ?_
        cases c3 : momOk (row.getD (row.length - 1) 0) with
        | false => rw [c3] at bad; exact if_t rfl (bad _ s4 rfl)
        | true => rw [c3] at good; exact if_f rfl (good _ s4 rfl)
  · obtain ⟨⟨y, rfl⟩, sm, hp2⟩ := hP
    have e : rows.all r12 = true := by
      rw [List.all_eq_true]
      intro row hrow
      obtain ⟨j, hj⟩ := List.mem_iff_getElem?.mp hrow
      rw [List.length_map, Paired.length hq] at hp2
      exact hp2 j (List.getElem?_eq_some_iff.mp hj).1 row hj
    rw [e] at q
    exact q _ sm
theorem ok_o13b {f : Addr} {fd : FuncData} (F : Fun K "operation_13_all_2" "operation_13_all_2" sO13b f fd) (T : Txt K mg CP CR CE aS) (F_operation_13_all : FunX P w K mg base CX0 1 "operation_13_all" spO13a) : FnOk P w K mg base CX0 2 f fd ["rows"] spO13b := by
  have nd := scO13b.nd
  refine F.ok scO13b (fun vs H Q E h => ?_) (fun cdv A outer sh H vs Q E hr h => ?_)
  · obtain ⟨_, _, rfl, _⟩ := h
    rfl
  obtain ⟨b, rows, rfl, ⟨qs, hB, hq⟩, h2, q⟩ := h
  refine ⟨_, (pss_cons (ps_for PassesOwn.never rfl (pi_list (pv 0)) (pg_name (i := 1) nd rfl (Or.inl rfl)) (pss_one (ps_if (pt_not (PW.pt (pw_and (pt_chain op_le op_le pe_int (pe_ix (ix_tupB rfl) (pv 1) pe_int (fun _ _ => rfl)) pe_int) (pw_and1 (pt_val (pe_fx F_operation_13_all hr (by first | decide | omega) rfl (no0 (E := fun _ => E0)) (pa_cons (pv 1) pa_nil))))))) (pss_one (ps_ret pe_bl)) pss_nil)))
    (pss_one (ps_ret pe_bl))), ?_⟩
  refine ⟨_, rfl, b, rfl, ⟨_, .inl (.inl hB)⟩, ?_⟩
  refine for_it (walk_list (xs := qs.map V.ref)) (fun i σ H' => (∃ x, σ = [some (.ref b), x]) ∧ Same H H' ∧ ∀ j, j < i → ∀ row, rows[j]? = some row → r13 row = true) ⟨⟨_, rfl⟩, Same.refl H, fun j h => absurd h (Nat.not_lt_zero j)⟩ (fun i σ H' _ h => .inl (.inl (h.2.1 _ _ hB))) (fun i x σ H2 H3 hi hP hY => ?_) (fun σ H' hP => ?_)
  · obtain ⟨⟨y, rfl⟩, sm, hp2⟩ := hP
    obtain ⟨eH, hx⟩ := hY
    subst eH
    obtain ⟨qk, row, rfl, hrow, hrq⟩ := rows_raw hq hx
    have hr2 := h2 row (List.mem_of_getElem? hrow)
    have hrq2 := sm _ _ hrq
    have bad : ∀ H', Same H3 H' → r13 row = false → Q (.bl false) H' := fun H' s' h => by
      have e : rows.all r13 = false := by
        rw [List.all_eq_false]
        exact ⟨row, List.mem_of_getElem? hrow, by rw [h]; exact Bool.false_ne_true⟩
      rw [e] at q
      exact q _ (sm.trans s')
    have good : ∀ H', Same H3 H' → r13 row = true → (fun i σ H' => (∃ x, σ = [some (V.ref b), x]) ∧ Same H H' ∧ ∀ j, j < i → ∀ row, rows[j]? = some row → r13 row = true) (i + 1) [some (.ref b), some (.ref qk)] H' := fun H' s' h => by
      refine ⟨⟨_, rfl⟩, sm.trans s', fun j hj row' hr' => ?_⟩
      rcases Nat.lt_or_ge j i with z | z
      · exact hp2 j z row' hr'
      · have : j = i := by omega
        subst this
        rw [hrow] at hr'
        cases hr'
        exact h
    have t1 : TEv (tChain (rI0 fun i j => V.bl (decide (i ≤ j))) (rI0 fun i j => V.bl (decide (i ≤ j))) (tC (V.int 0)) (tOp (rIxT K) (tVar 1) (tC (V.int 0))) (tC (V.int 1000))) [some (.ref b), some (.ref qk)] H3 (.bl (momOk (row.getD 0 0))) :=
      tev_chain (f := fun i j => decide (i ≤ j)) (g := fun i j => decide (i ≤ j)) tev_c (fun Q q => ⟨_, rfl, qk, _, 0, _, rfl, rfl, .inl (.inl hrq2), row_at0 hr2, q⟩) tev_c
    unfold r13 at bad good
    refine ttv_test t1 _ ?_
    cases c1 : momOk (row.getD 0 0) with
    | false => rw [c1] at bad; exact if_f rfl (if_t rfl (bad _ (Same.refl _) rfl))
    | true =>
      rw [c1] at bad good
      refine if_t rfl ?_
      refine ⟨_, rfl, qk, row, rfl, hrq2, by omega, fun H4 s4 => ⟨_, rfl, ?_⟩⟩
      cases c2 : (row.drop 1).all timeOk with
      | false => rw [c2] at bad; exact if_t rfl (bad _ s4 rfl)
      | true => rw [c2] at good; exact if_f rfl (good _ s4 rfl)
  · obtain ⟨⟨y, rfl⟩, sm, hp2⟩ := hP
    have e : rows.all r13 = true := by
      rw [List.all_eq_true]
      intro row hrow
      obtain ⟨j, hj⟩ := List.mem_iff_getElem?.mp hrow
      rw [List.length_map, Paired.length hq] at hp2
      exact hp2 j (List.getElem?_eq_some_iff.mp hj).1 row hj
    rw [e] at q
    exact q _ sm
theorem cat_T {K : PySem.W.Frag} {a b : Addr} {xs ys : List V} {H : Hp} {Q : VK} (ha : H a = some (.tup xs)) (hb : H b = some (.tup ys)) (nx : xs ≠ []) (ny : ys ≠ []) (hz : xs.length + ys.length ≤ sizeLine) (q : ∀ p, H p = none → Q (.ref p) (upd H p (.tup (xs ++ ys)))) : rCatA K (.ref a) (.ref b) H Q :=
  ⟨a, b, xs, ys, rfl, rfl, .inl (.inl ha), .inl (.inl hb), hz, fun e => absurd e nx, fun _ e => absurd e ny, fun _ _ => q⟩
theorem ok_o11l {f : Addr} {fd : FuncData} (F : Fun K "operation_11_list" "operation_11_list" sO11l f fd) (T : Txt K mg CP CR CE aS) : FnOk P w K mg base CX0 1 f fd ["positions"] spO11l := by
  have nd := scO11l.nd
  refine F.ok scO11l (fun vs H Q E h => ?_) (fun cdv A outer sh H vs Q E hr h => ?_)
  · obtain ⟨_, _, _, rfl, _⟩ := h
    rfl
  obtain ⟨l, es, xs, rfl, hL, hE, hx6, hs6, q⟩ := h
  refine ⟨_, (pss_cons (ps_set (i := 1) nd rfl (Or.inl rfl) (pe_lst pa_nil))
    (pss_cons (ps_for PassesOwn.never rfl (pi_list (pv 0)) (pg_tupB (n := 2) rfl rfl (pgs_cons (pg_name (i := 2) nd rfl (Or.inl rfl)) (pgs_cons (pg_name (i := 3) nd rfl (Or.inl rfl)) pgs_nil))) (pss_one (ps_for PassesOwn.never rfl (pi_tup (pe_op op_catA (pe_tup (pa_cons (pv 2) pa_nil)) (pv 3))) (pg_name (i := 4) nd rfl (Or.inl rfl)) (pss_one (ps_expr (pe_bm PySem.F.plainAttrs_list PySem.F.slot_list_append PySem.F.type_list_append mt_append (pv 1) (pa_cons (pv 4) pa_nil)))))))
    (pss_one (ps_ret (pv 1))))), ?_⟩
  have one1 : 1 ≤ sizeLine := by rw [sizeLine_eq]; decide
  have les := Paired.length hE
  have tot : ∀ i, ((xs.take i).flatMap posF).length ≤ i * 7 := fun i => by
    have := SPM.flatMap_len posF 7 (xs.take i) fun x hx => by
      have := (hs6 x (List.mem_of_mem_take hx)).1
      unfold posF
      rw [List.length_cons, SPM.enc_len]; omega
    rw [List.length_take] at this
    have h2 : min i xs.length * 7 ≤ i * 7 := Nat.mul_le_mul_right _ (Nat.min_le_left _ _)
    omega
  refine ⟨Nat.zero_le _, fun c hc0 => ?_⟩
  have nlc : l ≠ c := ne_of_none hL hc0
  refine ⟨_, rfl, l, rfl, ⟨_, .inl (.inl ((upd_ne nlc).trans hL))⟩, ?_⟩
  refine for_it (walk_list (xs := es.map V.ref)) (fun i σ H' => (∃ x2 x3 x4, σ = [some (.ref l), some (.ref c), x2, x3, x4]) ∧ Same H H' ∧ H' c = some (.lst (iv ((xs.take i).flatMap posF)))) ⟨⟨_, _, _, rfl⟩, same_at _ hc0, upd_same⟩ (fun i σ H' _ h => .inl (.inl (h.2.1 _ _ hL))) (fun i x σ H2 H3 hi hP hY => ?_) (fun σ H' hP => ?_)
  · obtain ⟨⟨x2, x3, x4, rfl⟩, sm, hC⟩ := hP
    obtain ⟨eH, hx⟩ := hY
    subst eH
    rw [List.length_map] at hi
    rw [List.getElem?_map] at hx
    obtain ⟨e, he, rfl⟩ := Option.map_eq_some_iff.mp hx
    obtain ⟨x, hxx, hpos⟩ := paired_at hE i e he
    obtain ⟨r, e1, e2⟩ := hpos.keep (same_tups sm)
    obtain ⟨l6, lne⟩ := hs6 x (List.mem_of_getElem? hxx)
    have lnv : iv (enc x.seen) ≠ [] := fun z => lne (by
      have := congrArg List.length z
      rw [iv_len, SPM.enc_len] at this
      exact List.eq_nil_of_length_eq_zero this)
    refine ⟨e, _, rfl, .inl (.inl e1), rfl, _, _, rfl, _, _, rfl, rfl, ?_⟩
    refine ⟨_, rfl, one1, fun u hu => ?_⟩
    have nu : c ≠ u := ne_of_none hC hu
    have nru : r ≠ u := ne_of_none e2 hu
    refine ⟨_, rfl, cat_T upd_same (by rw [upd_ne nru]; exact e2) (by simp) lnv ?_ fun v hv => ?_⟩
    · rw [iv_len, SPM.enc_len, sizeLine_eq]; show 1 + _ ≤ _; omega
    have nv' : c ≠ v := ne_of_none (show (upd H3 u (.tup [.int (x.moment : Int)])) c = _ by rw [upd_ne nu]; exact hC) hv
    have hC2 : (upd (upd H3 u (.tup [.int (x.moment : Int)])) v (.tup ([V.int (x.moment : Int)] ++ iv (enc x.seen)))) c = some (.lst (iv ((xs.take i).flatMap posF))) := by rw [upd_ne nv', upd_ne nu]; exact hC
    have hV : (upd (upd H3 u (.tup [.int (x.moment : Int)])) v (.tup ([V.int (x.moment : Int)] ++ iv (enc x.seen)))) v = some (.tup (iv (posF x))) := by rw [upd_same]; rfl
    have sm2 : Same H (upd (upd H3 u (.tup [.int (x.moment : Int)])) v (.tup ([V.int (x.moment : Int)] ++ iv (enc x.seen)))) := sm.trans ((same_at _ hu).trans (same_at _ hv))
    generalize upd (upd H3 u (.tup [.int (x.moment : Int)])) v (.tup ([V.int (x.moment : Int)] ++ iv (enc x.seen))) = H4 at hC2 hV sm2
    have ncv : v ≠ c := nv'.symm
    refine ⟨v, rfl, ⟨_, .inl (.inl hV)⟩, ?_⟩
    have lp : (posF x).length ≤ 7 := by unfold posF; rw [List.length_cons, SPM.enc_len]; omega
    refine for_it (walk_tup (xs := iv (posF x))) (fun j σ H' => (∃ x4, σ = [some (.ref l), some (.ref c), some (.int (x.moment : Int)), some (.ref r), x4]) ∧ Same H H' ∧ H' v = some (.tup (iv (posF x))) ∧ H' c = some (.lst (iv ((xs.take i).flatMap posF ++ (posF x).take j)))) ⟨⟨_, rfl⟩, sm2, hV, by rw [List.take_zero, List.append_nil]; exact hC2⟩ (fun j σ H' _ h => .inl (.inl h.2.2.1)) (fun j y σ H5 H6 hj hP hY => ?_) (fun σ H' hP => ?_)
    · obtain ⟨⟨x4, rfl⟩, sm5, hV5, hC5⟩ := hP
      obtain ⟨eH, hy⟩ := hY
      subst eH
      obtain ⟨z, hz, rfl⟩ := at_int_of hy
      refine ⟨_, rfl, .inl ⟨rfl, _, .inl (.inl hC5)⟩, _, rfl, c, _, _, rfl, rfl, hC5, ?_, ⟨_, rfl⟩, same_upd sm5 hc0, by rw [upd_ne ncv]; exact hV5, ?_⟩
      · rw [iv_len, List.length_append, List.length_take]
        have := tot i
        exact small_lt (by omega)
      · rw [upd_same, List.take_add_one, hz]
        simp [iv]
    · obtain ⟨⟨x4, rfl⟩, sm5, hV5, hC5⟩ := hP
      rw [iv_len, List.take_length] at hC5
      refine ⟨⟨_, _, _, rfl⟩, sm5, ?_⟩
      rw [hC5, take_flat posF hxx]
  · obtain ⟨⟨x2, x3, x4, rfl⟩, sm, hC⟩ := hP
    rw [List.length_map, les, List.take_length] at hC
    exact ⟨_, rfl, q c H' hC sm⟩
theorem ok_o10l {f : Addr} {fd : FuncData} (F : Fun K "operation_10_list" "operation_10_list" sO10l f fd) (T : Txt K mg CP CR CE aS) : FnOk P w K mg base CX0 1 f fd ["entries"] spO10l := by
  have nd := scO10l.nd
  refine F.ok scO10l (fun vs H Q E h => ?_) (fun cdv A outer sh H vs Q E hr h => ?_)
  · obtain ⟨_, _, _, rfl, _⟩ := h
    rfl
  obtain ⟨l, es, xs, rfl, hL, hE, hx6, hs6, q⟩ := h
  refine ⟨_, (pss_cons (ps_set (i := 1) nd rfl (Or.inl rfl) (pe_lst pa_nil))
    (pss_cons (ps_for PassesOwn.never rfl (pi_list (pv 0)) (pg_tupB (n := 3) rfl rfl (pgs_cons (pg_name (i := 2) nd rfl (Or.inl rfl)) (pgs_cons (pg_name (i := 3) nd rfl (Or.inl rfl)) (pgs_cons (pg_name (i := 4) nd rfl (Or.inl rfl)) pgs_nil)))) (pss_one (ps_for PassesOwn.never rfl (pi_tup (pe_op op_catA (pe_op op_catA (pe_tup (pa_cons (pv 2) pa_nil)) (pv 3)) (pe_tup (pa_cons (pv 4) pa_nil)))) (pg_name (i := 5) nd rfl (Or.inl rfl)) (pss_one (ps_expr (pe_bm PySem.F.plainAttrs_list PySem.F.slot_list_append PySem.F.type_list_append mt_append (pv 1) (pa_cons (pv 5) pa_nil)))))))
    (pss_one (ps_ret (pv 1))))), ?_⟩
  have one1 : 1 ≤ sizeLine := by rw [sizeLine_eq]; decide
  have les := Paired.length hE
  have tot : ∀ i, ((xs.take i).flatMap entF).length ≤ i * 8 := fun i => by
    have := SPM.flatMap_len entF 8 (xs.take i) fun x hx => by
      have := (hs6 x (List.mem_of_mem_take hx)).1
      unfold entF posF
      rw [List.length_append, List.length_cons, SPM.enc_len, List.length_singleton]; omega
    rw [List.length_take] at this
    have h2 : min i xs.length * 8 ≤ i * 8 := Nat.mul_le_mul_right _ (Nat.min_le_left _ _)
    omega
  refine ⟨Nat.zero_le _, fun c hc0 => ?_⟩
  have nlc : l ≠ c := ne_of_none hL hc0
  refine ⟨_, rfl, l, rfl, ⟨_, .inl (.inl ((upd_ne nlc).trans hL))⟩, ?_⟩
  refine for_it (walk_list (xs := es.map V.ref)) (fun i σ H' => (∃ x2 x3 x4 x5, σ = [some (.ref l), some (.ref c), x2, x3, x4, x5]) ∧ Same H H' ∧ H' c = some (.lst (iv ((xs.take i).flatMap entF)))) ⟨⟨_, _, _, _, rfl⟩, same_at _ hc0, upd_same⟩ (fun i σ H' _ h => .inl (.inl (h.2.1 _ _ hL))) (fun i x σ H2 H3 hi hP hY => ?_) (fun σ H' hP => ?_)
  · obtain ⟨⟨x2, x3, x4, x5, rfl⟩, sm, hC⟩ := hP
    obtain ⟨eH, hx⟩ := hY
    subst eH
    rw [List.length_map] at hi
    rw [List.getElem?_map] at hx
    obtain ⟨e, he, rfl⟩ := Option.map_eq_some_iff.mp hx
    obtain ⟨x, hxx, hpos⟩ := paired_at hE i e he
    obtain ⟨r, e1, e2⟩ := hpos.keep (same_tups sm)
    obtain ⟨l6, lne⟩ := hs6 x (List.mem_of_getElem? hxx)
    have lnv : iv (enc x.position.seen) ≠ [] := fun z => lne (by
      have := congrArg List.length z
      rw [iv_len, SPM.enc_len] at this
      exact List.eq_nil_of_length_eq_zero this)
    refine ⟨e, _, rfl, .inl (.inl e1), rfl, _, _, rfl, _, _, rfl, _, _, rfl, rfl, ?_⟩
    refine ⟨_, rfl, one1, fun u hu => ?_⟩
    have nu : c ≠ u := ne_of_none hC hu
    have nru : r ≠ u := ne_of_none e2 hu
    refine ⟨_, rfl, cat_T upd_same (by rw [upd_ne nru]; exact e2) (by simp) lnv ?_ fun v hv => ?_⟩
    · rw [iv_len, SPM.enc_len, sizeLine_eq]; show 1 + _ ≤ _; omega
    have nv' : c ≠ v := ne_of_none (show (upd H3 u (.tup [.int (x.position.moment : Int)])) c = _ by rw [upd_ne nu]; exact hC) hv
    have hC2 : (upd (upd H3 u (.tup [.int (x.position.moment : Int)])) v (.tup ([V.int (x.position.moment : Int)] ++ iv (enc x.position.seen)))) c = some (.lst (iv ((xs.take i).flatMap entF))) := by rw [upd_ne nv', upd_ne nu]; exact hC
    have hV : (upd (upd H3 u (.tup [.int (x.position.moment : Int)])) v (.tup ([V.int (x.position.moment : Int)] ++ iv (enc x.position.seen)))) v = some (.tup (iv (posF x.position))) := by rw [upd_same]; rfl
    have sm2 : Same H (upd (upd H3 u (.tup [.int (x.position.moment : Int)])) v (.tup ([V.int (x.position.moment : Int)] ++ iv (enc x.position.seen)))) := sm.trans ((same_at _ hu).trans (same_at _ hv))
    generalize upd (upd H3 u (.tup [.int (x.position.moment : Int)])) v (.tup ([V.int (x.position.moment : Int)] ++ iv (enc x.position.seen))) = H4 at hC2 hV sm2
    refine ⟨_, rfl, one1, fun u2 hu2 => ?_⟩
    have nu2 : c ≠ u2 := ne_of_none hC2 hu2
    have nvu2 : v ≠ u2 := ne_of_none hV hu2
    refine cat_T (by rw [upd_ne nvu2]; exact hV) upd_same (by simp [posF]) (by simp) ?_ fun v2 hv2 => ?_
    · rw [iv_len, sizeLine_eq]; unfold posF; rw [List.length_cons, SPM.enc_len]; show _ + 1 ≤ _; omega
    have nv2 : c ≠ v2 := ne_of_none (show (upd H4 u2 (.tup [.int (x.move : Int)])) c = _ by rw [upd_ne nu2]; exact hC2) hv2
    have hC3 : (upd (upd H4 u2 (.tup [.int (x.move : Int)])) v2 (.tup (iv (posF x.position) ++ [V.int (x.move : Int)]))) c = some (.lst (iv ((xs.take i).flatMap entF))) := by rw [upd_ne nv2, upd_ne nu2]; exact hC2
    have hV2 : (upd (upd H4 u2 (.tup [.int (x.move : Int)])) v2 (.tup (iv (posF x.position) ++ [V.int (x.move : Int)]))) v2 = some (.tup (iv (entF x))) := by rw [upd_same]; unfold entF; simp [iv]
    have sm3 : Same H (upd (upd H4 u2 (.tup [.int (x.move : Int)])) v2 (.tup (iv (posF x.position) ++ [V.int (x.move : Int)]))) := sm2.trans ((same_at _ hu2).trans (same_at _ hv2))
    generalize upd (upd H4 u2 (.tup [.int (x.move : Int)])) v2 (.tup (iv (posF x.position) ++ [V.int (x.move : Int)])) = H7 at hC3 hV2 sm3
    have ncv : v2 ≠ c := nv2.symm
    refine ⟨v2, rfl, ⟨_, .inl (.inl hV2)⟩, ?_⟩
    have lp : (entF x).length ≤ 8 := by unfold entF posF; rw [List.length_append, List.length_cons, SPM.enc_len, List.length_singleton]; omega
    refine for_it (walk_tup (xs := iv (entF x))) (fun j σ H' => (∃ x5, σ = [some (.ref l), some (.ref c), some (.int (x.position.moment : Int)), some (.ref r), some (.int (x.move : Int)), x5]) ∧ Same H H' ∧ H' v2 = some (.tup (iv (entF x))) ∧ H' c = some (.lst (iv ((xs.take i).flatMap entF ++ (entF x).take j)))) ⟨⟨_, rfl⟩, sm3, hV2, by rw [List.take_zero, List.append_nil]; exact hC3⟩ (fun j σ H' _ h => .inl (.inl h.2.2.1)) (fun j y σ H5 H6 hj hP hY => ?_) (fun σ H' hP => ?_)
    · obtain ⟨⟨x4, rfl⟩, sm5, hV5, hC5⟩ := hP
      obtain ⟨eH, hy⟩ := hY
      subst eH
      obtain ⟨z, hz, rfl⟩ := at_int_of hy
      refine ⟨_, rfl, .inl ⟨rfl, _, .inl (.inl hC5)⟩, _, rfl, c, _, _, rfl, rfl, hC5, ?_, ⟨_, rfl⟩, same_upd sm5 hc0, by rw [upd_ne ncv]; exact hV5, ?_⟩
      · rw [iv_len, List.length_append, List.length_take]
        have := tot i
        exact small_lt (by omega)
      · rw [upd_same, List.take_add_one, hz]
        simp [iv]
    · obtain ⟨⟨x4, rfl⟩, sm5, hV5, hC5⟩ := hP
      rw [iv_len, List.take_length] at hC5
      refine ⟨⟨_, _, _, _, rfl⟩, sm5, ?_⟩
      rw [hC5, take_flat entF hxx]
  · obtain ⟨⟨x2, x3, x4, x5, rfl⟩, sm, hC⟩ := hP
    rw [List.length_map, les, List.take_length] at hC
    exact ⟨_, rfl, q c H' hC sm⟩
end
end SP
end

section
set_option Elab.async false
set_option linter.all false
set_option maxRecDepth 100000
set_option maxHeartbeats 4000000
namespace SP
open PySem PySem.Spec PyProof.Rows L2 SPR
open SPM (enc ov)
abbrev sReqInit : Stmt := inClass (top 20) 0
abbrev nReqInit : List Str := ["self"]
theorem scReqInit : FnScope ["self"] ["self"] (defScope sReqInit) := ⟨rfl, rfl, rfl, by decide +kernel, rfl, by decide +kernel, by decide +kernel⟩
abbrev sRestart : Stmt := inClass (top 20) 1
abbrev nRestart : List Str := ["self"]
theorem scRestart : FnScope ["self"] ["self"] (defScope sRestart) := ⟨rfl, rfl, rfl, by decide +kernel, rfl, by decide +kernel, by decide +kernel⟩
abbrev sNat : Stmt := inClass (top 20) 3
abbrev nNat : List Str := ["self"]
theorem scNat : FnScope ["self"] ["self"] (defScope sNat) := ⟨rfl, rfl, rfl, by decide +kernel, rfl, by decide +kernel, by decide +kernel⟩
abbrev sChkS : Stmt := inClass (top 20) 4
abbrev nChkS : List Str := ["self"]
theorem scChkS : FnScope ["self"] ["self"] (defScope sChkS) := ⟨rfl, rfl, rfl, by decide +kernel, rfl, by decide +kernel, by decide +kernel⟩
abbrev sOp1 : Stmt := inClass (top 20) 6
abbrev nOp1 : List Str := ["self"]
theorem scOp1 : FnScope ["self"] ["self"] (defScope sOp1) := ⟨rfl, rfl, rfl, by decide +kernel, rfl, by decide +kernel, by decide +kernel⟩
abbrev sOp2 : Stmt := inClass (top 20) 7
abbrev nOp2 : List Str := ["self"]
theorem scOp2 : FnScope ["self"] ["self"] (defScope sOp2) := ⟨rfl, rfl, rfl, by decide +kernel, rfl, by decide +kernel, by decide +kernel⟩
abbrev sOp3 : Stmt := inClass (top 20) 8
abbrev nOp3 : List Str := ["self"]
theorem scOp3 : FnScope ["self"] ["self"] (defScope sOp3) := ⟨rfl, rfl, rfl, by decide +kernel, rfl, by decide +kernel, by decide +kernel⟩
abbrev sOp6 : Stmt := inClass (top 20) 11
abbrev nOp6 : List Str := ["self"]
theorem scOp6 : FnScope ["self"] ["self"] (defScope sOp6) := ⟨rfl, rfl, rfl, by decide +kernel, rfl, by decide +kernel, by decide +kernel⟩
abbrev sOp9 : Stmt := inClass (top 20) 14
abbrev nOp9 : List Str := ["self", "times"]
theorem scOp9 : FnScope ["self", "times"] ["self"] (defScope sOp9) := ⟨rfl, rfl, rfl, by decide +kernel, rfl, by decide +kernel, by decide +kernel⟩
abbrev sOp14 : Stmt := inClass (top 20) 19
abbrev nOp14 : List Str := ["self", "plan"]
theorem scOp14 : FnScope ["self", "plan"] ["self"] (defScope sOp14) := ⟨rfl, rfl, rfl, by decide +kernel, rfl, by decide +kernel, by decide +kernel⟩
abbrev rF (pl sn : Addr) (m : Int) (hm : Bool) : List (Str × V) := [("plan", .ref pl), ("moment", .int m), ("seen", .ref sn), ("has_moved", .bl hm)]
abbrev rF1 (pl : Addr) : List (Str × V) := [("plan", .ref pl)]
abbrev rF2 (pl : Addr) (m : Int) : List (Str × V) := [("plan", .ref pl), ("moment", .int m)]
abbrev rF3 (pl sn : Addr) (m : Int) : List (Str × V) := [("plan", .ref pl), ("moment", .int m), ("seen", .ref sn)]
/-- the request's plan has this list -/
def PL (r : Addr) (H : Hp) (x : Addr) : Prop := ∃ C dx pl sn m hm C' d rr aT aR aO aW, H r = some (.ins C dx (rF pl sn m hm)) ∧ H pl = some (.ins C' d (pF rr aT aR aO aW)) ∧ (x = aT ∨ x = aR ∨ x = aO)
def PLd (r : Addr) (H : Hp) : Prop := ∃ C dx pl sn m hm C' d rr aT aR aO aW, H r = some (.ins C dx (rF pl sn m hm)) ∧ H pl = some (.ins C' d (pF rr aT aR aO aW))
/-- lists and tuples stay; no list becomes one of the plan's -/
structure LT (r : Addr) (H H' : Hp) : Prop where
  l : ∀ b xs, H b = some (.lst xs) → H' b = some (.lst xs)
  t : Tups H H'
  p : PLd r H → PLd r H' ∧ ∀ x xs, H x = some (.lst xs) → PL r H' x → PL r H x
theorem LT.refl {r : Addr} (H : Hp) : LT r H H := ⟨fun _ _ e => e, fun _ _ e => e, fun h => ⟨h, fun _ _ _ q => q⟩⟩
theorem LT.trans {r : Addr} {H H1 H2 : Hp} (a : LT r H H1) (b : LT r H1 H2) : LT r H H2 := ⟨fun c xs e => b.l _ _ (a.l _ _ e), fun c xs e => b.t _ _ (a.t _ _ e), fun h => ⟨(b.p (a.p h).1).1, fun x xs e q => (a.p h).2 x xs e ((b.p (a.p h).1).2 x xs (a.l _ _ e) q)⟩⟩
theorem rF_inj {pl sn pl' sn' : Addr} {m m' : Int} {hm hm' : Bool} (h : rF pl sn m hm = rF pl' sn' m' hm') : pl = pl' := by
  injection h with h _
  injection h with _ h
  injection h
/-- where instances stay -/
theorem pl_keep {r : Addr} {H H' : Hp} (k : ∀ b C d fs, H b = some (.ins C d fs) → H' b = some (.ins C d fs)) (h : PLd r H) : PLd r H' ∧ ∀ x xs, H x = some (.lst xs) → PL r H' x → PL r H x := by
  obtain ⟨C, dx, pl, sn, m, hm, C', d, rr, aT, aR, aO, aW, h1, h2⟩ := h
  refine ⟨⟨C, dx, pl, sn, m, hm, C', d, rr, aT, aR, aO, aW, k _ _ _ _ h1, k _ _ _ _ h2⟩, fun x xs _ q => ?_⟩
  obtain ⟨D, ex, ql, qsn, n, hn, D', e, qr, bT, bR, bO, bW, g1, g2, g3⟩ := q
  have e1 := k _ _ _ _ h1
  rw [g1] at e1
  injection e1 with e1
  injection e1 with i1 i2 i3
  have := rF_inj i3
  subst this
  have e2 := k _ _ _ _ h2
  rw [g2] at e2
  rw [← e2] at h2
  exact ⟨C, dx, ql, sn, m, hm, D', e, qr, bT, bR, bO, bW, h1, h2, g3⟩
theorem same_lt {r : Addr} {H H' : Hp} (s : Same H H') : LT r H H' := ⟨fun _ _ e => s _ _ e, fun _ _ e => s _ _ e, pl_keep fun _ _ _ _ e => s _ _ e⟩
section
variable {K : PySem.W.Frag} {mg : Str → Option Value} {CP CR CE aS : Addr}
theorem Txt.gP (T : Txt K mg CP CR CE aS) : NoAttr K CR "plan" := T.nR _ (.head _)
theorem Txt.gM (T : Txt K mg CP CR CE aS) : NoAttr K CR "moment" := T.nR _ (.tail _ (.head _))
theorem Txt.gS (T : Txt K mg CP CR CE aS) : NoAttr K CR "seen" := T.nR _ (.tail _ (.tail _ (.head _)))
theorem Txt.gH (T : Txt K mg CP CR CE aS) : NoAttr K CR "has_moved" := T.nR _ (.tail _ (.tail _ (.tail _ (.head _))))
end
section
variable {pl sn : Addr} {m : Int} {hm : Bool}
theorem rF_plan : (rF pl sn m hm).lookup ("plan" : Str) = some (.ref pl) := lk_here
theorem rF_moment : (rF pl sn m hm).lookup ("moment" : Str) = some (.int m) := (lk_past (by decide +kernel)).trans lk_here
theorem rF_seen : (rF pl sn m hm).lookup ("seen" : Str) = some (.ref sn) := (lk_past (by decide +kernel)).trans ((lk_past (by decide +kernel)).trans lk_here)
theorem rF_moved : (rF pl sn m hm).lookup ("has_moved" : Str) = some (.bl hm) := (lk_past (by decide +kernel)).trans ((lk_past (by decide +kernel)).trans ((lk_past (by decide +kernel)).trans lk_here))
theorem rF_none {f : Str} (h : (f == ("plan" : Str) || (f == ("moment" : Str) || (f == ("seen" : Str) || f == ("has_moved" : Str)))) = false) : (rF pl sn m hm).lookup f = none := by
  simp only [Bool.or_eq_false_iff] at h
  obtain ⟨h1, h2, h3, h4⟩ := h
  exact (lk_past h1).trans ((lk_past h2).trans ((lk_past h3).trans ((lk_past h4).trans rfl)))
theorem put_plan {v : Addr} : putF ("plan" : Str) (.ref v) (rF pl sn m hm) = rF v sn m hm := if_pos rfl
theorem put_past {f g : Str} {v x : V} {l : List (Str × V)} (h : g ≠ f) : putF f v ((g, x) :: l) = (g, x) :: putF f v l := if_neg h
theorem put_here {f : Str} {v x : V} {l : List (Str × V)} : putF f v ((f, x) :: l) = (f, v) :: l := if_pos rfl
theorem put_moment {z : Int} : putF ("moment" : Str) (.int z) (rF pl sn m hm) = rF pl sn z hm := (put_past (by decide +kernel)).trans (congrArg _ put_here)
theorem put_seen {z : Addr} : putF ("seen" : Str) (.ref z) (rF pl sn m hm) = rF pl z m hm := (put_past (by decide +kernel)).trans (congrArg _ ((put_past (by decide +kernel)).trans (congrArg _ put_here)))
theorem put_moved {z : Bool} : putF ("has_moved" : Str) (.bl z) (rF pl sn m hm) = rF pl sn m z := (put_past (by decide +kernel)).trans (congrArg _ ((put_past (by decide +kernel)).trans (congrArg _ ((put_past (by decide +kernel)).trans (congrArg _ put_here)))))
end
section
variable (P : Program) (w : World) (CP CR : Addr)
structure ReqA (H : Hp) (r dx pl sn aW : Addr) (s : Vbjpae.State) : Prop where
  ob : H r = some (.ins CR dx (rF pl sn s.game.moment s.game.hasMoved))
  gp : GP P w CP H pl aW s.plan
  sn : H sn = some (.tup (iv (enc s.game.seen)))
  rc : SPM.Reach s.plan s.game.moment s.game.seen
def ReqOk (H : Hp) (r : Addr) (s : Vbjpae.State) : Prop := ∃ dx pl sn aW, ReqA P w CP CR H r dx pl sn aW s
end
section
variable {P : Program} {w : World} {CP CR CE : Addr} {H H' : Hp} {r dx pl sn aW : Addr} {s : Vbjpae.State}
theorem ReqA.same (h : ReqA P w CP CR H r dx pl sn aW s) (sm : Same H H') : ReqA P w CP CR H' r dx pl sn aW s := ⟨sm _ _ h.ob, h.gp.same sm, sm _ _ h.sn, h.rc⟩
theorem ReqA.but (h : ReqA P w CP CR H r dx pl sn aW s) (b : But aW H H') (hw : WonOk P w s.plan H' aW) : ReqA P w CP CR H' r dx pl sn aW s := by
  obtain ⟨o, eo⟩ := h.gp.won.ext
  exact ⟨b _ _ h.ob (ne_of h.ob eo fun z => nomatch z), h.gp.but b hw, but_tup b h.gp.won h.sn, h.rc⟩
theorem but_lt {p : Pln} (b : But aW H H') (hw : WonOk P w p H aW) : LT r H H' := ⟨fun _ _ e => but_lst b hw e, fun _ _ e => but_tup b hw e, pl_keep fun x _ _ _ e => by
  obtain ⟨o, eo⟩ := hw.ext
  exact b _ _ e (ne_of e eo fun z => nomatch z)⟩
/-- the request itself is written, its plan as before -/
theorem ins_lt {C C2 C' d dp : Addr} {sn' : Addr} {m m' : Int} {hm hm' : Bool} {rr : RP} {aT aR aO : Addr} (b : But r H H') (h : H r = some (.ins C d (rF pl sn m hm))) (h' : H' r = some (.ins C2 dx (rF pl sn' m' hm'))) (hA : H pl = some (.ins C' dp (pF rr aT aR aO aW))) (nr : r ≠ pl) : LT r H H' := by
  refine ⟨fun _ _ e => b _ _ e (ne_of e h fun z => nomatch z), fun _ _ e => b _ _ e (ne_of e h fun z => nomatch z), fun _ => ?_⟩
  have hA' := b _ _ hA nr.symm
  refine ⟨⟨_, _, pl, _, _, _, _, _, _, _, _, _, _, h', hA'⟩, fun x xs _ q => ?_⟩
  obtain ⟨D, ex, ql, qsn, n, hn, D', e, qr, bT, bR, bO, bW, g1, g2, g3⟩ := q
  rw [h'] at g1
  injection g1 with g1
  injection g1 with i1 i2 i3
  have := rF_inj i3
  subst this
  rw [hA'] at g2
  rw [g2] at hA
  exact ⟨_, _, pl, _, _, _, _, _, _, _, _, _, _, h, hA, g3⟩
end
section
variable (P : Program) (w : World) (CP CR CE : Addr)
/-- what an operation has to bring -/
def OpQ (r : Addr) (s : Vbjpae.State) (c : Vbjpae.Call) (H : Hp) (Q : VK) (E : XK) : Prop :=
  (∀ rest, (Vbjpae.step s c).2 = 0 :: rest → ∀ l H', LT r H H' → ReqOk P w CP CR H' r (Vbjpae.step s c).1 → H' l = some (.lst (iv rest)) → Q (.ref l) H') ∧
  (∀ z, z ≠ 0 → (Vbjpae.step s c).2 = [z] → ∀ d H', LT r H H' → ReqOk P w CP CR H' r (Vbjpae.step s c).1 → H' d = some (.xd [("code", .int z)]) → E (.ref CE) (some d) H')
def spOp0a (c : Vbjpae.Call) : Sp := fun vs H Q E => ∃ (r : Addr) (s : Vbjpae.State), vs = [.ref r] ∧ ReqOk P w CP CR H r s ∧ OpQ P w CP CR CE r s c H Q E
def spChk : Sp := fun vs H Q E => ∃ (r : Addr) (s : Vbjpae.State), vs = [.ref r] ∧ ReqOk P w CP CR H r s ∧ (Vbjpae.isTooLarge s = false → Q .non H) ∧ (Vbjpae.isTooLarge s = true → Err CE E H (-8))
def spNat : Sp := fun vs H Q _ => ∃ (r : Addr) (s : Vbjpae.State), vs = [.ref r] ∧ ReqOk P w CP CR H r s ∧ Q (.bl (s.game.hasMoved && decide (s.game.moment < s.plan.deadline))) H
def spRestart : Sp := fun vs H Q _ => ∃ (r dx pl aW : Addr) (fs : List (Str × V)) (p : Pln), vs = [.ref r] ∧ H r = some (.ins CR dx fs) ∧ (fs = rF1 pl ∨ ∃ sn m hm, fs = rF pl sn m hm) ∧ GP P w CP H pl aW p ∧
  ∀ H' sn, But r H H' → ReqA P w CP CR H' r dx pl sn aW ⟨p, Vbjpae.freshGame p⟩ → Q .non H'
def spReqInit : Sp := fun vs H Q _ => ∃ (r dx : Addr), vs = [.ref r] ∧ H r = some (.ins CR dx []) ∧ ∀ H', But r H H' → ReqOk P w CP CR H' r Vbjpae.initialState → Q .non H'
end
section
variable {P : Program} {w : World} {CP CR CE r : Addr} {s : Vbjpae.State} {c : Vbjpae.Call} {H : Hp} {Q : VK} {E : XK}
theorem step_ok (hp : Vbjpae.isPermitted s c = true) (hr : Vbjpae.refusal s c = 0) : Vbjpae.step s c = (Vbjpae.update s c, Vbjpae.response s (Vbjpae.update s c) c) := by
  unfold Vbjpae.step
  rw [if_neg (by rw [hp]; simp), if_neg (by simp [hr])]
theorem step_no (hp : Vbjpae.isPermitted s c = false) : Vbjpae.step s c = (s, [-1]) := by
  unfold Vbjpae.step
  rw [if_pos hp]
theorem step_ref (hp : Vbjpae.isPermitted s c = true) (hr : Vbjpae.refusal s c ≠ 0) : Vbjpae.step s c = (s, [Vbjpae.refusal s c]) := by
  unfold Vbjpae.step
  rw [if_neg (by rw [hp]; simp), if_pos hr]
theorem OpQ.ok (h : OpQ P w CP CR CE r s c H Q E) (hp : Vbjpae.isPermitted s c = true) (hr : Vbjpae.refusal s c = 0) {rest : List Int} (e : Vbjpae.response s (Vbjpae.update s c) c = 0 :: rest) {l : Addr} {H' : Hp} (lt : LT r H H') (ro : ReqOk P w CP CR H' r (Vbjpae.update s c)) (hl : H' l = some (.lst (iv rest))) : Q (.ref l) H' := by
  unfold OpQ at h
  rw [step_ok hp hr] at h
  exact h.1 rest e l H' lt ro hl
theorem OpQ.no (h : OpQ P w CP CR CE r s c H Q E) (hp : Vbjpae.isPermitted s c = false) {H1 : Hp} (lt : LT r H H1) (ro : ReqOk P w CP CR H1 r s) : Err CE E H1 (-1) := by
  unfold OpQ at h
  rw [step_no hp] at h
  obtain ⟨dx, pl, sn, aW, ra⟩ := ro
  exact fun d H' sm hd => h.2 (-1) (by decide) rfl d H' (lt.trans (same_lt sm)) ⟨dx, pl, sn, aW, ra.same sm⟩ hd
theorem OpQ.ref (h : OpQ P w CP CR CE r s c H Q E) (hp : Vbjpae.isPermitted s c = true) {z : Int} (hr : Vbjpae.refusal s c = z) (hz : z ≠ 0) {H1 : Hp} (lt : LT r H H1) (ro : ReqOk P w CP CR H1 r s) : Err CE E H1 z := by
  subst hr
  unfold OpQ at h
  rw [step_ref hp hz] at h
  obtain ⟨dx, pl, sn, aW, ra⟩ := ro
  exact fun d H' sm hd => h.2 _ hz rfl d H' (lt.trans (same_lt sm)) ⟨dx, pl, sn, aW, ra.same sm⟩ hd
theorem flag_int (b : Bool) : V.int (Vbjpae.flag b) = if b = true then V.int 1 else V.int 0 := by cases b <;> rfl
end
section
variable {P : Program} {w : World} {K : PySem.W.Frag} {mg : Str → Option Value} {base : Heap} {CP CR CE aS : Addr}
theorem req_ne {H : Hp} {r pl C dx dxp aT aR aO aW : Addr} {fs : List (Str × V)} {rr : RP} (hO : H r = some (.ins C dx fs)) (hfs : ∃ (v : V) (l : List (Str × V)), fs = (("plan" : Str), v) :: l) (hA : H pl = some (.ins CP dxp (pF rr aT aR aO aW))) : r ≠ pl := fun z => by
  obtain ⟨v, l, rfl⟩ := hfs
  rw [← z, hO] at hA
  injection hA with hA
  injection hA with _ _ hA
  injection hA with hA _
  injection hA with hA _
  exact absurd hA (by decide +kernel)
/-- writing at the request leaves its plan -/
theorem gp_wr {H1 : Hp} {r pl aW C dx : Addr} {fs : List (Str × V)} {p : Pln} {u : HO} (hG1 : GP P w CP H1 pl aW p) (hO1 : H1 r = some (.ins C dx fs)) (rp' : r ≠ pl) : GP P w CP (upd H1 r u) pl aW p := by
  refine ⟨?_, won_new hG1.won hO1 (fun _ z => nomatch z) (fun _ z => nomatch z), hG1.pv⟩
  obtain ⟨dx', aT', aR', aO', z1, ⟨qs1, z2, z2'⟩, ⟨qs2, z3, z3'⟩, z4⟩ := hG1.plan
  have k : ∀ b o, H1 b = some o → (∀ C d f, o = .ins C d f → b = pl) → (upd H1 r u) b = some o := fun b o e h => by
    have : b ≠ r := fun z => by
      subst z
      rw [hO1] at e
      exact rp' (h _ _ _ (Option.some.inj e).symm)
    rw [upd_ne this]; exact e
  exact ⟨dx', aT', aR', aO', k _ _ z1 fun _ _ _ _ => rfl, ⟨qs1, k _ _ z2 (fun _ _ _ z => nomatch z), Paired.mapP z2' fun _ _ z => k _ _ z (fun _ _ _ z => nomatch z)⟩, ⟨qs2, k _ _ z3 (fun _ _ _ z => nomatch z), Paired.mapP z3' fun _ _ z => k _ _ z (fun _ _ _ z => nomatch z)⟩, k _ _ z4 (fun _ _ _ z => nomatch z)⟩
theorem ok_restart {f : Addr} {fd : FuncData} (F : Fun K "restart" "Request.restart" sRestart f fd) (T : Txt K mg CP CR CE aS) (M_beginning : MetX P w K mg base CX0 1 CP "beginning" (spBeginning CP)) : FnOk P w K mg base CX0 2 f fd ["self"] (spRestart P w CP CR) := by
  have nd := scRestart.nd
  refine F.ok scRestart (fun vs H Q E h => ?_) (fun cdv A outer sh H vs Q E hr h => ?_)
  · obtain ⟨_, _, _, _, _, _, rfl, _⟩ := h
    rfl
  obtain ⟨r, dx, pl, aW, fs, p, rfl, hO, hfs, hG, q⟩ := h
  refine ⟨_, (pss_cons (ps_asg (pe_mx0 M_beginning T.clP hr (by first | decide | omega) (no0 (E := fun _ => E0)) (pe_fldB rfl (pv 0) rfl)) (pg_tupB (n := 2) rfl rfl (pgs_cons (pg_fld (pv 0)) (pgs_cons (pg_fld (pv 0)) pgs_nil))))
    (pss_one (ps_fld (pv 0) pe_bl rfl))), ?_⟩
  have lk : fs.lookup ("plan" : Str) = some (.ref pl) := by
    rcases hfs with e | ⟨_, _, _, e⟩ <;> rw [e] <;> exact lk_here
  have lf : fs.length < 998 := by
    rcases hfs with e | ⟨_, _, _, e⟩
    · rw [e]; show 1 < 998; decide
    · rw [e]; show 4 < 998; decide
  obtain ⟨dxp, aT, aR, aO, hA⟩ := hG.ins
  have rp' : r ≠ pl := req_ne hO (by rcases hfs with e | ⟨_, _, _, e⟩ <;> rw [e] <;> exact ⟨_, _, rfl⟩) hA
  refine ⟨_, rfl, r, CR, dx, fs, _, rfl, hO, T.clR, T.gP, lk, pl, dxp, _, rfl, hA, pF_none (by decide +kernel), pl, aW, p, rfl, hG.plan, hG.pv, fun t H1 hT sm => ?_⟩
  obtain ⟨u, e1, e2⟩ := hT
  have hO1 := sm _ _ hO
  refine ⟨t, _, rfl, .inl (.inl e1), rfl, _, _, rfl, _, rfl, r, CR, dx, fs, rfl, hO1, T.clR, T.gM, by omega, ?_⟩
  have p1 : putF ("moment" : Str) (.int 0) fs = rF2 pl 0 ∨ ∃ sn hm, putF ("moment" : Str) (.int 0) fs = rF pl sn 0 hm := by
    rcases hfs with e | ⟨sn, m, hm, e⟩
    · left; rw [e]; exact (put_past (by decide +kernel)).trans rfl
    · right; rw [e]; exact ⟨sn, hm, put_moment⟩
  have p2 : putF ("seen" : Str) (.ref u) (putF ("moment" : Str) (.int 0) fs) = rF3 pl u 0 ∨ ∃ hm, putF ("seen" : Str) (.ref u) (putF ("moment" : Str) (.int 0) fs) = rF pl u 0 hm := by
    rcases p1 with e | ⟨sn, hm, e⟩
    · left; rw [e]; exact (put_past (by decide +kernel)).trans (congrArg _ ((put_past (by decide +kernel)).trans rfl))
    · right; rw [e]; exact ⟨hm, put_seen⟩
  have p3 : putF ("has_moved" : Str) (.bl false) (putF ("seen" : Str) (.ref u) (putF ("moment" : Str) (.int 0) fs)) = rF pl u 0 false := by
    rcases p2 with e | ⟨hm, e⟩
    · rw [e]; exact (put_past (by decide +kernel)).trans (congrArg _ ((put_past (by decide +kernel)).trans (congrArg _ ((put_past (by decide +kernel)).trans rfl))))
    · rw [e]; exact put_moved
  have l1 : (putF ("moment" : Str) (.int 0) fs).length < 1000 := by
    rcases p1 with e | ⟨sn, hm, e⟩
    · rw [e]; show 2 < 1000; decide
    · rw [e]; show 4 < 1000; decide
  have l2 : (putF ("seen" : Str) (.ref u) (putF ("moment" : Str) (.int 0) fs)).length < 1000 := by
    rcases p2 with e | ⟨hm, e⟩
    · rw [e]; show 3 < 1000; decide
    · rw [e]; show 4 < 1000; decide
  refine ⟨_, _, rfl, _, rfl, r, CR, dx, _, rfl, upd_same, T.clR, T.gS, l1, rfl, ?_⟩
  refine ⟨_, rfl, r, CR, dx, _, rfl, upd_same, T.clR, T.gH, l2, ?_⟩
  rw [upd_upd, upd_upd]
  dsimp only
  rw [show putF ("has_moved" : Str) (V.bl false) (putF ("seen" : Str) (V.ref u) (putF ("moment" : Str) (V.int 0) fs)) = rF pl u 0 false from p3]
  have bt : But r H (upd H1 r (.ins CR dx (rF pl u 0 false))) := fun c o e n => by rw [upd_ne n]; exact sm _ _ e
  refine q _ u bt ⟨upd_same, gp_wr (hG.same sm) hO1 rp', ?_, SPM.Reach.start hG.pv⟩
  rw [upd_ne (ne_of e2 hO1 fun z => nomatch z)]; exact e2
theorem ok_natures_turn {f : Addr} {fd : FuncData} (F : Fun K "is_natures_turn" "Request.is_natures_turn" sNat f fd) (T : Txt K mg CP CR CE aS) : FnOk P w K mg base CX0 1 f fd ["self"] (spNat P w CP CR) := by
  have nd := scNat.nd
  refine F.ok scNat (fun vs H Q E h => ?_) (fun cdv A outer sh H vs Q E hr h => ?_)
  · obtain ⟨_, _, rfl, _⟩ := h
    rfl
  obtain ⟨r, s, rfl, ⟨dx, pl, sn, aW, ra⟩, q⟩ := h
  refine ⟨_, (pss_one (ps_ret (pe_and (pe_fldB rfl (pv 0) rfl) (pe_one (pe_cmpR op_lt (pe_fldB rfl (pv 0) rfl) (pe_fldB rfl (pe_fldB rfl (pv 0) rfl) rfl) (nomark _)))))), ?_⟩
  obtain ⟨dxp, aT, aR, aO, hA⟩ := ra.gp.ins
  refine ⟨_, rfl, r, CR, dx, _, _, rfl, ra.ob, T.clR, T.gH, rF_moved, _, rfl, ?_⟩
  cases e : s.game.hasMoved with
  | false => rw [e] at q; exact if_f rfl q
  | true =>
    rw [e] at q
    refine if_t rfl ⟨_, rfl, r, CR, dx, _, _, rfl, ra.ob, T.clR, T.gM, rF_moment, _, rfl, r, CR, dx, _, _, rfl, ra.ob, T.clR, T.gP, rF_plan, pl, CP, dxp, _, _, rfl, hA, T.clP, T.fD, pF_deadline, _, _, rfl, rfl, ?_⟩
    show Q (V.bl (decide ((s.game.moment : Int) < (s.plan.deadline : Int)))) H
    rw [nat_lt]
    exact q
theorem ok_check_size {f : Addr} {fd : FuncData} (F : Fun K "check_size" "Request.check_size" sChkS f fd) (T : Txt K mg CP CR CE aS) (F_require : FunX P w K mg base (L2.CX P w) 3 "require" (spReq CE)) (M_is_too_large : MetX P w K mg base CX0 3 CP "is_too_large" (spItl CP)) : FnOk P w K mg base (L2.CX P w) 4 f fd ["self"] (spChk P w CP CR CE) := by
  have nd := scChkS.nd
  refine F.okX scChkS (fun vs H Q E h => ?_) (fun cdv A outer sh H vs Q E hr h => ?_)
  · obtain ⟨_, _, rfl, _⟩ := h
    rfl
  obtain ⟨r, s, rfl, ⟨dx, pl, sn, aW, ra⟩, q1, q2⟩ := h
  have tk := takes_of (X := cxOf (L2.CX P w) P w K mg base nChkS "Request.check_size" (defScope sChkS) f cdv A outer sh H E) rfl rfl rfl rfl
  refine ⟨_, (pss_one (ps_expr (pe_fx F_require hr (by first | decide | omega) rfl (fun σ => passAt tk σ) (pa_cons (pe_not (pe_mx0 M_is_too_large T.clP hr (by first | decide | omega) (no0 (E := fun _ => E0)) (pe_fldB rfl (pv 0) rfl))) (pa_cons (pe_un un_neg pe_int) pa_nil))))), ?_⟩
  obtain ⟨dxp, aT, aR, aO, hA⟩ := ra.gp.ins
  refine ⟨_, rfl, r, CR, dx, _, _, rfl, ra.ob, T.clR, T.gP, rF_plan, pl, dxp, _, rfl, hA, pF_none (by decide +kernel), pl, aW, s.plan, rfl, ra.gp.plan, ra.gp.pv, _, rfl, _, rfl, _, _, rfl, fun h => q1 ?_, fun h => q2 ?_⟩
  · show decide (10000 < Vbjpae.gameSize s.plan) = false
    simpa using h
  · show decide (10000 < Vbjpae.gameSize s.plan) = true
    simpa using h
theorem ok_op1 {f : Addr} {fd : FuncData} (F : Fun K "operation_1" "Request.operation_1" sOp1 f fd) (T : Txt K mg CP CR CE aS) (M_check_size : MetX P w K mg base (L2.CX P w) 4 CR "check_size" (spChk P w CP CR CE)) (M_beginning : MetX P w K mg base CX0 1 CP "beginning" (spBeginning CP)) (M_wins : MetX P w K mg base CX0 38 CP "wins" (spWins P w CP 9)) : FnOk P w K mg base (L2.CX P w) 39 f fd ["self"] (spOp0a P w CP CR CE .winner) := by
  have nd := scOp1.nd
  refine F.okX scOp1 (fun vs H Q E h => ?_) (fun cdv A outer sh H vs Q E hr h => ?_)
  · obtain ⟨_, _, rfl, _⟩ := h
    rfl
  obtain ⟨r, s, rfl, ⟨dx, pl, sn, aW, ra⟩, q⟩ := h
  have tk := takes_of (X := cxOf (L2.CX P w) P w K mg base nOp1 "Request.operation_1" (defScope sOp1) f cdv A outer sh H E) rfl rfl rfl rfl
  refine ⟨_, (pss_cons (ps_expr (pe_mx0 M_check_size T.clR hr (by first | decide | omega) (fun σ => passAt tk σ) (pv 0)))
    (pss_one (ps_ret (pe_lst (pa_cons (pe_ifExp (pt_val (pe_mx M_wins T.clP hr (by first | decide | omega) (no0 (E := fun _ => E0)) (pe_fldB rfl (pv 0) rfl) (pa_cons (pe_mx0 M_beginning T.clP hr (by first | decide | omega) (no0 (E := fun _ => E0)) (pe_fldB rfl (pv 0) rfl)) pa_nil))) pe_int pe_int) pa_nil))))), ?_⟩
  obtain ⟨dxp, aT, aR, aO, hA⟩ := ra.gp.ins
  have hd8 := ra.gp.pv.d8
  refine ⟨_, rfl, r, dx, _, rfl, ra.ob, rF_none (by decide +kernel), r, s, rfl, ⟨dx, pl, sn, aW, ra⟩, fun hs => ?_, fun hb => q.ref rfl (by dsimp only [Vbjpae.refusal]; rw [if_pos hb]) (by decide) (LT.refl H) ⟨dx, pl, sn, aW, ra⟩⟩
  refine ⟨_, rfl, r, CR, dx, _, _, rfl, ra.ob, T.clR, T.gP, rF_plan, pl, dxp, _, rfl, hA, pF_none (by decide +kernel), ?_⟩
  refine ⟨_, rfl, r, CR, dx, _, _, rfl, ra.ob, T.clR, T.gP, rF_plan, pl, dxp, _, rfl, hA, pF_none (by decide +kernel), pl, aW, s.plan, rfl, ra.gp.plan, ra.gp.pv, fun t H1 hT sm => ?_⟩
  have ra1 := ra.same sm
  refine ⟨pl, aW, t, s.plan, 0, VbjpCore.startTimes s.plan, rfl, ra1.gp, hT, SPM.Reach.start ra.gp.pv, by omega, fun H2 b2 w2 => ?_⟩
  have ra2 := ra1.but b2 w2
  have lt2 : LT r H H2 := (same_lt sm).trans (but_lt b2 ra1.gp.won)
  have fin : ∀ z, z = Vbjpae.flag (Vbjpae.winner s.plan) → (tLst (fun σ H Q => Q [.int z] H)) [] H2 Q := fun z hz => by
    refine ⟨by show 1 ≤ sizeLine; rw [sizeLine_eq]; decide, fun l hl => ?_⟩
    refine q.ok rfl (by dsimp only [Vbjpae.refusal]; rw [if_neg (by rw [hs]; simp)]) (rest := [z]) (by rw [hz]; rfl) (lt2.trans (same_lt (same_at _ hl))) ⟨dx, pl, sn, aW, ra2.same (same_at _ hl)⟩ upd_same
  refine ⟨_, rfl, ?_⟩
  show if Vbjpae.winner s.plan = true then _ else _
  refine if_2 (fun c => fin 1 (by rw [c]; rfl)) (fun c => fin 0 (by rw [c]; rfl))
theorem ok_op2 {f : Addr} {fd : FuncData} (F : Fun K "operation_2" "Request.operation_2" sOp2 f fd) (T : Txt K mg CP CR CE aS) (M_restart : MetX P w K mg base CX0 2 CR "restart" (spRestart P w CP CR)) : FnOk P w K mg base CX0 3 f fd ["self"] (spOp0a P w CP CR CE .restart) := by
  have nd := scOp2.nd
  refine F.ok scOp2 (fun vs H Q E h => ?_) (fun cdv A outer sh H vs Q E hr h => ?_)
  · obtain ⟨_, _, rfl, _⟩ := h
    rfl
  obtain ⟨r, s, rfl, ⟨dx, pl, sn, aW, ra⟩, q⟩ := h
  refine ⟨_, (pss_cons (ps_expr (pe_mx0 M_restart T.clR hr (by first | decide | omega) (no0 (E := fun _ => E0)) (pv 0)))
    (pss_one (ps_ret (pe_lst pa_nil)))), ?_⟩
  obtain ⟨dxp, aT, aR, aO, hA⟩ := ra.gp.ins
  refine ⟨_, rfl, r, dx, _, rfl, ra.ob, rF_none (by decide +kernel), r, dx, pl, aW, _, s.plan, rfl, ra.ob, .inr ⟨_, _, _, rfl⟩, ra.gp, fun H1 sn1 b1 ra1 => ?_⟩
  refine ⟨Nat.zero_le _, fun l hl => ?_⟩
  exact q.ok rfl rfl (rest := []) rfl ((ins_lt b1 ra.ob ra1.ob hA (req_ne ra.ob ⟨_, _, rfl⟩ hA)).trans (same_lt (same_at _ hl))) ⟨dx, pl, sn1, aW, ra1.same (same_at _ hl)⟩ upd_same
theorem ok_op3 {f : Addr} {fd : FuncData} (F : Fun K "operation_3" "Request.operation_3" sOp3 f fd) (T : Txt K mg CP CR CE aS) : FnOk P w K mg base CX0 1 f fd ["self"] (spOp0a P w CP CR CE .position) := by
  have nd := scOp3.nd
  refine F.ok scOp3 (fun vs H Q E h => ?_) (fun cdv A outer sh H vs Q E hr h => ?_)
  · obtain ⟨_, _, rfl, _⟩ := h
    rfl
  obtain ⟨r, s, rfl, ⟨dx, pl, sn, aW, ra⟩, q⟩ := h
  refine ⟨_, (pss_one (ps_ret (pe_op op_cat (pe_lst (pa_cons (pe_fldB rfl (pv 0) rfl) (pa_cons (pe_ifExp (pt_val (pe_fldB rfl (pv 0) rfl)) pe_int pe_int) pa_nil))) (pe_callTy (call_listQ rfl) (by rfl) T.m_list (by decide +kernel) (pa_cons (pe_fldB rfl (pv 0) rfl) pa_nil))))), ?_⟩
  have l6 := ra.rc.len
  have c6 := ra.gp.pv.c6
  have fin : ∀ z, z = Vbjpae.flag s.game.hasMoved → ∀ l, H l = none → (tCB (rListOf K) (tCons (tFld K (tVar 0) "seen") tNil)) [some (.ref r)] (upd H l (.lst [.int (s.game.moment : Int), .int z])) (fun y H2 => rCat (.ref l) y H2 Q) := fun z hz l hl => by
    have sm := same_at (.lst [.int (s.game.moment : Int), .int z]) hl
    have hL : (upd H l (.lst [.int (s.game.moment : Int), .int z])) l = _ := upd_same
    generalize upd H l (.lst [.int (s.game.moment : Int), .int z]) = H1 at sm hL
    refine ⟨_, rfl, r, CR, dx, _, _, rfl, sm _ _ ra.ob, T.clR, T.gS, rF_seen, sn, _, rfl, .inr (.inl (.inl (sm _ _ ra.sn))), fun d hd => ?_⟩
    have nd' : l ≠ d := ne_of_none hL hd
    refine ⟨l, d, _, _, rfl, rfl, by rw [upd_ne nd']; exact hL, upd_same, ?_, fun e he => ?_⟩
    · rw [iv_len, SPM.enc_len, sizeLine_eq]; show 2 + _ ≤ _; omega
    · have s2 := sm.trans ((same_at (.lst (iv (enc s.game.seen))) hd).trans (same_at (.lst ([V.int (s.game.moment : Int), V.int z] ++ iv (enc s.game.seen))) he))
      refine q.ok rfl rfl (rest := (s.game.moment : Int) :: z :: enc s.game.seen) (by rw [hz]; rfl) (same_lt s2) ⟨dx, pl, sn, aW, ra.same s2⟩ ?_
      rw [upd_same]; rfl
  refine ⟨_, rfl, r, CR, dx, _, _, rfl, ra.ob, T.clR, T.gM, rF_moment, _, rfl, r, CR, dx, _, _, rfl, ra.ob, T.clR, T.gH, rF_moved, _, rfl, ?_⟩
  refine if_2 (fun c => ?_) (fun c => ?_)
  · exact ⟨by show 2 ≤ sizeLine; rw [sizeLine_eq]; decide, fun l hl => fin 1 (by rw [c]; rfl) l hl⟩
  · exact ⟨by show 2 ≤ sizeLine; rw [sizeLine_eq]; decide, fun l hl => fin 0 (by rw [c]; rfl) l hl⟩
theorem ints_nv (l : List Nat) : nv l = iv (Vbjpae.ints l) := by simp [nv, iv, Vbjpae.ints]
theorem turn_iff {s : Vbjpae.State} : (s.game.hasMoved && decide (s.game.moment < s.plan.deadline)) = false ↔ (s.game.hasMoved = false ∨ Vbjpae.hasEnded s = true) := by
  unfold Vbjpae.hasEnded
  cases s.game.hasMoved <;> simp
theorem ok_op6 {f : Addr} {fd : FuncData} (F : Fun K "operation_6" "Request.operation_6" sOp6 f fd) (T : Txt K mg CP CR CE aS) (F_require : FunX P w K mg base (L2.CX P w) 3 "require" (spReq CE)) (F_with_length : FunX P w K mg base CX0 1 "with_length" spWithLen) (M_is_natures_turn : MetX P w K mg base CX0 1 CR "is_natures_turn" (spNat P w CP CR)) (M_reports : MetX P w K mg base CX0 1 CP "reports" (spReports CP)) : FnOk P w K mg base (L2.CX P w) 4 f fd ["self"] (spOp0a P w CP CR CE .options) := by
  have nd := scOp6.nd
  refine F.okX scOp6 (fun vs H Q E h => ?_) (fun cdv A outer sh H vs Q E hr h => ?_)
  · obtain ⟨_, _, rfl, _⟩ := h
    rfl
  obtain ⟨r, s, rfl, ⟨dx, pl, sn, aW, ra⟩, q⟩ := h
  have tk := takes_of (X := cxOf (L2.CX P w) P w K mg base nOp6 "Request.operation_6" (defScope sOp6) f cdv A outer sh H E) rfl rfl rfl rfl
  refine ⟨_, (pss_cons (ps_expr (pe_fx F_require hr (by first | decide | omega) rfl (fun σ => passAt tk σ) (pa_cons (pe_mx0 M_is_natures_turn T.clR hr (by first | decide | omega) (no0 (E := fun _ => E0)) (pv 0)) (pa_cons (pe_un un_neg pe_int) pa_nil))))
    (pss_one (ps_ret (pe_fx F_with_length hr (by first | decide | omega) rfl (no0 (E := fun _ => E0)) (pa_cons (pe_mx M_reports T.clP hr (by first | decide | omega) (no0 (E := fun _ => E0)) (pe_fldB rfl (pv 0) rfl) (pa_cons (pe_op op_add (pe_fldB rfl (pv 0) rfl) pe_int) (pa_cons (pe_fldB rfl (pv 0) rfl) pa_nil))) pa_nil))))), ?_⟩
  obtain ⟨dxp, aT, aR, aO, hA⟩ := ra.gp.ins
  refine ⟨_, rfl, r, dx, _, rfl, ra.ob, rF_none (by decide +kernel), r, s, rfl, ⟨dx, pl, sn, aW, ra⟩, _, rfl, _, _, rfl, fun ht => ?_, fun hf => q.ref rfl (by dsimp only [Vbjpae.refusal]; rw [if_pos (turn_iff.mp hf)]) (by decide) (LT.refl H) ⟨dx, pl, sn, aW, ra⟩⟩
  refine ⟨_, rfl, r, CR, dx, _, _, rfl, ra.ob, T.clR, T.gP, rF_plan, pl, dxp, _, rfl, hA, pF_none (by decide +kernel), _, rfl, r, CR, dx, _, _, rfl, ra.ob, T.clR, T.gM, rF_moment, _, _, rfl, rfl, ?_⟩
  refine ⟨_, rfl, r, CR, dx, _, _, rfl, ra.ob, T.clR, T.gS, rF_seen, pl, aW, sn, s.plan, s.game.moment + 1, s.game.seen, rfl, ra.gp.plan, ra.gp.pv, ra.sn, ra.rc.len, fun l H1 _ hL sm => ?_⟩
  refine ⟨l, _, rfl, hL, by have := reports_len ra.gp.pv (s.game.moment + 1) s.game.seen; omega, fun c H2 _ hC sm2 => ?_⟩
  have smA := sm.trans sm2
  refine q.ok rfl (by dsimp only [Vbjpae.refusal]; rw [if_neg fun z => by rw [turn_iff.mpr z] at ht; cases ht]) (rest := Vbjpae.withLength (Vbjpae.reportsAt s.plan s.game.seen (s.game.moment + 1))) rfl (same_lt smA) ⟨dx, pl, sn, aW, ra.same smA⟩ ?_
  rw [hC, ints_nv]; rfl
theorem ok_op9 {f : Addr} {fd : FuncData} (F : Fun K "operation_9" "Request.operation_9" sOp9 f fd) (T : Txt K mg CP CR CE aS) (F_require : FunX P w K mg base (L2.CX P w) 3 "require" (spReq CE)) (M_first_bad_completion : MetX P w K mg base CX0 3 CP "first_bad_completion" (spFbc CP)) : FnOk P w K mg base (L2.CX P w) 4 f fd ["self"] (spOp0a P w CP CR CE .outcome) := by
  have nd := scOp9.nd
  refine F.okX scOp9 (fun vs H Q E h => ?_) (fun cdv A outer sh H vs Q E hr h => ?_)
  · obtain ⟨_, _, rfl, _⟩ := h
    rfl
  obtain ⟨r, s, rfl, ⟨dx, pl, sn, aW, ra⟩, q⟩ := h
  have tk := takes_of (X := cxOf (L2.CX P w) P w K mg base nOp9 "Request.operation_9" (defScope sOp9) f cdv A outer sh H E) rfl rfl rfl rfl
  refine ⟨_, (pss_cons (ps_expr (pe_fx F_require hr (by first | decide | omega) rfl (fun σ => passAt tk σ) (pa_cons (pe_and (pe_fldB rfl (pv 0) rfl) (pe_one (pe_cmpR op_eq (pe_fldB rfl (pv 0) rfl) (pe_fldB rfl (pe_fldB rfl (pv 0) rfl) rfl) (nomark _)))) (pa_cons (pe_un un_neg pe_int) pa_nil))))
    (pss_cons (ps_set (i := 1) nd rfl (Or.inl rfl) (pe_mx M_first_bad_completion T.clP hr (by first | decide | omega) (no0 (E := fun _ => E0)) (pe_fldB rfl (pv 0) rfl) (pa_cons (pe_fldB rfl (pv 0) rfl) pa_nil)))
    (pss_one (ps_ret (pe_ifExp (pt_cmpR op_isN (pv 1) pe_non (nomark _)) (pe_lst (pa_cons pe_int pa_nil)) (pe_op op_cat (pe_lst (pa_cons pe_int pa_nil)) (pe_callTy (call_listQ rfl) (by rfl) T.m_list (by decide +kernel) (pa_cons (pv 1) pa_nil)))))))), ?_⟩
  obtain ⟨dxp, aT, aR, aO, hA⟩ := ra.gp.ins
  have hle := ra.rc.le
  have l6 := ra.rc.len
  have c6 := ra.gp.pv.c6
  have val : TEv (tAndV (tFld K (tVar 0) "has_moved") (tOp rEq (tFld K (tVar 0) "moment") (tFld K (tFld K (tVar 0) "plan") "deadline"))) [some (.ref r), none] H (.bl (Vbjpae.hasEnded s)) := fun Q' q' => by
    refine ⟨_, rfl, r, CR, dx, _, _, rfl, ra.ob, T.clR, T.gH, rF_moved, _, rfl, ?_⟩
    unfold Vbjpae.hasEnded at q'
    cases e : s.game.hasMoved with
    | false => rw [e] at q'; exact if_f rfl q'
    | true =>
      rw [e] at q'
      refine if_t rfl ⟨_, rfl, r, CR, dx, _, _, rfl, ra.ob, T.clR, T.gM, rF_moment, _, rfl, r, CR, dx, _, _, rfl, ra.ob, T.clR, T.gP, rF_plan, pl, CP, dxp, _, _, rfl, hA, T.clP, T.fD, pF_deadline, rfl, ?_⟩
      show Q' (V.bl (decide (V.int (s.game.moment : Int) = V.int (s.plan.deadline : Int)))) H
      rw [dec_int, nat_dec]
      have : decide (s.game.moment = s.plan.deadline) = (true && decide (s.plan.deadline ≤ s.game.moment)) := by
        rw [Bool.true_and, Bool.eq_iff_iff, decide_eq_true_iff, decide_eq_true_iff]
        omega
      rw [this]
      exact q'
  refine val _ ⟨_, rfl, _, _, rfl, fun ht => ?_, fun hf => q.ref rfl (by dsimp only [Vbjpae.refusal]; rw [if_neg (by rw [hf]; simp)]) (by decide) (LT.refl H) ⟨dx, pl, sn, aW, ra⟩⟩
  refine ⟨_, rfl, r, CR, dx, _, _, rfl, ra.ob, T.clR, T.gP, rF_plan, pl, dxp, _, rfl, hA, pF_none (by decide +kernel), _, rfl, r, CR, dx, _, _, rfl, ra.ob, T.clR, T.gS, rF_seen, pl, aW, sn, s.plan, s.game.seen, rfl, ra.gp.plan, ra.gp.pv, ra.sn, ra.rc.len, fbc_cases fun v H1 sm hv => ?_⟩
  have ok : ∀ {rest : List Int}, Vbjpae.response s (Vbjpae.update s .outcome) .outcome = 0 :: rest → ∀ l H', Same H H' → H' l = some (.lst (iv rest)) → Q (.ref l) H' := fun e l H' s' hl => q.ok rfl (by dsimp only [Vbjpae.refusal]; rw [if_pos ht]) e (same_lt s') ⟨dx, pl, sn, aW, ra.same s'⟩ hl
  refine ⟨_, rfl, rfl, _, rfl, ?_⟩
  rcases hv with ⟨rfl, e⟩ | ⟨tl, x, rfl, e, hx⟩
  · refine if_t rfl ⟨by show 1 ≤ sizeLine; rw [sizeLine_eq]; decide, fun l hl => ?_⟩
    refine ok (rest := [1]) ?_ l _ (sm.trans (same_at _ hl)) upd_same
    unfold Vbjpae.response
    dsimp only
    rw [e]
  · refine if_f rfl ⟨by show 1 ≤ sizeLine; rw [sizeLine_eq]; decide, fun l hl => ?_⟩
    have sm2 := same_at (.lst [V.int 0]) hl
    have hL : (upd H1 l (.lst [V.int 0])) l = _ := upd_same
    generalize upd H1 l (.lst [V.int 0]) = H2 at sm2 hL
    refine ⟨_, rfl, tl, _, rfl, .inl (.inl (.inl (sm2 _ _ hx))), fun d hd => ?_⟩
    have nd' : l ≠ d := ne_of_none hL hd
    have lx : x.length = s.plan.count := by
      have := List.mem_of_find?_eq_some e
      rw [SPM.completions_prod ra.gp.pv] at this
      obtain ⟨vs, _, rfl⟩ := List.mem_map.mp this
      rw [SPM.fill_len, l6]
    refine ⟨l, d, _, _, rfl, rfl, by rw [upd_ne nd']; exact hL, upd_same, ?_, fun e' he => ?_⟩
    · rw [iv_len, SPM.enc_len, sizeLine_eq]; show 1 + _ ≤ _; omega
    · have s3 : Same H (upd (upd H2 d (.lst (iv (enc x)))) e' (.lst ([V.int 0] ++ iv (enc x)))) := sm.trans (sm2.trans ((same_at _ hd).trans (same_at _ he)))
      refine ok (rest := 0 :: enc x) ?_ e' _ s3 (by rw [upd_same]; rfl)
      unfold Vbjpae.response
      dsimp only
      rw [e]
      rfl
theorem ok_op14 {f : Addr} {fd : FuncData} (F : Fun K "operation_14" "Request.operation_14" sOp14 f fd) (T : Txt K mg CP CR CE aS) (M_size : MetX P w K mg base CX0 2 CP "size" (spSize CP)) : FnOk P w K mg base CX0 3 f fd ["self"] (spOp0a P w CP CR CE .summary) := by
  have nd := scOp14.nd
  refine F.ok scOp14 (fun vs H Q E h => ?_) (fun cdv A outer sh H vs Q E hr h => ?_)
  · obtain ⟨_, _, rfl, _⟩ := h
    rfl
  obtain ⟨r, s, rfl, ⟨dx, pl, sn, aW, ra⟩, q⟩ := h
  refine ⟨_, (pss_cons (ps_set (i := 1) nd rfl (Or.inl rfl) (pe_fldB rfl (pv 0) rfl))
    (pss_one (ps_ret (pe_lst (pa_cons (pe_fldB rfl (pv 1) rfl) (pa_cons (pe_fldB rfl (pv 1) rfl) (pa_cons (pe_callB (call_lenQ rfl) (by rfl) T.m_len (by decide +kernel) (pa_cons (pe_fldB rfl (pv 1) rfl) pa_nil)) (pa_cons (pe_callB (call_lenQ rfl) (by rfl) T.m_len (by decide +kernel) (pa_cons (pe_fldB rfl (pv 1) rfl) pa_nil)) (pa_cons (pe_mx0 M_size T.clP hr (by first | decide | omega) (no0 (E := fun _ => E0)) (pv 1)) (pa_cons (pe_fldB rfl (pv 0) rfl) pa_nil)))))))))), ?_⟩
  obtain ⟨dxp, aT, aR, aO, hA, ⟨qs1, hT, hq1⟩, ⟨qs2, hR, hq2⟩, _⟩ := ra.gp.plan
  have l1 : (qs1.map V.ref).length = s.plan.tasks.length := rows_len hq1
  have l2 : (qs2.map V.ref).length = s.plan.requirements.length := rows_len hq2
  refine ⟨_, rfl, r, CR, dx, _, _, rfl, ra.ob, T.clR, T.gP, rF_plan, ?_⟩
  refine ⟨_, rfl, pl, CP, dxp, _, _, rfl, hA, T.clP, T.fE, pF_events, _, rfl, pl, CP, dxp, _, _, rfl, hA, T.clP, T.fD, pF_deadline, ?_⟩
  refine ⟨_, rfl, pl, CP, dxp, _, _, rfl, hA, T.clP, T.fT, pF_tasks, aT, _, rfl, .inl (.inl (.inl hT)), _, rfl, pl, CP, dxp, _, _, rfl, hA, T.clP, T.fR, pF_reqs, aR, _, rfl, .inl (.inl (.inl hR)), ?_⟩
  refine ⟨_, rfl, pl, dxp, _, rfl, hA, pF_none (by decide +kernel), pl, aW, s.plan, rfl, ra.gp.plan, ra.gp.pv, _, rfl, r, CR, dx, _, _, rfl, ra.ob, T.clR, T.gM, rF_moment, by show 6 ≤ sizeLine; rw [sizeLine_eq]; decide, fun l hl => ?_⟩
  refine q.ok rfl rfl (rest := Vbjpae.ints [s.plan.count, s.plan.deadline, s.plan.tasks.length, s.plan.requirements.length, Vbjpae.gameSize s.plan, s.game.moment]) rfl (same_lt (same_at _ hl)) ⟨dx, pl, sn, aW, ra.same (same_at _ hl)⟩ ?_
  rw [upd_same, l1, l2]
  rfl
end
end SP
end

section
set_option Elab.async false
set_option linter.all false
set_option maxRecDepth 100000
set_option maxHeartbeats 4000000
namespace SP
open PySem PySem.Spec PyProof.Rows L2 SPR
open SPM (enc ov)
abbrev sOp4 : Stmt := inClass (top 20) 9
abbrev nOp4 : List Str := ["self", "mask"]
theorem scOp4 : FnScope ["self", "mask"] ["self"] (defScope sOp4) := ⟨rfl, rfl, rfl, by decide +kernel, rfl, by decide +kernel, by decide +kernel⟩
abbrev sOp5 : Stmt := inClass (top 20) 10
abbrev nOp5 : List Str := ["self", "mask"]
theorem scOp5 : FnScope ["self", "mask"] ["self", "mask"] (defScope sOp5) := ⟨rfl, rfl, rfl, by decide +kernel, rfl, by decide +kernel, by decide +kernel⟩
abbrev sOp7 : Stmt := inClass (top 20) 12
abbrev nOp7 : List Str := ["self", "mask", "is_turn"]
theorem scOp7 : FnScope ["self", "mask", "is_turn"] ["self", "mask"] (defScope sOp7) := ⟨rfl, rfl, rfl, by decide +kernel, rfl, by decide +kernel, by decide +kernel⟩
abbrev sOp8 : Stmt := inClass (top 20) 13
abbrev nOp8 : List Str := ["self", "plan", "good", "mask"]
theorem scOp8 : FnScope ["self", "plan", "good", "mask"] ["self"] (defScope sOp8) := ⟨rfl, rfl, rfl, by decide +kernel, rfl, by decide +kernel, by decide +kernel⟩
abbrev sOp10 : Stmt := inClass (top 20) 15
abbrev nOp10 : List Str := ["self", "beginning", "entries"]
theorem scOp10 : FnScope ["self", "beginning", "entries"] ["self"] (defScope sOp10) := ⟨rfl, rfl, rfl, by decide +kernel, rfl, by decide +kernel, by decide +kernel⟩
abbrev sOp11 : Stmt := inClass (top 20) 16
abbrev nOp11 : List Str := ["self", "beginning", "positions"]
theorem scOp11 : FnScope ["self", "beginning", "positions"] ["self"] (defScope sOp11) := ⟨rfl, rfl, rfl, by decide +kernel, rfl, by decide +kernel, by decide +kernel⟩
def spOp1a (P : Program) (w : World) (CP CR CE : Addr) (c : Int → Vbjpae.Call) : Sp := fun vs H Q E => ∃ (r : Addr) (s : Vbjpae.State) (m : Int), vs = [.ref r, .int m] ∧ ReqOk P w CP CR H r s ∧ OpQ P w CP CR CE r s (c m) H Q E
theorem but_new {a D : Addr} {H1 H4 : Hp} {o : HO} (b : But a H1 H4) (hD : H1 D = none) : But a H1 (upd H4 D o) := fun c u e n => by rw [upd_ne (ne_of_none e hD)]; exact b _ _ e n
theorem take_filter {α : Type} (f : α → Bool) {l : List α} {i : Nat} {x : α} (h : l[i]? = some x) : (l.take (i + 1)).filter f = (l.take i).filter f ++ (if f x = true then [x] else []) := by
  rw [List.take_add_one, h, List.filter_append]
  congr 1
  simp only [Option.toList_some, List.filter_cons, List.filter_nil]
section
variable {P : Program} {w : World} {K : PySem.W.Frag} {mg : Str → Option Value} {base : Heap} {CP CR CE aS : Addr}
theorem ok_op4 {f : Addr} {fd : FuncData} (F : Fun K "operation_4" "Request.operation_4" sOp4 f fd) (T : Txt K mg CP CR CE aS) (F_require : FunX P w K mg base (L2.CX P w) 3 "require" (spReq CE)) (F_with_length : FunX P w K mg base CX0 1 "with_length" spWithLen) (M_check_size : MetX P w K mg base (L2.CX P w) 4 CR "check_size" (spChk P w CP CR CE)) (M_moves : MetX P w K mg base CX0 1 CP "moves" (spMoves CP)) (M_is_good_move : MetX P w K mg base CX0 36 CP "is_good_move" (spIgm P w CP 9)) : FnOk P w K mg base (L2.CX P w) 37 f fd ["self"] (spOp0a P w CP CR CE .moves) := by
  have nd := scOp4.nd
  refine F.okX scOp4 (fun vs H Q E h => ?_) (fun cdv A outer sh H vs Q E hr h => ?_)
  · obtain ⟨_, _, rfl, _⟩ := h
    rfl
  obtain ⟨r, s, rfl, ⟨dx, pl, sn, aW, ra⟩, q⟩ := h
  have tk := takes_of (X := cxOf (L2.CX P w) P w K mg base nOp4 "Request.operation_4" (defScope sOp4) f cdv A outer sh H E) rfl rfl rfl rfl
  refine ⟨_, (pss_cons (ps_expr (pe_fx F_require hr (by first | decide | omega) rfl (fun σ => passAt tk σ) (pa_cons (pe_not (pe_fldB rfl (pv 0) rfl)) (pa_cons (pe_un un_neg pe_int) pa_nil))))
    (pss_cons (ps_expr (pe_mx0 M_check_size T.clR hr (by first | decide | omega) (fun σ => passAt tk σ) (pv 0)))
    (pss_one (ps_ret (pe_fx F_with_length hr (by first | decide | omega) rfl (no0 (E := fun _ => E0)) (pa_cons (pe_lc (own := [("mask", 1)]) rfl nd (pi_list (pe_mx M_moves T.clP hr (by first | decide | omega) (no0 (E := fun _ => E0)) (pe_fldB rfl (pv 0) rfl) (pa_cons (pe_fldB rfl (pv 0) rfl) pa_nil))) (blkOk_by (own := [("mask", 1)]) (N := ["self", "mask"]) (sc := (defScope sOp4)) (by decide +kernel)) (fun _ _ _ _ _ => (pg_name (i := 1) nd rfl (Or.inl rfl) (Or.inr rfl))) (fun _ _ _ _ _ => (pts_one (pt_val (pe_mx M_is_good_move T.clP hr (by first | decide | omega) (no0 (E := fun _ => E0)) (pe_fldB blkK (pv 0) rfl) (pa_cons (pe_fldB blkK (pv 0) rfl) (pa_cons (pe_fldB blkK (pv 0) rfl) (pa_cons (pv 1) pa_nil))))))) (fun _ _ _ _ _ => (pv 1))) pa_nil)))))), ?_⟩
  obtain ⟨dxp, aT, aR, aO, hA⟩ := ra.gp.ins
  have hd8 := ra.gp.pv.d8
  refine ⟨_, rfl, r, CR, dx, _, _, rfl, ra.ob, T.clR, T.gH, rF_moved, _, rfl, _, rfl, _, _, rfl, fun hm => ?_, fun hm => q.ref rfl (by dsimp only [Vbjpae.refusal]; rw [if_pos (by simpa using hm)]) (by decide) (LT.refl H) ⟨dx, pl, sn, aW, ra⟩⟩
  have hm : s.game.hasMoved = false := by simpa using hm
  refine ⟨_, rfl, r, dx, _, rfl, ra.ob, rF_none (by decide +kernel), r, s, rfl, ⟨dx, pl, sn, aW, ra⟩, fun hs => ?_, fun hb => q.ref rfl (by dsimp only [Vbjpae.refusal]; rw [if_neg (by rw [hm]; simp), if_pos hb]) (by decide) (LT.refl H) ⟨dx, pl, sn, aW, ra⟩⟩
  refine ⟨_, rfl, r, CR, dx, _, _, rfl, ra.ob, T.clR, T.gP, rF_plan, pl, dxp, _, rfl, hA, pF_none (by decide +kernel), _, rfl, r, CR, dx, _, _, rfl, ra.ob, T.clR, T.gS, rF_seen, pl, aW, sn, s.plan, s.game.seen, rfl, ra.gp.plan, ra.sn, ra.rc.len, ra.gp.pv.c6, fun l H1 _ hL sm => ?_⟩
  have ra1 := ra.same sm
  refine ⟨l, rfl, ⟨_, .inl (.inl hL)⟩, fun D hD => ?_⟩
  have ml := moves_len ra.gp.pv.c6 s.game.seen
  refine lc_it (walk_list (xs := nv (Vbjpae.movesAt s.plan s.game.seen))) (fun i H' => But aW H1 H' ∧ WonOk P w s.plan H' aW ∧ H' D = some (.lst (nv (((Vbjpae.movesAt s.plan s.game.seen).take i).filter (Vbjpae.isGoodMove s.plan s.game.moment s.game.seen))))) ⟨Same.but (same_at _ hD) aW, (ra1.gp.won).same (same_at _ hD), upd_same⟩ (fun i H' _ h => .inl (.inl (but_lst h.1 ra1.gp.won hL))) (fun i x H2 H3 hi hP hY => ?_) (fun H' h => ?_)
  · obtain ⟨hb, hw, hC⟩ := hP
    obtain ⟨eH, hx⟩ := hY
    subst eH
    obtain ⟨m, hmm, rfl⟩ := nv_at_of hx
    have ra3 := ra1.but hb hw
    obtain ⟨dxp3, aT3, aR3, aO3, hA3⟩ := ra3.gp.ins
    refine ⟨rfl, ?_⟩
    refine ⟨_, rfl, r, CR, dx, _, _, rfl, ra3.ob, T.clR, T.gP, rF_plan, pl, dxp3, _, rfl, hA3, pF_none (by decide +kernel), _, rfl, r, CR, dx, _, _, rfl, ra3.ob, T.clR, T.gM, rF_moment, _, rfl, r, CR, dx, _, _, rfl, ra3.ob, T.clR, T.gS, rF_seen, _, rfl, pl, aW, sn, s.plan, s.game.moment, s.game.seen, m, rfl, ra3.gp, ra3.sn, ra3.rc, SPM.mem_movesAt.mp (List.mem_of_getElem? hmm), by omega, fun H4 b4 w4 => ?_⟩
    have hC4 := but_lst b4 hw hC
    have tf := take_filter (Vbjpae.isGoodMove s.plan s.game.moment s.game.seen) hmm
    refine ⟨_, rfl, if_2 (fun c => ?_) (fun c => ?_)⟩
    · refine ⟨_, rfl, _, hC4, ?_, but_new (hb.trans b4) hD, won_new w4 hC4 (fun _ z => nomatch z) (fun _ z => nomatch z), ?_⟩
      · rw [nv_len]
        refine small_lt (Nat.lt_of_le_of_lt (List.length_filter_le _ _) ?_)
        rw [List.length_take]; omega
      · rw [upd_same, tf, if_pos c]
        simp [nv]
    · refine ⟨hb.trans b4, w4, ?_⟩
      rw [hC4, tf, if_neg (by rw [c]; exact Bool.false_ne_true), List.append_nil]
  · obtain ⟨hb, hw, hC⟩ := h
    rw [nv_len, List.take_length] at hC
    have ra3 := ra1.but hb hw
    refine ⟨D, _, rfl, hC, Nat.le_trans (List.length_filter_le _ _) (by omega), fun c H5 _ hC5 sm5 => ?_⟩
    refine q.ok rfl (by dsimp only [Vbjpae.refusal]; rw [if_neg (by rw [hm]; simp), if_neg (by rw [hs]; simp)]) (rest := Vbjpae.withLength (Vbjpae.goodMoves s.plan s.game.moment s.game.seen)) rfl ((same_lt sm).trans ((but_lt hb ra1.gp.won).trans (same_lt sm5))) ⟨dx, pl, sn, aW, ra3.same sm5⟩ ?_
    rw [hC5, ints_nv]; rfl
theorem ok_op8 {f : Addr} {fd : FuncData} (F : Fun K "operation_8" "Request.operation_8" sOp8 f fd) (T : Txt K mg CP CR CE aS) (F_require : FunX P w K mg base (L2.CX P w) 3 "require" (spReq CE)) (M_is_natures_turn : MetX P w K mg base CX0 1 CR "is_natures_turn" (spNat P w CP CR)) (M_check_size : MetX P w K mg base (L2.CX P w) 4 CR "check_size" (spChk P w CP CR CE)) (M_reports : MetX P w K mg base CX0 1 CP "reports" (spReports CP)) (M_after_report : MetX P w K mg base CX0 1 CP "after_report" (spAfterReport CP)) (M_wins : MetX P w K mg base CX0 38 CP "wins" (spWins P w CP 9)) : FnOk P w K mg base (L2.CX P w) 39 f fd ["self"] (spOp0a P w CP CR CE .bestReport) := by
  have nd := scOp8.nd
  refine F.okX scOp8 (fun vs H Q E h => ?_) (fun cdv A outer sh H vs Q E hr h => ?_)
  · obtain ⟨_, _, rfl, _⟩ := h
    rfl
  obtain ⟨r, s, rfl, ⟨dx, pl, sn, aW, ra⟩, q⟩ := h
  have tk := takes_of (X := cxOf (L2.CX P w) P w K mg base nOp8 "Request.operation_8" (defScope sOp8) f cdv A outer sh H E) rfl rfl rfl rfl
  refine ⟨_, (pss_cons (ps_expr (pe_fx F_require hr (by first | decide | omega) rfl (fun σ => passAt tk σ) (pa_cons (pe_mx0 M_is_natures_turn T.clR hr (by first | decide | omega) (no0 (E := fun _ => E0)) (pv 0)) (pa_cons (pe_un un_neg pe_int) pa_nil))))
    (pss_cons (ps_expr (pe_mx0 M_check_size T.clR hr (by first | decide | omega) (fun σ => passAt tk σ) (pv 0)))
    (pss_cons (ps_set (i := 1) nd rfl (Or.inr rfl) (pe_fldB rfl (pv 0) rfl))
    (pss_cons (ps_setLc (i := 2) (own := [("mask", 3)]) rfl nd rfl rfl (sw_true rfl rfl rfl (by decide +kernel)) (pi_list (pe_mx M_reports T.clP hr (by first | decide | omega) (no0 (E := fun _ => E0)) (pv 1) (pa_cons (pe_op op_add (pe_fldB rfl (pv 0) rfl) pe_int) (pa_cons (pe_fldB rfl (pv 0) rfl) pa_nil)))) (blkOk_by (own := [("mask", 3)]) (N := ["self", "plan", "good", "mask"]) (sc := (defScope sOp8)) (by decide +kernel)) (fun _ _ _ _ _ => (pg_name (i := 3) nd rfl (Or.inl rfl) (Or.inr rfl))) (fun _ _ _ _ _ => (pts_one (pt_not (pt_val (pe_mx M_wins T.clP hr (by first | decide | omega) (no0 (E := fun _ => E0)) (pv 1) (pa_cons (pe_mx M_after_report T.clP hr (by first | decide | omega) (no0 (E := fun _ => E0)) (pv 1) (pa_cons (pe_op op_add (pe_fldB blkK (pv 0) rfl) pe_int) (pa_cons (pe_fldB blkK (pv 0) rfl) (pa_cons (pv 3) pa_nil)))) pa_nil)))))) (fun _ _ _ _ _ => (pv 3)))
    (pss_one (ps_ret (pe_lst (pa_cons (pe_ifExp (pt_truthB rfl (pv 2) (by intro _; rfl)) (pe_ix (ix_listB rfl) (pv 2) pe_int (fun _ _ => rfl)) (pe_un un_neg pe_int)) pa_nil)))))))), ?_⟩
  obtain ⟨dxp, aT, aR, aO, hA⟩ := ra.gp.ins
  have hd8 := ra.gp.pv.d8
  have one1 : 1 ≤ sizeLine := by rw [sizeLine_eq]; decide
  refine ⟨_, rfl, r, dx, _, rfl, ra.ob, rF_none (by decide +kernel), r, s, rfl, ⟨dx, pl, sn, aW, ra⟩, _, rfl, _, _, rfl, fun ht => ?_, fun hf => q.ref rfl (by dsimp only [Vbjpae.refusal]; rw [if_pos (turn_iff.mp hf)]) (by decide) (LT.refl H) ⟨dx, pl, sn, aW, ra⟩⟩
  have nt : ¬ (s.game.hasMoved = false ∨ Vbjpae.hasEnded s = true) := fun z => by rw [turn_iff.mpr z] at ht; cases ht
  have hs : s.game.moment < s.plan.deadline := by
    rw [Bool.and_eq_true, decide_eq_true_iff] at ht
    exact ht.2
  refine ⟨_, rfl, r, dx, _, rfl, ra.ob, rF_none (by decide +kernel), r, s, rfl, ⟨dx, pl, sn, aW, ra⟩, fun htl => ?_, fun hb => q.ref rfl (by dsimp only [Vbjpae.refusal]; rw [if_neg nt, if_pos hb]) (by decide) (LT.refl H) ⟨dx, pl, sn, aW, ra⟩⟩
  refine ⟨_, rfl, r, CR, dx, _, _, rfl, ra.ob, T.clR, T.gP, rF_plan, ?_⟩
  have es : (s.game.moment : Int) + 1 = ((s.game.moment + 1 : Nat) : Int) := by omega
  refine ⟨_, rfl, pl, dxp, _, rfl, hA, pF_none (by decide +kernel), _, rfl, r, CR, dx, _, _, rfl, ra.ob, T.clR, T.gM, rF_moment, _, _, rfl, rfl, _, rfl, r, CR, dx, _, _, rfl, ra.ob, T.clR, T.gS, rF_seen, pl, aW, sn, s.plan, s.game.moment + 1, s.game.seen, rfl, ra.gp.plan, ra.gp.pv, ra.sn, ra.rc.len, fun l H1 _ hL sm => ?_⟩
  have ra1 := ra.same sm
  refine ⟨l, rfl, ⟨_, .inl (.inl hL)⟩, fun D hD => ?_⟩
  have ml := reports_len ra.gp.pv (s.game.moment + 1) s.game.seen
  let bad : Nat → Bool := fun m => !Vbjpae.winsAt s.plan (s.game.moment + 1) (Vbjpae.afterReport s.plan (s.game.moment + 1) s.game.seen m)
  refine lc_it (walk_list (xs := nv (Vbjpae.reportsAt s.plan s.game.seen (s.game.moment + 1)))) (fun i H' => But aW H1 H' ∧ WonOk P w s.plan H' aW ∧ H' D = some (.lst (nv (((Vbjpae.reportsAt s.plan s.game.seen (s.game.moment + 1)).take i).filter bad)))) ⟨Same.but (same_at _ hD) aW, (ra1.gp.won).same (same_at _ hD), upd_same⟩ (fun i H' _ h => .inl (.inl (but_lst h.1 ra1.gp.won hL))) (fun i x H2 H3 hi hP hY => ?_) (fun H' h => ?_)
  · obtain ⟨hb, hw, hC⟩ := hP
    obtain ⟨eH, hx⟩ := hY
    subst eH
    obtain ⟨m, hmm, rfl⟩ := nv_at_of hx
    have hmin := List.mem_of_getElem? hmm
    have ra3 := ra1.but hb hw
    obtain ⟨dxp3, aT3, aR3, aO3, hA3⟩ := ra3.gp.ins
    refine ⟨rfl, ?_⟩
    refine ⟨_, rfl, pl, dxp3, _, rfl, hA3, pF_none (by decide +kernel), ?_⟩
    refine ⟨_, rfl, pl, dxp3, _, rfl, hA3, pF_none (by decide +kernel), _, rfl, r, CR, dx, _, _, rfl, ra3.ob, T.clR, T.gM, rF_moment, _, _, rfl, rfl, _, rfl, r, CR, dx, _, _, rfl, ra3.ob, T.clR, T.gS, rF_seen, _, rfl, ?_⟩
    dsimp only
    rw [es]
    refine ⟨pl, aW, sn, s.plan, _, m, enc s.game.seen, rfl, ra3.gp.plan, ra3.gp.pv, ra3.sn, by rw [SPM.enc_len]; exact ra3.rc.len, fun tp H4 hT4 sm4 => ?_⟩
    rw [SPM.reported_is hmin] at hT4
    have ra4 := ra3.same sm4
    refine ⟨pl, aW, tp, s.plan, s.game.moment + 1, _, rfl, ra4.gp, hT4, SPM.Reach.report ra.gp.pv ra.rc hs hmin, by omega, fun H5 b5 w5 => ?_⟩
    have b35 : But aW H3 H5 := same_but sm4 b5
    have hC5 := but_lst b35 hw hC
    have tf := take_filter bad hmm
    refine ⟨_, rfl, if_2 (fun c => ?_) (fun c => ?_)⟩
    · have c : bad m = true := c
      refine ⟨_, rfl, _, hC5, ?_, but_new (hb.trans b35) hD, won_new w5 hC5 (fun _ z => nomatch z) (fun _ z => nomatch z), ?_⟩
      · rw [nv_len]
        refine small_lt (Nat.lt_of_le_of_lt (List.length_filter_le _ _) ?_)
        rw [List.length_take]; omega
      · rw [upd_same, tf, if_pos c]
        simp [nv]
    · have c : bad m = false := c
      refine ⟨hb.trans b35, w5, ?_⟩
      rw [hC5, tf, if_neg (by rw [c]; exact Bool.false_ne_true), List.append_nil]
  · obtain ⟨hb, hw, hC⟩ := h
    rw [nv_len, List.take_length] at hC
    have ra3 := ra1.but hb hw
    have hgr : Vbjpae.goodReport s.plan (s.game.moment + 1) s.game.seen = ((Vbjpae.reportsAt s.plan s.game.seen (s.game.moment + 1)).filter bad).head? := by
      rw [List.head?_filter]; rfl
    have fin : ∀ z, z = Vbjpae.optional (Vbjpae.goodReport s.plan (s.game.moment + 1) s.game.seen) → ∀ c, H' c = none → Q (.ref c) (upd H' c (.lst [.int z])) := fun z hz c hc => by
      refine q.ok rfl (by dsimp only [Vbjpae.refusal]; rw [if_neg nt, if_neg (by rw [htl]; simp)]) (rest := [z]) (by rw [hz]; rfl) ((same_lt sm).trans ((but_lt hb ra1.gp.won).trans (same_lt (same_at _ hc)))) ⟨dx, pl, sn, aW, ra3.same (same_at _ hc)⟩ upd_same
    refine ⟨_, rfl, !(nv ((Vbjpae.reportsAt s.plan s.game.seen (s.game.moment + 1)).filter bad)).isEmpty, .inl ⟨_, .inl (.inl hC), rfl⟩, ?_⟩
    cases e : (Vbjpae.reportsAt s.plan s.game.seen (s.game.moment + 1)).filter bad with
    | nil =>
      rw [e] at hgr
      refine if_f rfl ⟨_, rfl, one1, fun c hc => fin (-1) (by rw [hgr]; rfl) c hc⟩
    | cons m ms =>
      rw [e] at hgr hC
      refine if_t rfl ⟨_, rfl, D, _, 0, _, rfl, rfl, .inl (.inl hC), atI_nat (j := 0) rfl, one1, fun c hc => fin m (by rw [hgr]; rfl) c hc⟩
end
end SP
end

section
set_option Elab.async false
set_option linter.all false
set_option maxRecDepth 100000
set_option maxHeartbeats 4000000
namespace SP
open PySem PySem.Spec PyProof.Rows L2 SPR
open SPM (enc ov)
section
variable {P : Program} {w : World} {K : PySem.W.Frag} {mg : Str → Option Value} {base : Heap} {CP CR CE aS : Addr}
theorem pow_cast (n : Nat) : (2 : Int) ^ n = ((2 ^ n : Nat) : Int) := by rw [Int.natCast_pow]; rfl
theorem range_iff {z : Int} {n : Nat} : Vbjpae.inRange z 0 (2 ^ n - 1) = (decide (0 ≤ z) && decide (z < 2 ^ n)) := by
  unfold Vbjpae.inRange
  rw [pow_cast]
  congr 1
  rw [Bool.eq_iff_iff, decide_eq_true_iff, decide_eq_true_iff]
  omega
theorem ok_op5 {f : Addr} {fd : FuncData} (F : Fun K "operation_5" "Request.operation_5" sOp5 f fd) (T : Txt K mg CP CR CE aS) (F_require : FunX P w K mg base (L2.CX P w) 3 "require" (spReq CE)) (M_is_move : MetX P w K mg base CX0 2 CP "is_move" (spIsMove CP)) (M_after_move : MetX P w K mg base CX0 1 CP "after_move" spAfterMove) (M_is_broken : MetX P w K mg base CX0 2 CP "is_broken" (spIsBroken CP)) : FnOk P w K mg base (L2.CX P w) 4 f fd ["self", "mask"] (spOp1a P w CP CR CE .move) := by
  have nd := scOp5.nd
  refine F.okX scOp5 (fun vs H Q E h => ?_) (fun cdv A outer sh H vs Q E hr h => ?_)
  · obtain ⟨_, _, _, rfl, _⟩ := h
    rfl
  obtain ⟨r, s, z, rfl, ⟨dx, pl, sn, aW, ra⟩, q⟩ := h
  have tk := takes_of (X := cxOf (L2.CX P w) P w K mg base nOp5 "Request.operation_5" (defScope sOp5) f cdv A outer sh H E) rfl rfl rfl rfl
  refine ⟨_, (pss_cons (ps_expr (pe_fx F_require hr (by first | decide | omega) rfl (fun σ => passAt tk σ) (pa_cons (pe_and (pe_chain op_le op_lt pe_int (pv 1) (pe_op op_oneShl pe_int (pe_fldB rfl (pe_fldB rfl (pv 0) rfl) rfl))) (pe_one (pe_or (pe_fldB rfl (pv 0) rfl) (pe_one (pe_mx M_is_move T.clP hr (by first | decide | omega) (no0 (E := fun _ => E0)) (pe_fldB rfl (pv 0) rfl) (pa_cons (pe_fldB rfl (pv 0) rfl) (pa_cons (pv 1) pa_nil))))))) (pa_cons (pe_un un_neg pe_int) pa_nil))))
    (pss_cons (ps_expr (pe_fx F_require hr (by first | decide | omega) rfl (fun σ => passAt tk σ) (pa_cons (pe_not (pe_fldB rfl (pv 0) rfl)) (pa_cons (pe_un un_neg pe_int) pa_nil))))
    (pss_cons (ps_fld (pv 0) (pe_mx M_after_move T.clP hr (by first | decide | omega) (no0 (E := fun _ => E0)) (pe_fldB rfl (pv 0) rfl) (pa_cons (pe_fldB rfl (pv 0) rfl) (pa_cons (pe_fldB rfl (pv 0) rfl) (pa_cons (pv 1) pa_nil)))) rfl)
    (pss_cons (ps_fld (pv 0) pe_bl rfl)
    (pss_one (ps_ret (pe_lst (pa_cons (pe_ifExp (pt_val (pe_mx M_is_broken T.clP hr (by first | decide | omega) (no0 (E := fun _ => E0)) (pe_fldB rfl (pv 0) rfl) (pa_cons (pe_fldB rfl (pv 0) rfl) pa_nil))) pe_int pe_int) pa_nil)))))))), ?_⟩
  obtain ⟨dxp, aT, aR, aO, hA⟩ := ra.gp.ins
  have c6 := ra.gp.pv.c6
  have l6 := ra.rc.len
  have one1 : 1 ≤ sizeLine := by rw [sizeLine_eq]; decide
  have ro : ReqOk P w CP CR H r s := ⟨dx, pl, sn, aW, ra⟩
  have pn : 2 ^ s.plan.count ≤ 64 := by
    calc 2 ^ s.plan.count ≤ 2 ^ 6 := Nat.pow_le_pow_right (by decide) c6
      _ = 64 := by decide
  have hperm : Vbjpae.isPermitted s (.move z) = ((decide (0 ≤ z) && decide (z < 2 ^ s.plan.count)) && (s.game.hasMoved || Vbjpae.isMove s.plan s.game.seen z.toNat)) := by
    rw [← range_iff]; rfl
  have val : TEv (tAndV (tChain (rI0 fun i j => V.bl (decide (i ≤ j))) (rI0 fun i j => V.bl (decide (i < j))) (tC (V.int 0)) (tVar 1) (tOp (fun x y H Q => ∃ k : Nat, x = V.int 1 ∧ y = V.int (k : Int) ∧ k ≤ 134217727 ∧ Q (V.int (2 ^ k)) H) (tC (V.int 1)) (tFld K (tFld K (tVar 0) "plan") "events"))) (tOrV (tFld K (tVar 0) "has_moved") (tM CP "is_move" (spIsMove CP) (fun _ => E0) (tFld K (tVar 0) "plan") (tCons (tFld K (tVar 0) "seen") (tCons (tVar 1) tNil))))) [some (.ref r), some (.int z)] H (.bl (Vbjpae.isPermitted s (.move z))) := fun Q' q' => by
    rw [hperm] at q'
    refine tev_chain (f := fun i j => decide (i ≤ j)) (g := fun i j => decide (i < j)) tev_c (tev_var rfl) (k := 2 ^ s.plan.count) (fun Q2 q2 => ⟨_, rfl, r, CR, dx, _, _, rfl, ra.ob, T.clR, T.gP, rF_plan, pl, CP, dxp, _, _, rfl, hA, T.clP, T.fE, pF_events, s.plan.count, rfl, rfl, by omega, q2⟩) _ ⟨_, rfl, ?_⟩
    cases c1 : (decide (0 ≤ z) && decide (z < 2 ^ s.plan.count)) with
    | false => rw [c1] at q'; exact if_f rfl q'
    | true =>
      rw [c1] at q'
      refine if_t rfl ⟨_, rfl, r, CR, dx, _, _, rfl, ra.ob, T.clR, T.gH, rF_moved, _, rfl, ?_⟩
      cases c2 : s.game.hasMoved with
      | true => rw [c2] at q'; exact if_t rfl q'
      | false =>
        rw [c2] at q'
        rw [Bool.and_eq_true, decide_eq_true_iff, decide_eq_true_iff, pow_cast] at c1
        have ez : z = (z.toNat : Int) := by omega
        refine if_f rfl ⟨_, rfl, r, CR, dx, _, _, rfl, ra.ob, T.clR, T.gP, rF_plan, pl, dxp, _, rfl, hA, pF_none (by decide +kernel), _, rfl, r, CR, dx, _, _, rfl, ra.ob, T.clR, T.gS, rF_seen, _, rfl, pl, aW, sn, s.plan, s.game.seen, z.toNat, by rw [← ez], ra.gp.plan, ra.sn, l6, by omega, q'⟩
  refine val _ ⟨_, rfl, _, _, rfl, fun hp => ?_, fun hp => q.no hp (LT.refl H) ro⟩
  refine ⟨_, rfl, r, CR, dx, _, _, rfl, ra.ob, T.clR, T.gH, rF_moved, _, rfl, _, rfl, _, _, rfl, fun hm => ?_, fun hm => q.ref hp (by dsimp only [Vbjpae.refusal]; rw [if_pos (by simpa using hm)]) (by decide) (LT.refl H) ro⟩
  have hm : s.game.hasMoved = false := by simpa using hm
  rw [hperm, hm] at hp
  simp only [Bool.and_eq_true, decide_eq_true_eq, Bool.false_or] at hp
  obtain ⟨⟨z0, z1⟩, hmv⟩ := hp
  rw [pow_cast] at z1
  have ez : z = (z.toNat : Int) := by omega
  refine ⟨_, rfl, r, CR, dx, _, _, rfl, ra.ob, T.clR, T.gP, rF_plan, pl, dxp, _, rfl, hA, pF_none (by decide +kernel), _, rfl, r, CR, dx, _, _, rfl, ra.ob, T.clR, T.gM, rF_moment, _, rfl, r, CR, dx, _, _, rfl, ra.ob, T.clR, T.gS, rF_seen, _, rfl, pl, sn, s.game.moment, z.toNat, enc s.game.seen, by rw [← ez], ra.sn, by rw [SPM.enc_len]; omega, fun c H1 hC sm => ?_⟩
  rw [← SPM.moved_is l6 hmv] at hC
  have ra1 := ra.same sm
  have hA1 := sm _ _ hA
  have rp' := req_ne ra.ob ⟨_, _, rfl⟩ hA
  refine ⟨_, rfl, r, CR, dx, _, rfl, ra1.ob, T.clR, T.gS, by show 4 < 1000; decide, ?_⟩
  rw [put_seen]
  refine ⟨_, rfl, r, CR, dx, _, rfl, upd_same, T.clR, T.gH, by show 4 < 1000; decide, ?_⟩
  rw [put_moved, upd_upd]
  have hp' : Vbjpae.isPermitted s (.move z) = true := by
    rw [hperm, hm]
    simp only [Bool.and_eq_true, decide_eq_true_eq, Bool.false_or]
    rw [pow_cast]
    exact ⟨⟨z0, z1⟩, hmv⟩
  have ra2 : ReqA P w CP CR (upd H1 r (.ins CR dx (rF pl c s.game.moment true))) r dx pl c aW (Vbjpae.update s (.move z)) :=
    ⟨upd_same, gp_wr ra1.gp ra1.ob rp', by rw [upd_ne (ne_of hC ra1.ob fun z => nomatch z)]; exact hC, SPM.Reach.move ra.gp.pv ra.rc hmv⟩
  have lt2 : LT r H (upd H1 r (.ins CR dx (rF pl c s.game.moment true))) := (same_lt sm).trans (ins_lt (but_upd H1 r _) ra1.ob upd_same hA1 rp')
  generalize upd H1 r (.ins CR dx (rF pl c s.game.moment true)) = H2 at ra2 lt2
  obtain ⟨dxp2, aT2, aR2, aO2, hA2⟩ := ra2.gp.ins
  have fin : ∀ y, y = Vbjpae.flag (Vbjpae.isBroken s.plan (Vbjpae.afterMove s.plan s.game.moment s.game.seen z.toNat)) → ∀ l, H2 l = none → Q (.ref l) (upd H2 l (.lst [.int y])) := fun y hy l hl =>
    q.ok hp' (by dsimp only [Vbjpae.refusal]; rw [if_neg (by rw [hm]; simp)]) (rest := [y]) (by rw [hy]; rfl) (lt2.trans (same_lt (same_at _ hl))) ⟨dx, pl, c, aW, ra2.same (same_at _ hl)⟩ upd_same
  refine ⟨_, rfl, r, CR, dx, _, _, rfl, ra2.ob, T.clR, T.gP, rF_plan, pl, dxp2, _, rfl, hA2, pF_none (by decide +kernel), _, rfl, r, CR, dx, _, _, rfl, ra2.ob, T.clR, T.gS, rF_seen, pl, aW, c, s.plan, _, rfl, ra2.gp.plan, ra2.gp.pv, .inl ra2.sn, ra2.rc.len, _, rfl, ?_⟩
  show if Vbjpae.isBroken s.plan (Vbjpae.afterMove s.plan s.game.moment s.game.seen z.toNat) = true then _ else _
  refine if_2 (fun c => ⟨one1, fun l hl => fin 1 (by rw [c]; rfl) l hl⟩) (fun c => ⟨one1, fun l hl => fin 0 (by rw [c]; rfl) l hl⟩)
theorem in_reports {z : Int} {p : Pln} {t : Tms} {s : Nat} : inV (.int z) (nv (Vbjpae.reportsAt p t s)) = (decide (0 ≤ z) && Vbjpae.isReport p t s z.toNat) := by
  rw [ints_nv, inV_iv, Bool.eq_iff_iff, decide_eq_true_iff, Bool.and_eq_true, decide_eq_true_iff, ← SPM.mem_reportsAt]
  unfold Vbjpae.ints
  rw [List.mem_map]
  constructor
  · rintro ⟨m, hm, rfl⟩
    exact ⟨by omega, by rw [Int.toNat_natCast]; exact hm⟩
  · rintro ⟨h1, h2⟩
    exact ⟨z.toNat, h2, by omega⟩
theorem nv_flat (xs : List Nat) : (nv xs).all flatV = true := by
  rw [List.all_eq_true]
  intro v hv
  obtain ⟨z, _, rfl⟩ := List.mem_map.mp hv
  rfl
theorem ok_op7 {f : Addr} {fd : FuncData} (F : Fun K "operation_7" "Request.operation_7" sOp7 f fd) (T : Txt K mg CP CR CE aS) (F_require : FunX P w K mg base (L2.CX P w) 3 "require" (spReq CE)) (M_is_natures_turn : MetX P w K mg base CX0 1 CR "is_natures_turn" (spNat P w CP CR)) (M_reports : MetX P w K mg base CX0 1 CP "reports" (spReports CP)) (M_after_report : MetX P w K mg base CX0 1 CP "after_report" (spAfterReport CP)) (M_is_broken : MetX P w K mg base CX0 2 CP "is_broken" (spIsBroken CP)) : FnOk P w K mg base (L2.CX P w) 4 f fd ["self", "mask"] (spOp1a P w CP CR CE .report) := by
  have nd := scOp7.nd
  refine F.okX scOp7 (fun vs H Q E h => ?_) (fun cdv A outer sh H vs Q E hr h => ?_)
  · obtain ⟨_, _, _, rfl, _⟩ := h
    rfl
  obtain ⟨r, s, z, rfl, ⟨dx, pl, sn, aW, ra⟩, q⟩ := h
  have tk := takes_of (X := cxOf (L2.CX P w) P w K mg base nOp7 "Request.operation_7" (defScope sOp7) f cdv A outer sh H E) rfl rfl rfl rfl
  refine ⟨_, (pss_cons (ps_set (i := 2) nd rfl (Or.inl rfl) (pe_mx0 M_is_natures_turn T.clR hr (by first | decide | omega) (no0 (E := fun _ => E0)) (pv 0)))
    (pss_cons (ps_expr (pe_fx F_require hr (by first | decide | omega) rfl (fun σ => passAt tk σ) (pa_cons (pe_and (pe_chain op_le op_lt pe_int (pv 1) (pe_op op_oneShl pe_int (pe_callB (call_lenQ rfl) (by rfl) T.m_len (by decide +kernel) (pa_cons (pe_fldB rfl (pe_fldB rfl (pv 0) rfl) rfl) pa_nil)))) (pe_one (pe_or (pe_not (pv 2)) (pe_one (pe_cmpR op_in_seq (pv 1) (pe_mx M_reports T.clP hr (by first | decide | omega) (no0 (E := fun _ => E0)) (pe_fldB rfl (pv 0) rfl) (pa_cons (pe_op op_add (pe_fldB rfl (pv 0) rfl) pe_int) (pa_cons (pe_fldB rfl (pv 0) rfl) pa_nil))) (by rfl)))))) (pa_cons (pe_un un_neg pe_int) pa_nil))))
    (pss_cons (ps_expr (pe_fx F_require hr (by first | decide | omega) rfl (fun σ => passAt tk σ) (pa_cons (pv 2) (pa_cons (pe_un un_neg pe_int) pa_nil))))
    (pss_cons (ps_asg (pe_mx M_after_report T.clP hr (by first | decide | omega) (no0 (E := fun _ => E0)) (pe_fldB rfl (pv 0) rfl) (pa_cons (pe_op op_add (pe_fldB rfl (pv 0) rfl) pe_int) (pa_cons (pe_fldB rfl (pv 0) rfl) (pa_cons (pv 1) pa_nil)))) (pg_tupB (n := 2) rfl rfl (pgs_cons (pg_fld (pv 0)) (pgs_cons (pg_fld (pv 0)) pgs_nil))))
    (pss_cons (ps_fld (pv 0) pe_bl rfl)
    (pss_one (ps_ret (pe_lst (pa_cons (pe_ifExp (pt_val (pe_mx M_is_broken T.clP hr (by first | decide | omega) (no0 (E := fun _ => E0)) (pe_fldB rfl (pv 0) rfl) (pa_cons (pe_fldB rfl (pv 0) rfl) pa_nil))) pe_int pe_int) pa_nil))))))))), ?_⟩
  obtain ⟨dxp, aT, aR, aO, hA, ⟨qs, hT, hq⟩, _⟩ := id ra.gp.plan
  have lq : (qs.map V.ref).length = s.plan.tasks.length := rows_len hq
  have t3 := ra.gp.pv.t3
  have l6 := ra.rc.len
  have one1 : 1 ≤ sizeLine := by rw [sizeLine_eq]; decide
  have pn : 2 ^ s.plan.tasks.length ≤ 8 := by
    calc 2 ^ s.plan.tasks.length ≤ 2 ^ 3 := Nat.pow_le_pow_right (by decide) t3
      _ = 8 := by decide
  have es : (s.game.moment : Int) + 1 = ((s.game.moment + 1 : Nat) : Int) := by omega
  refine ⟨_, rfl, r, dx, _, rfl, ra.ob, rF_none (by decide +kernel), r, s, rfl, ⟨dx, pl, sn, aW, ra⟩, ?_⟩
  generalize htn : (s.game.hasMoved && decide (s.game.moment < s.plan.deadline)) = tn
  have hperm : Vbjpae.isPermitted s (.report z) = ((decide (0 ≤ z) && decide (z < 2 ^ s.plan.tasks.length)) && (!tn || (decide (0 ≤ z) && Vbjpae.isReport s.plan s.game.seen (s.game.moment + 1) z.toNat))) := by
    show (Vbjpae.inRange z 0 (2 ^ s.plan.tasks.length - 1) && (!s.game.hasMoved || (Vbjpae.hasEnded s || Vbjpae.isReport s.plan s.game.seen (s.game.moment + 1) z.toNat))) = _
    rw [range_iff, ← htn]
    unfold Vbjpae.hasEnded
    by_cases h0 : 0 ≤ z
    · rw [decide_eq_true h0]
      cases s.game.hasMoved with
      | false => simp
      | true =>
        by_cases h1 : s.plan.deadline ≤ s.game.moment
        · have : ¬ s.game.moment < s.plan.deadline := by omega
          simp [h1, this]
        · have : s.game.moment < s.plan.deadline := by omega
          simp [h1, this]
    · rw [decide_eq_false h0]; simp
  -- the test, and what comes behind it
  have val : ∀ Q' : VK, (∀ H1, Same H H1 → Q' (.bl (Vbjpae.isPermitted s (.report z))) H1) → (tAndV (tChain (rI0 fun i j => V.bl (decide (i ≤ j))) (rI0 fun i j => V.bl (decide (i < j))) (tC (V.int 0)) (tVar 1) (tOp (fun x y H Q => ∃ k : Nat, x = V.int 1 ∧ y = V.int (k : Int) ∧ k ≤ 134217727 ∧ Q (V.int (2 ^ k)) H) (tC (V.int 1)) (tCB (rLenQ K) (tCons (tFld K (tFld K (tVar 0) "plan") "tasks") tNil)))) (tOrV (tNotV (tVar 2)) (tOp (rIn K false) (tVar 1) (tM CP "reports" (spReports CP) (fun _ => E0) (tFld K (tVar 0) "plan") (tCons (tOp (rI0 fun i j => V.int (i + j)) (tFld K (tVar 0) "moment") (tC (V.int 1))) (tCons (tFld K (tVar 0) "seen") tNil)))))) [some (.ref r), some (.int z), some (.bl tn)] H Q' := fun Q' q' => by
    rw [hperm] at q'
    refine tev_chain (f := fun i j => decide (i ≤ j)) (g := fun i j => decide (i < j)) tev_c (tev_var rfl) (k := 2 ^ s.plan.tasks.length) (fun Q2 q2 => ⟨_, rfl, r, CR, dx, _, _, rfl, ra.ob, T.clR, T.gP, rF_plan, pl, CP, dxp, _, _, rfl, hA, T.clP, T.fT, pF_tasks, aT, _, rfl, .inl (.inl (.inl hT)), s.plan.tasks.length, rfl, by rw [lq], by omega, q2⟩) _ ⟨_, rfl, ?_⟩
    cases c1 : (decide (0 ≤ z) && decide (z < 2 ^ s.plan.tasks.length)) with
    | false => rw [c1] at q'; exact if_f rfl (q' H (Same.refl H))
    | true =>
      rw [c1] at q'
      refine if_t rfl ⟨_, rfl, _, rfl, _, rfl, ?_⟩
      cases tn with
      | false => exact if_t rfl (q' H (Same.refl H))
      | true =>
        refine if_f rfl ⟨_, rfl, _, rfl, r, CR, dx, _, _, rfl, ra.ob, T.clR, T.gP, rF_plan, pl, dxp, _, rfl, hA, pF_none (by decide +kernel), _, rfl, r, CR, dx, _, _, rfl, ra.ob, T.clR, T.gM, rF_moment, _, _, rfl, rfl, _, rfl, r, CR, dx, _, _, rfl, ra.ob, T.clR, T.gS, rF_seen, pl, aW, sn, s.plan, s.game.moment + 1, s.game.seen, rfl, ra.gp.plan, ra.gp.pv, ra.sn, l6, fun l H1 _ hL sm => ?_⟩
        refine ⟨l, _, rfl, .inl (.inl (.inl hL)), rfl, nv_flat _, ?_⟩
        show Q' (V.bl (inV (.int z) (nv (Vbjpae.reportsAt s.plan s.game.seen (s.game.moment + 1))))) H1
        rw [in_reports]
        exact q' H1 sm
  refine val _ fun H0 sm0 => ⟨_, rfl, _, _, rfl, fun hp => ?_, fun hp => q.no hp (same_lt sm0) ⟨dx, pl, sn, aW, ra.same sm0⟩⟩
  refine ⟨_, rfl, _, rfl, _, _, rfl, fun ht => ?_, fun hf => q.ref hp (by dsimp only [Vbjpae.refusal]; rw [if_pos (turn_iff.mp (htn.trans hf))]) (by decide) (same_lt sm0) ⟨dx, pl, sn, aW, ra.same sm0⟩⟩
  have ra0 := ra.same sm0
  have hA0 := sm0 _ _ hA
  have nt : ¬ (s.game.hasMoved = false ∨ Vbjpae.hasEnded s = true) := fun zz => by rw [turn_iff.mpr zz] at htn; rw [ht] at htn; cases htn
  have hs : s.game.moment < s.plan.deadline := by
    rw [ht, Bool.and_eq_true, decide_eq_true_iff] at htn
    exact htn.2
  have hp' := hp
  rw [hperm, ht] at hp
  simp only [Bool.and_eq_true, decide_eq_true_eq, Bool.not_true, Bool.false_or] at hp
  obtain ⟨⟨z0, z1⟩, _, hrep⟩ := hp
  have hmin := SPM.mem_reportsAt.mpr hrep
  have ez : z = (z.toNat : Int) := by omega
  have rp' := req_ne ra.ob ⟨_, _, rfl⟩ hA
  refine ⟨_, rfl, r, CR, dx, _, _, rfl, ra0.ob, T.clR, T.gP, rF_plan, pl, dxp, _, rfl, hA0, pF_none (by decide +kernel), _, rfl, r, CR, dx, _, _, rfl, ra0.ob, T.clR, T.gM, rF_moment, _, _, rfl, rfl, _, rfl, r, CR, dx, _, _, rfl, ra0.ob, T.clR, T.gS, rF_seen, _, rfl, ?_⟩
  dsimp only
  rw [es]
  refine ⟨pl, aW, sn, s.plan, _, z.toNat, enc s.game.seen, by rw [← ez], ra0.gp.plan, ra0.gp.pv, ra0.sn, by rw [SPM.enc_len]; exact l6, fun tp H1 hTP sm => ?_⟩
  rw [SPM.reported_is hmin] at hTP
  obtain ⟨c, e1, hC⟩ := hTP
  have hC : H1 c = some (.tup (iv (enc (Vbjpae.afterReport s.plan (s.game.moment + 1) s.game.seen z.toNat)))) := hC
  have ra1 := ra0.same sm
  have hA1 := sm _ _ hA0
  refine ⟨tp, _, rfl, .inl (.inl e1), rfl, _, _, rfl, _, rfl, r, CR, dx, _, rfl, ra1.ob, T.clR, T.gM, by show 4 < 1000; decide, ?_⟩
  rw [put_moment]
  refine ⟨_, _, rfl, _, rfl, r, CR, dx, _, rfl, upd_same, T.clR, T.gS, by show 4 < 1000; decide, ?_⟩
  rw [put_seen, upd_upd]
  refine ⟨rfl, ?_⟩
  refine ⟨_, rfl, r, CR, dx, _, rfl, upd_same, T.clR, T.gH, by show 4 < 1000; decide, ?_⟩
  rw [put_moved, upd_upd]
  have ra2 : ReqA P w CP CR (upd H1 r (.ins CR dx (rF pl c ((s.game.moment + 1 : Nat) : Int) false))) r dx pl c aW (Vbjpae.update s (.report z)) :=
    ⟨upd_same, gp_wr ra1.gp ra1.ob rp', by rw [upd_ne (ne_of hC ra1.ob fun z => nomatch z)]; exact hC, SPM.Reach.report ra.gp.pv ra.rc hs hmin⟩
  have lt2 : LT r H (upd H1 r (.ins CR dx (rF pl c ((s.game.moment + 1 : Nat) : Int) false))) := (same_lt (sm0.trans sm)).trans (ins_lt (but_upd H1 r _) ra1.ob upd_same hA1 rp')
  dsimp only
  generalize upd H1 r (.ins CR dx (rF pl c ((s.game.moment + 1 : Nat) : Int) false)) = H2 at ra2 lt2
  obtain ⟨dxp2, aT2, aR2, aO2, hA2⟩ := ra2.gp.ins
  have fin : ∀ y, y = Vbjpae.flag (Vbjpae.isBroken s.plan (Vbjpae.afterReport s.plan (s.game.moment + 1) s.game.seen z.toNat)) → ∀ l, H2 l = none → Q (.ref l) (upd H2 l (.lst [.int y])) := fun y hy l hl =>
    q.ok hp' (by dsimp only [Vbjpae.refusal]; rw [if_neg nt]) (rest := [y]) (by rw [hy]; rfl) (lt2.trans (same_lt (same_at _ hl))) ⟨dx, pl, c, aW, ra2.same (same_at _ hl)⟩ upd_same
  refine ⟨_, rfl, r, CR, dx, _, _, rfl, ra2.ob, T.clR, T.gP, rF_plan, pl, dxp2, _, rfl, hA2, pF_none (by decide +kernel), _, rfl, r, CR, dx, _, _, rfl, ra2.ob, T.clR, T.gS, rF_seen, pl, aW, c, s.plan, _, rfl, ra2.gp.plan, ra2.gp.pv, .inl ra2.sn, ra2.rc.len, _, rfl, ?_⟩
  show if Vbjpae.isBroken s.plan (Vbjpae.afterReport s.plan (s.game.moment + 1) s.game.seen z.toNat) = true then _ else _
  refine if_2 (fun c => ⟨one1, fun l hl => fin 1 (by rw [c]; rfl) l hl⟩) (fun c => ⟨one1, fun l hl => fin 0 (by rw [c]; rfl) l hl⟩)
end
end SP
end

section
set_option Elab.async false
set_option linter.all false
set_option maxRecDepth 100000
set_option maxHeartbeats 4000000
namespace SP
open PySem PySem.Spec PyProof.Rows L2 SPR
open SPM (enc ov)
theorem OpQ.refE {P : Program} {w : World} {CP CR CE r : Addr} {s : Vbjpae.State} {c : Vbjpae.Call} {H : Hp} {Q : VK} {E : XK} (h : OpQ P w CP CR CE r s c H Q E) (hp : Vbjpae.isPermitted s c = true) {z : Int} (hr : Vbjpae.refusal s c = z) (hz : z ≠ 0) {d : Addr} {H' : Hp} (lt : LT r H H') (ro : ReqOk P w CP CR H' r s) (hd : H' d = some (.xd [("code", .int z)])) : E (.ref CE) (some d) H' := by
  subst hr
  unfold OpQ at h
  rw [step_ref hp hz] at h
  exact h.2 _ hz rfl d H' lt ro hd
theorem strat_len {p : Pln} {n : Nat} : ∀ (left s : Nat) (t : Tms), t.length = n → ∀ x ∈ Vbjpae.strategyFrom p left s t, x.position.seen.length = n
  | 0, s, t, h, x, hx => by
    rw [Vbjpae.strategyFrom, List.mem_singleton] at hx
    subst hx; exact h
  | left + 1, s, t, h, x, hx => by
    rw [Vbjpae.strategyFrom] at hx
    rcases List.mem_cons.mp hx with e | hx
    · subst e; exact h
    · obtain ⟨r, _, hx⟩ := List.mem_flatMap.mp hx
      exact strat_len left _ _ (by rw [SPM.afterReport_len, SPM.afterMove_len, h]) x hx
theorem refu_len {p : Pln} {n : Nat} : ∀ (left s : Nat) (t : Tms), t.length = n → ∀ x ∈ Vbjpae.refutationFrom p left s t, x.seen.length = n
  | 0, s, t, h, x, hx => by
    rw [Vbjpae.refutationFrom, List.mem_singleton] at hx
    subst hx; exact h
  | left + 1, s, t, h, x, hx => by
    rw [Vbjpae.refutationFrom] at hx
    rcases List.mem_cons.mp hx with e | hx
    · subst e; exact h
    · obtain ⟨m, _, hx⟩ := List.mem_flatMap.mp hx
      dsimp only at hx
      split at hx
      · cases hx
      · split at hx
        · exact refu_len left _ _ (by rw [SPM.afterReport_len, SPM.afterMove_len, h]) x hx
        · cases hx
section
variable {P : Program} {w : World} {K : PySem.W.Frag} {mg : Str → Option Value} {base : Heap} {CP CR CE aS : Addr}
theorem ok_op10 {f : Addr} {fd : FuncData} (F : Fun K "operation_10" "Request.operation_10" sOp10 f fd) (T : Txt K mg CP CR CE aS) (F_require : FunX P w K mg base (L2.CX P w) 3 "require" (spReq CE)) (M_check_size : MetX P w K mg base (L2.CX P w) 4 CR "check_size" (spChk P w CP CR CE)) (M_beginning : MetX P w K mg base CX0 1 CP "beginning" (spBeginning CP)) (M_wins : MetX P w K mg base CX0 38 CP "wins" (spWins P w CP 9)) (M_strategy : MetX P w K mg base (L2.CX P w) 38 CP "strategy" (spStr P w CP CE 9)) (F_operation_10_list : FunX P w K mg base CX0 1 "operation_10_list" spO10l) : FnOk P w K mg base (L2.CX P w) 39 f fd ["self"] (spOp0a P w CP CR CE .strategy) := by
  have nd := scOp10.nd
  refine F.okX scOp10 (fun vs H Q E h => ?_) (fun cdv A outer sh H vs Q E hr h => ?_)
  · obtain ⟨_, _, rfl, _⟩ := h
    rfl
  obtain ⟨r, s, rfl, ⟨dx, pl, sn, aW, ra⟩, q⟩ := h
  have tk := takes_of (X := cxOf (L2.CX P w) P w K mg base nOp10 "Request.operation_10" (defScope sOp10) f cdv A outer sh H E) rfl rfl rfl rfl
  refine ⟨_, (pss_cons (ps_expr (pe_mx0 M_check_size T.clR hr (by first | decide | omega) (fun σ => passAt tk σ) (pv 0)))
    (pss_cons (ps_set (i := 1) nd rfl (Or.inl rfl) (pe_mx0 M_beginning T.clP hr (by first | decide | omega) (no0 (E := fun _ => E0)) (pe_fldB rfl (pv 0) rfl)))
    (pss_cons (ps_expr (pe_fx F_require hr (by first | decide | omega) rfl (fun σ => passAt tk σ) (pa_cons (pe_mx M_wins T.clP hr (by first | decide | omega) (no0 (E := fun _ => E0)) (pe_fldB rfl (pv 0) rfl) (pa_cons (pv 1) pa_nil)) (pa_cons (pe_un un_neg pe_int) pa_nil))))
    (pss_cons (ps_set (i := 2) nd rfl (Or.inl rfl) (pe_lst pa_nil))
    (pss_cons (ps_expr (pe_mx M_strategy T.clP hr (by first | decide | omega) (fun σ => passAt tk σ) (pe_fldB rfl (pv 0) rfl) (pa_cons (pv 1) (pa_cons (pv 2) pa_nil))))
    (pss_one (ps_ret (pe_op op_cat (pe_lst (pa_cons (pe_callB (call_lenQ rfl) (by rfl) T.m_len (by decide +kernel) (pa_cons (pv 2) pa_nil)) pa_nil)) (pe_fx F_operation_10_list hr (by first | decide | omega) rfl (no0 (E := fun _ => E0)) (pa_cons (pv 2) pa_nil)))))))))), ?_⟩
  obtain ⟨dxp, aT, aR, aO, hA⟩ := ra.gp.ins
  have hd8 := ra.gp.pv.d8
  have one1 : 1 ≤ sizeLine := by rw [sizeLine_eq]; decide
  have hst := SPM.Reach.start ra.gp.pv
  refine ⟨_, rfl, r, dx, _, rfl, ra.ob, rF_none (by decide +kernel), r, s, rfl, ⟨dx, pl, sn, aW, ra⟩, fun hs => ?_, fun hb => q.ref rfl (by dsimp only [Vbjpae.refusal]; rw [if_pos hb]) (by decide) (LT.refl H) ⟨dx, pl, sn, aW, ra⟩⟩
  have ns : ¬ Vbjpae.isTooLarge s = true := by rw [hs]; simp
  refine ⟨_, rfl, r, CR, dx, _, _, rfl, ra.ob, T.clR, T.gP, rF_plan, pl, dxp, _, rfl, hA, pF_none (by decide +kernel), pl, aW, s.plan, rfl, ra.gp.plan, ra.gp.pv, fun t H1 hT sm => ?_⟩
  have ra1 := ra.same sm
  obtain ⟨dxp1, aT1, aR1, aO1, hA1⟩ := ra1.gp.ins
  refine ⟨_, rfl, r, CR, dx, _, _, rfl, ra1.ob, T.clR, T.gP, rF_plan, pl, dxp1, _, rfl, hA1, pF_none (by decide +kernel), _, rfl, pl, aW, t, s.plan, 0, VbjpCore.startTimes s.plan, rfl, ra1.gp, hT, hst, by omega, fun H2 b2 w2 => ?_⟩
  have ra2 := ra1.but b2 w2
  have lt2 : LT r H H2 := (same_lt sm).trans (but_lt b2 ra1.gp.won)
  refine ⟨_, rfl, _, _, rfl, fun hwin => ?_, fun hwin => q.ref rfl (by dsimp only [Vbjpae.refusal]; rw [if_neg ns]; exact if_pos (show Vbjpae.winner s.plan = false from hwin)) (by decide) lt2 ⟨dx, pl, sn, aW, ra2⟩⟩
  have nw : ¬ Vbjpae.winner s.plan = false := by
    intro z
    have : Vbjpae.winsAt s.plan 0 (VbjpCore.startTimes s.plan) = false := z
    rw [this] at hwin
    cases hwin
  refine ⟨Nat.zero_le _, fun l hl0 => ?_⟩
  have sm3 : Same H2 (upd H2 l (.lst [])) := same_at _ hl0
  have hL3 : (upd H2 l (.lst [])) l = some (.lst []) := upd_same
  generalize upd H2 l (.lst []) = H3 at sm3 hL3
  have ra3 := ra2.same sm3
  obtain ⟨dxp3, aT3, aR3, aO3, hA3⟩ := ra3.gp.ins
  have hT3 := (but_pos b2 ra1.gp.won hT).keep (same_tups sm3)
  refine ⟨_, rfl, r, CR, dx, _, _, rfl, ra3.ob, T.clR, T.gP, rF_plan, pl, dxp3, _, rfl, hA3, pF_none (by decide +kernel), _, rfl, _, rfl, pl, aW, t, l, s.plan, 0, VbjpCore.startTimes s.plan, H2, [], [], rfl, ra2.gp, Same.but sm3 aW, ra3.gp.won, hl0, hT3, hst, by omega, hwin, hL3, .nil, Nat.zero_le _, fun hle H4 es b4 w4 hL4 hE4 => ?_, fun hgt d H4 b4 w4 hd => ?_⟩
  · rw [List.length_nil, Nat.zero_add] at hle
    rw [List.nil_append] at hE4
    have b24 : But aW H2 H4 := But2.back (Same.but sm3 aW) b4 hl0
    have ra4 := ra2.but b24 w4
    have lt4 : LT r H H4 := lt2.trans (but_lt b24 ra2.gp.won)
    have les := Paired.length hE4
    have lst : (Vbjpae.strategyFrom s.plan (s.plan.deadline - 0) 0 (VbjpCore.startTimes s.plan)).length ≤ 600 := hle
    refine ⟨_, rfl, l, _, rfl, .inl (.inl (.inl hL4)), one1, fun c hc => ?_⟩
    have smc := same_at (.lst [V.int ((es.map V.ref).length : Nat)]) hc
    have hC : (upd H4 c (.lst [V.int ((es.map V.ref).length : Nat)])) c = _ := upd_same
    generalize upd H4 c (.lst [V.int ((es.map V.ref).length : Nat)]) = H5 at smc hC
    have hlen : ∀ x ∈ Vbjpae.strategyFrom s.plan (s.plan.deadline - 0) 0 (VbjpCore.startTimes s.plan), x.position.seen.length ≤ 6 ∧ x.position.seen ≠ [] := fun x hx => by
      have := strat_len _ _ _ hst.len x hx
      have c1 := ra.gp.pv.c1
      have c6 := ra.gp.pv.c6
      refine ⟨by omega, fun z => ?_⟩
      rw [z] at this
      simp at this
      omega
    refine ⟨_, rfl, l, es, _, rfl, smc _ _ hL4, Paired.mapP hE4 fun _ _ z => z.keep (same_tups smc), lst, hlen, fun e H6 hE6 sm6 => ?_⟩
    refine ⟨c, e, _, _, rfl, rfl, sm6 _ _ hC, hE6, ?_, fun g hg => ?_⟩
    · rw [iv_len]
      have := SPM.flatMap_len entF 8 (Vbjpae.strategyFrom s.plan (s.plan.deadline - 0) 0 (VbjpCore.startTimes s.plan)) fun x hx => by
        have := (hlen x hx).1
        unfold entF posF
        rw [List.length_append, List.length_cons, SPM.enc_len, List.length_singleton]; omega
      rw [sizeLine_eq]
      show 1 + _ ≤ _
      omega
    · have s7 := smc.trans (sm6.trans (same_at (.lst ([V.int ((es.map V.ref).length : Nat)] ++ iv ((Vbjpae.strategyFrom s.plan (s.plan.deadline - 0) 0 (VbjpCore.startTimes s.plan)).flatMap entF))) hg))
      refine q.ok rfl (by dsimp only [Vbjpae.refusal]; rw [if_neg ns, if_neg nw]; exact if_neg (Nat.not_lt.mpr lst)) (rest := ((Vbjpae.strategyOf s.plan).length : Int) :: (Vbjpae.strategyOf s.plan).flatMap fun x => Vbjpae.positionFields x.position ++ [(x.move : Int)]) rfl (lt4.trans (same_lt s7)) ⟨dx, pl, sn, aW, ra4.same s7⟩ ?_
      rw [upd_same, List.length_map, les]
      rfl
  · rw [List.length_nil, Nat.zero_add] at hgt
    exact q.refE rfl (z := -9) (by dsimp only [Vbjpae.refusal]; rw [if_neg ns, if_neg nw, if_pos (show Vbjpae.maxPositions < (Vbjpae.strategyOf s.plan).length from hgt)]) (by decide) (lt2.trans (but_lt b4 ra2.gp.won)) ⟨dx, pl, sn, aW, ra2.but b4 w4⟩ hd
theorem ok_op11 {f : Addr} {fd : FuncData} (F : Fun K "operation_11" "Request.operation_11" sOp11 f fd) (T : Txt K mg CP CR CE aS) (F_require : FunX P w K mg base (L2.CX P w) 3 "require" (spReq CE)) (M_check_size : MetX P w K mg base (L2.CX P w) 4 CR "check_size" (spChk P w CP CR CE)) (M_beginning : MetX P w K mg base CX0 1 CP "beginning" (spBeginning CP)) (M_wins : MetX P w K mg base CX0 38 CP "wins" (spWins P w CP 9)) (M_refutation : MetX P w K mg base (L2.CX P w) 40 CP "refutation" (spRef P w CP CE 9)) (F_operation_11_list : FunX P w K mg base CX0 1 "operation_11_list" spO11l) : FnOk P w K mg base (L2.CX P w) 41 f fd ["self"] (spOp0a P w CP CR CE .refutation) := by
  have nd := scOp11.nd
  refine F.okX scOp11 (fun vs H Q E h => ?_) (fun cdv A outer sh H vs Q E hr h => ?_)
  · obtain ⟨_, _, rfl, _⟩ := h
    rfl
  obtain ⟨r, s, rfl, ⟨dx, pl, sn, aW, ra⟩, q⟩ := h
  have tk := takes_of (X := cxOf (L2.CX P w) P w K mg base nOp11 "Request.operation_11" (defScope sOp11) f cdv A outer sh H E) rfl rfl rfl rfl
  refine ⟨_, (pss_cons (ps_expr (pe_mx0 M_check_size T.clR hr (by first | decide | omega) (fun σ => passAt tk σ) (pv 0)))
    (pss_cons (ps_set (i := 1) nd rfl (Or.inl rfl) (pe_mx0 M_beginning T.clP hr (by first | decide | omega) (no0 (E := fun _ => E0)) (pe_fldB rfl (pv 0) rfl)))
    (pss_cons (ps_expr (pe_fx F_require hr (by first | decide | omega) rfl (fun σ => passAt tk σ) (pa_cons (pe_not (pe_mx M_wins T.clP hr (by first | decide | omega) (no0 (E := fun _ => E0)) (pe_fldB rfl (pv 0) rfl) (pa_cons (pv 1) pa_nil))) (pa_cons (pe_un un_neg pe_int) pa_nil))))
    (pss_cons (ps_set (i := 2) nd rfl (Or.inl rfl) (pe_lst pa_nil))
    (pss_cons (ps_expr (pe_mx M_refutation T.clP hr (by first | decide | omega) (fun σ => passAt tk σ) (pe_fldB rfl (pv 0) rfl) (pa_cons (pv 1) (pa_cons (pv 2) pa_nil))))
    (pss_one (ps_ret (pe_op op_cat (pe_lst (pa_cons (pe_callB (call_lenQ rfl) (by rfl) T.m_len (by decide +kernel) (pa_cons (pv 2) pa_nil)) pa_nil)) (pe_fx F_operation_11_list hr (by first | decide | omega) rfl (no0 (E := fun _ => E0)) (pa_cons (pv 2) pa_nil)))))))))), ?_⟩
  obtain ⟨dxp, aT, aR, aO, hA⟩ := ra.gp.ins
  have hd8 := ra.gp.pv.d8
  have one1 : 1 ≤ sizeLine := by rw [sizeLine_eq]; decide
  have hst := SPM.Reach.start ra.gp.pv
  refine ⟨_, rfl, r, dx, _, rfl, ra.ob, rF_none (by decide +kernel), r, s, rfl, ⟨dx, pl, sn, aW, ra⟩, fun hs => ?_, fun hb => q.ref rfl (by dsimp only [Vbjpae.refusal]; rw [if_pos hb]) (by decide) (LT.refl H) ⟨dx, pl, sn, aW, ra⟩⟩
  have ns : ¬ Vbjpae.isTooLarge s = true := by rw [hs]; simp
  refine ⟨_, rfl, r, CR, dx, _, _, rfl, ra.ob, T.clR, T.gP, rF_plan, pl, dxp, _, rfl, hA, pF_none (by decide +kernel), pl, aW, s.plan, rfl, ra.gp.plan, ra.gp.pv, fun t H1 hT sm => ?_⟩
  have ra1 := ra.same sm
  obtain ⟨dxp1, aT1, aR1, aO1, hA1⟩ := ra1.gp.ins
  refine ⟨_, rfl, r, CR, dx, _, _, rfl, ra1.ob, T.clR, T.gP, rF_plan, pl, dxp1, _, rfl, hA1, pF_none (by decide +kernel), _, rfl, pl, aW, t, s.plan, 0, VbjpCore.startTimes s.plan, rfl, ra1.gp, hT, hst, by omega, fun H2 b2 w2 => ?_⟩
  have ra2 := ra1.but b2 w2
  have lt2 : LT r H H2 := (same_lt sm).trans (but_lt b2 ra1.gp.won)
  refine ⟨_, rfl, _, rfl, _, _, rfl, fun hwin => ?_, fun hwin => q.ref rfl (by dsimp only [Vbjpae.refusal]; rw [if_neg ns]; exact if_pos (show Vbjpae.winsAt s.plan 0 (VbjpCore.startTimes s.plan) = true by simpa using hwin)) (by decide) lt2 ⟨dx, pl, sn, aW, ra2⟩⟩
  have hwin : Vbjpae.winsAt s.plan 0 (VbjpCore.startTimes s.plan) = false := by simpa using hwin
  have nw : ¬ Vbjpae.winner s.plan = true := by
    intro z
    have : Vbjpae.winsAt s.plan 0 (VbjpCore.startTimes s.plan) = true := z
    rw [this] at hwin
    cases hwin
  refine ⟨Nat.zero_le _, fun l hl0 => ?_⟩
  have sm3 : Same H2 (upd H2 l (.lst [])) := same_at _ hl0
  have hL3 : (upd H2 l (.lst [])) l = some (.lst []) := upd_same
  generalize upd H2 l (.lst []) = H3 at sm3 hL3
  have ra3 := ra2.same sm3
  obtain ⟨dxp3, aT3, aR3, aO3, hA3⟩ := ra3.gp.ins
  have hT3 := (but_pos b2 ra1.gp.won hT).keep (same_tups sm3)
  refine ⟨_, rfl, r, CR, dx, _, _, rfl, ra3.ob, T.clR, T.gP, rF_plan, pl, dxp3, _, rfl, hA3, pF_none (by decide +kernel), _, rfl, _, rfl, pl, aW, t, l, s.plan, 0, VbjpCore.startTimes s.plan, H2, [], [], rfl, ra2.gp, Same.but sm3 aW, ra3.gp.won, hl0, hT3, hst, by omega, hwin, hL3, .nil, Nat.zero_le _, fun hle H4 es b4 w4 hL4 hE4 => ?_, fun hgt d H4 b4 w4 hd => ?_⟩
  · rw [List.length_nil, Nat.zero_add] at hle
    rw [List.nil_append] at hE4
    have b24 : But aW H2 H4 := But2.back (Same.but sm3 aW) b4 hl0
    have ra4 := ra2.but b24 w4
    have lt4 : LT r H H4 := lt2.trans (but_lt b24 ra2.gp.won)
    have les := Paired.length hE4
    have lst : (Vbjpae.refutationFrom s.plan (s.plan.deadline - 0) 0 (VbjpCore.startTimes s.plan)).length ≤ 600 := hle
    refine ⟨_, rfl, l, _, rfl, .inl (.inl (.inl hL4)), one1, fun c hc => ?_⟩
    have smc := same_at (.lst [V.int ((es.map V.ref).length : Nat)]) hc
    have hC : (upd H4 c (.lst [V.int ((es.map V.ref).length : Nat)])) c = _ := upd_same
    generalize upd H4 c (.lst [V.int ((es.map V.ref).length : Nat)]) = H5 at smc hC
    have hlen : ∀ x ∈ Vbjpae.refutationFrom s.plan (s.plan.deadline - 0) 0 (VbjpCore.startTimes s.plan), x.seen.length ≤ 6 ∧ x.seen ≠ [] := fun x hx => by
      have := refu_len _ _ _ hst.len x hx
      have c1 := ra.gp.pv.c1
      have c6 := ra.gp.pv.c6
      refine ⟨by omega, fun z => ?_⟩
      rw [z] at this
      simp at this
      omega
    refine ⟨_, rfl, l, es, _, rfl, smc _ _ hL4, Paired.mapP hE4 fun _ _ z => z.keep (same_tups smc), lst, hlen, fun e H6 hE6 sm6 => ?_⟩
    refine ⟨c, e, _, _, rfl, rfl, sm6 _ _ hC, hE6, ?_, fun g hg => ?_⟩
    · rw [iv_len]
      have := SPM.flatMap_len posF 7 (Vbjpae.refutationFrom s.plan (s.plan.deadline - 0) 0 (VbjpCore.startTimes s.plan)) fun x hx => by
        have := (hlen x hx).1
        unfold posF
        rw [List.length_cons, SPM.enc_len]; omega
      rw [sizeLine_eq]
      show 1 + _ ≤ _
      omega
    · have s7 := smc.trans (sm6.trans (same_at (.lst ([V.int ((es.map V.ref).length : Nat)] ++ iv ((Vbjpae.refutationFrom s.plan (s.plan.deadline - 0) 0 (VbjpCore.startTimes s.plan)).flatMap posF))) hg))
      refine q.ok rfl (by dsimp only [Vbjpae.refusal]; rw [if_neg ns, if_neg nw]; exact if_neg (Nat.not_lt.mpr lst)) (rest := ((Vbjpae.refutationOf s.plan).length : Int) :: (Vbjpae.refutationOf s.plan).flatMap Vbjpae.positionFields) rfl (lt4.trans (same_lt s7)) ⟨dx, pl, sn, aW, ra4.same s7⟩ ?_
      rw [upd_same, List.length_map, les]
      rfl
  · rw [List.length_nil, Nat.zero_add] at hgt
    exact q.refE rfl (z := -9) (by dsimp only [Vbjpae.refusal]; rw [if_neg ns, if_neg nw, if_pos (show Vbjpae.maxPositions < (Vbjpae.refutationOf s.plan).length from hgt)]) (by decide) (lt2.trans (but_lt b4 ra2.gp.won)) ⟨dx, pl, sn, aW, ra2.but b4 w4⟩ hd
end
end SP
end

section
set_option Elab.async false
set_option linter.all false
set_option maxRecDepth 100000
set_option maxHeartbeats 4000000
namespace SP
open PySem PySem.Spec PyProof.Rows L2 SPR
open SPM (enc ov)
/-! ### rows of whole numbers, as the specification reads them -/
theorem chunks_nil (k : Nat) : chunks k [] = [] := by simp [chunks]
theorem chunks_step {k : Nat} {l : List Int} (hk : 0 < k) (h : k ≤ l.length) : chunks k l = l.take k :: chunks k (l.drop k) := by
  have e : l.length / k = (l.length - k) / k + 1 := by
    conv => lhs; rw [show l.length = (l.length - k) + k by omega]
    exact Nat.add_div_right _ hk
  unfold chunks
  rw [e, List.range_succ_eq_map, List.map_cons, List.map_map, List.length_drop]
  congr 1
  · simp
  · refine List.map_congr_left fun i _ => ?_
    show (l.drop ((i + 1) * k)).take k = ((l.drop k).drop (i * k)).take k
    rw [List.drop_drop, show (i + 1) * k = k + i * k by rw [Nat.succ_mul]; omega]
theorem rows_chunks {k : Nat} (hk : 0 < k) : ∀ (fuel : Nat) (l : List Int), l.length ≤ fuel → Vbjpae.rowsOf k fuel l = if l.length % k = 0 then some (chunks k l) else none
  | 0, l, h => by
    have : l = [] := List.eq_nil_of_length_eq_zero (by omega)
    subst this
    simp [Vbjpae.rowsOf, chunks_nil]
  | fuel + 1, l, h => by
    rw [Vbjpae.rowsOf]
    by_cases h0 : l.isEmpty = true
    · have : l = [] := List.isEmpty_iff.mp h0
      subst this
      simp [chunks_nil]
    · rw [if_neg h0]
      have hne : 0 < l.length := by
        cases l with
        | nil => simp at h0
        | cons _ _ => simp
      by_cases h1 : l.length < k
      · rw [if_pos h1, if_neg (by rw [Nat.mod_eq_of_lt h1]; omega)]
      · rw [if_neg h1, rows_chunks hk fuel _ (by rw [List.length_drop]; omega), List.length_drop]
        have e : (l.length - k) % k = l.length % k := by
          conv => rhs; rw [show l.length = (l.length - k) + k by omega, Nat.add_mod_right]
        rw [e]
        by_cases h2 : l.length % k = 0
        · rw [if_pos h2, if_pos h2, chunks_step (l := l) hk (by omega)]; rfl
        · rw [if_neg h2, if_neg h2]; rfl
theorem chunks_row {k : Nat} {l : List Int} (hm : l.length % k = 0) {row : List Int} (h : row ∈ chunks k l) : row.length = k := by
  unfold chunks at h
  obtain ⟨i, hi, rfl⟩ := List.mem_map.mp h
  rw [List.length_take, List.length_drop]
  have hi := List.mem_range.mp hi
  have hn : l.length = k * (l.length / k) := by have := Nat.div_add_mod l.length k; omega
  have : (i + 1) * k ≤ (l.length / k) * k := Nat.mul_le_mul_right _ hi
  rw [Nat.succ_mul, Nat.mul_comm (l.length / k), ← hn] at this
  omega
theorem mapM_if {α β : Type} (f : α → Option β) (b : α → Bool) (g : α → β) : ∀ l : List α, (∀ x ∈ l, f x = if b x = true then some (g x) else none) → l.mapM f = if l.all b = true then some (l.map g) else none
  | [], _ => rfl
  | x :: l, h => by
    rw [List.mapM_cons, h x List.mem_cons_self, mapM_if f b g l fun y hy => h y (List.mem_cons_of_mem _ hy), List.all_cons]
    cases b x with
    | false => rfl
    | true =>
      cases l.all b with
      | false => rfl
      | true => rfl
/-- a time from a whole number -/
def dec (l : List Int) : Tms := l.map fun z => if z < 0 then none else some z.toNat
theorem enc_dec {l : List Int} (h : l.all timeOk = true) : enc (dec l) = l := by
  unfold dec SPM.enc
  rw [List.map_map]
  conv => rhs; rw [← List.map_id l]
  refine List.map_congr_left fun z hz => ?_
  have := List.all_eq_true.mp h z hz
  unfold timeOk at this
  simp only [Bool.and_eq_true, decide_eq_true_eq] at this
  show ov (if z < 0 then none else some z.toNat) = z
  split
  · rw [SPM.opt_none]; omega
  · rw [SPM.opt_some]; omega
theorem dec_len (l : List Int) : (dec l).length = l.length := List.length_map _
theorem times_of (l : List Int) : Vbjpae.timesOf l = if l.all timeOk = true then some (dec l) else none :=
  mapM_if _ timeOk (fun z => if z < 0 then none else some z.toNat) l fun z _ => rfl
def posR (row : List Int) : Vbjpae.Position := ⟨(row.getD 0 0).toNat, dec (row.drop 1)⟩
def entR (row : List Int) : Vbjpae.Entry := ⟨⟨(row.getD 0 0).toNat, dec ((row.drop 1).take (row.length - 2))⟩, (row.getD (row.length - 1) 0).toNat⟩
theorem pos_of {row : List Int} (h : row ≠ []) : Vbjpae.positionOfRow row = if r13 row = true then some (posR row) else none := by
  cases row with
  | nil => exact absurd rfl h
  | cons s rest =>
    rw [Vbjpae.positionOfRow, times_of]
    unfold r13 momOk Vbjpae.inRange posR
    simp only [List.getD_cons_zero, List.drop_succ_cons, List.drop_zero]
    cases (decide (0 ≤ s) && decide (s ≤ 1000)) with
    | false => rfl
    | true => cases rest.all timeOk <;> rfl
theorem ent_of {row : List Int} {c : Nat} (h : row.length = c + 2) : Vbjpae.entryOfRow c row = if r12 row = true then some (entR row) else none := by
  cases row with
  | nil => simp at h
  | cons s rest =>
    have hr : rest.length = c + 1 := by simpa using h
    have hne : rest ≠ [] := fun z => by rw [z] at hr; simp at hr
    have e : rest = rest.take c ++ [rest.getD c 0] := by
      have : rest.take (c + 1) = rest := List.take_of_length_le (by omega)
      conv => lhs; rw [← this, List.take_add_one, List.getElem?_eq_getElem (show c < rest.length by omega)]
      simp [List.getD_eq_getElem?_getD, List.getElem?_eq_getElem (show c < rest.length by omega)]
    have e1 : (s :: rest).take (c + 1) = s :: rest.take c := rfl
    have e2 : (s :: rest).drop (c + 1) = [rest.getD c 0] := by
      show rest.drop c = _
      conv => lhs; rw [e]
      rw [List.drop_append_of_le_length (by rw [List.length_take]; omega), List.drop_eq_nil_of_le (by rw [List.length_take]; omega)]
      rfl
    unfold Vbjpae.entryOfRow
    rw [e1, e2, pos_of (by simp)]
    have e3 : (s :: rest).getD ((s :: rest).length - 1) 0 = rest.getD c 0 := by
      show (s :: rest).getD (rest.length + 1 - 1) 0 = _
      rw [hr]
      rfl
    have e4 : ((s :: rest).drop 1).take ((s :: rest).length - 2) = rest.take c := by
      show rest.take (rest.length + 1 - 2) = _
      rw [hr]
      rfl
    unfold r12 r13 entR posR
    rw [e3, e4]
    simp only [List.getD_cons_zero, List.drop_succ_cons, List.drop_zero]
    cases momOk s with
    | false => rfl
    | true =>
      cases (rest.take c).all timeOk with
      | false => rfl
      | true =>
        show (if Vbjpae.inRange (rest.getD c 0) 0 1000 = true then _ else _) = _
        unfold momOk Vbjpae.inRange
        cases (decide (0 ≤ rest.getD c 0) && decide (rest.getD c 0 ≤ 1000)) <;> rfl
theorem entries_of {p : Pln} {l : List Int} (hl : l.length ≤ 6000) : Vbjpae.entriesOf p l = if l.length % (p.count + 2) = 0 ∧ (chunks (p.count + 2) l).all r12 = true then some ((chunks (p.count + 2) l).map entR) else none := by
  unfold Vbjpae.entriesOf
  rw [if_pos hl, rows_chunks (by omega) 6000 l hl]
  by_cases hm : l.length % (p.count + 2) = 0
  · rw [if_pos hm]
    show (chunks (p.count + 2) l).mapM (Vbjpae.entryOfRow p.count) = _
    rw [mapM_if (Vbjpae.entryOfRow p.count) r12 entR _ fun row hrow => ent_of (chunks_row hm hrow)]
    by_cases h2 : (chunks (p.count + 2) l).all r12 = true
    · rw [if_pos h2, if_pos ⟨hm, h2⟩]
    · rw [if_neg h2, if_neg fun z => h2 z.2]
  · rw [if_neg hm, if_neg fun z => hm z.1]; rfl
theorem positions_of {p : Pln} {l : List Int} (hl : l.length ≤ 6000) : Vbjpae.positionsOf p l = if l.length % (p.count + 1) = 0 ∧ (chunks (p.count + 1) l).all r13 = true then some ((chunks (p.count + 1) l).map posR) else none := by
  unfold Vbjpae.positionsOf
  rw [if_pos hl, rows_chunks (by omega) 6000 l hl]
  by_cases hm : l.length % (p.count + 1) = 0
  · rw [if_pos hm]
    show (chunks (p.count + 1) l).mapM Vbjpae.positionOfRow = _
    rw [mapM_if Vbjpae.positionOfRow r13 posR _ fun row hrow => pos_of fun z => by have := chunks_row hm hrow; rw [z] at this; simp at this]
    by_cases h2 : (chunks (p.count + 1) l).all r13 = true
    · rw [if_pos h2, if_pos ⟨hm, h2⟩]
    · rw [if_neg h2, if_neg fun z => h2 z.2]
  · rw [if_neg hm, if_neg fun z => hm z.1]; rfl
/-! ### what is known -/
theorem put_in (k : PKey) : ∀ (ks : List PKey) (acc : List (PKey × V)), (valV (ks.foldl (fun acc k => putK acc k (.bl true)) acc) k).isSome = ((valV acc k).isSome || decide (k ∈ ks))
  | [], acc => by simp
  | x :: ks, acc => by
    rw [List.foldl_cons, put_in k ks, valV_put]
    by_cases h : k = x
    · rw [if_pos h]; subst h; simp
    · rw [if_neg h]; simp [h]
theorem known_of (all : List Vbjpae.Position) : Known ((all.map fun x => posK x.moment x.seen).foldl (fun acc k => putK acc k (.bl true)) []) all := fun s t => by
  rw [put_in, valV_nil]
  show (false || _) = _
  rw [Bool.false_or, Bool.eq_iff_iff, decide_eq_true_iff, List.contains_iff_mem, List.mem_map]
  constructor
  · rintro ⟨x, hx, e⟩
    obtain ⟨h1, h2⟩ := posK_inj e
    have : x = ⟨s, t⟩ := by cases x; simp_all
    exact this ▸ hx
  · intro h
    exact ⟨_, h, rfl⟩
end SP
end

section
set_option Elab.async false
set_option linter.all false
set_option maxRecDepth 100000
set_option maxHeartbeats 4000000
namespace SP
open PySem PySem.Spec PyProof.Rows L2 SPR
open SPM (enc ov)
abbrev sOp12 : Stmt := inClass (top 20) 17
abbrev nOp12 : List Str := ["self", "items", "events", "rows", "row", "known", "index", "fault"]
theorem scOp12 : FnScope ["self", "items", "events", "rows", "row", "known", "index", "fault"] ["self", "items"] (defScope sOp12) := ⟨rfl, rfl, rfl, by decide +kernel, rfl, by decide +kernel, by decide +kernel⟩
abbrev sOp13 : Stmt := inClass (top 20) 18
abbrev nOp13 : List Str := ["self", "items", "plan", "rows", "row", "known", "index", "moment", "seen", "mask"]
theorem scOp13 : FnScope ["self", "items", "plan", "rows", "row", "known", "index", "moment", "seen", "mask"] ["self", "items"] (defScope sOp13) := ⟨rfl, rfl, rfl, by decide +kernel, rfl, by decide +kernel, by decide +kernel⟩
def spOpL (P : Program) (w : World) (CP CR CE : Addr) (c : List Int → Vbjpae.Call) : Sp := fun vs H Q E => ∃ (r b : Addr) (s : Vbjpae.State) (l : List Int), vs = [.ref r, .ref b] ∧ H b = some (.lst (iv l)) ∧ l.length ≤ 6000 ∧ ReqOk P w CP CR H r s ∧ OpQ P w CP CR CE r s (c l) H Q E
/-- t[1:-1], t[1:] as new tuples -/
theorem slice_1n {K : PySem.W.Frag} {b : Addr} {row : List Int} {H : Hp} {Q : VK} (hB : H b = some (.tup (iv row))) (hl : 2 ≤ row.length) (q : ∀ c, H c = none → Q (.ref c) (upd H c (.tup (iv ((row.drop 1).take (row.length - 2)))))) : rSlA K (.ref b) (some 1) (some (-1)) H Q := by
  refine ⟨b, _, rfl, .inl (.inl hB), fun hw => ?_, fun _ c hc => ?_⟩
  · exfalso
    have : HT.sIx (iv row).length 0 (some 1) = 1 := by
      rw [show (1 : Int) = ((1 : Nat) : Int) from rfl, HT.sIx_nat, iv_len, Nat.min_eq_left (by omega)]
    rw [this] at hw
    omega
  · have e1 : cutV (iv row) (some 1) (some (-1)) = iv ((row.drop 1).take (row.length - 2)) := by rw [cut_1n _ (by rw [iv_len]; exact hl), iv_len, iv_drop, iv_take]
    rw [e1]
    exact q c hc
theorem slice_1 {K : PySem.W.Frag} {b : Addr} {row : List Int} {H : Hp} {Q : VK} (hB : H b = some (.tup (iv row))) (hl : 1 ≤ row.length) (q : ∀ c, H c = none → Q (.ref c) (upd H c (.tup (iv (row.drop 1))))) : rSlA K (.ref b) (some 1) none H Q := by
  refine ⟨b, _, rfl, .inl (.inl hB), fun hw => ?_, fun _ c hc => ?_⟩
  · exfalso
    have : HT.sIx (iv row).length 0 (some 1) = 1 := by
      rw [show (1 : Int) = ((1 : Nat) : Int) from rfl, HT.sIx_nat, iv_len, Nat.min_eq_left (by omega)]
    rw [this] at hw
    omega
  · have e1 : cutV (iv row) (some 1) none = iv (row.drop 1) := by rw [cut_1 _, iv_drop]
    rw [e1]
    exact q c hc
theorem r12_facts {row : List Int} (h : r12 row = true) : row.getD 0 0 = ((row.getD 0 0).toNat : Int) ∧ ((row.drop 1).take (row.length - 2)).all timeOk = true ∧ row.getD (row.length - 1) 0 = ((row.getD (row.length - 1) 0).toNat : Int) ∧ (row.getD (row.length - 1) 0).toNat ≤ 1000 := by
  unfold r12 momOk at h
  simp only [Bool.and_eq_true, decide_eq_true_eq] at h
  obtain ⟨⟨h1, h2⟩, h3, h4, h5⟩ := h
  exact ⟨by omega, h3, by omega, by omega⟩
theorem r13_facts {row : List Int} (h : r13 row = true) : row.getD 0 0 = ((row.getD 0 0).toNat : Int) ∧ (row.drop 1).all timeOk = true := by
  unfold r13 momOk at h
  simp only [Bool.and_eq_true, decide_eq_true_eq] at h
  obtain ⟨⟨h1, h2⟩, h3⟩ := h
  exact ⟨by omega, h3⟩
section
variable {P : Program} {w : World} {K : PySem.W.Frag} {mg : Str → Option Value} {base : Heap} {CP CR CE aS : Addr}
theorem ok_op12 {f : Addr} {fd : FuncData} (F : Fun K "operation_12" "Request.operation_12" sOp12 f fd) (T : Txt K mg CP CR CE aS) (F_require : FunX P w K mg base (L2.CX P w) 3 "require" (spReq CE)) (F_groups : FunX P w K mg base (L2.CX P w) 4 "groups" (spGroups CE)) (F_operation_12_all_2 : FunX P w K mg base CX0 2 "operation_12_all_2" spO12b) (M_entry_fault : MetX P w K mg base CX0 4 CP "entry_fault" (spEf P w CP)) (M_beginning : MetX P w K mg base CX0 1 CP "beginning" (spBeginning CP)) : FnOk P w K mg base (L2.CX P w) 5 f fd ["self", "items"] (spOpL P w CP CR CE .checkStrategy) := by
  have nd := scOp12.nd
  refine F.okX scOp12 (fun vs H Q E h => ?_) (fun cdv A outer sh H vs Q E hr h => ?_)
  · obtain ⟨_, _, _, _, rfl, _⟩ := h
    rfl
  obtain ⟨r, b, s, l, rfl, hB, hlen, ⟨dx, pl, sn, aW, ra⟩, q⟩ := h
  have hu := hu_room hr
  have tk := takes_of (X := cxOf (L2.CX P w) P w K mg base nOp12 "Request.operation_12" (defScope sOp12) f cdv A outer sh H E) rfl rfl rfl rfl
  refine ⟨_, (pss_cons (ps_set (i := 2) nd rfl (Or.inl rfl) (pe_fldB rfl (pe_fldB rfl (pv 0) rfl) rfl))
    (pss_cons (ps_set (i := 3) nd rfl (Or.inl rfl) (pe_fx F_groups hr (by first | decide | omega) rfl (fun σ => passAt tk σ) (pa_cons (pv 1) (pa_cons (pe_op op_add (pv 2) pe_int) pa_nil))))
    (pss_cons (ps_expr (pe_fx F_require hr (by first | decide | omega) rfl (fun σ => passAt tk σ) (pa_cons (pe_fx F_operation_12_all_2 hr (by first | decide | omega) rfl (no0 (E := fun _ => E0)) (pa_cons (pv 3) pa_nil)) (pa_cons (pe_un un_neg pe_int) pa_nil))))
    (pss_cons (ps_set (i := 5) nd rfl (Or.inl rfl) (pe_callTy (call_pdict rfl hu) (by rfl) T.m_dict (by decide +kernel) (pa_cons (pe_lc (own := [("row", 4)]) rfl nd (pi_list (pv 3)) (blkOk_by (own := [("row", 4)]) (N := ["self", "items", "events", "rows", "row", "known", "index", "fault"]) (sc := (defScope sOp12)) (by decide +kernel)) (fun _ _ _ _ _ => (pg_name (i := 4) nd rfl (Or.inl rfl) (Or.inr rfl))) (fun _ _ _ _ _ => pts_nil) (fun _ _ _ _ _ => (pe_tup (pa_cons (pe_tup (pa_cons (pe_ix (ix_tupB blkK) (pv 4) pe_int (fun _ _ => rfl)) (pa_cons (pe_slice (sl_tupAB blkK) (pv 4) (po_some pe_int) (po_some (pe_un un_neg pe_int))) pa_nil))) (pa_cons pe_bl pa_nil))))) pa_nil)))
    (pss_cons (ps_for (passes_of rfl) rfl (pi_enum (by rfl) T.m_enumerate (pa_cons (pv 3) pa_nil)) (pg_tupB (n := 2) rfl rfl (pgs_cons (pg_name (i := 6) nd rfl (Or.inl rfl)) (pgs_cons (pg_name (i := 4) nd rfl (Or.inl rfl)) pgs_nil))) (pss_cons (ps_set (i := 7) nd rfl (Or.inl rfl) (pe_mx M_entry_fault T.clP hr (by first | decide | omega) (no0 (E := fun _ => E0)) (pe_fldB rfl (pv 0) rfl) (pa_cons (pe_ix (ix_tupB rfl) (pv 4) pe_int (fun _ _ => rfl)) (pa_cons (pe_slice (sl_tupAB rfl) (pv 4) (po_some pe_int) (po_some (pe_un un_neg pe_int))) (pa_cons (pe_ix (ix_tupB rfl) (pv 4) (pe_un un_neg pe_int) (fun _ _ => rfl)) (pa_cons (pv 5) pa_nil))))))
    (pss_one (ps_if (pt_truthB rfl (pv 7) (by intro _; rfl)) (pss_one (ps_ret (pe_lst (pa_cons pe_int (pa_cons (pv 6) (pa_cons (pv 7) pa_nil)))))) pss_nil))))
    (pss_one (ps_ret (pe_ifExp (pt_cmpR (op_pin hu) (pe_mx0 M_beginning T.clP hr (by first | decide | omega) (no0 (E := fun _ => E0)) (pe_fldB rfl (pv 0) rfl)) (pv 5) (by rfl)) (pe_lst (pa_cons pe_int pa_nil)) (pe_lst (pa_cons pe_int (pa_cons (pe_callB (call_lenQ rfl) (by rfl) T.m_len (by decide +kernel) (pa_cons (pv 3) pa_nil)) (pa_cons pe_int pa_nil)))))))))))), ?_⟩
  obtain ⟨dxp, aT, aR, aO, hA⟩ := ra.gp.ins
  have hv := ra.gp.pv
  have c6 := hv.c6
  have hent := entries_of (p := s.plan) hlen
  have two2 : 2 ≤ sizeLine := by rw [sizeLine_eq]; decide
  have notp : ¬ (l.length % (s.plan.count + 2) = 0 ∧ (chunks (s.plan.count + 2) l).all r12 = true) → Vbjpae.isPermitted s (.checkStrategy l) = false := fun h => by
    show (Vbjpae.entriesOf s.plan l).isSome = false
    rw [hent, if_neg h]; rfl
  refine ⟨_, rfl, r, CR, dx, _, _, rfl, ra.ob, T.clR, T.gP, rF_plan, pl, CP, dxp, _, _, rfl, hA, T.clP, T.fE, pF_events, ?_⟩
  refine ⟨_, rfl, _, rfl, _, _, rfl, rfl, b, l, s.plan.count + 2, rfl, hB, by omega, by omega, by omega, fun hm g H1 _ hG sm1 => ?_, fun hm => q.no (notp fun h => hm h.1) (LT.refl H) ⟨dx, pl, sn, aW, ra⟩⟩
  have hrl : ∀ row ∈ chunks (s.plan.count + 2) l, row.length = s.plan.count + 2 := fun row h => chunks_row hm h
  refine ⟨_, rfl, g, _, rfl, hG, fun row h => by have := hrl row h; omega, fun H2 sm2 => ?_⟩
  have sm12 := sm1.trans sm2
  refine ⟨_, rfl, _, _, rfl, fun hall => ?_, fun hall => q.no (notp fun h => by rw [h.2] at hall; cases hall) (same_lt sm12) ⟨dx, pl, sn, aW, ra.same sm12⟩⟩
  have hperm : Vbjpae.isPermitted s (.checkStrategy l) = true := by
    show (Vbjpae.entriesOf s.plan l).isSome = true
    rw [hent, if_pos ⟨hm, hall⟩]; rfl
  have hresp : ∀ x, Vbjpae.checkStrategy s.plan ((chunks (s.plan.count + 2) l).map entR) = x → Vbjpae.response s (Vbjpae.update s (.checkStrategy l)) (.checkStrategy l) = match x with
      | none => [0, 1]
      | some x => 0 :: 0 :: Vbjpae.ints [x.1, x.2] := fun x hx => by
    subst hx
    dsimp only [Vbjpae.response]
    rw [hent, if_pos ⟨hm, hall⟩]
    rfl
  have okk : ∀ {rest : List Int}, Vbjpae.response s (Vbjpae.update s (.checkStrategy l)) (.checkStrategy l) = 0 :: rest → ∀ c H', Same H H' → H' c = some (.lst (iv rest)) → Q (.ref c) H' := fun e c H' s' hc => q.ok hperm rfl e (same_lt s') ⟨dx, pl, sn, aW, ra.same s'⟩ hc
  have hrow12 : ∀ row ∈ chunks (s.plan.count + 2) l, r12 row = true := fun row h => List.all_eq_true.mp hall row h
  generalize hrows : chunks (s.plan.count + 2) l = rows at hG hrl hresp hrow12
  have hrn : rows.length ≤ 6000 := by
    rw [← hrows]; unfold chunks
    rw [List.length_map, List.length_range]
    exact Nat.le_trans (Nat.div_le_self _ _) hlen
  obtain ⟨qs, hG1, hq1⟩ := hG
  have lq : qs.length = rows.length := Paired.length hq1
  have hG2 := sm2 _ _ hG1
  have hq2 : Paired (fun q r => H2 q = some (.tup (r.map V.int))) qs rows := Paired.mapP hq1 fun _ _ z => sm2 _ _ z
  clear hq1 hG1 hent notp
  let all : List Vbjpae.Position := rows.map fun row => (entR row).position
  -- known
  refine ⟨_, rfl, g, rfl, ⟨_, .inl (.inl hG2)⟩, fun c hc => ?_⟩
  have ngc : g ≠ c := ne_of_none hG2 hc
  refine lc_it (walk_list (xs := qs.map V.ref)) (fun i H' => But c H2 H' ∧ ∃ ps : List Addr, H' c = some (.lst (ps.map V.ref)) ∧ Paired (fun q k => ∃ t, H' q = some (.tup [.ref t, .bl true]) ∧ PosAt H' t k) ps ((all.take i).map fun x => posK x.moment x.seen)) ⟨but_upd H2 c _, [], upd_same, .nil⟩ (fun i H' _ h => .inl (.inl (h.1 _ _ hG2 ngc))) (fun i x H3 H4 hi hP hY => ?_) (fun H3 h => ?_)
  · obtain ⟨hb, ps, hC, hp⟩ := hP
    obtain ⟨eH, hx⟩ := hY
    subst eH
    obtain ⟨qk, row, rfl, hrow, hrq⟩ := rows_raw hq2 hx
    have hin := List.mem_of_getElem? hrow
    have l2 : 2 ≤ row.length := by have := hrl row hin; omega
    have hrq3 := hb _ _ hrq (ne_of_none hrq hc)
    obtain ⟨f1, f2, f3, f4⟩ := r12_facts (hrow12 row hin)
    rw [List.length_map] at hi
    refine ⟨rfl, ?_⟩
    dsimp only [tYes]
    rw [if_pos rfl]
    refine ⟨_, rfl, qk, _, 0, _, rfl, rfl, .inl (.inl hrq3), row_at0 l2, ?_⟩
    refine ⟨_, rfl, _, rfl, _, rfl, _, rfl, slice_1n hrq3 l2 fun u hu => ?_⟩
    refine ⟨two2, fun v hv => ?_⟩
    refine ⟨two2, fun p hp0 => ?_⟩
    have s1 := same_at (.tup (iv ((row.drop 1).take (row.length - 2)))) hu
    have s2 := same_at (.tup [V.int (row.getD 0 0), V.ref u]) hv
    have s3 := same_at (.tup [V.ref v, V.bl true]) hp0
    have hU := s3 _ _ (s2 _ _ (show (upd H4 u (.tup (iv ((row.drop 1).take (row.length - 2))))) u = _ from upd_same))
    have hV := s3 _ _ (show (upd (upd H4 u (.tup (iv ((row.drop 1).take (row.length - 2))))) v (.tup [V.int (row.getD 0 0), V.ref u])) v = _ from upd_same)
    have hPp : (upd (upd (upd H4 u (.tup (iv ((row.drop 1).take (row.length - 2))))) v (.tup [V.int (row.getD 0 0), V.ref u])) p (.tup [V.ref v, V.bl true])) p = _ := upd_same
    have sA := s1.trans (s2.trans s3)
    generalize upd (upd (upd H4 u (.tup (iv ((row.drop 1).take (row.length - 2))))) v (.tup [V.int (row.getD 0 0), V.ref u])) p (.tup [V.ref v, V.bl true]) = H5 at hU hV hPp sA
    have hC5 := sA _ _ hC
    have tk5 : Tups H5 (upd H5 c (.lst (ps.map V.ref ++ [.ref p]))) := fun b' ys e => by rw [upd_ne (ne_of e hC5 fun z => nomatch z)]; exact e
    refine ⟨_, hC5, ?_, (hb.same sA).trans (but_upd _ c _), ps ++ [p], by rw [upd_same, List.map_append]; rfl, ?_⟩
    · rw [List.length_map, Paired.length hp, List.length_map, List.length_take]
      exact small_lt (by omega)
    · have ea : all[i]? = some (entR row).position := by
        show (rows.map fun row => (entR row).position)[i]? = _
        rw [List.getElem?_map, hrow]; rfl
      rw [List.take_add_one, ea, List.map_append]
      refine Paired.snoc (Paired.mapP hp fun q' k ⟨t, h1, h2⟩ => ⟨t, tk5 _ _ (sA _ _ h1), (h2.keep (same_tups sA)).keep tk5⟩) ⟨v, tk5 _ _ hPp, u, ?_, ?_⟩
      · refine tk5 _ _ ?_
        rw [hV]
        have : (posK (entR row).position.moment (entR row).position.seen).1 = row.getD 0 0 := f1.symm
        rw [this]
      · refine tk5 _ _ ?_
        rw [hU]
        have : (posK (entR row).position.moment (entR row).position.seen).2 = (row.drop 1).take (row.length - 2) := enc_dec f2
        rw [this]
  obtain ⟨hb, ps, hC, hp⟩ := h
  have lall : all.length = rows.length := List.length_map _
  rw [List.length_map, lq, ← lall, List.take_length] at hp
  have sm3 : Same H2 H3 := But.of_new hc hb
  refine ⟨c, ps, _, rfl, .inl (.inl hC), hp, fun k H4 hk0 hPD hoth => ?_⟩
  have sm4 : Same H3 H4 := fun x o e => by rw [hoth x (ne_of_none e hk0)]; exact e
  have hKn := known_of all
  have smA := sm12.trans (sm3.trans sm4)
  have hG4 := sm4 _ _ (sm3 _ _ hG2)
  have hq4 : Paired (fun q r => H4 q = some (.tup (r.map V.int))) qs rows := Paired.mapP hq2 fun _ _ z => sm4 _ _ (sm3 _ _ z)
  clear hp hb hC hq2 hG2
  -- entry by entry
  let ents : List Vbjpae.Entry := rows.map entR
  have hall' : ents.map (fun x => x.position) = all := by
    show (rows.map entR).map _ = _
    rw [List.map_map]; rfl
  refine ⟨_, rfl, g, _, rfl, .inl (.inl hG4), ?_⟩
  refine for_it (walk_enum (xs := qs.map V.ref)) (fun i σ H' => (∃ x4 x6 x7, σ = [some (.ref r), some (.ref b), some (.int (s.plan.count : Int)), some (.ref g), x4, some (.ref k), x6, x7]) ∧ Same H4 H' ∧ ∀ j, j < i → ∀ x, ents[j]? = some x → Vbjpae.entryFault s.plan all x = 0) ⟨⟨_, _, _, rfl⟩, Same.refl H4, fun j h => absurd h (Nat.not_lt_zero j)⟩ (fun i σ H' _ h => .inl (.inl (h.2.1 _ _ hG4))) (fun i x σ H5 H6 hi hP hY => ?_) (fun σ H' hP => ?_)
  · obtain ⟨⟨x4, x6, x7, rfl⟩, sm5, hp2⟩ := hP
    obtain ⟨Tt, y1, y2, rfl, hn, rfl, e1, e2⟩ := hY
    cases e1
    obtain ⟨qk, row, rfl, hrow, hrq⟩ := rows_raw hq4 e2
    have hin := List.mem_of_getElem? hrow
    have lr := hrl row hin
    have l2 : 2 ≤ row.length := by omega
    obtain ⟨f1, f2, f3, f4⟩ := r12_facts (hrow12 row hin)
    have smT : Same H5 (upd H5 Tt (.tup [.int (i : Nat), .ref qk])) := same_at _ hn
    have sm6 := sm5.trans smT
    have hTt : (upd H5 Tt (.tup [.int (i : Nat), .ref qk])) Tt = some (.tup [.int (i : Nat), .ref qk]) := upd_same
    generalize upd H5 Tt (.tup [.int (i : Nat), .ref qk]) = H6 at smT sm6 hTt
    have sm6A := smA.trans sm6
    have ra6 := ra.same sm6A
    obtain ⟨dxp6, aT6, aR6, aO6, hA6⟩ := ra6.gp.ins
    have hrq6 := sm6 _ _ hrq
    refine ⟨Tt, _, rfl, .inl (.inl hTt), rfl, _, _, rfl, _, _, rfl, rfl, ?_⟩
    refine ⟨_, rfl, r, CR, dx, _, _, rfl, ra6.ob, T.clR, T.gP, rF_plan, pl, dxp6, _, rfl, hA6, pF_none (by decide +kernel), _, rfl, qk, _, 0, _, rfl, rfl, .inl (.inl hrq6), row_at0 l2, ?_⟩
    refine ⟨_, rfl, _, rfl, _, rfl, _, rfl, slice_1n hrq6 l2 fun u hu => ?_⟩
    have sU := same_at (.tup (iv ((row.drop 1).take (row.length - 2)))) hu
    have hU : (upd H6 u (.tup (iv ((row.drop 1).take (row.length - 2))))) u = some (.tup (iv ((row.drop 1).take (row.length - 2)))) := upd_same
    generalize upd H6 u (.tup (iv ((row.drop 1).take (row.length - 2)))) = H7 at sU hU
    refine ⟨_, rfl, _, rfl, qk, _, -1, _, rfl, rfl, .inl (.inl (sU _ _ hrq6)), row_atl l2, _, rfl, ?_⟩
    have ra7 := ra6.same sU
    have hseen : H7 u = some (.tup (iv (enc (entR row).position.seen))) := by
      rw [hU]
      have : enc (entR row).position.seen = (row.drop 1).take (row.length - 2) := enc_dec f2
      rw [this]
    refine ⟨pl, aW, u, k, s.plan, (entR row).position.moment, (entR row).move, (entR row).position.seen, _, all, ?_, ra7.gp.plan, hv, hseen, ?_, ?_, (hPD.same (sm6.trans sU)), hKn, fun H8 sm8 => ?_⟩
    · show [V.ref pl, V.int (row.getD 0 0), V.ref u, V.int (row.getD (row.length - 1) 0), V.ref k] = [V.ref pl, V.int (((row.getD 0 0).toNat : Nat) : Int), V.ref u, V.int (((row.getD (row.length - 1) 0).toNat : Nat) : Int), V.ref k]
      rw [← f1, ← f3]
    · show (dec ((row.drop 1).take (row.length - 2))).length = _
      rw [dec_len, List.length_take, List.length_drop]
      omega
    · show (row.getD (row.length - 1) 0).toNat < 2 ^ 20
      exact Nat.lt_of_le_of_lt f4 (by decide)
    have sm8A := sm6A.trans (sU.trans sm8)
    have hei : ents[i]? = some (entR row) := by
      show (rows.map entR)[i]? = _
      rw [List.getElem?_map, hrow]; rfl
    refine ⟨_, rfl, _, rfl, ?_⟩
    refine if_2 (fun c1 => ?_) (fun c1 => ?_)
    · have hne : Vbjpae.entryFault s.plan all (entR row) ≠ 0 := by
        intro z
        have c1 : ((Vbjpae.entryFault s.plan all (entR row) : Nat) : Int) != 0 := c1
        rw [z] at c1
        simp at c1
      refine ⟨_, rfl, _, rfl, by show 3 ≤ sizeLine; rw [sizeLine_eq]; decide, fun o ho => ?_⟩
      have hz : ents.zipIdx[i]? = some (entR row, i) := by rw [List.getElem?_zipIdx, hei]; simp
      have hfind : ents.zipIdx.find? (fun x => Vbjpae.entryFault s.plan all x.1 != 0) = some (entR row, i) := by
        refine SPM.find_at hz (by simpa using hne) fun j hj y hy => ?_
        rw [List.getElem?_zipIdx] at hy
        obtain ⟨y', hy', rfl⟩ := Option.map_eq_some_iff.mp hy
        have := hp2 j hj y' hy'
        simp [this]
      have hck : Vbjpae.checkStrategy s.plan ents = some (i, Vbjpae.entryFault s.plan all (entR row)) := by
        unfold Vbjpae.checkStrategy
        dsimp only
        rw [hall', hfind]
      refine okk (rest := 0 :: Vbjpae.ints [i, Vbjpae.entryFault s.plan all (entR row)]) (hresp _ hck) o _ (sm8A.trans (same_at _ ho)) ?_
      rw [upd_same]; rfl
    · have hz : Vbjpae.entryFault s.plan all (entR row) = 0 := by
        have c1 : (((Vbjpae.entryFault s.plan all (entR row) : Nat) : Int) != 0) = false := c1
        simpa using c1
      refine ⟨⟨_, _, _, rfl⟩, sm6.trans (sU.trans sm8), fun j hj x hx => ?_⟩
      rcases Nat.lt_or_ge j i with h | h
      · exact hp2 j h x hx
      · have : j = i := by omega
        subst this
        rw [hei] at hx
        cases hx
        exact hz
  · obtain ⟨⟨x4, x6, x7, rfl⟩, sm5, hp2⟩ := hP
    have sm5A := smA.trans sm5
    have ra5 := ra.same sm5A
    obtain ⟨dxp5, aT5, aR5, aO5, hA5⟩ := ra5.gp.ins
    rw [List.length_map, lq] at hp2
    have lents : ents.length = rows.length := List.length_map _
    have hfind : ents.zipIdx.find? (fun x => Vbjpae.entryFault s.plan all x.1 != 0) = none := by
      rw [List.find?_eq_none]
      intro x hx
      have := List.mem_zipIdx_iff_getElem?.mp hx
      have h0 := hp2 x.2 (by rw [← lents]; exact (List.getElem?_eq_some_iff.mp this).1) x.1 this
      simp [h0]
    have hck : Vbjpae.checkStrategy s.plan ents = if all.contains (Vbjpae.startPosition s.plan) = true then none else some (ents.length, 5) := by
      unfold Vbjpae.checkStrategy
      dsimp only
      rw [hall', hfind]
    refine ⟨_, rfl, r, CR, dx, _, _, rfl, ra5.ob, T.clR, T.gP, rF_plan, pl, dxp5, _, rfl, hA5, pF_none (by decide +kernel), pl, aW, s.plan, rfl, ra5.gp.plan, hv, fun t H6 hT sm6 => ?_⟩
    refine ⟨_, rfl, t, posK 0 (VbjpCore.startTimes s.plan), k, _, rfl, rfl, hT, hPD.same (sm5.trans sm6), _, rfl, ?_⟩
    show if ((valV _ (posK 0 (VbjpCore.startTimes s.plan))).isSome) = true then _ else _
    rw [hKn]
    have smF := sm5A.trans sm6
    refine if_2 (fun c1 => ?_) (fun c1 => ?_)
    · rw [if_pos (show all.contains (Vbjpae.startPosition s.plan) = true from c1)] at hck
      refine ⟨by show 1 ≤ sizeLine; rw [sizeLine_eq]; decide, fun o ho => ?_⟩
      exact okk (rest := [1]) (hresp _ hck) o _ (smF.trans (same_at _ ho)) upd_same
    · rw [if_neg (by rw [show all.contains (Vbjpae.startPosition s.plan) = false from c1]; exact Bool.false_ne_true)] at hck
      refine ⟨_, rfl, g, _, rfl, .inl (.inl (.inl (sm6 _ _ (sm5 _ _ hG4)))), by show 3 ≤ sizeLine; rw [sizeLine_eq]; decide, fun o ho => ?_⟩
      refine okk (rest := 0 :: Vbjpae.ints [ents.length, 5]) (hresp _ hck) o _ (smF.trans (same_at _ ho)) ?_
      rw [upd_same, List.length_map, lq, ← lents]; rfl
theorem ok_op13 {f : Addr} {fd : FuncData} (F : Fun K "operation_13" "Request.operation_13" sOp13 f fd) (T : Txt K mg CP CR CE aS) (F_require : FunX P w K mg base (L2.CX P w) 3 "require" (spReq CE)) (F_groups : FunX P w K mg base (L2.CX P w) 4 "groups" (spGroups CE)) (F_operation_13_all_2 : FunX P w K mg base CX0 2 "operation_13_all_2" spO13b) (M_is_position : MetX P w K mg base CX0 1 CP "is_position" (spIpos CP)) (M_moves : MetX P w K mg base CX0 1 CP "moves" (spMoves CP)) (M_is_answered : MetX P w K mg base CX0 4 CP "is_answered" (spIsa P w CP)) (M_beginning : MetX P w K mg base CX0 1 CP "beginning" (spBeginning CP)) : FnOk P w K mg base (L2.CX P w) 5 f fd ["self", "items"] (spOpL P w CP CR CE .checkRefutation) := by
  have nd := scOp13.nd
  refine F.okX scOp13 (fun vs H Q E h => ?_) (fun cdv A outer sh H vs Q E hr h => ?_)
  · obtain ⟨_, _, _, _, rfl, _⟩ := h
    rfl
  obtain ⟨r, b, s, l, rfl, hB, hlen, ⟨dx, pl, sn, aW, ra⟩, q⟩ := h
  have hu := hu_room hr
  have tk := takes_of (X := cxOf (L2.CX P w) P w K mg base nOp13 "Request.operation_13" (defScope sOp13) f cdv A outer sh H E) rfl rfl rfl rfl
  refine ⟨_, (pss_cons (ps_set (i := 2) nd rfl (Or.inl rfl) (pe_fldB rfl (pv 0) rfl))
    (pss_cons (ps_set (i := 3) nd rfl (Or.inl rfl) (pe_fx F_groups hr (by first | decide | omega) rfl (fun σ => passAt tk σ) (pa_cons (pv 1) (pa_cons (pe_op op_add (pe_fldB rfl (pv 2) rfl) pe_int) pa_nil))))
    (pss_cons (ps_expr (pe_fx F_require hr (by first | decide | omega) rfl (fun σ => passAt tk σ) (pa_cons (pe_fx F_operation_13_all_2 hr (by first | decide | omega) rfl (no0 (E := fun _ => E0)) (pa_cons (pv 3) pa_nil)) (pa_cons (pe_un un_neg pe_int) pa_nil))))
    (pss_cons (ps_set (i := 5) nd rfl (Or.inl rfl) (pe_callTy (call_pdict rfl hu) (by rfl) T.m_dict (by decide +kernel) (pa_cons (pe_lc (own := [("row", 4)]) rfl nd (pi_list (pv 3)) (blkOk_by (own := [("row", 4)]) (N := ["self", "items", "plan", "rows", "row", "known", "index", "moment", "seen", "mask"]) (sc := (defScope sOp13)) (by decide +kernel)) (fun _ _ _ _ _ => (pg_name (i := 4) nd rfl (Or.inl rfl) (Or.inr rfl))) (fun _ _ _ _ _ => pts_nil) (fun _ _ _ _ _ => (pe_tup (pa_cons (pe_tup (pa_cons (pe_ix (ix_tupB blkK) (pv 4) pe_int (fun _ _ => rfl)) (pa_cons (pe_slice (sl_tupAB blkK) (pv 4) (po_some pe_int) po_none) pa_nil))) (pa_cons pe_bl pa_nil))))) pa_nil)))
    (pss_cons (ps_for (passes_of rfl) rfl (pi_enum (by rfl) T.m_enumerate (pa_cons (pv 3) pa_nil)) (pg_tupB (n := 2) rfl rfl (pgs_cons (pg_name (i := 6) nd rfl (Or.inl rfl)) (pgs_cons (pg_name (i := 4) nd rfl (Or.inl rfl)) pgs_nil))) (pss_cons (ps_par (i := 7) (j := 8) rfl nd rfl rfl (by decide) rfl rfl (pa_cons (pe_ix (ix_tupB rfl) (pv 4) pe_int (fun _ _ => rfl)) (pa_cons (pe_slice (sl_tupAB rfl) (pv 4) (po_some pe_int) po_none) pa_nil)) (by rfl))
    (pss_cons (ps_if (pt_not (pt_val (pe_mx M_is_position T.clP hr (by first | decide | omega) (no0 (E := fun _ => E0)) (pv 2) (pa_cons (pv 7) (pa_cons (pv 8) pa_nil))))) (pss_one (ps_ret (pe_lst (pa_cons pe_int (pa_cons (pv 6) (pa_cons pe_int (pa_cons pe_int pa_nil))))))) pss_nil)
    (pss_one (ps_for (passes_of rfl) rfl (pi_list (pe_mx M_moves T.clP hr (by first | decide | omega) (no0 (E := fun _ => E0)) (pv 2) (pa_cons (pv 8) pa_nil))) (pg_name (i := 9) nd rfl (Or.inl rfl)) (pss_one (ps_if (pt_not (pt_val (pe_mx M_is_answered T.clP hr (by first | decide | omega) (no0 (E := fun _ => E0)) (pv 2) (pa_cons (pv 7) (pa_cons (pv 8) (pa_cons (pv 9) (pa_cons (pv 5) pa_nil))))))) (pss_one (ps_ret (pe_lst (pa_cons pe_int (pa_cons (pv 6) (pa_cons pe_int (pa_cons (pv 9) pa_nil))))))) pss_nil)))))))
    (pss_one (ps_ret (pe_ifExp (pt_cmpR (op_pin hu) (pe_mx0 M_beginning T.clP hr (by first | decide | omega) (no0 (E := fun _ => E0)) (pv 2)) (pv 5) (by rfl)) (pe_lst (pa_cons pe_int pa_nil)) (pe_lst (pa_cons pe_int (pa_cons (pe_callB (call_lenQ rfl) (by rfl) T.m_len (by decide +kernel) (pa_cons (pv 3) pa_nil)) (pa_cons pe_int (pa_cons pe_int pa_nil))))))))))))), ?_⟩
  obtain ⟨dxp, aT, aR, aO, hA⟩ := ra.gp.ins
  have hv := ra.gp.pv
  have c6 := hv.c6
  have hc1 := hv.c1
  have hent := positions_of (p := s.plan) hlen
  have two2 : 2 ≤ sizeLine := by rw [sizeLine_eq]; decide
  have notp : ¬ (l.length % (s.plan.count + 1) = 0 ∧ (chunks (s.plan.count + 1) l).all r13 = true) → Vbjpae.isPermitted s (.checkRefutation l) = false := fun h => by
    show (Vbjpae.positionsOf s.plan l).isSome = false
    rw [hent, if_neg h]; rfl
  refine ⟨_, rfl, r, CR, dx, _, _, rfl, ra.ob, T.clR, T.gP, rF_plan, ?_⟩
  refine ⟨_, rfl, _, rfl, pl, CP, dxp, _, _, rfl, hA, T.clP, T.fE, pF_events, _, _, rfl, rfl, b, l, s.plan.count + 1, rfl, hB, by omega, by omega, by omega, fun hm g H1 _ hG sm1 => ?_, fun hm => q.no (notp fun h => hm h.1) (LT.refl H) ⟨dx, pl, sn, aW, ra⟩⟩
  have hrl : ∀ row ∈ chunks (s.plan.count + 1) l, row.length = s.plan.count + 1 := fun row h => chunks_row hm h
  refine ⟨_, rfl, g, _, rfl, hG, fun row h => by have := hrl row h; omega, fun H2 sm2 => ?_⟩
  have sm12 := sm1.trans sm2
  refine ⟨_, rfl, _, _, rfl, fun hall => ?_, fun hall => q.no (notp fun h => by rw [h.2] at hall; cases hall) (same_lt sm12) ⟨dx, pl, sn, aW, ra.same sm12⟩⟩
  have hperm : Vbjpae.isPermitted s (.checkRefutation l) = true := by
    show (Vbjpae.positionsOf s.plan l).isSome = true
    rw [hent, if_pos ⟨hm, hall⟩]; rfl
  have hresp : ∀ x, Vbjpae.checkRefutation s.plan ((chunks (s.plan.count + 1) l).map posR) = x → Vbjpae.response s (Vbjpae.update s (.checkRefutation l)) (.checkRefutation l) = match x with
      | none => [0, 1]
      | some x => 0 :: 0 :: Vbjpae.ints [x.1, x.2.1, x.2.2] := fun x hx => by
    subst hx
    dsimp only [Vbjpae.response]
    rw [hent, if_pos ⟨hm, hall⟩]
    rfl
  have okk : ∀ {rest : List Int}, Vbjpae.response s (Vbjpae.update s (.checkRefutation l)) (.checkRefutation l) = 0 :: rest → ∀ c H', Same H H' → H' c = some (.lst (iv rest)) → Q (.ref c) H' := fun e c H' s' hc => q.ok hperm rfl e (same_lt s') ⟨dx, pl, sn, aW, ra.same s'⟩ hc
  have hrow13 : ∀ row ∈ chunks (s.plan.count + 1) l, r13 row = true := fun row h => List.all_eq_true.mp hall row h
  generalize hrows : chunks (s.plan.count + 1) l = rows at hG hrl hresp hrow13
  have hrn : rows.length ≤ 6000 := by
    rw [← hrows]; unfold chunks
    rw [List.length_map, List.length_range]
    exact Nat.le_trans (Nat.div_le_self _ _) hlen
  obtain ⟨qs, hG1, hq1⟩ := hG
  have lq : qs.length = rows.length := Paired.length hq1
  have hG2 := sm2 _ _ hG1
  have hq2 : Paired (fun q r => H2 q = some (.tup (r.map V.int))) qs rows := Paired.mapP hq1 fun _ _ z => sm2 _ _ z
  clear hq1 hG1 hent notp
  let all : List Vbjpae.Position := rows.map posR
  -- known
  refine ⟨_, rfl, g, rfl, ⟨_, .inl (.inl hG2)⟩, fun c hc => ?_⟩
  have ngc : g ≠ c := ne_of_none hG2 hc
  refine lc_it (walk_list (xs := qs.map V.ref)) (fun i H' => But c H2 H' ∧ ∃ ps : List Addr, H' c = some (.lst (ps.map V.ref)) ∧ Paired (fun q k => ∃ t, H' q = some (.tup [.ref t, .bl true]) ∧ PosAt H' t k) ps ((all.take i).map fun x => posK x.moment x.seen)) ⟨but_upd H2 c _, [], upd_same, .nil⟩ (fun i H' _ h => .inl (.inl (h.1 _ _ hG2 ngc))) (fun i x H3 H4 hi hP hY => ?_) (fun H3 h => ?_)
  · obtain ⟨hb, ps, hC, hp⟩ := hP
    obtain ⟨eH, hx⟩ := hY
    subst eH
    obtain ⟨qk, row, rfl, hrow, hrq⟩ := rows_raw hq2 hx
    have hin := List.mem_of_getElem? hrow
    have l2 : 2 ≤ row.length := by have := hrl row hin; omega
    have hrq3 := hb _ _ hrq (ne_of_none hrq hc)
    obtain ⟨f1, f2⟩ := r13_facts (hrow13 row hin)
    rw [List.length_map] at hi
    refine ⟨rfl, ?_⟩
    dsimp only [tYes]
    rw [if_pos rfl]
    refine ⟨_, rfl, qk, _, 0, _, rfl, rfl, .inl (.inl hrq3), row_at0 l2, ?_⟩
    refine ⟨_, rfl, _, rfl, ?_⟩
    dsimp only [tNoPart]
    refine slice_1 hrq3 (by omega) fun u hu => ?_
    refine ⟨two2, fun v hv => ?_⟩
    refine ⟨two2, fun p hp0 => ?_⟩
    have s1 := same_at (.tup (iv (row.drop 1))) hu
    have s2 := same_at (.tup [V.int (row.getD 0 0), V.ref u]) hv
    have s3 := same_at (.tup [V.ref v, V.bl true]) hp0
    have hU := s3 _ _ (s2 _ _ (show (upd H4 u (.tup (iv (row.drop 1)))) u = _ from upd_same))
    have hV := s3 _ _ (show (upd (upd H4 u (.tup (iv (row.drop 1)))) v (.tup [V.int (row.getD 0 0), V.ref u])) v = _ from upd_same)
    have hPp : (upd (upd (upd H4 u (.tup (iv (row.drop 1)))) v (.tup [V.int (row.getD 0 0), V.ref u])) p (.tup [V.ref v, V.bl true])) p = _ := upd_same
    have sA := s1.trans (s2.trans s3)
    generalize upd (upd (upd H4 u (.tup (iv (row.drop 1)))) v (.tup [V.int (row.getD 0 0), V.ref u])) p (.tup [V.ref v, V.bl true]) = H5 at hU hV hPp sA
    have hC5 := sA _ _ hC
    have tk5 : Tups H5 (upd H5 c (.lst (ps.map V.ref ++ [.ref p]))) := fun b' ys e => by rw [upd_ne (ne_of e hC5 fun z => nomatch z)]; exact e
    refine ⟨_, hC5, ?_, (hb.same sA).trans (but_upd _ c _), ps ++ [p], by rw [upd_same, List.map_append]; rfl, ?_⟩
    · rw [List.length_map, Paired.length hp, List.length_map, List.length_take]
      exact small_lt (by omega)
    · have ea : all[i]? = some (posR row) := by
        show (rows.map posR)[i]? = _
        rw [List.getElem?_map, hrow]; rfl
      rw [List.take_add_one, ea, List.map_append]
      refine Paired.snoc (Paired.mapP hp fun q' k ⟨t, h1, h2⟩ => ⟨t, tk5 _ _ (sA _ _ h1), (h2.keep (same_tups sA)).keep tk5⟩) ⟨v, tk5 _ _ hPp, u, ?_, ?_⟩
      · refine tk5 _ _ ?_
        rw [hV]
        have : (posK (posR row).moment (posR row).seen).1 = row.getD 0 0 := f1.symm
        rw [this]
      · refine tk5 _ _ ?_
        rw [hU]
        have : (posK (posR row).moment (posR row).seen).2 = row.drop 1 := enc_dec f2
        rw [this]
  obtain ⟨hb, ps, hC, hp⟩ := h
  have lall : all.length = rows.length := List.length_map _
  rw [List.length_map, lq, ← lall, List.take_length] at hp
  have sm3 : Same H2 H3 := But.of_new hc hb
  refine ⟨c, ps, _, rfl, .inl (.inl hC), hp, fun k H4 hk0 hPD hoth => ?_⟩
  have sm4 : Same H3 H4 := fun x o e => by rw [hoth x (ne_of_none e hk0)]; exact e
  have hKn := known_of all
  have smA := sm12.trans (sm3.trans sm4)
  have hG4 := sm4 _ _ (sm3 _ _ hG2)
  have hq4 : Paired (fun q r => H4 q = some (.tup (r.map V.int))) qs rows := Paired.mapP hq2 fun _ _ z => sm4 _ _ (sm3 _ _ z)
  clear hp hb hC hq2 hG2
  -- position by position
  refine ⟨_, rfl, g, _, rfl, .inl (.inl hG4), ?_⟩
  refine for_it (walk_enum (xs := qs.map V.ref)) (fun i σ H' => (∃ x4 x6 x7 x8 x9, σ = [some (.ref r), some (.ref b), some (.ref pl), some (.ref g), x4, some (.ref k), x6, x7, x8, x9]) ∧ Same H4 H' ∧ ∀ j, j < i → ∀ x, all[j]? = some x → (Vbjpae.positionFault s.plan all x).1 = 0) ⟨⟨_, _, _, _, _, rfl⟩, Same.refl H4, fun j h => absurd h (Nat.not_lt_zero j)⟩ (fun i σ H' _ h => .inl (.inl (h.2.1 _ _ hG4))) (fun i x σ H5 H6 hi hP hY => ?_) (fun σ H' hP => ?_)
  · obtain ⟨⟨x4, x6, x7, x8, x9, rfl⟩, sm5, hp2⟩ := hP
    obtain ⟨Tt, y1, y2, rfl, hn, rfl, e1, e2⟩ := hY
    cases e1
    obtain ⟨qk, row, rfl, hrow, hrq⟩ := rows_raw hq4 e2
    have hin := List.mem_of_getElem? hrow
    have lr := hrl row hin
    have l2 : 2 ≤ row.length := by omega
    obtain ⟨f1, f2⟩ := r13_facts (hrow13 row hin)
    have smT : Same H5 (upd H5 Tt (.tup [.int (i : Nat), .ref qk])) := same_at _ hn
    have sm6 := sm5.trans smT
    have hTt : (upd H5 Tt (.tup [.int (i : Nat), .ref qk])) Tt = some (.tup [.int (i : Nat), .ref qk]) := upd_same
    generalize upd H5 Tt (.tup [.int (i : Nat), .ref qk]) = H6 at smT sm6 hTt
    have hrq6 := sm6 _ _ hrq
    refine ⟨Tt, _, rfl, .inl (.inl hTt), rfl, _, _, rfl, _, _, rfl, rfl, ?_⟩
    refine ⟨_, rfl, qk, _, 0, _, rfl, rfl, .inl (.inl hrq6), row_at0 l2, ?_⟩
    refine ⟨_, rfl, _, rfl, ?_⟩
    dsimp only [tNoPart]
    refine slice_1 hrq6 (by omega) fun u hu => ?_
    have sU := same_at (.tup (iv (row.drop 1))) hu
    have hU : (upd H6 u (.tup (iv (row.drop 1)))) u = some (.tup (iv (row.drop 1))) := upd_same
    generalize upd H6 u (.tup (iv (row.drop 1))) = H7 at sU hU
    have sm7 := sm6.trans sU
    have sm7A := smA.trans sm7
    have ra7 := ra.same sm7A
    obtain ⟨dxp7, aT7, aR7, aO7, hA7⟩ := ra7.gp.ins
    have hseen : H7 u = some (.tup (iv (enc (posR row).seen))) := by
      rw [hU]
      have : enc (posR row).seen = row.drop 1 := enc_dec f2
      rw [this]
    have hsl : (posR row).seen.length = s.plan.count := by
      show (dec (row.drop 1)).length = _
      rw [dec_len, List.length_drop]
      omega
    have em : V.int (row.getD 0 0) = V.int (((posR row).moment : Nat) : Int) := congrArg V.int f1
    have hei : all[i]? = some (posR row) := by
      show (rows.map posR)[i]? = _
      rw [List.getElem?_map, hrow]; rfl
    have hz : all.zipIdx[i]? = some (posR row, i) := by rw [List.getElem?_zipIdx, hei]; simp
    have found : (Vbjpae.positionFault s.plan all (posR row)).1 ≠ 0 → Vbjpae.checkRefutation s.plan all = some (i, Vbjpae.positionFault s.plan all (posR row)) := fun hne => by
      have hfind : all.zipIdx.find? (fun x => (Vbjpae.positionFault s.plan all x.1).1 != 0) = some (posR row, i) := by
        refine SPM.find_at hz (by simpa using hne) fun j hj y hy => ?_
        rw [List.getElem?_zipIdx] at hy
        obtain ⟨y', hy', rfl⟩ := Option.map_eq_some_iff.mp hy
        have := hp2 j hj y' hy'
        simp [this]
      unfold Vbjpae.checkRefutation
      rw [hfind]
    refine ⟨_, _, rfl, ?_⟩
    rw [em]
    refine ⟨_, rfl, pl, dxp7, _, rfl, hA7, pF_none (by decide +kernel), _, rfl, _, rfl, pl, aW, u, s.plan, (posR row).moment, (posR row).seen, rfl, ra7.gp.plan, hv, hseen, hsl, fun H8 sm8 => ⟨_, rfl, ?_⟩⟩
    have sm8A := sm7A.trans sm8
    have ra8 := ra7.same sm8
    obtain ⟨dxp8, aT8, aR8, aO8, hA8⟩ := ra8.gp.ins
    cases hip : Vbjpae.isPosition s.plan ⟨(posR row).moment, (posR row).seen⟩ with
    | false =>
      have hpf : Vbjpae.positionFault s.plan all (posR row) = (1, 0) := by
        unfold Vbjpae.positionFault
        rw [if_pos hip]
      refine if_t rfl ⟨_, rfl, by show 4 ≤ sizeLine; rw [sizeLine_eq]; decide, fun o ho => ?_⟩
      have hck := found (by rw [hpf]; decide)
      rw [hpf] at hck
      refine okk (rest := 0 :: Vbjpae.ints [i, 1, 0]) (hresp _ hck) o _ (sm8A.trans (same_at _ ho)) ?_
      rw [upd_same]; rfl
    | true =>
      have hle : (posR row).moment ≤ s.plan.deadline := by
        unfold Vbjpae.isPosition at hip
        simp at hip
        exact hip.1
      refine if_f rfl ?_
      refine ⟨_, rfl, pl, dxp8, _, rfl, hA8, pF_none (by decide +kernel), _, rfl, pl, aW, u, s.plan, (posR row).seen, rfl, ra8.gp.plan, sm8 _ _ hseen, hsl, c6, fun ml H9 _ hML sm9 => ?_⟩
      refine ⟨ml, rfl, ⟨_, .inl (.inl hML)⟩, ?_⟩
      have sm9' := sm7.trans (sm8.trans sm9)
      have sm9A := sm8A.trans sm9
      have hseen9 := sm9 _ _ (sm8 _ _ hseen)
      refine for_it (walk_list (xs := nv (Vbjpae.movesAt s.plan (posR row).seen))) (fun j σ H' => (∃ x9, σ = [some (.ref r), some (.ref b), some (.ref pl), some (.ref g), some (.ref qk), some (.ref k), some (.int (i : Int)), some (.int (((posR row).moment : Nat) : Int)), some (.ref u), x9]) ∧ Same H9 H' ∧ ∀ j', j' < j → ∀ m, (Vbjpae.movesAt s.plan (posR row).seen)[j']? = some m → (!Vbjpae.isAnswered s.plan all (posR row) m) = false) ⟨⟨_, rfl⟩, Same.refl H9, fun j h => absurd h (Nat.not_lt_zero j)⟩ (fun j σ H' _ h => .inl (.inl (h.2.1 _ _ hML))) (fun j x σ H10 H11 hj hP hY => ?_) (fun σ H' hP => ?_)
      · obtain ⟨⟨x9, rfl⟩, sm10, hp3⟩ := hP
        obtain ⟨eH, hx⟩ := hY
        subst eH
        obtain ⟨m, hmm, rfl⟩ := nv_at_of hx
        have smB := sm9A.trans sm10
        have raB := ra.same smB
        obtain ⟨dxpB, aTB, aRB, aOB, hAB⟩ := raB.gp.ins
        refine ⟨_, rfl, pl, dxpB, _, rfl, hAB, pF_none (by decide +kernel), _, rfl, _, rfl, _, rfl, _, rfl, pl, aW, u, k, s.plan, (posR row).moment, m, (posR row).seen, _, all, rfl, raB.gp.plan, hv, sm10 _ _ hseen9, hsl, hle, SPM.mem_movesAt.mp (List.mem_of_getElem? hmm), hPD.same (sm9'.trans sm10), hKn, fun H12 sm12' => ⟨_, rfl, ?_⟩⟩
        have smC := smB.trans sm12'
        cases han : Vbjpae.isAnswered s.plan all ⟨(posR row).moment, (posR row).seen⟩ m with
        | true =>
          refine if_f rfl ⟨⟨_, rfl⟩, sm10.trans sm12', fun j' hj' m' hm' => ?_⟩
          rcases Nat.lt_or_ge j' j with h | h
          · exact hp3 j' h m' hm'
          · have : j' = j := by omega
            subst this
            rw [hmm] at hm'
            cases hm'
            show (!Vbjpae.isAnswered s.plan all ⟨(posR row).moment, (posR row).seen⟩ m) = false
            rw [han]; rfl
        | false =>
          have hfm : (Vbjpae.movesAt s.plan (posR row).seen).find? (fun m => !Vbjpae.isAnswered s.plan all (posR row) m) = some m := SPM.find_at hmm (by show (!Vbjpae.isAnswered s.plan all ⟨(posR row).moment, (posR row).seen⟩ m) = true; rw [han]; rfl) hp3
          have hpf : Vbjpae.positionFault s.plan all (posR row) = (2, m) := by
            unfold Vbjpae.positionFault
            rw [if_neg (by rw [show Vbjpae.isPosition s.plan (posR row) = true from hip]; simp), hfm]
          refine if_t rfl ⟨_, rfl, _, rfl, by show 4 ≤ sizeLine; rw [sizeLine_eq]; decide, fun o ho => ?_⟩
          have hck := found (by rw [hpf]; show 2 ≠ 0; decide)
          rw [hpf] at hck
          refine okk (rest := 0 :: Vbjpae.ints [i, 2, m]) (hresp _ hck) o _ (smC.trans (same_at _ ho)) ?_
          rw [upd_same]; rfl
      · obtain ⟨⟨x9, rfl⟩, sm10, hp3⟩ := hP
        rw [nv_len] at hp3
        have hfm : (Vbjpae.movesAt s.plan (posR row).seen).find? (fun m => !Vbjpae.isAnswered s.plan all (posR row) m) = none := by
          rw [List.find?_eq_none]
          intro m hmm
          obtain ⟨j', hj'⟩ := List.mem_iff_getElem?.mp hmm
          rw [hp3 j' (List.getElem?_eq_some_iff.mp hj').1 m hj']
          exact Bool.false_ne_true
        have hpf : Vbjpae.positionFault s.plan all (posR row) = (0, 0) := by
          unfold Vbjpae.positionFault
          rw [if_neg (by rw [show Vbjpae.isPosition s.plan (posR row) = true from hip]; simp), hfm]
        refine ⟨⟨_, _, _, _, _, rfl⟩, sm9'.trans sm10, fun j hj x hx => ?_⟩
        rcases Nat.lt_or_ge j i with h | h
        · exact hp2 j h x hx
        · have : j = i := by omega
          subst this
          rw [hei] at hx
          cases hx
          rw [hpf]
  · obtain ⟨⟨x4, x6, x7, x8, x9, rfl⟩, sm5, hp2⟩ := hP
    have sm5A := smA.trans sm5
    have ra5 := ra.same sm5A
    obtain ⟨dxp5, aT5, aR5, aO5, hA5⟩ := ra5.gp.ins
    rw [List.length_map, lq] at hp2
    have hfind : all.zipIdx.find? (fun x => (Vbjpae.positionFault s.plan all x.1).1 != 0) = none := by
      rw [List.find?_eq_none]
      intro x hx
      have := List.mem_zipIdx_iff_getElem?.mp hx
      have h0 := hp2 x.2 (by rw [← lall]; exact (List.getElem?_eq_some_iff.mp this).1) x.1 this
      simp [h0]
    have hck : Vbjpae.checkRefutation s.plan all = if all.contains (Vbjpae.startPosition s.plan) = true then none else some (all.length, 3, 0) := by
      unfold Vbjpae.checkRefutation
      rw [hfind]
    refine ⟨_, rfl, pl, dxp5, _, rfl, hA5, pF_none (by decide +kernel), pl, aW, s.plan, rfl, ra5.gp.plan, hv, fun t H6 hT sm6 => ?_⟩
    refine ⟨_, rfl, t, posK 0 (VbjpCore.startTimes s.plan), k, _, rfl, rfl, hT, hPD.same (sm5.trans sm6), _, rfl, ?_⟩
    show if ((valV _ (posK 0 (VbjpCore.startTimes s.plan))).isSome) = true then _ else _
    rw [hKn]
    have smF := sm5A.trans sm6
    refine if_2 (fun c1 => ?_) (fun c1 => ?_)
    · rw [if_pos (show all.contains (Vbjpae.startPosition s.plan) = true from c1)] at hck
      refine ⟨by show 1 ≤ sizeLine; rw [sizeLine_eq]; decide, fun o ho => ?_⟩
      exact okk (rest := [1]) (hresp _ hck) o _ (smF.trans (same_at _ ho)) upd_same
    · rw [if_neg (by rw [show all.contains (Vbjpae.startPosition s.plan) = false from c1]; exact Bool.false_ne_true)] at hck
      refine ⟨_, rfl, g, _, rfl, .inl (.inl (.inl (sm6 _ _ (sm5 _ _ hG4)))), by show 4 ≤ sizeLine; rw [sizeLine_eq]; decide, fun o ho => ?_⟩
      refine okk (rest := 0 :: Vbjpae.ints [all.length, 3, 0]) (hresp _ hck) o _ (smF.trans (same_at _ ho)) ?_
      rw [upd_same, List.length_map, lq, ← lall]; rfl
end
end SP
end

section
set_option Elab.async false
set_option linter.all false
set_option maxRecDepth 100000
set_option maxHeartbeats 4000000
namespace SP
open PySem PySem.Spec PyProof.Rows L2 SPR
open SPM (enc ov)
abbrev Tsk := VbjpCore.Task
abbrev Rqm := VbjpCore.Requirement
/-! ### no task begins at its own end -/
def alive (l : List Tsk) : Nat → Nat → Bool
  | 0, _ => true
  | n + 1, e => l.any fun k => k.finish == e && alive l n k.start
theorem alive_mono (l : List Tsk) : ∀ n e, alive l (n + 1) e = true → alive l n e = true
  | 0, _, _ => rfl
  | n + 1, e, h => by
    rw [alive, List.any_eq_true] at h ⊢
    obtain ⟨k, hk, h2⟩ := h
    rw [Bool.and_eq_true] at h2
    exact ⟨k, hk, by rw [Bool.and_eq_true]; exact ⟨h2.1, alive_mono l n _ h2.2⟩⟩
def stripF (l : List Tsk) : List Tsk := l.filter fun k => l.any fun j => j.finish == k.start
theorem strip_succ : ∀ (n : Nat) (l : List Tsk), VbjpCore.strip (n + 1) l = stripF (VbjpCore.strip n l)
  | 0, _ => rfl
  | n + 1, l => by
    show VbjpCore.strip (n + 1) (stripF l) = stripF (VbjpCore.strip n (stripF l))
    exact strip_succ n _
theorem mem_strip (l : List Tsk) : ∀ (n : Nat) (k : Tsk), k ∈ VbjpCore.strip n l ↔ k ∈ l ∧ alive l n k.start = true
  | 0, k => by simp [VbjpCore.strip, alive]
  | n + 1, k => by
    rw [strip_succ]
    unfold stripF
    rw [List.mem_filter, List.any_eq_true, mem_strip l n k]
    constructor
    · rintro ⟨⟨h1, _⟩, j, hj, e⟩
      obtain ⟨h3, h4⟩ := (mem_strip l n j).mp hj
      refine ⟨h1, ?_⟩
      rw [alive, List.any_eq_true]
      exact ⟨j, h3, by rw [Bool.and_eq_true]; exact ⟨e, h4⟩⟩
    · rintro ⟨h1, h2⟩
      refine ⟨⟨h1, alive_mono l n _ h2⟩, ?_⟩
      rw [alive, List.any_eq_true] at h2
      obtain ⟨j, hj, h3⟩ := h2
      rw [Bool.and_eq_true] at h3
      exact ⟨j, (mem_strip l n j).mpr ⟨hj, h3.2⟩, h3.1⟩
theorem ordered_iff (l : List Tsk) : VbjpCore.areOrdered l = true ↔ ∀ k ∈ l, alive l l.length k.start = false := by
  unfold VbjpCore.areOrdered
  rw [List.isEmpty_iff, List.eq_nil_iff_forall_not_mem]
  constructor
  · intro h k hk
    rw [← Bool.not_eq_true]
    exact fun z => h k ((mem_strip l _ k).mpr ⟨hk, z⟩)
  · intro h k hk
    obtain ⟨h1, h2⟩ := (mem_strip l _ k).mp hk
    rw [h k h1] at h2
    cases h2
def pairsT (l : List Tsk) : List (Int × Int) := l.map fun k => ((k.finish : Int), (k.start : Int))
theorem chase_alive {l : List Tsk} (hn : (l.map fun k => k.finish).Nodup) : ∀ (n e : Nat), chase (pairsT l) n (e : Int) = !alive l n e
  | 0, e => rfl
  | n + 1, e => by
    have key : ∀ m : List Tsk, (m.map fun k => k.finish).Nodup → match (pairsT m).find? fun q => decide (q.1 = (e : Int)) with
        | none => ∀ k ∈ m, k.finish ≠ e
        | some q => ∃ k ∈ m, k.finish = e ∧ q.2 = (k.start : Int) ∧ ∀ j ∈ m, j.finish = e → j = k := by
      intro m
      induction m with
      | nil => intro _ k hk; cases hk
      | cons k m ih =>
        intro h
        rw [List.map_cons, List.nodup_cons] at h
        show match List.find? _ (((k.finish : Int), (k.start : Int)) :: pairsT m) with
          | none => _
          | some q => _
        rw [List.find?_cons]
        by_cases hk : k.finish = e
        · rw [decide_eq_true (show ((k.finish : Int), (k.start : Int)).1 = (e : Int) by show (k.finish : Int) = _; omega)]
          refine ⟨k, List.mem_cons_self, hk, rfl, fun j hj he => ?_⟩
          rcases List.mem_cons.mp hj with rfl | hj
          · rfl
          · exact absurd (List.mem_map.mpr ⟨j, hj, by rw [he, hk]⟩) h.1
        · rw [decide_eq_false (show ¬ ((k.finish : Int), (k.start : Int)).1 = (e : Int) by show ¬ (k.finish : Int) = _; omega)]
          have := ih h.2
          cases q : (pairsT m).find? fun q => decide (q.1 = (e : Int)) with
          | none =>
            rw [q] at this
            intro j hj
            rcases List.mem_cons.mp hj with rfl | hj
            · exact hk
            · exact this j hj
          | some z =>
            rw [q] at this
            obtain ⟨k', h1, h2, h3, h4⟩ := this
            refine ⟨k', List.mem_cons_of_mem _ h1, h2, h3, fun j hj he => ?_⟩
            rcases List.mem_cons.mp hj with rfl | hj
            · exact absurd he hk
            · exact h4 j hj he
    have := key l hn
    rw [chase, alive]
    cases q : (pairsT l).find? fun q => decide (q.1 = (e : Int)) with
    | none =>
      rw [q] at this
      symm
      rw [Bool.not_eq_true', List.any_eq_false]
      intro k hk
      have := this k hk
      simp [this]
    | some z =>
      rw [q] at this
      obtain ⟨k, h1, h2, h3, h4⟩ := this
      show chase (pairsT l) n z.2 = _
      rw [h3, chase_alive hn n k.start]
      congr 1
      rw [Bool.eq_iff_iff, List.any_eq_true]
      constructor
      · intro h
        exact ⟨k, h1, by rw [Bool.and_eq_true]; exact ⟨by simp [h2], h⟩⟩
      · rintro ⟨j, hj, h⟩
        rw [Bool.and_eq_true] at h
        have : j = k := h4 j hj (by simpa using h.1)
        rw [← this]; exact h.2
/-! ### the plan's conditions -/
theorem distinct_iff (l : List Nat) : VbjpCore.areDistinct l = true ↔ l.Nodup := by
  induction l with
  | nil => simp [VbjpCore.areDistinct]
  | cons x l ih =>
    rw [VbjpCore.areDistinct, Bool.and_eq_true, ih, List.nodup_cons]
    simp
theorem fins_rp (p : Pln) (o : List Int) : fins ⟨p.count, p.deadline, p.tasks.map taskRow, p.requirements.map reqRow, o⟩ = (p.tasks.map fun k => k.finish).map Int.ofNat := by
  unfold fins
  rw [List.map_map, List.map_map]; rfl
theorem starts_rp (p : Pln) (o : List Int) : starts ⟨p.count, p.deadline, p.tasks.map taskRow, p.requirements.map reqRow, o⟩ = (p.tasks.map fun k => k.start).map Int.ofNat := by
  unfold starts
  rw [List.map_map, List.map_map]; rfl
theorem pairs_rp (p : Pln) (o : List Int) : pairs ⟨p.count, p.deadline, p.tasks.map taskRow, p.requirements.map reqRow, o⟩ = pairsT p.tasks := by
  unfold pairs pairsT
  rw [List.map_map]; rfl
theorem ofNat_mem {l : List Nat} {n : Nat} : ((n : Int) ∈ l.map Int.ofNat) ↔ n ∈ l := by
  rw [List.mem_map]
  constructor
  · rintro ⟨m, hm, e⟩
    have : m = n := Int.ofNat.inj e
    exact this ▸ hm
  · exact fun h => ⟨n, h, rfl⟩
theorem count_ofNat (l : List Nat) (n : Nat) : (l.map Int.ofNat).count (n : Int) = l.count n := by
  induction l with
  | nil => rfl
  | cons x l ih =>
    rw [List.map_cons, List.count_cons, List.count_cons, ih]
    congr 1
    have e : (Int.ofNat x == (n : Int)) = (x == n) := by
      rw [Bool.eq_iff_iff, beq_iff_eq, beq_iff_eq]
      exact ⟨fun h => Int.ofNat.inj h, fun h => by rw [h]; rfl⟩
    rw [e]
structure Good (p : Pln) : Prop where
  task : ∀ k ∈ p.tasks, VbjpCore.isTask p k = true
  dist : (p.tasks.map fun k => k.finish).Nodup
  ord : VbjpCore.areOrdered p.tasks = true
  chain : ∀ k ∈ p.tasks, (∃ j ∈ p.tasks, j.start = k.finish) → k.delay = 0
  req : ∀ r ∈ p.requirements, VbjpCore.isRequirement p r = true
theorem good_iff_valid {p : Pln} (hc : 1 ≤ p.count ∧ p.count ≤ 6) (hd : 1 ≤ p.deadline ∧ p.deadline ≤ 8) : (VbjpCore.isValidPlan p && Vbjpae.isSmall p) = true ↔ p.tasks.length ≤ 3 ∧ p.requirements.length ≤ 20 ∧ Good p := by
  unfold VbjpCore.isValidPlan Vbjpae.isSmall VbjpCore.maxEvents VbjpCore.maxMoment VbjpCore.maxTasks VbjpCore.maxRequirements Vbjpae.maxCount Vbjpae.maxGameTasks Vbjpae.maxDeadline
  simp only [Bool.and_eq_true, decide_eq_true_eq, distinct_iff, List.all_eq_true]
  constructor
  · rintro ⟨⟨_, _, _, _, _, h1, h2, h3, h4, _, h5⟩, _, h6, _, h7⟩
    refine ⟨h6, h7, h1, h2, h3, fun k hk ⟨j, hj, e⟩ => ?_, h5⟩
    have := h4 k hk
    rw [Bool.or_eq_true] at this
    rcases this with z | z
    · simpa using z
    · rw [Bool.not_eq_true', List.any_eq_false] at z
      exact absurd (show (j.start == k.finish) = true by simp [e]) (z j hj)
  · rintro ⟨h6, h7, g⟩
    refine ⟨⟨by omega, by omega, by omega, by omega, by omega, g.task, g.dist, g.ord, fun k hk => ?_, by omega, g.req⟩, by omega, h6, by omega, h7⟩
    rw [Bool.or_eq_true]
    by_cases h : ∃ j ∈ p.tasks, j.start = k.finish
    · left
      rw [g.chain k hk h]; rfl
    · right
      rw [Bool.not_eq_true', List.any_eq_false]
      intro j hj z
      exact h ⟨j, hj, by simpa using z⟩
theorem validR_iff {p : Pln} (hd : p.deadline ≤ 8) (o : List Int) : ValidR ⟨p.count, p.deadline, p.tasks.map taskRow, p.requirements.map reqRow, o⟩ ↔ Good p := by
  constructor
  · intro v
    have tk : ∀ k ∈ p.tasks, TOk ⟨p.count, p.deadline, p.tasks.map taskRow, p.requirements.map reqRow, o⟩ (taskRow k) := fun k hk => v.t _ (List.mem_map.mpr ⟨k, hk, rfl⟩)
    have nd : (p.tasks.map fun k => k.finish).Nodup := by
      rw [List.nodup_iff_count]
      intro e
      by_cases he : e ∈ p.tasks.map fun k => k.finish
      · obtain ⟨k, hk, rfl⟩ := List.mem_map.mp he
        have := (tk k hk).d
        rw [fins_rp] at this
        have e2 : (taskRow k).getD 1 0 = ((k.finish : Nat) : Int) := rfl
        rw [e2, count_ofNat] at this
        omega
      · rw [List.count_eq_zero_of_not_mem he]; omega
    refine ⟨fun k hk => ?_, nd, ?_, fun k hk ⟨j, hj, e⟩ => ?_, fun r hr => ?_⟩
    · obtain ⟨⟨a1, a2⟩, ⟨b1, b2⟩, c, _, ⟨e1, e2, e3⟩, ⟨f1, f2⟩, _⟩ := tk k hk
      have a2 : (k.start : Int) < (p.count : Int) := a2
      have b1 : (0 : Int) < (k.finish : Int) := b1
      have b2 : (k.finish : Int) < (p.count : Int) := b2
      have c : ¬ (k.finish : Int) = (k.start : Int) := c
      have e1 : (1 : Int) ≤ (k.least : Int) := e1
      have e2 : (k.least : Int) ≤ (k.greatest : Int) := e2
      have e3 : (k.greatest : Int) ≤ 1000 := e3
      have f2 : (k.delay : Int) ≤ (p.deadline : Int) + 1 := f2
      unfold VbjpCore.isTask VbjpCore.maxMoment
      simp only [Bool.and_eq_true, decide_eq_true_eq, bne_iff_ne]
      omega
    · rw [ordered_iff]
      intro k hk
      have := v.ring (k.finish : Int) (by rw [fins_rp, ofNat_mem]; exact List.mem_map.mpr ⟨k, hk, rfl⟩)
      rw [pairs_rp] at this
      have hl : (p.tasks.map taskRow).length = p.tasks.length := List.length_map _
      rw [show (RP.mk p.count p.deadline (p.tasks.map taskRow) (p.requirements.map reqRow) o).ts.length = p.tasks.length from hl, chase_alive nd, Bool.not_eq_true'] at this
      rw [← Bool.not_eq_true]
      intro z
      rw [alive, List.any_eq_false] at this
      exact this k hk (by rw [Bool.and_eq_true]; exact ⟨by simp, z⟩)
    · have := (tk k hk).g
      have h := this (by rw [starts_rp]; show ((k.finish : Nat) : Int) ∈ _; rw [ofNat_mem]; exact List.mem_map.mpr ⟨j, hj, e⟩)
      have h : (k.delay : Int) = 0 := h
      omega
    · obtain ⟨⟨a1, a2⟩, ⟨b1, b2⟩, c1, c2⟩ := v.q (reqRow r) (List.mem_map.mpr ⟨r, hr, rfl⟩)
      have a2 : (r.source : Int) < (p.count : Int) := a2
      have b2 : (r.target : Int) < (p.count : Int) := b2
      have c1 : -1000 ≤ r.most := c1
      have c2 : r.most ≤ 1000 := c2
      unfold VbjpCore.isRequirement VbjpCore.maxMoment
      simp only [Bool.and_eq_true, decide_eq_true_eq]
      omega
  · intro g
    refine ⟨fun row hrow => ?_, fun e he => ?_, fun row hrow => ?_⟩
    · obtain ⟨k, hk, rfl⟩ := List.mem_map.mp hrow
      have h := g.task k hk
      unfold VbjpCore.isTask VbjpCore.maxMoment at h
      simp only [Bool.and_eq_true, decide_eq_true_eq, bne_iff_ne] at h
      obtain ⟨h1, h2, h3, h4, h5, h6, h7, h8⟩ := h
      refine ⟨⟨?_, ?_⟩, ⟨?_, ?_⟩, ?_, ?_, ⟨?_, ?_, ?_⟩, ⟨?_, ?_⟩, fun hs => ?_⟩
      · show (0 : Int) ≤ (k.start : Int); omega
      · show (k.start : Int) < (p.count : Int); omega
      · show (0 : Int) < (k.finish : Int); omega
      · show (k.finish : Int) < (p.count : Int); omega
      · show ¬ (k.finish : Int) = (k.start : Int); omega
      · rw [fins_rp]
        show (List.map Int.ofNat _).count ((k.finish : Nat) : Int) = 1
        rw [count_ofNat]
        have h1 := List.nodup_iff_count.mp g.dist k.finish
        have h2 : 0 < (p.tasks.map fun k => k.finish).count k.finish := List.count_pos_iff.mpr (List.mem_map.mpr ⟨k, hk, rfl⟩)
        omega
      · show (1 : Int) ≤ (k.least : Int); omega
      · show (k.least : Int) ≤ (k.greatest : Int); omega
      · show (k.greatest : Int) ≤ 1000; omega
      · show (0 : Int) ≤ (k.delay : Int); omega
      · show (k.delay : Int) ≤ (p.deadline : Int) + 1; omega
      · rw [starts_rp] at hs
        have hs : ((k.finish : Nat) : Int) ∈ _ := hs
        rw [ofNat_mem] at hs
        obtain ⟨j, hj, e⟩ := List.mem_map.mp hs
        have := g.chain k hk ⟨j, hj, e⟩
        show (k.delay : Int) = 0
        omega
    · rw [fins_rp] at he
      obtain ⟨n, hn, rfl⟩ := List.mem_map.mp he
      obtain ⟨k, hk, rfl⟩ := List.mem_map.mp hn
      have hl : (p.tasks.map taskRow).length = p.tasks.length := List.length_map _
      rw [pairs_rp, show (RP.mk p.count p.deadline (p.tasks.map taskRow) (p.requirements.map reqRow) o).ts.length = p.tasks.length from hl]
      show chase _ _ ((k.finish : Nat) : Int) = true
      rw [chase_alive g.dist, Bool.not_eq_true', alive, List.any_eq_false]
      intro j hj z
      rw [Bool.and_eq_true] at z
      have := (ordered_iff p.tasks).mp g.ord j hj
      rw [this] at z
      cases z.2
    · obtain ⟨r, hr, rfl⟩ := List.mem_map.mp hrow
      have h := g.req r hr
      unfold VbjpCore.isRequirement VbjpCore.maxMoment at h
      simp only [Bool.and_eq_true, decide_eq_true_eq] at h
      obtain ⟨h1, h2, h3, h4⟩ := h
      refine ⟨⟨?_, ?_⟩, ⟨?_, ?_⟩, ?_, ?_⟩
      · show (0 : Int) ≤ (r.source : Int); omega
      · show (r.source : Int) < (p.count : Int); omega
      · show (0 : Int) ≤ (r.target : Int); omega
      · show (r.target : Int) < (p.count : Int); omega
      · show -1000 ≤ r.most; omega
      · show r.most ≤ 1000; omega
theorem pv_of {p : Pln} (hc : 1 ≤ p.count ∧ p.count ≤ 6) (hd : 1 ≤ p.deadline ∧ p.deadline ≤ 8) (h3 : p.tasks.length ≤ 3) (h20 : p.requirements.length ≤ 20) (g : Good p) : SPM.PV p where
  c1 := hc.1
  c6 := hc.2
  d1 := hd.1
  d8 := hd.2
  t3 := h3
  r20 := h20
  task := fun k hk => by
    have h := g.task k hk
    unfold VbjpCore.isTask VbjpCore.maxMoment at h
    simp only [Bool.and_eq_true, decide_eq_true_eq, bne_iff_ne] at h
    obtain ⟨h1, h2, h3, h4, h5, h6, h7, h8⟩ := h
    exact ⟨h1, h2, h3, h4, h5, h6, h7, h8⟩
  dist := g.dist
  chain := fun k hk j hj e => g.chain k hk ⟨j, hj, e⟩
  req := fun r hr => by
    have h := g.req r hr
    unfold VbjpCore.isRequirement VbjpCore.maxMoment at h
    simp only [Bool.and_eq_true, decide_eq_true_eq] at h
    obtain ⟨h1, h2, h3, h4⟩ := h
    exact ⟨h1, h2, by omega, by omega⟩
theorem own_rp (p : Pln) : ownR ⟨p.count, p.deadline, p.tasks.map taskRow, p.requirements.map reqRow, []⟩ = (SPM.ownList p).map Int.ofNat := by
  unfold ownR SPM.ownList
  rw [fins_rp, Int.toNat_natCast, List.filter_map]
  congr 1
  refine List.filter_congr fun i hi => ?_
  have hi := List.mem_range.mp hi
  unfold VbjpCore.isOwn VbjpCore.isFinish
  rw [decide_eq_true hi, Bool.true_and]
  show (!((p.tasks.map fun k => k.finish).map Int.ofNat).contains (Int.ofNat i)) = _
  congr 1
  rw [Bool.eq_iff_iff, List.contains_iff_mem, List.any_eq_true]
  show ((i : Nat) : Int) ∈ _ ↔ _
  rw [ofNat_mem, List.mem_map]
  simp
/-! ### reading the numbers -/
def in5 (row : List Int) : Bool := row.all fun z => Vbjpae.inRange z 0 1001
def taskR (row : List Int) : Tsk := ⟨(row.getD 0 0).toNat, (row.getD 1 0).toNat, (row.getD 2 0).toNat, (row.getD 3 0).toNat, (row.getD 4 0).toNat⟩
def in3 (row : List Int) : Bool := Vbjpae.inRange (row.getD 0 0) 0 1000 && (Vbjpae.inRange (row.getD 1 0) 0 1000 && Vbjpae.inRange (row.getD 2 0) (-1000) 1000)
def reqR (row : List Int) : Rqm := ⟨(row.getD 0 0).toNat, (row.getD 1 0).toNat, row.getD 2 0⟩
theorem tasks_of : ∀ (n : Nat) (l : List Int), l.length ≤ n → Vbjpae.tasksOf l = if l.length % 5 = 0 ∧ (chunks 5 l).all in5 = true then some ((chunks 5 l).map taskR) else none
  | n, [], _ => by simp [Vbjpae.tasksOf, chunks_nil]
  | n + 1, a :: c :: x :: y :: r :: rest, h => by
    have ih := tasks_of n rest (by simp at h; omega)
    have e : chunks 5 (a :: c :: x :: y :: r :: rest) = [a, c, x, y, r] :: chunks 5 rest := chunks_step (k := 5) (l := a :: c :: x :: y :: r :: rest) (by decide) (by simp)
    have el : (a :: c :: x :: y :: r :: rest).length % 5 = rest.length % 5 := by show (rest.length + 1 + 1 + 1 + 1 + 1) % 5 = _; omega
    rw [Vbjpae.tasksOf, ih, e, el, show ([a, c, x, y, r] :: chunks 5 rest).all in5 = (in5 [a, c, x, y, r] && (chunks 5 rest).all in5) from rfl, List.map_cons]
    by_cases h1 : ([a, c, x, y, r].all fun z => Vbjpae.inRange z 0 1001) = true
    · rw [if_pos h1, show in5 [a, c, x, y, r] = true from h1, Bool.true_and]
      by_cases h2 : rest.length % 5 = 0 ∧ (chunks 5 rest).all in5 = true
      · rw [if_pos h2, if_pos h2]; rfl
      · rw [if_neg h2, if_neg h2]; rfl
    · rw [if_neg h1, if_neg]
      rw [show in5 [a, c, x, y, r] = false from Bool.not_eq_true _ ▸ h1]
      simp
  | n, [a], _ => by simp [Vbjpae.tasksOf]
  | n, [a, b], _ => by simp [Vbjpae.tasksOf]
  | n, [a, b, c], _ => by simp [Vbjpae.tasksOf]
  | n, [a, b, c, d], _ => by simp [Vbjpae.tasksOf]
  | 0, a :: c :: x :: y :: r :: rest, h => by simp at h
theorem reqs_of : ∀ (n : Nat) (l : List Int), l.length ≤ n → Vbjpae.requirementsOf l = if l.length % 3 = 0 ∧ (chunks 3 l).all in3 = true then some ((chunks 3 l).map reqR) else none
  | n, [], _ => by simp [Vbjpae.requirementsOf, chunks_nil]
  | n + 1, a :: c :: x :: rest, h => by
    have ih := reqs_of n rest (by simp at h; omega)
    have e : chunks 3 (a :: c :: x :: rest) = [a, c, x] :: chunks 3 rest := chunks_step (k := 3) (l := a :: c :: x :: rest) (by decide) (by simp)
    have el : (a :: c :: x :: rest).length % 3 = rest.length % 3 := by show (rest.length + 1 + 1 + 1) % 3 = _; omega
    rw [Vbjpae.requirementsOf, ih, e, el, List.all_cons, List.map_cons]
    by_cases h1 : Vbjpae.inRange a 0 1000 = true ∧ Vbjpae.inRange c 0 1000 = true ∧ Vbjpae.inRange x (-1000) 1000 = true
    · have e3 : in3 [a, c, x] = true := by
        show (Vbjpae.inRange a 0 1000 && (Vbjpae.inRange c 0 1000 && Vbjpae.inRange x (-1000) 1000)) = true
        rw [h1.1, h1.2.1, h1.2.2]; rfl
      rw [if_pos h1, e3, Bool.true_and]
      by_cases h2 : rest.length % 3 = 0 ∧ (chunks 3 rest).all in3 = true
      · rw [if_pos h2, if_pos h2]; rfl
      · rw [if_neg h2, if_neg h2]; rfl
    · have e3 : in3 [a, c, x] = false := by
        rw [← Bool.not_eq_true]
        intro z
        have z : (Vbjpae.inRange a 0 1000 && (Vbjpae.inRange c 0 1000 && Vbjpae.inRange x (-1000) 1000)) = true := z
        rw [Bool.and_eq_true, Bool.and_eq_true] at z
        exact h1 z
      rw [if_neg h1, e3, if_neg]
      simp
  | n, [a], _ => by simp [Vbjpae.requirementsOf]
  | n, [a, b], _ => by simp [Vbjpae.requirementsOf]
  | 0, a :: c :: x :: rest, h => by simp at h
theorem task_row {row : List Int} (hl : row.length = 5) (h : in5 row = true) : taskRow (taskR row) = row := by
  obtain ⟨a, b, c, d, e, rfl⟩ := len5 hl
  unfold in5 Vbjpae.inRange at h
  simp only [List.all_cons, List.all_nil, Bool.and_eq_true, decide_eq_true_eq, Bool.and_true] at h
  show [((a.toNat : Nat) : Int), ((b.toNat : Nat) : Int), ((c.toNat : Nat) : Int), ((d.toNat : Nat) : Int), ((e.toNat : Nat) : Int)] = _
  simp only [List.cons.injEq, and_true]
  omega
theorem req_row {row : List Int} (hl : row.length = 3) (h : in3 row = true) : reqRow (reqR row) = row := by
  obtain ⟨a, b, c, rfl⟩ := len3 hl
  have h : (Vbjpae.inRange a 0 1000 && (Vbjpae.inRange b 0 1000 && Vbjpae.inRange c (-1000) 1000)) = true := h
  unfold Vbjpae.inRange at h
  simp only [Bool.and_eq_true, decide_eq_true_eq] at h
  show [((a.toNat : Nat) : Int), ((b.toNat : Nat) : Int), c] = _
  simp only [List.cons.injEq, and_true]
  omega
theorem map_id_of {f : List Int → List Int} : ∀ {l : List (List Int)}, (∀ x ∈ l, f x = x) → l.map f = l
  | [], _ => rfl
  | x :: l, h => by rw [List.map_cons, h x List.mem_cons_self, map_id_of fun y hy => h y (List.mem_cons_of_mem _ hy)]
/-- what the program asks of the numbers of a plan -/
structure Asks (ev dl : Int) (tasks reqs : List Int) : Prop where
  r : (1 ≤ ev ∧ ev ≤ 6) ∧ 1 ≤ dl ∧ dl ≤ 8
  t : tasks.length % 5 = 0
  q : reqs.length % 3 = 0
  n : (chunks 5 tasks).length ≤ 3 ∧ (chunks 3 reqs).length ≤ 20
  v : ValidR ⟨ev, dl, chunks 5 tasks, chunks 3 reqs, ownR ⟨ev, dl, chunks 5 tasks, chunks 3 reqs, []⟩⟩
theorem chunks_len (k : Nat) (l : List Int) : (chunks k l).length = l.length / k := by unfold chunks; rw [List.length_map, List.length_range]
theorem plan_of {ev dl : Int} {tasks reqs : List Int} : (Asks ev dl tasks reqs → ∃ p, Vbjpae.planOf ev dl tasks reqs = some p ∧ SPM.PV p ∧ rp p = ⟨ev, dl, chunks 5 tasks, chunks 3 reqs, ownR ⟨ev, dl, chunks 5 tasks, chunks 3 reqs, []⟩⟩) ∧ (¬ Asks ev dl tasks reqs → Vbjpae.planOf ev dl tasks reqs = none) := by
  unfold Vbjpae.planOf
  rw [tasks_of _ tasks (Nat.le_refl _), reqs_of _ reqs (Nat.le_refl _)]
  by_cases hr : (1 ≤ ev ∧ ev ≤ 6) ∧ 1 ≤ dl ∧ dl ≤ 8
  case neg =>
    refine ⟨fun a => absurd a.r hr, fun _ => if_neg fun z => hr ?_⟩
    unfold Vbjpae.inRange at z
    simp only [Bool.and_eq_true, decide_eq_true_eq] at z
    exact ⟨z.1, z.2.1⟩
  by_cases ht : tasks.length % 5 = 0
  case neg =>
    refine ⟨fun a => absurd a.t ht, fun _ => ?_⟩
    rw [if_neg fun (z : tasks.length % 5 = 0 ∧ _) => ht z.1]
    split <;> rfl
  by_cases hq : reqs.length % 3 = 0
  case neg =>
    refine ⟨fun a => absurd a.q hq, fun _ => ?_⟩
    rw [if_neg fun (z : reqs.length % 3 = 0 ∧ _) => hq z.1]
    split
    · cases (if tasks.length % 5 = 0 ∧ (chunks 5 tasks).all in5 = true then some ((chunks 5 tasks).map taskR) else none) <;> rfl
    · rfl
  have lt5 : ∀ row ∈ chunks 5 tasks, row.length = 5 := fun row h => chunks_row ht h
  have lq3 : ∀ row ∈ chunks 3 reqs, row.length = 3 := fun row h => chunks_row hq h
  -- in range, given the conditions
  have rangeT : ValidR ⟨ev, dl, chunks 5 tasks, chunks 3 reqs, ownR ⟨ev, dl, chunks 5 tasks, chunks 3 reqs, []⟩⟩ → (chunks 5 tasks).all in5 = true := fun v => by
    rw [List.all_eq_true]
    intro row hrow
    obtain ⟨a, b, c, d, e, rfl⟩ := len5 (lt5 row hrow)
    obtain ⟨⟨a1, a2⟩, ⟨b1, b2⟩, _, _, ⟨e1, e2, e3⟩, ⟨f1, f2⟩, _⟩ := v.t _ hrow
    simp only [List.getD_cons_zero, List.getD_cons_succ] at a1 a2 b1 b2 e1 e2 e3 f1 f2
    unfold in5 Vbjpae.inRange
    simp only [List.all_cons, List.all_nil, Bool.and_eq_true, decide_eq_true_eq, Bool.and_true]
    omega
  have rangeQ : ValidR ⟨ev, dl, chunks 5 tasks, chunks 3 reqs, ownR ⟨ev, dl, chunks 5 tasks, chunks 3 reqs, []⟩⟩ → (chunks 3 reqs).all in3 = true := fun v => by
    rw [List.all_eq_true]
    intro row hrow
    obtain ⟨a, b, c, rfl⟩ := len3 (lq3 row hrow)
    obtain ⟨⟨a1, a2⟩, ⟨b1, b2⟩, c1, c2⟩ := v.q _ hrow
    simp only [List.getD_cons_zero, List.getD_cons_succ] at a1 a2 b1 b2 c1 c2
    show (Vbjpae.inRange a 0 1000 && (Vbjpae.inRange b 0 1000 && Vbjpae.inRange c (-1000) 1000)) = true
    unfold Vbjpae.inRange
    simp only [Bool.and_eq_true, decide_eq_true_eq]
    omega
  have main : (chunks 5 tasks).all in5 = true → (chunks 3 reqs).all in3 = true → ∀ p : Pln, p = ⟨ev.toNat, dl.toNat, (chunks 5 tasks).map taskR, (chunks 3 reqs).map reqR⟩ →
      rp p = ⟨ev, dl, chunks 5 tasks, chunks 3 reqs, ownR ⟨ev, dl, chunks 5 tasks, chunks 3 reqs, []⟩⟩ ∧ (Good p ↔ ValidR ⟨ev, dl, chunks 5 tasks, chunks 3 reqs, ownR ⟨ev, dl, chunks 5 tasks, chunks 3 reqs, []⟩⟩) := fun h5 h3 p hp => by
    have e1 : p.tasks.map taskRow = chunks 5 tasks := by
      rw [hp]
      show ((chunks 5 tasks).map taskR).map taskRow = _
      rw [List.map_map]
      exact map_id_of fun row hrow => task_row (lt5 row hrow) (List.all_eq_true.mp h5 row hrow)
    have e2 : p.requirements.map reqRow = chunks 3 reqs := by
      rw [hp]
      show ((chunks 3 reqs).map reqR).map reqRow = _
      rw [List.map_map]
      exact map_id_of fun row hrow => req_row (lq3 row hrow) (List.all_eq_true.mp h3 row hrow)
    have e3 : (p.count : Int) = ev := by rw [hp]; show ((ev.toNat : Nat) : Int) = ev; omega
    have e4 : (p.deadline : Int) = dl := by rw [hp]; show ((dl.toNat : Nat) : Int) = dl; omega
    have ho := own_rp p
    rw [e1, e2, e3, e4] at ho
    have v := validR_iff (p := p) (by rw [hp]; show dl.toNat ≤ 8; omega) (ownR ⟨ev, dl, chunks 5 tasks, chunks 3 reqs, []⟩)
    rw [e1, e2, e3, e4] at v
    refine ⟨?_, v.symm⟩
    unfold rp
    rw [e1, e2, e3, e4, ho]
  by_cases hs : tasks.length ≤ 15 ∧ reqs.length ≤ 60
  case neg =>
    refine ⟨fun a => absurd ?_ hs, fun _ => if_neg fun z => hs ⟨z.2.2.1, z.2.2.2⟩⟩
    have := a.n
    rw [chunks_len, chunks_len] at this
    omega
  have hcond : Vbjpae.inRange ev 1 6 = true ∧ Vbjpae.inRange dl 1 8 = true ∧ tasks.length ≤ 15 ∧ reqs.length ≤ 60 := by
    unfold Vbjpae.inRange
    simp only [Bool.and_eq_true, decide_eq_true_eq]
    exact ⟨hr.1, hr.2, hs.1, hs.2⟩
  rw [if_pos hcond]
  by_cases h5 : (chunks 5 tasks).all in5 = true
  case neg =>
    refine ⟨fun a => absurd (rangeT a.v) h5, fun _ => ?_⟩
    rw [if_neg fun z => h5 z.2]; rfl
  by_cases h3 : (chunks 3 reqs).all in3 = true
  case neg =>
    refine ⟨fun a => absurd (rangeQ a.v) h3, fun _ => ?_⟩
    rw [if_pos ⟨ht, h5⟩, if_neg fun z => h3 z.2]; rfl
  rw [if_pos ⟨ht, h5⟩, if_pos ⟨hq, h3⟩]
  obtain ⟨m1, m2⟩ := main h5 h3 ⟨ev.toNat, dl.toNat, (chunks 5 tasks).map taskR, (chunks 3 reqs).map reqR⟩ rfl
  have hc' : 1 ≤ ev.toNat ∧ ev.toNat ≤ 6 := by omega
  have hd' : 1 ≤ dl.toNat ∧ dl.toNat ≤ 8 := by omega
  have gv := good_iff_valid (p := ⟨ev.toNat, dl.toNat, (chunks 5 tasks).map taskR, (chunks 3 reqs).map reqR⟩) hc' hd'
  rw [← Bool.decide_eq_true (b := Vbjpae.isSmall _)] at gv
  have l3 : (chunks 5 tasks).length ≤ 3 := by rw [chunks_len]; omega
  have l20 : (chunks 3 reqs).length ≤ 20 := by rw [chunks_len]; omega
  constructor
  · intro a
    have g := m2.mpr a.v
    refine ⟨⟨ev.toNat, dl.toNat, (chunks 5 tasks).map taskR, (chunks 3 reqs).map reqR⟩, ?_, pv_of hc' hd' (by show ((chunks 5 tasks).map taskR).length ≤ 3; rw [List.length_map]; exact l3) (by show ((chunks 3 reqs).map reqR).length ≤ 20; rw [List.length_map]; exact l20) g, m1⟩
    exact if_pos (gv.mpr ⟨by show ((chunks 5 tasks).map taskR).length ≤ 3; rw [List.length_map]; exact l3, by show ((chunks 3 reqs).map reqR).length ≤ 20; rw [List.length_map]; exact l20, g⟩)
  · intro na
    refine if_neg fun z => na ⟨hr, ht, hq, ⟨l3, l20⟩, m2.mp (gv.mp z).2.2⟩
end SP
end

section
set_option Elab.async false
set_option linter.all false
set_option maxRecDepth 100000
set_option maxHeartbeats 4000000
namespace SP
open PySem PySem.Spec PyProof.Rows L2 SPR
open SPM (enc ov)
abbrev sOp0 : Stmt := inClass (top 20) 5
abbrev nOp0 : List Str := ["self", "events", "deadline", "tasks", "requirements", "plan"]
theorem scOp0 : FnScope ["self", "events", "deadline", "tasks", "requirements", "plan"] ["self", "events", "deadline", "tasks", "requirements"] (defScope sOp0) := ⟨rfl, rfl, rfl, by decide +kernel, rfl, by decide +kernel, by decide +kernel⟩
def spOp0 (P : Program) (w : World) (CP CR CE : Addr) : Sp := fun vs H Q E => ∃ (r b1 b2 : Addr) (s : Vbjpae.State) (ev dl : Int) (ts rs : List Int), vs = [.ref r, .int ev, .int dl, .ref b1, .ref b2] ∧ H b1 = some (.lst (iv ts)) ∧ H b2 = some (.lst (iv rs)) ∧ ts.length ≤ 6000 ∧ rs.length ≤ 6000 ∧ ReqOk P w CP CR H r s ∧ OpQ P w CP CR CE r s (.loadPlan ev dl ts rs) H Q E
section
variable {P : Program} {w : World} {K : PySem.W.Frag} {mg : Str → Option Value} {base : Heap} {CP CR CE aS : Addr}
theorem plan_eq {CP : Addr} {H : Hp} {a aW : Addr} {r r' : RP} (h : PlanAt CP H a r aW) (e : r' = r) : PlanAt CP H a r' aW := e ▸ h
theorem ok_op0 {f : Addr} {fd : FuncData} (F : Fun K "operation_0" "Request.operation_0" sOp0 f fd) (T : Txt K mg CP CR CE aS) (F_require : FunX P w K mg base (L2.CX P w) 3 "require" (spReq CE)) (F_groups : FunX P w K mg base (L2.CX P w) 4 "groups" (spGroups CE)) (Mk_Plan : MakX P w K mg base CX0 1 "Plan" CP (spPlanInit P w CP)) (M_is_valid : MetX P w K mg base CX0 1 CP "is_valid" (spIsValid CP)) (M_restart : MetX P w K mg base CX0 2 CR "restart" (spRestart P w CP CR)) (M_size : MetX P w K mg base CX0 2 CP "size" (spSize CP)) : FnOk P w K mg base (L2.CX P w) 5 f fd ["self", "events", "deadline", "tasks", "requirements"] (spOp0 P w CP CR CE) := by
  have nd := scOp0.nd
  refine F.okX scOp0 (fun vs H Q E h => ?_) (fun cdv A outer sh H vs Q E hr h => ?_)
  · obtain ⟨_, _, _, _, _, _, _, _, rfl, _⟩ := h
    rfl
  obtain ⟨r, b1, b2, s, ev, dl, ts, rs, rfl, hB1, hB2, l1, l2, ⟨dx, pl, sn, aW, ra⟩, q⟩ := h
  have tk := takes_of (X := cxOf (L2.CX P w) P w K mg base nOp0 "Request.operation_0" (defScope sOp0) f cdv A outer sh H E) rfl rfl rfl rfl
  refine ⟨_, (pss_cons (ps_expr (pe_fx F_require hr (by first | decide | omega) rfl (fun σ => passAt tk σ) (pa_cons (pe_and (pe_chain op_le op_le pe_int (pv 1) pe_int) (pe_one (pe_chain op_le op_le pe_int (pv 2) pe_int))) (pa_cons (pe_un un_neg pe_int) pa_nil))))
    (pss_cons (ps_set (i := 5) nd rfl (Or.inl rfl) (pe_mkx Mk_Plan hr (by first | decide | omega) rfl (pa_cons (pv 1) (pa_cons (pv 2) (pa_cons (pe_fx F_groups hr (by first | decide | omega) rfl (fun σ => passAt tk σ) (pa_cons (pv 3) (pa_cons pe_int pa_nil))) (pa_cons (pe_fx F_groups hr (by first | decide | omega) rfl (fun σ => passAt tk σ) (pa_cons (pv 4) (pa_cons pe_int pa_nil))) pa_nil))))))
    (pss_cons (ps_expr (pe_fx F_require hr (by first | decide | omega) rfl (fun σ => passAt tk σ) (pa_cons (pe_and (pe_cmpR op_le (pe_callB (call_lenQ rfl) (by rfl) T.m_len (by decide +kernel) (pa_cons (pe_fldB rfl (pv 5) rfl) pa_nil)) pe_int (nomark _)) (pe_and (pe_cmpR op_le (pe_callB (call_lenQ rfl) (by rfl) T.m_len (by decide +kernel) (pa_cons (pe_fldB rfl (pv 5) rfl) pa_nil)) pe_int (nomark _)) (pe_one (pe_mx0 M_is_valid T.clP hr (by first | decide | omega) (no0 (E := fun _ => E0)) (pv 5))))) (pa_cons (pe_un un_neg pe_int) pa_nil))))
    (pss_cons (ps_fld (pv 0) (pv 5) rfl)
    (pss_cons (ps_expr (pe_mx0 M_restart T.clR hr (by first | decide | omega) (no0 (E := fun _ => E0)) (pv 0)))
    (pss_one (ps_ret (pe_lst (pa_cons (pe_mx0 M_size T.clP hr (by first | decide | omega) (no0 (E := fun _ => E0)) (pv 5)) pa_nil))))))))), ?_⟩
  obtain ⟨po1, po2⟩ := plan_of (ev := ev) (dl := dl) (tasks := ts) (reqs := rs)
  have nop : ¬ Asks ev dl ts rs → Vbjpae.isPermitted s (.loadPlan ev dl ts rs) = false := fun h => by
    show (Vbjpae.planOf ev dl ts rs).isSome = false
    rw [po2 h]; rfl
  refine tev_andV (tev_chain (f := fun i j => decide (i ≤ j)) (g := fun i j => decide (i ≤ j)) tev_c (tev_var rfl) tev_c) (tev_chain (f := fun i j => decide (i ≤ j)) (g := fun i j => decide (i ≤ j)) tev_c (tev_var rfl) tev_c) _ ⟨_, rfl, _, _, rfl, fun hc => ?_, fun hc => q.no (nop fun a => ?_) (LT.refl H) ⟨dx, pl, sn, aW, ra⟩⟩
  case refine_2 =>
    have := a.r
    simp only [Bool.and_eq_false_iff, decide_eq_false_iff_not] at hc
    omega
  simp only [Bool.and_eq_true, decide_eq_true_eq] at hc
  refine ⟨_, rfl, _, rfl, _, rfl, b1, ts, 5, rfl, hB1, by omega, by decide, by decide, fun h5 g1 H1 hg1 hG1 sm1 => ?_, fun h5 => q.no (nop fun a => h5 a.t) (LT.refl H) ⟨dx, pl, sn, aW, ra⟩⟩
  refine ⟨_, rfl, b2, rs, 3, rfl, sm1 _ _ hB2, by omega, by decide, by decide, fun h3 g2 H2 hg2 hG2 sm2 => ?_, fun h3 => q.no (nop fun a => h3 a.q) (same_lt sm1) ⟨dx, pl, sn, aW, ra.same sm1⟩⟩
  have sm12 := sm1.trans sm2
  intro x dxp hx0 hdx0 hne
  have hdx1 : (upd H2 dxp (.own x)) x = none := by rw [upd_ne hne.symm]; exact hx0
  have smx : Same H2 (upd (upd H2 dxp (.own x)) x (.ins CP dxp [])) := (same_at _ hdx0).trans (same_at _ hdx1)
  have hx1 : (upd (upd H2 dxp (.own x)) x (.ins CP dxp [])) x = some (.ins CP dxp []) := upd_same
  generalize upd (upd H2 dxp (.own x)) x (.ins CP dxp []) = H3 at smx hx1
  have lt5 : ∀ row ∈ chunks 5 ts, row.length = 5 := fun row h => chunks_row h5 h
  have lq3 : ∀ row ∈ chunks 3 rs, row.length = 3 := fun row h => chunks_row h3 h
  refine ⟨x, dxp, g1, g2, ev, dl, chunks 5 ts, chunks 3 rs, rfl, hx1, (hG1.same sm2).same smx, hG2.same smx, by omega, by omega, lt5, by rw [chunks_len]; have := Nat.div_le_self ts.length 5; omega, fun H4 aW' aO' raw hraw hPA hPX hoN hPD hb => ⟨rfl, ?_⟩⟩
  have sm4 : Same H2 H4 := fun c o e => hb _ _ (smx _ _ e) (ne_of_none e hx0)
  have smA := sm12.trans sm4
  obtain ⟨dxr, aT, aR, aO, hPi, ⟨qs1, hT, hq1⟩, ⟨qs2, hR, hq2⟩, hO⟩ := id hPA
  have lq1 : qs1.length = (chunks 5 ts).length := by rw [Paired.length hq1, hraw]
  have lq2 : qs2.length = (chunks 3 rs).length := by rw [Paired.length hq2, hraw]
  have reqNo : ¬ Asks ev dl ts rs → ∀ H', Same H4 H' → Err CE E H' (-1) := fun h H' s' => q.no (nop h) (same_lt (smA.trans s')) ⟨dx, pl, sn, aW, ra.same (smA.trans s')⟩
  -- the rest, for a plan that is asked for
  have rest : Asks ev dl ts rs → ∀ H5, Same H4 H5 →
      (tSeq (sFld K (tVar 0) (tVar 5) "plan") (tSeq (tDrop (tM CR "restart" (spRestart P w CP CR) (fun _ => E0) (tVar 0) tNil)) (tRet (tLst (tCons (tM CP "size" (spSize CP) (fun _ => E0) (tVar 5) tNil) tNil))))) { nx := fun _ H' => Q V.non H', rt := Q } [some (.ref r), some (.int ev), some (.int dl), some (.ref b1), some (.ref b2), some (.ref x)] H5 := fun a H5 sm5 => by
    obtain ⟨p, hp, hv, hrp⟩ := po1 a
    have ra5 := ra.same (smA.trans sm5)
    have hraw' : raw = rp p := by rw [hrp, hraw]
    have hG5 : GP P w CP H5 x aW' p := ⟨plan_eq (hPA.same sm5) hraw'.symm, ⟨[], hPD.same sm5, Memo.nil p⟩, hv⟩
    have nrx : r ≠ x := req_ne ra5.ob ⟨_, _, rfl⟩ (sm5 _ _ hPi)
    refine ⟨_, rfl, _, rfl, r, CR, dx, _, rfl, ra5.ob, T.clR, T.gP, by show 4 < 1000; decide, ?_⟩
    rw [put_plan]
    have b6 := but_upd H5 r (.ins CR dx (rF x sn s.game.moment s.game.hasMoved))
    have hG6 := gp_wr (u := .ins CR dx (rF x sn s.game.moment s.game.hasMoved)) hG5 ra5.ob nrx
    have hr6 : (upd H5 r (.ins CR dx (rF x sn s.game.moment s.game.hasMoved))) r = some (.ins CR dx (rF x sn s.game.moment s.game.hasMoved)) := upd_same
    generalize upd H5 r (.ins CR dx (rF x sn s.game.moment s.game.hasMoved)) = H6 at b6 hG6 hr6
    refine ⟨_, rfl, r, dx, _, rfl, hr6, rF_none (by decide +kernel), r, dx, x, aW', _, p, rfl, hr6, .inr ⟨_, _, _, rfl⟩, hG6, fun H7 sn' b7 ra7 => ?_⟩
    obtain ⟨dxp7, aT7, aR7, aO7, hA7⟩ := ra7.gp.ins
    refine ⟨_, rfl, x, dxp7, _, rfl, hA7, pF_none (by decide +kernel), x, aW', p, rfl, ra7.gp.plan, hv, by show 1 ≤ sizeLine; rw [sizeLine_eq]; decide, fun l hl => ?_⟩
    have ltF : LT r H H7 := by
      have kl : ∀ b o, H b = some o → b ≠ r → H7 b = some o := fun b o e n => b7 _ _ (b6 _ _ ((smA.trans sm5) _ _ e) n) n
      refine ⟨fun b xs e => kl _ _ e (ne_of e ra.ob fun z => nomatch z), fun b xs e => kl _ _ e (ne_of e ra.ob fun z => nomatch z), fun _ => ?_⟩
      have hx7 : H7 x = some (.ins CP dxp (pF raw g1 g2 aO' aW')) := b7 _ _ (b6 _ _ (sm5 _ _ hPX) nrx.symm) nrx.symm
      refine ⟨⟨_, _, _, _, _, _, _, _, _, _, _, _, _, ra7.ob, hx7⟩, fun y ys ey hy => ?_⟩
      exfalso
      obtain ⟨D, ex, ql, qsn, n, hn, D', e, qr, bT, bR, bO, bW, k1, k2, k3⟩ := hy
      rw [ra7.ob] at k1
      injection k1 with k1
      injection k1 with i1 i2 i3
      have := rF_inj i3
      subst this
      rw [hx7] at k2
      injection k2 with k2
      injection k2 with j1 j2 j3
      have j3 : pF raw g1 g2 aO' aW' = pF qr bT bR bO bW := j3
      unfold pF at j3
      simp only [List.cons.injEq, Prod.mk.injEq, V.ref.injEq, true_and, and_true] at j3
      obtain ⟨_, _, t1, t2, t3, _⟩ := j3
      rcases k3 with rfl | rfl | rfl
      · rw [← t1] at ey; rw [hg1] at ey; cases ey
      · rw [← t2] at ey; rw [sm1 _ _ ey] at hg2; cases hg2
      · rw [← t3] at ey
        rw [smx _ _ (sm12 _ _ ey)] at hoN; cases hoN
    have hperm : Vbjpae.isPermitted s (.loadPlan ev dl ts rs) = true := by
      show (Vbjpae.planOf ev dl ts rs).isSome = true
      rw [hp]; rfl
    have hup : Vbjpae.update s (.loadPlan ev dl ts rs) = ⟨p, Vbjpae.freshGame p⟩ := by
      dsimp only [Vbjpae.update]
      rw [hp]
    refine q.ok hperm rfl (rest := [(Vbjpae.gameSize p : Int)]) (by rw [hup]; rfl) (ltF.trans (same_lt (same_at _ hl))) ?_ upd_same
    rw [hup]
    exact ⟨dx, x, sn', aW', ra7.same (same_at _ hl)⟩
  refine ⟨_, rfl, x, CP, dxr, _, _, rfl, hPi, T.clP, T.fT, pF_tasks, aT, _, rfl, .inl (.inl (.inl hT)), _, _, rfl, rfl, _, rfl, ?_⟩
  rw [List.length_map, lq1]
  refine if_2 (fun c1 => ?_) (fun c1 => ?_)
  case refine_2 =>
    have c1 := of_decide_eq_false c1
    refine ⟨_, rfl, _, _, rfl, fun z => (nomatch z), fun _ => reqNo (fun a => ?_) H4 (Same.refl _)⟩
    have := a.n.1
    omega
  have c1 := of_decide_eq_true c1
  refine ⟨_, rfl, x, CP, dxr, _, _, rfl, hPi, T.clP, T.fR, pF_reqs, aR, _, rfl, .inl (.inl (.inl hR)), _, _, rfl, rfl, _, rfl, ?_⟩
  rw [List.length_map, lq2]
  refine if_2 (fun c2 => ?_) (fun c2 => ?_)
  case refine_2 =>
    have c2 := of_decide_eq_false c2
    refine ⟨_, rfl, _, _, rfl, fun z => (nomatch z), fun _ => reqNo (fun a => ?_) H4 (Same.refl _)⟩
    have := a.n.2
    omega
  have c2 := of_decide_eq_true c2
  refine ⟨_, rfl, x, dxr, _, rfl, hPi, pF_none (by decide +kernel), x, aW', raw, rfl, hPA, by rw [hraw]; show (chunks 5 ts).length ≤ 3; omega, by rw [hraw]; show (chunks 3 rs).length ≤ 20; omega, by rw [hraw]; exact lt5, by rw [hraw]; exact lq3, fun bb hbb H5 sm5 => ?_⟩
  rw [hraw] at hbb
  refine ⟨_, rfl, bb, _, rfl, fun hbt => ?_, fun hbf => reqNo (fun a => ?_) H5 sm5⟩
  · exact rest ⟨⟨hc.1, hc.2⟩, h5, h3, ⟨by omega, by omega⟩, hbb.mp hbt⟩ H5 sm5
  · rw [hbb.mpr a.v] at hbf; cases hbf
theorem pv_initial : SPM.PV Vbjpae.initialPlan where
  c1 := by decide
  c6 := by decide
  d1 := by decide
  d8 := by decide
  t3 := by decide
  r20 := by decide
  task := fun k hk => by cases hk
  dist := by decide
  chain := fun k hk => by cases hk
  req := fun r hr => by cases hr
theorem ok_req_init {f : Addr} {fd : FuncData} (F : Fun K "__init__" "Request.__init__" sReqInit f fd) (T : Txt K mg CP CR CE aS) (Mk_Plan : MakX P w K mg base CX0 1 "Plan" CP (spPlanInit P w CP)) (M_restart : MetX P w K mg base CX0 2 CR "restart" (spRestart P w CP CR)) : FnOk P w K mg base CX0 3 f fd ["self"] (spReqInit P w CP CR) := by
  have nd := scReqInit.nd
  refine F.ok scReqInit (fun vs H Q E h => ?_) (fun cdv A outer sh H vs Q E hr h => ?_)
  · obtain ⟨_, _, rfl, _⟩ := h
    rfl
  obtain ⟨r, dx, rfl, hO, q⟩ := h
  refine ⟨_, (pss_cons (ps_fld (pv 0) (pe_mkx Mk_Plan hr (by first | decide | omega) rfl (pa_cons pe_int (pa_cons pe_int (pa_cons (pe_lst pa_nil) (pa_cons (pe_lst pa_nil) pa_nil))))) rfl)
    (pss_one (ps_expr (pe_mx0 M_restart T.clR hr (by first | decide | omega) (no0 (E := fun _ => E0)) (pv 0))))), ?_⟩
  refine ⟨Nat.zero_le _, fun g1 hg1 => ?_⟩
  have s1 := same_at (.lst []) hg1
  have hG1 : (upd H g1 (.lst [])) g1 = some (.lst []) := upd_same
  generalize upd H g1 (.lst []) = H1 at s1 hG1
  refine ⟨Nat.zero_le _, fun g2 hg2 => ?_⟩
  have s2 := same_at (.lst []) hg2
  have hG2 : (upd H1 g2 (.lst [])) g2 = some (.lst []) := upd_same
  generalize upd H1 g2 (.lst []) = H2 at s2 hG2
  intro x dxp hx0 hdx0 hne
  have hdx1 : (upd H2 dxp (.own x)) x = none := by rw [upd_ne hne.symm]; exact hx0
  have smx : Same H2 (upd (upd H2 dxp (.own x)) x (.ins CP dxp [])) := (same_at _ hdx0).trans (same_at _ hdx1)
  have hx1 : (upd (upd H2 dxp (.own x)) x (.ins CP dxp [])) x = some (.ins CP dxp []) := upd_same
  generalize upd (upd H2 dxp (.own x)) x (.ins CP dxp []) = H3 at smx hx1
  refine ⟨x, dxp, g1, g2, 1, 1, [], [], rfl, hx1, ⟨[], smx _ _ (s2 _ _ hG1), .nil⟩, ⟨[], smx _ _ hG2, .nil⟩, by decide, by decide, fun _ h => (nomatch h), by decide, fun H4 aW' aO' raw hraw hPA hPX hoN hPD hb => ⟨rfl, ?_⟩⟩
  have sm4 : Same H2 H4 := fun c o e => hb _ _ (smx _ _ e) (ne_of_none e hx0)
  have smA := s1.trans (s2.trans sm4)
  have hrp : raw = rp Vbjpae.initialPlan := by rw [hraw]; unfold rp; rw [← own_rp]; rfl
  have hO4 := smA _ _ hO
  refine ⟨_, rfl, r, CR, dx, _, rfl, hO4, T.clR, T.gP, by show 0 < 1000; decide, ?_⟩
  have hG4 : GP P w CP H4 x aW' Vbjpae.initialPlan := ⟨plan_eq hPA hrp.symm, ⟨[], hPD, Memo.nil _⟩, pv_initial⟩
  obtain ⟨dx4, aT, aR, aO, hA4⟩ := hG4.ins
  have nrx : r ≠ x := fun z => by
    rw [← z, hO4] at hA4
    injection hA4 with hA4
    injection hA4 with _ _ hA4
    cases hA4
  have hG5 := gp_wr (u := .ins CR dx (putF ("plan" : Str) (.ref x) [])) hG4 hO4 nrx
  have hr5 : (upd H4 r (.ins CR dx (putF ("plan" : Str) (.ref x) []))) r = some (.ins CR dx (rF1 x)) := upd_same
  have b5 : But r H (upd H4 r (.ins CR dx (putF ("plan" : Str) (.ref x) []))) := fun c o e n => by rw [upd_ne n]; exact smA _ _ e
  generalize upd H4 r (.ins CR dx (putF ("plan" : Str) (.ref x) [])) = H5 at hG5 hr5 b5
  refine ⟨_, rfl, r, dx, _, rfl, hr5, rfl, r, dx, x, aW', _, Vbjpae.initialPlan, rfl, hr5, .inl rfl, hG5, fun H7 sn' b7 ra7 => ?_⟩
  exact q H7 (b5.trans b7) ⟨dx, x, sn', aW', ra7⟩
end
end SP
end

section
set_option Elab.async false
set_option linter.all false
set_option maxRecDepth 100000
set_option maxHeartbeats 4000000
namespace SP
open PySem PySem.Spec PyProof.Rows L2 SPR
open SPM (enc ov)
abbrev sChosen : Stmt := inClass (top 20) 20
abbrev nChosen : List Str := ["self", "place", "given"]
theorem scChosen : FnScope ["self", "place", "given"] ["self", "place", "given"] (defScope sChosen) := ⟨rfl, rfl, rfl, by decide +kernel, rfl, by decide +kernel, by decide +kernel⟩
/-- what an operation is given, as it lies there -/
def Given (H : Hp) : Vbjpae.Call → Int → List V → Prop
  | .loadPlan ev dl ts rs, p, g => p = 0 ∧ ∃ b1 b2, g = [.int ev, .int dl, .ref b1, .ref b2] ∧ H b1 = some (.lst (iv ts)) ∧ H b2 = some (.lst (iv rs)) ∧ ts.length ≤ 6000 ∧ rs.length ≤ 6000
  | .winner, p, g => p = 1 ∧ g = []
  | .restart, p, g => p = 2 ∧ g = []
  | .position, p, g => p = 3 ∧ g = []
  | .moves, p, g => p = 4 ∧ g = []
  | .move m, p, g => p = 5 ∧ g = [.int m]
  | .options, p, g => p = 6 ∧ g = []
  | .report m, p, g => p = 7 ∧ g = [.int m]
  | .bestReport, p, g => p = 8 ∧ g = []
  | .outcome, p, g => p = 9 ∧ g = []
  | .strategy, p, g => p = 10 ∧ g = []
  | .refutation, p, g => p = 11 ∧ g = []
  | .checkStrategy l, p, g => p = 12 ∧ ∃ b, g = [.ref b] ∧ H b = some (.lst (iv l)) ∧ l.length ≤ 6000
  | .checkRefutation l, p, g => p = 13 ∧ ∃ b, g = [.ref b] ∧ H b = some (.lst (iv l)) ∧ l.length ≤ 6000
  | .summary, p, g => p = 14 ∧ g = []
def spChosen (P : Program) (w : World) (CP CR CE : Addr) : Sp := fun vs H Q E => ∃ (r g : Addr) (s : Vbjpae.State) (c : Vbjpae.Call) (place : Int) (gvs : List V), vs = [.ref r, .int place, .ref g] ∧ H g = some (.lst gvs) ∧ Given H c place gvs ∧ ReqOk P w CP CR H r s ∧ OpQ P w CP CR CE r s c H Q E
theorem opq_e0 {P : Program} {w : World} {CP CR CE r : Addr} {s : Vbjpae.State} {c : Vbjpae.Call} {H : Hp} {Q : VK} {E : XK} (h : OpQ P w CP CR CE r s c H Q E) (hp : Vbjpae.isPermitted s c = true) (hr : Vbjpae.refusal s c = 0) {rest : List Int} (e : Vbjpae.response s (Vbjpae.update s c) c = 0 :: rest) : OpQ P w CP CR CE r s c H Q E0 := by
  refine ⟨h.1, fun z hz hs => ?_⟩
  rw [step_ok hp hr] at hs
  have hs : Vbjpae.response s (Vbjpae.update s c) c = [z] := hs
  rw [e] at hs
  injection hs with hs _
  exact absurd hs.symm hz
theorem eq_t {p : Int} : decide (V.int p = V.int p) = true := by simp
theorem eq_f {p k : Int} (h : p ≠ k) : decide (V.int p = V.int k) = false := decide_eq_false fun z => h (V.int.inj z)
section
variable {P : Program} {w : World} {K : PySem.W.Frag} {mg : Str → Option Value} {base : Heap} {CP CR CE aS : Addr}
theorem ok_chosen {f : Addr} {fd : FuncData} (F : Fun K "operation_chosen" "Request.operation_chosen" sChosen f fd) (T : Txt K mg CP CR CE aS) (M_operation_0 : MetX P w K mg base (L2.CX P w) 5 CR "operation_0" (spOp0 P w CP CR CE)) (M_operation_1 : MetX P w K mg base (L2.CX P w) 39 CR "operation_1" (spOp0a P w CP CR CE .winner)) (M_operation_2 : MetX P w K mg base CX0 3 CR "operation_2" (spOp0a P w CP CR CE .restart)) (M_operation_3 : MetX P w K mg base CX0 1 CR "operation_3" (spOp0a P w CP CR CE .position)) (M_operation_4 : MetX P w K mg base (L2.CX P w) 37 CR "operation_4" (spOp0a P w CP CR CE .moves)) (M_operation_5 : MetX P w K mg base (L2.CX P w) 4 CR "operation_5" (spOp1a P w CP CR CE .move)) (M_operation_6 : MetX P w K mg base (L2.CX P w) 4 CR "operation_6" (spOp0a P w CP CR CE .options)) (M_operation_7 : MetX P w K mg base (L2.CX P w) 4 CR "operation_7" (spOp1a P w CP CR CE .report)) (M_operation_8 : MetX P w K mg base (L2.CX P w) 39 CR "operation_8" (spOp0a P w CP CR CE .bestReport)) (M_operation_9 : MetX P w K mg base (L2.CX P w) 4 CR "operation_9" (spOp0a P w CP CR CE .outcome)) (M_operation_10 : MetX P w K mg base (L2.CX P w) 39 CR "operation_10" (spOp0a P w CP CR CE .strategy)) (M_operation_11 : MetX P w K mg base (L2.CX P w) 41 CR "operation_11" (spOp0a P w CP CR CE .refutation)) (M_operation_12 : MetX P w K mg base (L2.CX P w) 5 CR "operation_12" (spOpL P w CP CR CE .checkStrategy)) (M_operation_13 : MetX P w K mg base (L2.CX P w) 5 CR "operation_13" (spOpL P w CP CR CE .checkRefutation)) (M_operation_14 : MetX P w K mg base CX0 3 CR "operation_14" (spOp0a P w CP CR CE .summary)) : FnOk P w K mg base (L2.CX P w) 42 f fd ["self", "place", "given"] (spChosen P w CP CR CE) := by
  have nd := scChosen.nd
  refine F.okX scChosen (fun vs H Q E h => ?_) (fun cdv A outer sh H vs Q E hr h => ?_)
  · obtain ⟨_, _, _, _, _, _, rfl, _⟩ := h
    rfl
  obtain ⟨r, g, s, c, place, gvs, rfl, hg, hgiv, ro, q⟩ := h
  have tk := takes_of (X := cxOf (L2.CX P w) P w K mg base nChosen "Request.operation_chosen" (defScope sChosen) f cdv A outer sh H E) rfl rfl rfl rfl
  refine ⟨_, (pss_cons (ps_if (pt_cmpR op_eq (pv 1) pe_int (nomark _)) (pss_one (ps_ret (pe_mx M_operation_0 T.clR hr (by first | decide | omega) (fun σ => passAt tk σ) (pv 0) (pa_cons (pe_ix (ix_listB rfl) (pv 2) pe_int (fun _ _ => rfl)) (pa_cons (pe_ix (ix_listB rfl) (pv 2) pe_int (fun _ _ => rfl)) (pa_cons (pe_ix (ix_listB rfl) (pv 2) pe_int (fun _ _ => rfl)) (pa_cons (pe_ix (ix_listB rfl) (pv 2) pe_int (fun _ _ => rfl)) pa_nil))))))) pss_nil)
    (pss_cons (ps_if (pt_cmpR op_eq (pv 1) pe_int (nomark _)) (pss_one (ps_ret (pe_mx0 M_operation_1 T.clR hr (by first | decide | omega) (fun σ => passAt tk σ) (pv 0)))) pss_nil)
    (pss_cons (ps_if (pt_cmpR op_eq (pv 1) pe_int (nomark _)) (pss_one (ps_ret (pe_mx0 M_operation_2 T.clR hr (by first | decide | omega) (no0 (E := fun _ => E0)) (pv 0)))) pss_nil)
    (pss_cons (ps_if (pt_cmpR op_eq (pv 1) pe_int (nomark _)) (pss_one (ps_ret (pe_mx0 M_operation_3 T.clR hr (by first | decide | omega) (no0 (E := fun _ => E0)) (pv 0)))) pss_nil)
    (pss_cons (ps_if (pt_cmpR op_eq (pv 1) pe_int (nomark _)) (pss_one (ps_ret (pe_mx0 M_operation_4 T.clR hr (by first | decide | omega) (fun σ => passAt tk σ) (pv 0)))) pss_nil)
    (pss_cons (ps_if (pt_cmpR op_eq (pv 1) pe_int (nomark _)) (pss_one (ps_ret (pe_mx M_operation_5 T.clR hr (by first | decide | omega) (fun σ => passAt tk σ) (pv 0) (pa_cons (pe_ix (ix_listB rfl) (pv 2) pe_int (fun _ _ => rfl)) pa_nil)))) pss_nil)
    (pss_cons (ps_if (pt_cmpR op_eq (pv 1) pe_int (nomark _)) (pss_one (ps_ret (pe_mx0 M_operation_6 T.clR hr (by first | decide | omega) (fun σ => passAt tk σ) (pv 0)))) pss_nil)
    (pss_cons (ps_if (pt_cmpR op_eq (pv 1) pe_int (nomark _)) (pss_one (ps_ret (pe_mx M_operation_7 T.clR hr (by first | decide | omega) (fun σ => passAt tk σ) (pv 0) (pa_cons (pe_ix (ix_listB rfl) (pv 2) pe_int (fun _ _ => rfl)) pa_nil)))) pss_nil)
    (pss_cons (ps_if (pt_cmpR op_eq (pv 1) pe_int (nomark _)) (pss_one (ps_ret (pe_mx0 M_operation_8 T.clR hr (by first | decide | omega) (fun σ => passAt tk σ) (pv 0)))) pss_nil)
    (pss_cons (ps_if (pt_cmpR op_eq (pv 1) pe_int (nomark _)) (pss_one (ps_ret (pe_mx0 M_operation_9 T.clR hr (by first | decide | omega) (fun σ => passAt tk σ) (pv 0)))) pss_nil)
    (pss_cons (ps_if (pt_cmpR op_eq (pv 1) pe_int (nomark _)) (pss_one (ps_ret (pe_mx0 M_operation_10 T.clR hr (by first | decide | omega) (fun σ => passAt tk σ) (pv 0)))) pss_nil)
    (pss_cons (ps_if (pt_cmpR op_eq (pv 1) pe_int (nomark _)) (pss_one (ps_ret (pe_mx0 M_operation_11 T.clR hr (by first | decide | omega) (fun σ => passAt tk σ) (pv 0)))) pss_nil)
    (pss_cons (ps_if (pt_cmpR op_eq (pv 1) pe_int (nomark _)) (pss_one (ps_ret (pe_mx M_operation_12 T.clR hr (by first | decide | omega) (fun σ => passAt tk σ) (pv 0) (pa_cons (pe_ix (ix_listB rfl) (pv 2) pe_int (fun _ _ => rfl)) pa_nil)))) pss_nil)
    (pss_cons (ps_if (pt_cmpR op_eq (pv 1) pe_int (nomark _)) (pss_one (ps_ret (pe_mx M_operation_13 T.clR hr (by first | decide | omega) (fun σ => passAt tk σ) (pv 0) (pa_cons (pe_ix (ix_listB rfl) (pv 2) pe_int (fun _ _ => rfl)) pa_nil)))) pss_nil)
    (pss_cons (ps_if (pt_cmpR op_eq (pv 1) pe_int (nomark _)) (pss_one (ps_ret (pe_mx0 M_operation_14 T.clR hr (by first | decide | omega) (no0 (E := fun _ => E0)) (pv 0)))) pss_nil)
    (pss_one ps_never)))))))))))))))), ?_⟩
  obtain ⟨dx, pl, sn, aW, ra⟩ := id ro
  cases c with
  | loadPlan ev dl ts rs =>
    obtain ⟨rfl, b1, b2, rfl, hb1, hb2, l1, l2⟩ := hgiv
    refine ⟨_, rfl, rfl, _, rfl, if_t eq_t ?_⟩
    refine ⟨_, rfl, r, dx, _, rfl, ra.ob, rF_none (by decide +kernel), ?_⟩
    exact ⟨_, rfl, g, _, 0, _, rfl, rfl, .inl (.inl hg), atI_nat (j := 0) rfl, _, rfl, g, _, 1, _, rfl, rfl, .inl (.inl hg), atI_nat (j := 1) rfl, _, rfl, g, _, 2, _, rfl, rfl, .inl (.inl hg), atI_nat (j := 2) rfl, _, rfl, g, _, 3, _, rfl, rfl, .inl (.inl hg), atI_nat (j := 3) rfl, r, b1, b2, s, ev, dl, ts, rs, rfl, hb1, hb2, l1, l2, ro, q⟩
  | winner =>
    obtain ⟨rfl, rfl⟩ := hgiv
    refine ⟨_, rfl, rfl, _, rfl, if_f (eq_f (by decide)) ?_⟩
    refine ⟨_, rfl, rfl, _, rfl, if_t eq_t ?_⟩
    refine ⟨_, rfl, r, dx, _, rfl, ra.ob, rF_none (by decide +kernel), ?_⟩
    exact ⟨r, s, rfl, ro, q⟩
  | restart =>
    obtain ⟨rfl, rfl⟩ := hgiv
    refine ⟨_, rfl, rfl, _, rfl, if_f (eq_f (by decide)) ?_⟩
    refine ⟨_, rfl, rfl, _, rfl, if_f (eq_f (by decide)) ?_⟩
    refine ⟨_, rfl, rfl, _, rfl, if_t eq_t ?_⟩
    refine ⟨_, rfl, r, dx, _, rfl, ra.ob, rF_none (by decide +kernel), ?_⟩
    exact ⟨r, s, rfl, ro, opq_e0 q rfl rfl rfl⟩
  | position =>
    obtain ⟨rfl, rfl⟩ := hgiv
    refine ⟨_, rfl, rfl, _, rfl, if_f (eq_f (by decide)) ?_⟩
    refine ⟨_, rfl, rfl, _, rfl, if_f (eq_f (by decide)) ?_⟩
    refine ⟨_, rfl, rfl, _, rfl, if_f (eq_f (by decide)) ?_⟩
    refine ⟨_, rfl, rfl, _, rfl, if_t eq_t ?_⟩
    refine ⟨_, rfl, r, dx, _, rfl, ra.ob, rF_none (by decide +kernel), ?_⟩
    exact ⟨r, s, rfl, ro, opq_e0 q rfl rfl rfl⟩
  | moves =>
    obtain ⟨rfl, rfl⟩ := hgiv
    refine ⟨_, rfl, rfl, _, rfl, if_f (eq_f (by decide)) ?_⟩
    refine ⟨_, rfl, rfl, _, rfl, if_f (eq_f (by decide)) ?_⟩
    refine ⟨_, rfl, rfl, _, rfl, if_f (eq_f (by decide)) ?_⟩
    refine ⟨_, rfl, rfl, _, rfl, if_f (eq_f (by decide)) ?_⟩
    refine ⟨_, rfl, rfl, _, rfl, if_t eq_t ?_⟩
    refine ⟨_, rfl, r, dx, _, rfl, ra.ob, rF_none (by decide +kernel), ?_⟩
    exact ⟨r, s, rfl, ro, q⟩
  | move m =>
    obtain ⟨rfl, rfl⟩ := hgiv
    refine ⟨_, rfl, rfl, _, rfl, if_f (eq_f (by decide)) ?_⟩
    refine ⟨_, rfl, rfl, _, rfl, if_f (eq_f (by decide)) ?_⟩
    refine ⟨_, rfl, rfl, _, rfl, if_f (eq_f (by decide)) ?_⟩
    refine ⟨_, rfl, rfl, _, rfl, if_f (eq_f (by decide)) ?_⟩
    refine ⟨_, rfl, rfl, _, rfl, if_f (eq_f (by decide)) ?_⟩
    refine ⟨_, rfl, rfl, _, rfl, if_t eq_t ?_⟩
    refine ⟨_, rfl, r, dx, _, rfl, ra.ob, rF_none (by decide +kernel), ?_⟩
    exact ⟨_, rfl, g, _, 0, _, rfl, rfl, .inl (.inl hg), atI_nat (j := 0) rfl, r, s, m, rfl, ro, q⟩
  | options =>
    obtain ⟨rfl, rfl⟩ := hgiv
    refine ⟨_, rfl, rfl, _, rfl, if_f (eq_f (by decide)) ?_⟩
    refine ⟨_, rfl, rfl, _, rfl, if_f (eq_f (by decide)) ?_⟩
    refine ⟨_, rfl, rfl, _, rfl, if_f (eq_f (by decide)) ?_⟩
    refine ⟨_, rfl, rfl, _, rfl, if_f (eq_f (by decide)) ?_⟩
    refine ⟨_, rfl, rfl, _, rfl, if_f (eq_f (by decide)) ?_⟩
    refine ⟨_, rfl, rfl, _, rfl, if_f (eq_f (by decide)) ?_⟩
    refine ⟨_, rfl, rfl, _, rfl, if_t eq_t ?_⟩
    refine ⟨_, rfl, r, dx, _, rfl, ra.ob, rF_none (by decide +kernel), ?_⟩
    exact ⟨r, s, rfl, ro, q⟩
  | report m =>
    obtain ⟨rfl, rfl⟩ := hgiv
    refine ⟨_, rfl, rfl, _, rfl, if_f (eq_f (by decide)) ?_⟩
    refine ⟨_, rfl, rfl, _, rfl, if_f (eq_f (by decide)) ?_⟩
    refine ⟨_, rfl, rfl, _, rfl, if_f (eq_f (by decide)) ?_⟩
    refine ⟨_, rfl, rfl, _, rfl, if_f (eq_f (by decide)) ?_⟩
    refine ⟨_, rfl, rfl, _, rfl, if_f (eq_f (by decide)) ?_⟩
    refine ⟨_, rfl, rfl, _, rfl, if_f (eq_f (by decide)) ?_⟩
    refine ⟨_, rfl, rfl, _, rfl, if_f (eq_f (by decide)) ?_⟩
    refine ⟨_, rfl, rfl, _, rfl, if_t eq_t ?_⟩
    refine ⟨_, rfl, r, dx, _, rfl, ra.ob, rF_none (by decide +kernel), ?_⟩
    exact ⟨_, rfl, g, _, 0, _, rfl, rfl, .inl (.inl hg), atI_nat (j := 0) rfl, r, s, m, rfl, ro, q⟩
  | bestReport =>
    obtain ⟨rfl, rfl⟩ := hgiv
    refine ⟨_, rfl, rfl, _, rfl, if_f (eq_f (by decide)) ?_⟩
    refine ⟨_, rfl, rfl, _, rfl, if_f (eq_f (by decide)) ?_⟩
    refine ⟨_, rfl, rfl, _, rfl, if_f (eq_f (by decide)) ?_⟩
    refine ⟨_, rfl, rfl, _, rfl, if_f (eq_f (by decide)) ?_⟩
    refine ⟨_, rfl, rfl, _, rfl, if_f (eq_f (by decide)) ?_⟩
    refine ⟨_, rfl, rfl, _, rfl, if_f (eq_f (by decide)) ?_⟩
    refine ⟨_, rfl, rfl, _, rfl, if_f (eq_f (by decide)) ?_⟩
    refine ⟨_, rfl, rfl, _, rfl, if_f (eq_f (by decide)) ?_⟩
    refine ⟨_, rfl, rfl, _, rfl, if_t eq_t ?_⟩
    refine ⟨_, rfl, r, dx, _, rfl, ra.ob, rF_none (by decide +kernel), ?_⟩
    exact ⟨r, s, rfl, ro, q⟩
  | outcome =>
    obtain ⟨rfl, rfl⟩ := hgiv
    refine ⟨_, rfl, rfl, _, rfl, if_f (eq_f (by decide)) ?_⟩
    refine ⟨_, rfl, rfl, _, rfl, if_f (eq_f (by decide)) ?_⟩
    refine ⟨_, rfl, rfl, _, rfl, if_f (eq_f (by decide)) ?_⟩
    refine ⟨_, rfl, rfl, _, rfl, if_f (eq_f (by decide)) ?_⟩
    refine ⟨_, rfl, rfl, _, rfl, if_f (eq_f (by decide)) ?_⟩
    refine ⟨_, rfl, rfl, _, rfl, if_f (eq_f (by decide)) ?_⟩
    refine ⟨_, rfl, rfl, _, rfl, if_f (eq_f (by decide)) ?_⟩
    refine ⟨_, rfl, rfl, _, rfl, if_f (eq_f (by decide)) ?_⟩
    refine ⟨_, rfl, rfl, _, rfl, if_f (eq_f (by decide)) ?_⟩
    refine ⟨_, rfl, rfl, _, rfl, if_t eq_t ?_⟩
    refine ⟨_, rfl, r, dx, _, rfl, ra.ob, rF_none (by decide +kernel), ?_⟩
    exact ⟨r, s, rfl, ro, q⟩
  | strategy =>
    obtain ⟨rfl, rfl⟩ := hgiv
    refine ⟨_, rfl, rfl, _, rfl, if_f (eq_f (by decide)) ?_⟩
    refine ⟨_, rfl, rfl, _, rfl, if_f (eq_f (by decide)) ?_⟩
    refine ⟨_, rfl, rfl, _, rfl, if_f (eq_f (by decide)) ?_⟩
    refine ⟨_, rfl, rfl, _, rfl, if_f (eq_f (by decide)) ?_⟩
    refine ⟨_, rfl, rfl, _, rfl, if_f (eq_f (by decide)) ?_⟩
    refine ⟨_, rfl, rfl, _, rfl, if_f (eq_f (by decide)) ?_⟩
    refine ⟨_, rfl, rfl, _, rfl, if_f (eq_f (by decide)) ?_⟩
    refine ⟨_, rfl, rfl, _, rfl, if_f (eq_f (by decide)) ?_⟩
    refine ⟨_, rfl, rfl, _, rfl, if_f (eq_f (by decide)) ?_⟩
    refine ⟨_, rfl, rfl, _, rfl, if_f (eq_f (by decide)) ?_⟩
    refine ⟨_, rfl, rfl, _, rfl, if_t eq_t ?_⟩
    refine ⟨_, rfl, r, dx, _, rfl, ra.ob, rF_none (by decide +kernel), ?_⟩
    exact ⟨r, s, rfl, ro, q⟩
  | refutation =>
    obtain ⟨rfl, rfl⟩ := hgiv
    refine ⟨_, rfl, rfl, _, rfl, if_f (eq_f (by decide)) ?_⟩
    refine ⟨_, rfl, rfl, _, rfl, if_f (eq_f (by decide)) ?_⟩
    refine ⟨_, rfl, rfl, _, rfl, if_f (eq_f (by decide)) ?_⟩
    refine ⟨_, rfl, rfl, _, rfl, if_f (eq_f (by decide)) ?_⟩
    refine ⟨_, rfl, rfl, _, rfl, if_f (eq_f (by decide)) ?_⟩
    refine ⟨_, rfl, rfl, _, rfl, if_f (eq_f (by decide)) ?_⟩
    refine ⟨_, rfl, rfl, _, rfl, if_f (eq_f (by decide)) ?_⟩
    refine ⟨_, rfl, rfl, _, rfl, if_f (eq_f (by decide)) ?_⟩
    refine ⟨_, rfl, rfl, _, rfl, if_f (eq_f (by decide)) ?_⟩
    refine ⟨_, rfl, rfl, _, rfl, if_f (eq_f (by decide)) ?_⟩
    refine ⟨_, rfl, rfl, _, rfl, if_f (eq_f (by decide)) ?_⟩
    refine ⟨_, rfl, rfl, _, rfl, if_t eq_t ?_⟩
    refine ⟨_, rfl, r, dx, _, rfl, ra.ob, rF_none (by decide +kernel), ?_⟩
    exact ⟨r, s, rfl, ro, q⟩
  | checkStrategy l =>
    obtain ⟨rfl, b, rfl, hb, hl⟩ := hgiv
    refine ⟨_, rfl, rfl, _, rfl, if_f (eq_f (by decide)) ?_⟩
    refine ⟨_, rfl, rfl, _, rfl, if_f (eq_f (by decide)) ?_⟩
    refine ⟨_, rfl, rfl, _, rfl, if_f (eq_f (by decide)) ?_⟩
    refine ⟨_, rfl, rfl, _, rfl, if_f (eq_f (by decide)) ?_⟩
    refine ⟨_, rfl, rfl, _, rfl, if_f (eq_f (by decide)) ?_⟩
    refine ⟨_, rfl, rfl, _, rfl, if_f (eq_f (by decide)) ?_⟩
    refine ⟨_, rfl, rfl, _, rfl, if_f (eq_f (by decide)) ?_⟩
    refine ⟨_, rfl, rfl, _, rfl, if_f (eq_f (by decide)) ?_⟩
    refine ⟨_, rfl, rfl, _, rfl, if_f (eq_f (by decide)) ?_⟩
    refine ⟨_, rfl, rfl, _, rfl, if_f (eq_f (by decide)) ?_⟩
    refine ⟨_, rfl, rfl, _, rfl, if_f (eq_f (by decide)) ?_⟩
    refine ⟨_, rfl, rfl, _, rfl, if_f (eq_f (by decide)) ?_⟩
    refine ⟨_, rfl, rfl, _, rfl, if_t eq_t ?_⟩
    refine ⟨_, rfl, r, dx, _, rfl, ra.ob, rF_none (by decide +kernel), ?_⟩
    exact ⟨_, rfl, g, _, 0, _, rfl, rfl, .inl (.inl hg), atI_nat (j := 0) rfl, r, b, s, l, rfl, hb, hl, ro, q⟩
  | checkRefutation l =>
    obtain ⟨rfl, b, rfl, hb, hl⟩ := hgiv
    refine ⟨_, rfl, rfl, _, rfl, if_f (eq_f (by decide)) ?_⟩
    refine ⟨_, rfl, rfl, _, rfl, if_f (eq_f (by decide)) ?_⟩
    refine ⟨_, rfl, rfl, _, rfl, if_f (eq_f (by decide)) ?_⟩
    refine ⟨_, rfl, rfl, _, rfl, if_f (eq_f (by decide)) ?_⟩
    refine ⟨_, rfl, rfl, _, rfl, if_f (eq_f (by decide)) ?_⟩
    refine ⟨_, rfl, rfl, _, rfl, if_f (eq_f (by decide)) ?_⟩
    refine ⟨_, rfl, rfl, _, rfl, if_f (eq_f (by decide)) ?_⟩
    refine ⟨_, rfl, rfl, _, rfl, if_f (eq_f (by decide)) ?_⟩
    refine ⟨_, rfl, rfl, _, rfl, if_f (eq_f (by decide)) ?_⟩
    refine ⟨_, rfl, rfl, _, rfl, if_f (eq_f (by decide)) ?_⟩
    refine ⟨_, rfl, rfl, _, rfl, if_f (eq_f (by decide)) ?_⟩
    refine ⟨_, rfl, rfl, _, rfl, if_f (eq_f (by decide)) ?_⟩
    refine ⟨_, rfl, rfl, _, rfl, if_f (eq_f (by decide)) ?_⟩
    refine ⟨_, rfl, rfl, _, rfl, if_t eq_t ?_⟩
    refine ⟨_, rfl, r, dx, _, rfl, ra.ob, rF_none (by decide +kernel), ?_⟩
    exact ⟨_, rfl, g, _, 0, _, rfl, rfl, .inl (.inl hg), atI_nat (j := 0) rfl, r, b, s, l, rfl, hb, hl, ro, q⟩
  | summary =>
    obtain ⟨rfl, rfl⟩ := hgiv
    refine ⟨_, rfl, rfl, _, rfl, if_f (eq_f (by decide)) ?_⟩
    refine ⟨_, rfl, rfl, _, rfl, if_f (eq_f (by decide)) ?_⟩
    refine ⟨_, rfl, rfl, _, rfl, if_f (eq_f (by decide)) ?_⟩
    refine ⟨_, rfl, rfl, _, rfl, if_f (eq_f (by decide)) ?_⟩
    refine ⟨_, rfl, rfl, _, rfl, if_f (eq_f (by decide)) ?_⟩
    refine ⟨_, rfl, rfl, _, rfl, if_f (eq_f (by decide)) ?_⟩
    refine ⟨_, rfl, rfl, _, rfl, if_f (eq_f (by decide)) ?_⟩
    refine ⟨_, rfl, rfl, _, rfl, if_f (eq_f (by decide)) ?_⟩
    refine ⟨_, rfl, rfl, _, rfl, if_f (eq_f (by decide)) ?_⟩
    refine ⟨_, rfl, rfl, _, rfl, if_f (eq_f (by decide)) ?_⟩
    refine ⟨_, rfl, rfl, _, rfl, if_f (eq_f (by decide)) ?_⟩
    refine ⟨_, rfl, rfl, _, rfl, if_f (eq_f (by decide)) ?_⟩
    refine ⟨_, rfl, rfl, _, rfl, if_f (eq_f (by decide)) ?_⟩
    refine ⟨_, rfl, rfl, _, rfl, if_f (eq_f (by decide)) ?_⟩
    refine ⟨_, rfl, rfl, _, rfl, if_t eq_t ?_⟩
    refine ⟨_, rfl, r, dx, _, rfl, ra.ob, rF_none (by decide +kernel), ?_⟩
    exact ⟨r, s, rfl, ro, opq_e0 q rfl rfl rfl⟩
end
end SP
end

section
set_option Elab.async false
set_option linter.all false
set_option maxRecDepth 100000
set_option maxHeartbeats 4000000
namespace SP
open PySem PySem.Spec PyProof.Rows L2 SPR
open SPM (enc ov)
abbrev sRun : Stmt := inClass (top 20) 2
abbrev nRun : List Str := ["self", "rows", "error"]
theorem scRun : FnScope ["self", "rows", "error"] ["self", "rows"] (defScope sRun) := ⟨rfl, rfl, rfl, by decide +kernel, rfl, by decide +kernel, by decide +kernel⟩
abbrev sRequests : Stmt := top 22
abbrev nRequests : List Str := ["calls", "out", "at", "numbers", "lists", "end", "rows", "turn"]
theorem scRequests : FnScope ["calls", "out", "at", "numbers", "lists", "end", "rows", "turn"] ["calls"] (defScope sRequests) := ⟨rfl, rfl, rfl, by decide +kernel, rfl, by decide +kernel, by decide +kernel⟩
def LL (H : Hp) (q : Addr) (rows : List (List Int)) : Prop := ∃ rs : List Addr, H q = some (.lst (rs.map V.ref)) ∧ Paired (fun r xs => H r = some (.lst (iv xs))) rs rows
theorem LL.keep {H H' : Hp} {q : Addr} {rows : List (List Int)} (h : LL H q rows) (k : ∀ b xs, H b = some (.lst xs) → H' b = some (.lst xs)) : LL H' q rows := let ⟨rs, a, b⟩ := h; ⟨rs, k _ _ a, Paired.mapP b fun _ _ z => k _ _ z⟩
def spRun (P : Program) (w : World) (CP CR : Addr) : Sp := fun vs H Q _ => ∃ (r l : Addr) (s : Vbjpae.State) (rows : List (List Int)), vs = [.ref r, .ref l] ∧ LL H l rows ∧ VbjpaeNeutral.asked1 rows = true ∧ ReqOk P w CP CR H r s ∧ (VbjpaeNeutral.step s rows).2.length ≤ 10000000 ∧
  ∀ c H', LT r H H' → ReqOk P w CP CR H' r (VbjpaeNeutral.step s rows).1 → H' c = some (.lst (iv (VbjpaeNeutral.step s rows).2)) → Q (.ref c) H'
theorem list_ok {l : List Int} (h : VbjpaeNeutral.listOk l = true) : l.length ≤ 6000 := by
  unfold VbjpaeNeutral.listOk at h
  simp only [Bool.and_eq_true, decide_eq_true_eq] at h
  exact h.1
theorem asked_given {rows : List (List Int)} (h : VbjpaeNeutral.asked1 rows = true) : ∃ c p xs rest, VbjpaeNeutral.callOf rows = some c ∧ rows = (p :: xs) :: rest ∧ ∀ (H : Hp) (qs : List Addr), Paired (fun r xs => H r = some (.lst (iv xs))) qs rest → Given H c p (iv xs ++ qs.map V.ref) := by
  unfold VbjpaeNeutral.asked1 at h
  split at h
  · rename_i ev dl ts rs
    simp only [Bool.and_eq_true] at h
    refine ⟨_, _, _, _, rfl, rfl, fun H qs hp => ?_⟩
    cases hp with
    | cons h1 t =>
      cases t with
      | cons h2 t =>
        cases t
        exact ⟨rfl, _, _, rfl, h1, h2, list_ok h.2.2.1, list_ok h.2.2.2⟩
  · exact ⟨_, _, _, _, rfl, rfl, fun H qs hp => by cases hp; exact ⟨rfl, rfl⟩⟩
  · exact ⟨_, _, _, _, rfl, rfl, fun H qs hp => by cases hp; exact ⟨rfl, rfl⟩⟩
  · exact ⟨_, _, _, _, rfl, rfl, fun H qs hp => by cases hp; exact ⟨rfl, rfl⟩⟩
  · exact ⟨_, _, _, _, rfl, rfl, fun H qs hp => by cases hp; exact ⟨rfl, rfl⟩⟩
  · exact ⟨_, _, _, _, rfl, rfl, fun H qs hp => by cases hp; exact ⟨rfl, rfl⟩⟩
  · exact ⟨_, _, _, _, rfl, rfl, fun H qs hp => by cases hp; exact ⟨rfl, rfl⟩⟩
  · exact ⟨_, _, _, _, rfl, rfl, fun H qs hp => by cases hp; exact ⟨rfl, rfl⟩⟩
  · exact ⟨_, _, _, _, rfl, rfl, fun H qs hp => by cases hp; exact ⟨rfl, rfl⟩⟩
  · exact ⟨_, _, _, _, rfl, rfl, fun H qs hp => by cases hp; exact ⟨rfl, rfl⟩⟩
  · exact ⟨_, _, _, _, rfl, rfl, fun H qs hp => by cases hp; exact ⟨rfl, rfl⟩⟩
  · exact ⟨_, _, _, _, rfl, rfl, fun H qs hp => by cases hp; exact ⟨rfl, rfl⟩⟩
  · refine ⟨_, _, _, _, rfl, rfl, fun H qs hp => ?_⟩
    cases hp with
    | cons h1 t => cases t; exact ⟨rfl, _, rfl, h1, list_ok h⟩
  · refine ⟨_, _, _, _, rfl, rfl, fun H qs hp => ?_⟩
    cases hp with
    | cons h1 t => cases t; exact ⟨rfl, _, rfl, h1, list_ok h⟩
  · exact ⟨_, _, _, _, rfl, rfl, fun H qs hp => by cases hp; exact ⟨rfl, rfl⟩⟩
  · cases h
theorem step_shape (s : Vbjpae.State) (c : Vbjpae.Call) : (∃ rest, (Vbjpae.step s c).2 = 0 :: rest) ∨ ∃ z, z ≠ 0 ∧ (Vbjpae.step s c).2 = [z] := by
  cases hp : Vbjpae.isPermitted s c with
  | false => right; rw [step_no hp]; exact ⟨-1, by decide, rfl⟩
  | true =>
    by_cases hr : Vbjpae.refusal s c = 0
    · left
      rw [step_ok hp hr]
      cases c with
      | outcome => dsimp only [Vbjpae.response]; split <;> exact ⟨_, rfl⟩
      | checkStrategy l => dsimp only [Vbjpae.response]; split <;> exact ⟨_, rfl⟩
      | checkRefutation l => dsimp only [Vbjpae.response]; split <;> exact ⟨_, rfl⟩
      | _ => exact ⟨_, rfl⟩
    · right; rw [step_ref hp hr]; exact ⟨_, hr, rfl⟩
section
variable {P : Program} {w : World} {K : PySem.W.Frag} {mg : Str → Option Value} {base : Heap} {CP CR CE aS : Addr}
theorem ok_run {f : Addr} {fd : FuncData} (F : Fun K "run" "Request.run" sRun f fd) (T : Txt K mg CP CR CE aS) (hTE : PySem.W.exmOne K (.ref CE) (.ref CE) = some true) (M_operation_chosen : MetX P w K mg base (L2.CX P w) 42 CR "operation_chosen" (spChosen P w CP CR CE)) : FnOk P w K mg base CX0 43 f fd ["self", "rows"] (spRun P w CP CR) := by
  have nd := scRun.nd
  refine F.ok scRun (fun vs H Q E h => ?_) (fun cdv A outer sh H vs Q E hr h => ?_)
  · obtain ⟨_, _, _, _, rfl, _⟩ := h
    rfl
  obtain ⟨r, l, s, rows, rfl, ⟨rs, hL, hp⟩, hask, ⟨dx, pl, sn, aW, ra⟩, hbd, q⟩ := h
  refine ⟨_, (pss_one (ps_try_as (i := 2) rfl rfl nd rfl rfl ⟨rfl, by decide, .inl T.gE⟩ takes0 (fun W pn xe tk _ => (pss_one (ps_ret (pe_op op_cat (pe_lst (pa_cons pe_int pa_nil)) (pe_mx M_operation_chosen T.clR hr (by first | decide | omega) (fun σ => passAt tk σ) (pv 0) (pa_cons (pe_ix (ix_listB rfl) (pe_ix (ix_listB rfl) (pv 1) pe_int (fun _ _ => rfl)) pe_int (fun _ _ => rfl)) (pa_cons (pe_op op_cat (pe_slice (sl_listB rfl) (pe_ix (ix_listB rfl) (pv 1) pe_int (fun _ _ => rfl)) (po_some pe_int) po_none) (pe_slice (sl_listB rfl) (pv 1) (po_some pe_int) po_none)) pa_nil))))))) (fun a oe cls d pn hz hf => (pss_one (ps_ret (pe_lst (pa_cons (pe_xf T.xf T.nCode hz hf (pv 2)) pa_nil))))))), ?_⟩
  obtain ⟨c, p, xs, rest, hcall, rfl, hgiv⟩ := asked_given hask
  have hstep : VbjpaeNeutral.step s ((p :: xs) :: rest) = Vbjpae.step s c := by
    unfold VbjpaeNeutral.step
    rw [hcall]
  rw [hstep] at q hbd
  have one1 : 1 ≤ sizeLine := by rw [sizeLine_eq]; decide
  cases hp with
  | @cons r0 _ qs _ hr0 hp =>
  refine ⟨one1, fun l0 hl0 => ?_⟩
  have s1 := same_at (.lst [V.int 0]) hl0
  have hL0 : (upd H l0 (.lst [V.int 0])) l0 = some (.lst [V.int 0]) := upd_same
  generalize upd H l0 (.lst [V.int 0]) = H1 at s1 hL0
  have sq1 : SqL K H1 l ((r0 :: qs).map V.ref) := .inl (.inl (s1 _ _ hL))
  have sq2 : SqL K H1 r0 (iv (p :: xs)) := .inl (.inl (s1 _ _ hr0))
  have ra1 := ra.same s1
  refine ⟨_, rfl, r, dx, _, rfl, ra1.ob, rF_none (by decide +kernel), ?_⟩
  refine ⟨_, rfl, l, _, 0, _, rfl, rfl, sq1, atI_nat (j := 0) rfl, r0, _, 0, _, rfl, rfl, sq2, atI_nat (j := 0) rfl, ?_⟩
  refine ⟨_, rfl, l, _, 0, _, rfl, rfl, sq1, atI_nat (j := 0) rfl, _, rfl, ?_⟩
  dsimp only [tNoPart]
  refine ⟨r0, _, rfl, sq2, fun b1 hb1 => ?_⟩
  rw [cut_1]
  have s2 := same_at (.lst ((iv (p :: xs)).drop 1)) hb1
  have hB1 : (upd H1 b1 (.lst ((iv (p :: xs)).drop 1))) b1 = some (.lst (iv xs)) := upd_same
  generalize upd H1 b1 (.lst ((iv (p :: xs)).drop 1)) = H2 at s2 hB1
  refine ⟨_, rfl, _, rfl, ?_⟩
  dsimp only [tNoPart]
  refine ⟨l, _, rfl, .inl (.inl (s2 _ _ (s1 _ _ hL))), fun b2 hb2 => ?_⟩
  rw [cut_1]
  have s3 := same_at (.lst (((r0 :: qs).map V.ref).drop 1)) hb2
  have hB2 : (upd H2 b2 (.lst (((r0 :: qs).map V.ref).drop 1))) b2 = some (.lst (qs.map V.ref)) := upd_same
  generalize upd H2 b2 (.lst (((r0 :: qs).map V.ref).drop 1)) = H3 at s3 hB2
  have lqs : qs.length = rest.length := Paired.length hp
  have lxs : (iv xs).length + (qs.map V.ref).length ≤ 1000 := by
    have := hgiv H qs hp
    rw [iv_len, List.length_map]
    have gl : ∀ {c : Vbjpae.Call} {p : Int} {g : List V}, Given H c p g → g.length ≤ 4 := fun {c p g} h => by
      cases c <;> (first | (obtain ⟨_, rfl⟩ := h; simp; done) | (obtain ⟨_, _, rfl, _⟩ := h; simp; done) | (obtain ⟨_, _, _, rfl, _⟩ := h; simp; done))
    have := gl this
    rw [List.length_append, iv_len, List.length_map] at this
    omega
  refine ⟨b1, b2, _, _, rfl, rfl, s3 _ _ hB1, hB2, by rw [sizeLine_eq]; omega, fun g hg => ?_⟩
  have s4 := same_at (.lst (iv xs ++ qs.map V.ref)) hg
  have hG : (upd H3 g (.lst (iv xs ++ qs.map V.ref))) g = some (.lst (iv xs ++ qs.map V.ref)) := upd_same
  generalize upd H3 g (.lst (iv xs ++ qs.map V.ref)) = H4 at s4 hG
  have sA := s1.trans (s2.trans (s3.trans s4))
  have hL04 := s4 _ _ (s3 _ _ (s2 _ _ hL0))
  refine ⟨r, g, s, c, p, _, rfl, hG, hgiv H4 qs (Paired.mapP hp fun _ _ z => sA _ _ z), ⟨dx, pl, sn, aW, ra.same sA⟩, fun rst hrst l' H' lt ro hl' => ?_, fun z hz hzs d H' lt ro hd => ?_⟩
  · refine ⟨l0, l', _, _, rfl, rfl, lt.l _ _ hL04, hl', ?_, fun o ho => ?_⟩
    · rw [hrst] at hbd
      rw [iv_len, sizeLine_eq]
      simp only [List.length_cons] at hbd
      show 1 + _ ≤ _
      omega
    · obtain ⟨dx', pl', sn', aW', ra'⟩ := ro
      refine q o _ (((same_lt sA).trans lt).trans (same_lt (same_at _ ho))) ⟨dx', pl', sn', aW', ra'.same (same_at _ ho)⟩ ?_
      rw [upd_same, hrst]; rfl
  · refine ⟨true, hTE, fun _ a ha => ?_, fun z => (nomatch z)⟩
    refine ⟨_, rfl, rfl, rfl, d, _, .int z, rfl, hd, lk_here, one1, fun o ho => ?_⟩
    obtain ⟨dx', pl', sn', aW', ra'⟩ := ro
    refine q o _ (((same_lt sA).trans lt).trans (same_lt (same_at _ ho))) ⟨dx', pl', sn', aW', ra'.same (same_at _ ho)⟩ ?_
    rw [upd_same, hzs]; rfl
end

/-! ### the calls, read from one list -/
def LLn (c0 : Addr) (H : Hp) (q : Addr) (rows : List (List Int)) : Prop := q ≠ c0 ∧ ∃ rs : List Addr, H q = some (.lst (rs.map V.ref)) ∧ Paired (fun r xs => r ≠ c0 ∧ H r = some (.lst (iv xs))) rs rows
theorem LLn.keep {c0 q : Addr} {H H' : Hp} {rows : List (List Int)} (h : LLn c0 H q rows) (b : But c0 H H') : LLn c0 H' q rows := let ⟨n, rs, a, p⟩ := h; ⟨n, rs, b _ _ a n, Paired.mapP p fun _ _ z => ⟨z.1, b _ _ z.2 z.1⟩⟩
theorem LLn.ll {c0 q : Addr} {H : Hp} {rows : List (List Int)} (h : LLn c0 H q rows) : LL H q rows := let ⟨_, rs, a, p⟩ := h; ⟨rs, a, Paired.mapP p fun _ _ z => z.2⟩
def LLL (H : Hp) (l : Addr) (cs : List (List (List Int))) : Prop := ∃ qs : List Addr, H l = some (.lst (qs.map V.ref)) ∧ Paired (LL H) qs cs
/-- the written table of shapes -/
def ShOk (K : PySem.W.Frag) (aS : Addr) : Prop := ∀ (p : Int) (n k : Nat), PyVbjpae.shape p = some (n, k) → ∃ t : Addr, ShAt K aS p (.ref t) ∧ ∀ H, SqT K H t [.int (n : Int), .int (k : Int)]
def spRequests (K : PySem.W.Frag) : Sp := fun vs H Q _ => ∃ (a : Addr) (l : List Int) (cs : List (List (List Int))), vs = [.ref a] ∧ SqL K H a (iv l) ∧ l.length ≤ 1000000 ∧ PyFlat.calls PyVbjpae.shape l.length l = some cs ∧ ∀ c H', Same H H' → LLL H' c cs → Q (.ref c) H'
theorem shape_small {p : Int} {n k : Nat} (h : PyVbjpae.shape p = some (n, k)) : n ≤ 2 ∧ k ≤ 2 := by
  unfold PyVbjpae.shape at h
  by_cases h0 : p = 0
  · rw [if_pos h0] at h
    have h := Option.some.inj h
    have e1 := congrArg Prod.fst h
    have e2 := congrArg Prod.snd h
    dsimp only at e1 e2
    omega
  rw [if_neg h0] at h
  by_cases h1 : p = 1
  · rw [if_pos h1] at h
    have h := Option.some.inj h
    have e1 := congrArg Prod.fst h
    have e2 := congrArg Prod.snd h
    dsimp only at e1 e2
    omega
  rw [if_neg h1] at h
  by_cases h2 : p = 2
  · rw [if_pos h2] at h
    have h := Option.some.inj h
    have e1 := congrArg Prod.fst h
    have e2 := congrArg Prod.snd h
    dsimp only at e1 e2
    omega
  rw [if_neg h2] at h
  by_cases h3 : p = 3
  · rw [if_pos h3] at h
    have h := Option.some.inj h
    have e1 := congrArg Prod.fst h
    have e2 := congrArg Prod.snd h
    dsimp only at e1 e2
    omega
  rw [if_neg h3] at h
  by_cases h4 : p = 4
  · rw [if_pos h4] at h
    have h := Option.some.inj h
    have e1 := congrArg Prod.fst h
    have e2 := congrArg Prod.snd h
    dsimp only at e1 e2
    omega
  rw [if_neg h4] at h
  by_cases h5 : p = 5
  · rw [if_pos h5] at h
    have h := Option.some.inj h
    have e1 := congrArg Prod.fst h
    have e2 := congrArg Prod.snd h
    dsimp only at e1 e2
    omega
  rw [if_neg h5] at h
  by_cases h6 : p = 6
  · rw [if_pos h6] at h
    have h := Option.some.inj h
    have e1 := congrArg Prod.fst h
    have e2 := congrArg Prod.snd h
    dsimp only at e1 e2
    omega
  rw [if_neg h6] at h
  by_cases h7 : p = 7
  · rw [if_pos h7] at h
    have h := Option.some.inj h
    have e1 := congrArg Prod.fst h
    have e2 := congrArg Prod.snd h
    dsimp only at e1 e2
    omega
  rw [if_neg h7] at h
  by_cases h8 : p = 8
  · rw [if_pos h8] at h
    have h := Option.some.inj h
    have e1 := congrArg Prod.fst h
    have e2 := congrArg Prod.snd h
    dsimp only at e1 e2
    omega
  rw [if_neg h8] at h
  by_cases h9 : p = 9
  · rw [if_pos h9] at h
    have h := Option.some.inj h
    have e1 := congrArg Prod.fst h
    have e2 := congrArg Prod.snd h
    dsimp only at e1 e2
    omega
  rw [if_neg h9] at h
  by_cases h10 : p = 10
  · rw [if_pos h10] at h
    have h := Option.some.inj h
    have e1 := congrArg Prod.fst h
    have e2 := congrArg Prod.snd h
    dsimp only at e1 e2
    omega
  rw [if_neg h10] at h
  by_cases h11 : p = 11
  · rw [if_pos h11] at h
    have h := Option.some.inj h
    have e1 := congrArg Prod.fst h
    have e2 := congrArg Prod.snd h
    dsimp only at e1 e2
    omega
  rw [if_neg h11] at h
  by_cases h12 : p = 12
  · rw [if_pos h12] at h
    have h := Option.some.inj h
    have e1 := congrArg Prod.fst h
    have e2 := congrArg Prod.snd h
    dsimp only at e1 e2
    omega
  rw [if_neg h12] at h
  by_cases h13 : p = 13
  · rw [if_pos h13] at h
    have h := Option.some.inj h
    have e1 := congrArg Prod.fst h
    have e2 := congrArg Prod.snd h
    dsimp only at e1 e2
    omega
  rw [if_neg h13] at h
  by_cases h14 : p = 14
  · rw [if_pos h14] at h
    have h := Option.some.inj h
    have e1 := congrArg Prod.fst h
    have e2 := congrArg Prod.snd h
    dsimp only at e1 e2
    omega
  rw [if_neg h14] at h
  cases h
section
variable {P : Program} {w : World} {K : PySem.W.Frag} {mg : Str → Option Value} {base : Heap} {CP CR CE aS : Addr}
theorem sl_at {l : List Int} {i j : Nat} : cutV (iv l) (some (i : Int)) (some (j : Int)) = iv ((l.drop i).take (j - i)) := by rw [cut_nat, iv_drop, iv_take]
theorem drop_at {l r : List Int} {at_ : Nat} {p : Int} (h : l.drop at_ = p :: r) : at_ < l.length ∧ l[at_]? = some p ∧ l.drop (at_ + 1) = r := by
  have hl : at_ < l.length := by
    rcases Nat.lt_or_ge at_ l.length with z | z
    · exact z
    · rw [List.drop_eq_nil_of_le z] at h; cases h
  have e := List.drop_eq_getElem_cons hl
  rw [h] at e
  injection e with e1 e2
  exact ⟨hl, by rw [List.getElem?_eq_getElem hl, ← e1], e2.symm⟩
theorem ok_requests {f : Addr} {fd : FuncData} (F : Fun K "requests" "requests" sRequests f fd) (T : Txt K mg CP CR CE aS) (hSh : ShOk K aS) : FnOk P w K mg base CX0 1 f fd ["calls"] (spRequests K) := by
  have nd := scRequests.nd
  refine F.ok scRequests (fun vs H Q E h => ?_) (fun cdv A outer sh H vs Q E hr h => ?_)
  · obtain ⟨_, _, _, rfl, _⟩ := h
    rfl
  obtain ⟨a, l, cs, rfl, hA, hz, hcs, q⟩ := h
  refine ⟨_, (pss_cons (ps_set (i := 1) nd rfl (Or.inl rfl) (pe_lst pa_nil))
    (pss_cons (ps_set (i := 2) nd rfl (Or.inl rfl) pe_int)
    (pss_cons (ps_while PassesOwn.never (pt_cmpR op_lt (pv 2) (pe_callB (call_lenQ rfl) (by rfl) T.m_len (by decide +kernel) (pa_cons (pv 0) pa_nil)) (nomark _)) (pss_cons (ps_asg (pe_ix ix_shp (pe_k rfl T.cSH) (pe_ix (ix_listB rfl) (pv 0) (pv 2) (fun _ _ => rfl)) (fun _ _ => rfl)) (pg_tupB (n := 2) rfl rfl (pgs_cons (pg_name (i := 3) nd rfl (Or.inl rfl)) (pgs_cons (pg_name (i := 4) nd rfl (Or.inl rfl)) pgs_nil))))
    (pss_cons (ps_set (i := 5) nd rfl (Or.inl rfl) (pe_op op_add (pe_op op_add (pv 2) pe_int) (pv 3)))
    (pss_cons (ps_set (i := 6) nd rfl (Or.inl rfl) (pe_lst (pa_cons (pe_slice (sl_listB rfl) (pv 0) (po_some (pv 2)) (po_some (pv 5))) pa_nil)))
    (pss_cons (ps_set (i := 2) nd rfl (Or.inl rfl) (pv 5))
    (pss_cons (ps_for PassesOwn.never rfl (pi_range1 rfl T.m_range (pa_cons (pv 4) pa_nil)) (pg_name (i := 7) nd rfl (Or.inl rfl)) (pss_cons (ps_set (i := 5) nd rfl (Or.inl rfl) (pe_op op_add (pe_op op_add (pv 2) pe_int) (pe_ix (ix_listB rfl) (pv 0) (pv 2) (fun _ _ => rfl))))
    (pss_cons (ps_expr (pe_bm PySem.F.plainAttrs_list PySem.F.slot_list_append PySem.F.type_list_append mt_append (pv 6) (pa_cons (pe_slice (sl_listB rfl) (pv 0) (po_some (pe_op op_add (pv 2) pe_int)) (po_some (pv 5))) pa_nil)))
    (pss_one (ps_set (i := 2) nd rfl (Or.inl rfl) (pv 5))))))
    (pss_one (ps_expr (pe_bm PySem.F.plainAttrs_list PySem.F.slot_list_append PySem.F.type_list_append mt_append (pv 1) (pa_cons (pv 6) pa_nil))))))))))
    (pss_one (ps_ret (pv 1)))))), ?_⟩
  have one1 : 1 ≤ sizeLine := by rw [sizeLine_eq]; decide
  refine ⟨Nat.zero_le _, fun c0 hc0 => ?_⟩
  have b0 : But c0 H (upd H c0 (.lst [])) := but_upd H c0 _
  have sq : ∀ {H' : Hp}, But c0 H H' → SqL K H' a (iv l) := fun b => Same.seq (But.of_new hc0 b) hA
  refine ⟨fun m σ H' => ∃ at_ qs dn rest fl x3 x4 x5 x6 x7, m = l.length - at_ ∧ σ = [some (.ref a), some (.ref c0), some (.int ((at_ : Nat) : Int)), x3, x4, x5, x6, x7] ∧ But c0 H H' ∧ H' c0 = some (.lst (qs.map V.ref)) ∧ Paired (LLn c0 H') qs dn ∧ cs = dn ++ rest ∧ PyFlat.calls PyVbjpae.shape fl (l.drop at_) = some rest ∧ dn.length ≤ at_ ∧ at_ ≤ l.length,
    ⟨l.length, 0, [], [], cs, l.length, none, none, none, none, none, by simp, rfl, b0, upd_same, .nil, rfl, hcs, Nat.le_refl _, Nat.zero_le _⟩, fun m σ G hW => ?_⟩
  obtain ⟨at_, qs, dn, rest, fl, x3, x4, x5, x6, x7, rfl, rfl, hb, hC, hp, ecs, hca, hdn, hat⟩ := hW
  refine ⟨_, rfl, _, rfl, a, _, rfl, .inl (sq hb), _, _, rfl, rfl, _, rfl, ?_⟩
  rw [iv_len]
  show if decide ((at_ : Int) < (l.length : Int)) = true then _ else _
  rw [nat_lt]
  refine if_2 (fun c1 => ?_) (fun c1 => ?_)
  case refine_2 =>
    have c1 := of_decide_eq_false c1
    have e : l.drop at_ = [] := List.drop_eq_nil_of_le (by omega)
    rw [e] at hca
    have hr0 : rest = [] := by
      cases fl <;> (injection hca with hca; exact hca.symm)
    rw [hr0, List.append_nil] at ecs
    subst ecs
    exact ⟨_, rfl, q c0 G (But.of_new hc0 hb) ⟨qs, hC, Paired.mapP hp fun _ _ z => z.ll⟩⟩
  have c1 := of_decide_eq_true c1
  obtain ⟨p, r, hpr⟩ : ∃ p r, l.drop at_ = p :: r := by
    cases e : l.drop at_ with
    | nil =>
      have := congrArg List.length e
      rw [List.length_drop] at this
      simp at this
      omega
    | cons p r => exact ⟨p, r, rfl⟩
  obtain ⟨_, hpat, hr1⟩ := drop_at hpr
  rw [hpr] at hca
  cases fl with
  | zero => cases hca
  | succ fl =>
  rw [PyFlat.calls, PyFlat.call] at hca
  cases hsh : PyVbjpae.shape p with
  | none => rw [hsh] at hca; cases hca
  | some nk =>
  obtain ⟨n, k⟩ := nk
  rw [hsh] at hca
  dsimp only at hca
  by_cases hln : r.length < n
  · rw [if_pos hln] at hca; cases hca
  rw [if_neg hln] at hca
  cases hrows : PyFlat.rows k (r.drop n) with
  | none => rw [hrows] at hca; cases hca
  | some xt =>
  obtain ⟨xs, t⟩ := xt
  rw [hrows] at hca
  dsimp only at hca
  cases hcs2 : PyFlat.calls PyVbjpae.shape fl t with
  | none => rw [hcs2] at hca; cases hca
  | some rest2 =>
  rw [hcs2] at hca
  injection hca with hca
  obtain ⟨ts, hts, htq⟩ := hSh p n k hsh
  obtain ⟨n2, k2⟩ := shape_small hsh
  have llen : r.length + at_ + 1 = l.length := by
    have := congrArg List.length hpr
    rw [List.length_drop, List.length_cons] at this
    omega
  have hpv : atI (iv l) ((at_ : Nat) : Int) = some (V.int p) := atI_nat (at_int hpat)
  refine ⟨fun σ' H' => ∃ at2 qs' dn' x3 x4 x5 x6 x7, at2 ≤ l.length ∧ at_ < at2 ∧ σ' = [some (.ref a), some (.ref c0), some (.int ((at2 : Nat) : Int)), x3, x4, x5, x6, x7] ∧ But c0 H H' ∧ H' c0 = some (.lst (qs'.map V.ref)) ∧ Paired (LLn c0 H') qs' dn' ∧ cs = dn' ++ rest2 ∧ l.drop at2 = t ∧ dn'.length ≤ at2, fun σ' H' ⟨at2, qs', dn', x3, x4, x5, x6, x7, h1, h2, h3, h4, h5, h6, h7, h8, h9⟩ => ⟨l.length - at2, by omega, at2, qs', dn', rest2, fl, x3, x4, x5, x6, x7, rfl, h3, h4, h5, h6, h7, by rw [h8]; exact hcs2, h9, h1⟩, ?_⟩
  -- numbers, lists
  refine ⟨_, rfl, _, rfl, a, _, _, _, rfl, rfl, sq hb, hpv, aS, p, _, .ref ts, rfl, rfl, hts, rfl, ?_⟩
  refine ⟨ts, _, rfl, htq G, rfl, _, _, rfl, _, _, rfl, rfl, ?_⟩
  have e1 : ((at_ : Nat) : Int) + 1 + (n : Int) = ((at_ + 1 + n : Nat) : Int) := by omega
  refine ⟨_, rfl, _, _, rfl, rfl, _, rfl, _, _, rfl, rfl, ?_⟩
  dsimp only
  rw [e1]
  -- rows
  refine ⟨_, rfl, _, rfl, _, rfl, _, rfl, _, rfl, a, _, rfl, sq hb, fun s0 hs0 => ?_⟩
  rw [sl_at, hpr, show at_ + 1 + n - at_ = n + 1 by omega, List.take_succ_cons]
  have sS := same_at (.lst (iv (p :: r.take n))) hs0
  have hS : (upd G s0 (.lst (iv (p :: r.take n)))) s0 = some (.lst (iv (p :: r.take n))) := upd_same
  generalize upd G s0 (.lst (iv (p :: r.take n))) = G1 at sS hS
  refine ⟨one1, fun rq hrq => ?_⟩
  have sR := same_at (.lst [V.ref s0]) hrq
  have hR : (upd G1 rq (.lst [V.ref s0])) rq = some (.lst ([s0].map V.ref)) := upd_same
  generalize upd G1 rq (.lst [V.ref s0]) = G2 at sR hR
  have nc1 : s0 ≠ c0 := (ne_of_none hC hs0).symm
  have nq1 : rq ≠ c0 := (ne_of_none (sS _ _ hC) hrq).symm
  have ns1 : s0 ≠ rq := ne_of_none hS hrq
  have hC2 := sR _ _ (sS _ _ hC)
  have b2 : But c0 G G2 := Same.but (sS.trans sR) c0
  -- the lists
  have hrqG : G rq = none := sS.free hrq
  have e1' : l.drop (at_ + 1 + n) = r.drop n := by rw [← List.drop_drop, hr1]
  refine ⟨_, rfl, _, rfl, _, rfl, by omega, by omega, ?_⟩
  rw [Int.toNat_natCast]
  refine for_it walk_range (fun j σ' H' => ∃ at2 rs x5 x7, σ' = [some (.ref a), some (.ref c0), some (.int ((at2 : Nat) : Int)), some (.int (n : Int)), some (.int (k : Int)), x5, some (.ref rq), x7] ∧ But c0 H H' ∧ (∀ b o, G b = some o → H' b = some o) ∧ H' rq = some (.lst (rs.map V.ref)) ∧ Paired (fun r' xs' => r' ≠ c0 ∧ r' ≠ rq ∧ H' r' = some (.lst (iv xs'))) rs ((p :: r.take n) :: xs.take j) ∧ PyFlat.rows (k - j) (l.drop at2) = some (xs.drop j, t) ∧ at_ < at2 ∧ at2 ≤ l.length ∧ rs.length ≤ j + 1)
    ⟨at_ + 1 + n, [s0], _, _, rfl, hb.trans b2, fun b o e => sR _ _ (sS _ _ e), hR, .cons ⟨nc1, ns1, sR _ _ hS⟩ .nil, by rw [e1', Nat.sub_zero]; exact hrows, by omega, by omega, Nat.le_refl _⟩ (fun _ _ _ _ _ => trivial) (fun j x σ' H1 H2 hj hP hY => ?_) (fun σ' H' hP => ?_)
  · obtain ⟨at2, rs, y5, y7, rfl, hb3, kG, hRq, hpr3, hrw, hlt, hle2, hrl⟩ := hP
    obtain ⟨eH, rfl⟩ := hY
    subst eH
    rw [show k - j = (k - (j + 1)) + 1 by omega, PyFlat.rows] at hrw
    cases hrow : PyFlat.row (l.drop at2) with
    | none => rw [hrow] at hrw; cases hrw
    | some xs1 =>
    obtain ⟨x1, s1⟩ := xs1
    rw [hrow] at hrw
    dsimp only at hrw
    cases hrest : PyFlat.rows (k - (j + 1)) s1 with
    | none => rw [hrest] at hrw; cases hrw
    | some xt =>
    obtain ⟨xs2, t2⟩ := xt
    rw [hrest] at hrw
    injection hrw with hrw
    injection hrw with hx ht
    subst ht
    obtain ⟨m, r2, hm⟩ : ∃ m r2, l.drop at2 = m :: r2 := by
      cases e : l.drop at2 with
      | nil => rw [e] at hrow; cases hrow
      | cons m r2 => exact ⟨m, r2, rfl⟩
    rw [hm] at hrow
    unfold PyFlat.row at hrow
    dsimp only at hrow
    by_cases hmm : 0 ≤ m ∧ m.toNat ≤ r2.length
    case neg => rw [if_neg hmm] at hrow; cases hrow
    rw [if_pos hmm] at hrow
    injection hrow with hrow
    injection hrow with hx1 hs1
    obtain ⟨hlt2, hmat, hr2⟩ := drop_at hm
    have l2len : r2.length + at2 + 1 = l.length := by
      have := congrArg List.length hm
      rw [List.length_drop, List.length_cons] at this
      omega
    obtain ⟨mm, rfl⟩ : ∃ mm : Nat, m = (mm : Int) := ⟨m.toNat, by omega⟩
    rw [Int.toNat_natCast] at hmm hx1 hs1
    have hmv : atI (iv l) ((at2 : Nat) : Int) = some (V.int ((mm : Nat) : Int)) := atI_nat (at_int hmat)
    have e3 : ((at2 : Nat) : Int) + 1 + (mm : Int) = ((at2 + 1 + mm : Nat) : Int) := by omega
    have e4 : ((at2 : Nat) : Int) + 1 = ((at2 + 1 : Nat) : Int) := by omega
    refine ⟨_, rfl, _, _, rfl, rfl, _, rfl, _, rfl, a, _, _, _, rfl, rfl, sq hb3, hmv, _, _, rfl, rfl, ?_⟩
    dsimp only
    rw [e3]
    refine ⟨_, rfl, .inl ⟨rfl, _, .inl (.inl hRq)⟩, ?_⟩
    refine ⟨_, rfl, _, rfl, _, _, rfl, rfl, ?_⟩
    dsimp only
    rw [e4]
    refine ⟨_, rfl, _, rfl, _, rfl, a, _, rfl, sq hb3, fun u hu => ?_⟩
    rw [sl_at, hr2, show at2 + 1 + mm - (at2 + 1) = mm by omega, hx1]
    have sU := same_at (.lst (iv x1)) hu
    have hU : (upd H2 u (.lst (iv x1))) u = some (.lst (iv x1)) := upd_same
    generalize upd H2 u (.lst (iv x1)) = H3 at sU hU
    have hRq3 := sU _ _ hRq
    have nu : u ≠ rq := (ne_of_none hRq hu).symm
    have nuc : u ≠ c0 := fun z => by
      rw [z, kG _ _ hC] at hu; cases hu
    have hxj : xs[j]? = some x1 := by
      rw [← List.head?_drop, ← hx]; rfl
    refine ⟨rq, _, _, rfl, rfl, hRq3, by rw [List.length_map]; exact small_lt (by omega), ?_⟩
    refine ⟨_, rfl, at2 + 1 + mm, rs ++ [u], _, _, rfl, ?_, ?_, by rw [upd_same, List.map_append]; rfl, ?_, ?_, by omega, by omega, ?_⟩
    · intro b o e n
      have nb : b ≠ rq := fun z => by
        rw [z] at e
        have : G rq = some o := hb _ _ e nq1
        rw [hrqG] at this
        cases this
      rw [upd_ne nb]
      exact sU _ _ (hb3 _ _ e n)
    · intro b o e
      have nb : b ≠ rq := ne_of_none e hrqG
      rw [upd_ne nb]
      exact sU _ _ (kG _ _ e)
    · have : (p :: r.take n) :: xs.take (j + 1) = ((p :: r.take n) :: xs.take j) ++ [x1] := by
        rw [List.take_add_one, hxj]; rfl
      rw [this]
      refine Paired.snoc (Paired.mapP hpr3 fun r' xs' z => ⟨z.1, z.2.1, ?_⟩) ⟨nuc, nu, ?_⟩
      · rw [upd_ne z.2.1]; exact sU _ _ z.2.2
      · rw [upd_ne nu]; exact hU
    · rw [← List.drop_drop, hr2, hs1, hrest]
      have : xs.drop (j + 1) = xs2 := by rw [← List.tail_drop, ← hx]; rfl
      rw [this]
    · rw [List.length_append, List.length_singleton]; omega
  · obtain ⟨at2, rs, y5, y7, rfl, hb3, kG, hRq, hpr3, hrw, hlt, hle2, hrl⟩ := hP
    rw [Nat.sub_self, PyFlat.rows] at hrw
    injection hrw with hrw
    injection hrw with hx ht
    have hxk : xs.take k = xs := by
      have := List.take_append_drop k xs
      rw [← hx, List.append_nil] at this
      exact this
    rw [hxk] at hpr3
    have hC3 := kG _ _ hC
    have lqs := Paired.length hp
    refine ⟨_, rfl, .inl ⟨rfl, _, .inl (.inl hC3)⟩, _, rfl, c0, _, _, rfl, rfl, hC3, by rw [List.length_map, lqs]; exact small_lt (by omega), ?_⟩
    have bU := but_upd H' c0 (.lst (qs.map V.ref ++ [.ref rq]))
    refine ⟨at2, qs ++ [rq], dn ++ [(p :: r.take n) :: xs], _, _, _, _, _, hle2, hlt, rfl, hb3.trans bU, by rw [upd_same, List.map_append]; rfl, ?_, ?_, ht, ?_⟩
    · refine Paired.snoc (Paired.mapP hp fun q' rows' z => ?_) ?_
      · exact (z.keep (fun b o e _ => kG _ _ e)).keep bU
      · exact LLn.keep ⟨nq1, rs, hRq, Paired.mapP hpr3 fun _ _ z => ⟨z.1, z.2.2⟩⟩ bU
    · rw [ecs, ← hca, List.append_assoc]; rfl
    · rw [List.length_append, List.length_singleton]; omega
end
end SP
end

section
set_option Elab.async false
set_option linter.all false
set_option maxRecDepth 100000
set_option maxHeartbeats 4000000
namespace SP
open PySem PySem.Spec PyProof.Rows L2 SPR
open SPM (enc ov)
abbrev sReqAns : Stmt := top 21
abbrev nReqAns : List Str := ["line", "request", "results", "operation", "rows", "row"]
theorem scReqAns : FnScope ["line", "request", "results", "operation", "rows", "row"] ["line"] (defScope sReqAns) := ⟨rfl, rfl, rfl, by decide +kernel, rfl, by decide +kernel, by decide +kernel⟩
abbrev sAnswers : Stmt := top 23
abbrev nAnswers : List Str := ["calls", "out", "answer"]
theorem scAnswers : FnScope ["calls", "out", "answer"] ["calls"] (defScope sAnswers) := ⟨rfl, rfl, rfl, by decide +kernel, rfl, by decide +kernel, by decide +kernel⟩
def outsOf (cs : List (List (List Int))) : List (List Int) := PyFlat.played VbjpaeNeutral.step VbjpaeNeutral.start cs
def stAt (cs : List (List (List Int))) (i : Nat) : Vbjpae.State := (cs.take i).foldl (fun s c => (VbjpaeNeutral.step s c).1) VbjpaeNeutral.start
theorem played_at : ∀ (cs : List (List (List Int))) (s : Vbjpae.State) (i : Nat) (c : List (List Int)), cs[i]? = some c → (PyFlat.played VbjpaeNeutral.step s cs)[i]? = some (VbjpaeNeutral.step ((cs.take i).foldl (fun s c => (VbjpaeNeutral.step s c).1) s) c).2
  | [], s, i, c, h => by simp at h
  | x :: cs, s, 0, c, h => by
    simp at h
    subst h
    rfl
  | x :: cs, s, i + 1, c, h => by
    have := played_at cs (VbjpaeNeutral.step s x).1 i c (by simpa using h)
    simpa [PyFlat.played] using this
theorem played_len : ∀ (cs : List (List (List Int))) (s : Vbjpae.State), (PyFlat.played VbjpaeNeutral.step s cs).length = cs.length
  | [], _ => rfl
  | x :: cs, s => by
    show (PyFlat.played _ _ cs).length + 1 = _
    rw [played_len cs]; rfl
def spReqAns (P : Program) (w : World) : Sp := fun vs H Q _ => ∃ (l : Addr) (cs : List (List (List Int))), vs = [.ref l] ∧ LLL H l cs ∧ cs ≠ [] ∧ cs.length ≤ 60 ∧ (∀ c ∈ cs, VbjpaeNeutral.asked1 c = true) ∧ (∀ out ∈ outsOf cs, out.length ≤ 10000000) ∧
  ∀ (c : Addr) (rs : List Addr) H', (∀ b xs, H b = some (.lst xs) → H' b = some (.lst xs) ∧ b ≠ c) → H' c = some (.lst (rs.map V.ref)) → Paired (fun r out => (∀ b xs, H b = some (.lst xs) → r ≠ b) ∧ H' r = some (.lst (iv out))) rs (outsOf cs) → Q (.ref c) H'
theorem dp_ints {K : PySem.W.Frag} {H : Hp} : ∀ xs : List Int, DpAll K H (iv xs) (xs.map PyData.int)
  | [] => .nil
  | x :: xs => .cons (.int x) (dp_ints xs)
theorem dp_rows {K : PySem.W.Frag} {H : Hp} {rs : List Addr} {rows : List (List Int)} (h : Paired (fun r xs => H r = some (.lst (iv xs))) rs rows) : DpAll K H (rs.map V.ref) (rows.map fun xs => PyData.list (xs.map PyData.int)) := by
  induction h with
  | nil => exact .nil
  | cons h t ih => exact .cons (.lst (.inl (.inl h)) (dp_ints _)) ih
theorem dp_calls {K : PySem.W.Frag} {H : Hp} {qs : List Addr} {cs : List (List (List Int))} (h : Paired (LL H) qs cs) : DpAll K H (qs.map V.ref) (cs.map fun rows => PyData.list (rows.map fun xs => PyData.list (xs.map PyData.int))) := by
  induction h with
  | nil => exact .nil
  | cons h t ih =>
    obtain ⟨rs, a, b⟩ := h
    exact .cons (.lst (.inl (.inl a)) (dp_rows b)) ih
theorem lay_all {α : Type} (f : α → PyData) (h : ∀ x, (f x).canLay0 = true) : ∀ l : List α, PyData.canLayAll0 (l.map f) = true
  | [] => rfl
  | x :: l => by
    rw [List.map_cons, PyData.canLayAll0, h x, lay_all f h l]; rfl
theorem depth_all {α : Type} (f : α → PyData) (n : Nat) (h : ∀ x, (f x).depth ≤ n) : ∀ l : List α, PyData.depthAll (l.map f) ≤ n
  | [] => Nat.zero_le _
  | x :: l => by
    rw [List.map_cons, PyData.depthAll]
    exact Nat.max_le.mpr ⟨h x, depth_all f n h l⟩
theorem shaped_calls (cs : List (List (List Int))) : SeqAt.shaped (.list (cs.map fun rows => PyData.list (rows.map fun xs => PyData.list (xs.map PyData.int)))) = true := by
  unfold SeqAt.shaped
  rw [Bool.and_eq_true, decide_eq_true_iff]
  constructor
  · rw [PyData.canLay0]
    refine lay_all _ (fun rows => ?_) cs
    rw [PyData.canLay0]
    refine lay_all _ (fun xs => ?_) rows
    rw [PyData.canLay0]
    exact lay_all _ (fun x => rfl) xs
  · rw [PyData.depth]
    have h3 := depth_all (fun rows : List (List Int) => PyData.list (rows.map fun xs => PyData.list (xs.map PyData.int))) 2 (fun rows => by
      rw [PyData.depth]
      have h2 := depth_all (fun xs : List Int => PyData.list (xs.map PyData.int)) 1 (fun xs => by
        rw [PyData.depth]
        have h1 := depth_all PyData.int 0 (fun x => by rw [PyData.depth]; exact Nat.le_refl _) xs
        omega) rows
      omega) cs
    omega
section
variable {P : Program} {w : World} {CP CR : Addr} {H : Hp} {r dx pl sn aW x : Addr} {s : Vbjpae.State}
theorem ReqA.pld (h : ReqA P w CP CR H r dx pl sn aW s) : PLd r H := by
  obtain ⟨dxp, aT, aR, aO, hA⟩ := h.gp.ins
  exact ⟨_, _, _, _, _, _, _, _, _, _, _, _, _, h.ob, hA⟩
/-- the plan's lists are there -/
theorem ReqA.pl_some (h : ReqA P w CP CR H r dx pl sn aW s) (q : PL r H x) : ∃ xs, H x = some (.lst xs) := by
  obtain ⟨dxp, aT, aR, aO, hA, ⟨qs1, t1, _⟩, ⟨qs2, t2, _⟩, t3⟩ := h.gp.plan
  obtain ⟨D, ex, ql, qsn, n, hn, D', e, qr, bT, bR, bO, bW, g1, g2, g3⟩ := q
  rw [h.ob] at g1
  injection g1 with g1
  injection g1 with i1 i2 i3
  have := rF_inj i3
  subst this
  rw [hA] at g2
  injection g2 with g2
  injection g2 with j1 j2 j3
  have j3 : pF (rp s.plan) aT aR aO aW = pF qr bT bR bO bW := j3
  unfold pF at j3
  simp only [List.cons.injEq, Prod.mk.injEq, V.ref.injEq, true_and, and_true] at j3
  obtain ⟨_, _, u1, u2, u3, _⟩ := j3
  rcases g3 with rfl | rfl | rfl
  · rw [← u1]; exact ⟨_, t1⟩
  · rw [← u2]; exact ⟨_, t2⟩
  · rw [← u3]; exact ⟨_, t3⟩
theorem pl_back {res : Addr} {ys : List V} (q : PL r (upd H res (.lst ys)) x) : PL r H x := by
  obtain ⟨D, ex, ql, qsn, n, hn, D', e, qr, bT, bR, bO, bW, g1, g2, g3⟩ := q
  have n1 : r ≠ res := fun z => by rw [z, upd_same] at g1; cases g1
  have n2 : ql ≠ res := fun z => by rw [z, upd_same] at g2; cases g2
  rw [upd_ne n1] at g1
  rw [upd_ne n2] at g2
  exact ⟨D, ex, ql, qsn, n, hn, D', e, qr, bT, bR, bO, bW, g1, g2, g3⟩
/-- a list that isn't the plan's is written -/
theorem ReqA.list {res : Addr} {xs ys : List V} (h : ReqA P w CP CR H r dx pl sn aW s) (hr : H res = some (.lst xs)) (np : ¬ PL r H res) : ReqA P w CP CR (upd H res (.lst ys)) r dx pl sn aW s := by
  have hA0 := h.gp.plan
  obtain ⟨dxp, aT, aR, aO, hA, ⟨qs1, t1, t1'⟩, ⟨qs2, t2, t2'⟩, t3⟩ := hA0
  have nl : ∀ y, (y = aT ∨ y = aR ∨ y = aO) → y ≠ res := fun y hy z => np ⟨_, _, _, _, _, _, _, _, _, _, _, _, _, h.ob, hA, z ▸ hy⟩
  have k : ∀ b o, H b = some o → (∀ zs, o = .lst zs → b ≠ res) → (upd H res (.lst ys)) b = some o := fun b o e hn => by
    have : b ≠ res := fun z => by
      subst z
      rw [hr] at e
      exact hn _ (Option.some.inj e).symm rfl
    rw [upd_ne this]; exact e
  refine ⟨k _ _ h.ob fun _ z => (nomatch z), ⟨?_, won_new h.gp.won hr (fun _ z => nomatch z) (fun _ z => nomatch z), h.gp.pv⟩, k _ _ h.sn fun _ z => (nomatch z), h.rc⟩
  exact ⟨dxp, aT, aR, aO, k _ _ hA fun _ z => (nomatch z), ⟨qs1, k _ _ t1 fun _ _ => nl _ (.inl rfl), Paired.mapP t1' fun _ _ z => k _ _ z fun _ y => (nomatch y)⟩, ⟨qs2, k _ _ t2 fun _ _ => nl _ (.inr (.inl rfl)), Paired.mapP t2' fun _ _ z => k _ _ z fun _ y => (nomatch y)⟩, k _ _ t3 fun _ _ => nl _ (.inr (.inr rfl))⟩
end
section
variable {P : Program} {w : World} {K : PySem.W.Frag} {mg : Str → Option Value} {base : Heap} {CP CR CE aS : Addr}
theorem ok_request_answers {f : Addr} {fd : FuncData} (F : Fun K "request_answers" "request_answers" sReqAns f fd) (T : Txt K mg CP CR CE aS) (Mk_Request : MakX P w K mg base CX0 3 "Request" CR (spReqInit P w CP CR)) (M_run : MetX P w K mg base CX0 43 CR "run" (spRun P w CP CR)) : FnOk P w K mg base CX0 44 f fd ["line"] (spReqAns P w) := by
  have nd := scReqAns.nd
  refine F.ok scReqAns (fun vs H Q E h => ?_) (fun cdv A outer sh H vs Q E hr h => ?_)
  · obtain ⟨_, _, rfl, _⟩ := h
    rfl
  obtain ⟨l, cs, rfl, ⟨qs, hL, hq⟩, hne, h60, hask, hbd, q⟩ := h
  refine ⟨_, (pss_cons (ps_set (i := 0) nd rfl (Or.inl rfl) (pv 0))
    (pss_cons (ps_if (pt_cmpR (op_eqD hr.units) (pv 0) (pe_lst pa_nil) (nomark _)) (pss_one (ps_ret (pe_lst pa_nil))) pss_nil)
    (pss_cons (ps_set (i := 1) nd rfl (Or.inl rfl) (pe_mkx0 Mk_Request hr (by first | decide | omega) rfl ))
    (pss_cons (ps_set (i := 2) nd rfl (Or.inl rfl) (pe_lst pa_nil))
    (pss_cons (ps_for PassesOwn.never rfl (pi_list (pv 0)) (pg_name (i := 3) nd rfl (Or.inl rfl)) (pss_cons (ps_setLc (i := 4) (own := [("row", 5)]) rfl nd rfl rfl (sw_true rfl rfl rfl (by decide +kernel)) (pi_list (pv 3)) (blkOk_by (own := [("row", 5)]) (N := ["line", "request", "results", "operation", "rows", "row"]) (sc := (defScope sReqAns)) (by decide +kernel)) (fun _ _ _ _ _ => (pg_name (i := 5) nd rfl (Or.inl rfl) (Or.inr rfl))) (fun _ _ _ _ _ => pts_nil) (fun _ _ _ _ _ => (pe_callTy (call_listQ blkK) (by rfl) T.m_list (by decide +kernel) (pa_cons (pv 5) pa_nil))))
    (pss_one (ps_expr (pe_bm PySem.F.plainAttrs_list PySem.F.slot_list_append PySem.F.type_list_append mt_append (pv 2) (pa_cons (pe_callTy (call_listQ rfl) (by rfl) T.m_list (by decide +kernel) (pa_cons (pe_mx M_run T.clR hr (by first | decide | omega) (no0 (E := fun _ => E0)) (pv 1) (pa_cons (pv 4) pa_nil)) pa_nil)) pa_nil))))))
    (pss_one (ps_ret (pe_callTy (call_listQ rfl) (by rfl) T.m_list (by decide +kernel) (pa_cons (pv 2) pa_nil))))))))), ?_⟩
  have lq := Paired.length hq
  refine ⟨_, rfl, _, rfl, Nat.zero_le _, fun e0 he0 => ?_⟩
  have s0 := same_at (.lst []) he0
  have hE0 : (upd H e0 (.lst [])) e0 = some (.lst []) := upd_same
  generalize upd H e0 (.lst []) = H0 at s0 hE0
  have hq0 : Paired (LL H0) qs cs := Paired.mapP hq fun _ _ z => z.keep fun _ _ e => s0 _ _ e
  refine ⟨_, .list [], .lst (.inl (.inl (s0 _ _ hL))) (dp_calls hq0), .lst (.inl (.inl hE0)) .nil, shaped_calls cs, by decide, _, rfl, ?_⟩
  have hfalse : PyData.eqv (.list (cs.map fun rows => PyData.list (rows.map fun xs => PyData.list (xs.map PyData.int)))) (.list []) = false := by
    cases cs with
    | nil => exact absurd rfl hne
    | cons c cs => rfl
  refine if_f hfalse ?_
  intro r dx hr0 hdx0 hned
  have hdx1 : (upd H0 dx (.own r)) r = none := by rw [upd_ne hned.symm]; exact hr0
  have smx : Same H0 (upd (upd H0 dx (.own r)) r (.ins CR dx [])) := (same_at _ hdx0).trans (same_at _ hdx1)
  have hx1 : (upd (upd H0 dx (.own r)) r (.ins CR dx [])) r = some (.ins CR dx []) := upd_same
  generalize upd (upd H0 dx (.own r)) r (.ins CR dx []) = H1 at smx hx1
  refine ⟨r, dx, rfl, hx1, fun H2 b2 ro2 => ⟨rfl, ?_⟩⟩
  have k2 : ∀ b xs, H b = some (.lst xs) → H2 b = some (.lst xs) := fun b xs e => b2 _ _ (smx _ _ (s0 _ _ e)) (ne_of_none (s0 _ _ e) hr0)
  refine ⟨Nat.zero_le _, fun res hres => ?_⟩
  obtain ⟨dx2, pl2, sn2, aW2, ra2⟩ := ro2
  have s3 := same_at (.lst []) hres
  have hR3 : (upd H2 res (.lst [])) res = some (.lst []) := upd_same
  have np3 : ¬ PL r (upd H2 res (.lst [])) res := fun z => by
    obtain ⟨xs, e⟩ := ra2.pl_some (pl_back z)
    rw [hres] at e
    cases e
  generalize upd H2 res (.lst []) = H3 at s3 hR3 np3
  have k3 : ∀ b xs, H b = some (.lst xs) → H3 b = some (.lst xs) := fun b xs e => s3 _ _ (k2 _ _ e)
  have nres : ∀ b xs, H b = some (.lst xs) → b ≠ res := fun b xs e => ne_of_none (k2 _ _ e) hres
  refine ⟨_, rfl, l, rfl, ⟨_, .inl (.inl (k3 _ _ hL))⟩, ?_⟩
  refine for_it (walk_list (xs := qs.map V.ref)) (fun i σ H' => (∃ x3 x4, σ = [some (.ref l), some (.ref r), some (.ref res), x3, x4, none]) ∧ (∀ b xs, H b = some (.lst xs) → H' b = some (.lst xs)) ∧ ReqOk P w CP CR H' r (stAt cs i) ∧ ¬ PL r H' res ∧ ∃ rs : List Addr, H' res = some (.lst (rs.map V.ref)) ∧ Paired (fun r' out => r' ≠ res ∧ (∀ b xs, H b = some (.lst xs) → r' ≠ b) ∧ H' r' = some (.lst (iv out))) rs ((outsOf cs).take i))
    ⟨⟨_, _, rfl⟩, k3, ⟨dx2, pl2, sn2, aW2, ra2.same s3⟩, np3, [], hR3, .nil⟩ (fun i σ H' _ h => .inl (.inl (h.2.1 _ _ hL))) (fun i x σ H4 H5 hi hP hY => ?_) (fun σ H' hP => ?_)
  · obtain ⟨⟨x3, x4, rfl⟩, k4, ⟨dx4, pl4, sn4, aW4, ra4⟩, np4, rs, hR4, hp4⟩ := hP
    obtain ⟨eH, hx⟩ := hY
    subst eH
    rw [List.length_map] at hi
    rw [List.getElem?_map] at hx
    obtain ⟨qk, hqk, rfl⟩ := Option.map_eq_some_iff.mp hx
    obtain ⟨rows, hrows, ⟨ss, hqk2, hss⟩⟩ := paired_at hq i qk hqk
    have hin := List.mem_of_getElem? hrows
    have hout : (outsOf cs)[i]? = some (VbjpaeNeutral.step (stAt cs i) rows).2 := played_at cs _ i rows hrows
    have hqk5 := k4 _ _ hqk2
    -- rows = [list(row) ..]
    refine ⟨_, rfl, qk, rfl, ⟨_, .inl (.inl hqk5)⟩, fun D hD => ?_⟩
    have nD : qk ≠ D := ne_of_none hqk5 hD
    have lss := Paired.length hss
    have lrows : rows.length ≤ 3 := by
      obtain ⟨c, p, xs, rest, _, rfl, hg⟩ := asked_given (hask rows hin)
      cases hss with
      | @cons s1 _ ss' _ h1 ht =>
      have := hg H ss' ht
      have gl : ∀ {c : Vbjpae.Call} {p : Int} {g : List V}, Given H c p g → (g.filter fun v => match v with | .ref _ => true | _ => false).length ≤ 2 := fun {c p g} h => by
        cases c <;> (first | (obtain ⟨_, rfl⟩ := h; decide +kernel) | (obtain ⟨_, _, rfl, _⟩ := h; simp; done) | (obtain ⟨_, rfl⟩ := h; simp; done) | (obtain ⟨_, _, _, rfl, _⟩ := h; simp; done))
      have := gl this
      rw [List.filter_append, List.length_append] at this
      have e2 : ((ss'.map V.ref).filter fun v => match v with | .ref _ => true | _ => false) = ss'.map V.ref := by
        rw [List.filter_eq_self]
        intro v hv
        obtain ⟨_, _, rfl⟩ := List.mem_map.mp hv
        rfl
      rw [e2, List.length_map, Paired.length ht] at this
      rw [List.length_cons]
      omega
    refine lc_it (walk_list (xs := ss.map V.ref)) (fun j H6 => But D H5 H6 ∧ ∃ ts : List Addr, H6 D = some (.lst (ts.map V.ref)) ∧ Paired (fun t xs => t ≠ D ∧ H6 t = some (.lst (iv xs))) ts (rows.take j)) ⟨but_upd H5 D _, [], upd_same, .nil⟩ (fun j H6 _ h => .inl (.inl (h.1 _ _ hqk5 nD))) (fun j x H6 H7 hj hP hY => ?_) (fun H6 h => ?_)
    · obtain ⟨hb, ts, hDD, hp6⟩ := hP
      obtain ⟨eH, hx⟩ := hY
      subst eH
      rw [List.length_map] at hj
      rw [List.getElem?_map] at hx
      obtain ⟨sk, hsk, rfl⟩ := Option.map_eq_some_iff.mp hx
      obtain ⟨xs, hxs, hskx⟩ := paired_at hss j sk hsk
      have hsk7 := hb _ _ (k4 _ _ hskx) (ne_of_none (k4 _ _ hskx) hD)
      refine ⟨rfl, ?_⟩
      dsimp only [tYes]
      rw [if_pos rfl]
      refine ⟨_, rfl, sk, _, rfl, .inl (.inl (.inl hsk7)), fun u hu => ?_⟩
      have nu : D ≠ u := ne_of_none hDD hu
      refine ⟨_, by rw [upd_ne nu]; exact hDD, ?_, (hb.same (same_at _ hu)).trans (but_upd _ D _), ts ++ [u], by rw [upd_same, List.map_append]; rfl, ?_⟩
      · rw [List.length_map, Paired.length hp6, List.length_take]
        exact small_lt (by omega)
      · rw [List.take_add_one, hxs]
        refine Paired.snoc (Paired.mapP hp6 fun t' xs' z => ⟨z.1, ?_⟩) ⟨nu.symm, ?_⟩
        · rw [upd_ne z.1, upd_ne (ne_of_none z.2 hu)]; exact z.2
        · rw [upd_ne nu.symm]; exact upd_same
    obtain ⟨hb, ts, hDD, hp6⟩ := h
    rw [List.length_map, lss, List.take_length] at hp6
    have s56 : Same H5 H6 := But.of_new hD hb
    have ra6 := ra4.same s56
    have hR6 := s56 _ _ hR4
    refine ⟨_, rfl, .inl ⟨rfl, _, .inl (.inl hR6)⟩, ?_⟩
    refine ⟨_, rfl, r, dx4, _, rfl, ra6.ob, rF_none (by decide +kernel), _, rfl, r, D, stAt cs i, rows, rfl, ⟨ts, hDD, Paired.mapP hp6 fun _ _ z => z.2⟩, hask rows hin, ⟨dx4, pl4, sn4, aW4, ra6⟩, hbd _ (List.mem_of_getElem? hout), fun c H7 lt7 ro7 hc7 => ?_⟩
    refine ⟨c, _, rfl, .inl (.inl (.inl hc7)), fun u hu => ?_⟩
    have s78 := same_at (.lst (iv (VbjpaeNeutral.step (stAt cs i) rows).2)) hu
    have hU : (upd H7 u (.lst (iv (VbjpaeNeutral.step (stAt cs i) rows).2))) u = some (.lst (iv (VbjpaeNeutral.step (stAt cs i) rows).2)) := upd_same
    have lt58 : LT r H5 (upd H7 u (.lst (iv (VbjpaeNeutral.step (stAt cs i) rows).2))) := ((same_lt s56).trans lt7).trans (same_lt s78)
    generalize upd H7 u (.lst (iv (VbjpaeNeutral.step (stAt cs i) rows).2)) = H8 at s78 hU lt58
    have hR8 := lt58.l _ _ hR4
    have np8 : ¬ PL r H8 res := fun z => np4 ((lt58.p ra4.pld).2 _ _ hR4 z)
    have nu : u ≠ res := fun z => by
      rw [z, lt7.l _ _ hR6] at hu; cases hu
    have nub : ∀ b xs, H b = some (.lst xs) → u ≠ b := fun b xs e z => by
      rw [z, lt7.l _ _ (s56 _ _ (k4 _ _ e))] at hu; cases hu
    obtain ⟨dx8, pl8, sn8, aW8, ra8⟩ := ro7
    have ra8 := ra8.same s78
    refine ⟨res, _, _, rfl, rfl, hR8, ?_, ?_⟩
    · rw [List.length_map, Paired.length hp4, List.length_take]
      exact small_lt (by omega)
    · refine ⟨⟨_, _, rfl⟩, fun b xs e => ?_, ⟨dx8, pl8, sn8, aW8, ?_⟩, fun z => np8 (pl_back z), rs ++ [u], by rw [upd_same, List.map_append]; rfl, ?_⟩
      · rw [upd_ne (nres _ _ e)]; exact lt58.l _ _ (k4 _ _ e)
      · have e : stAt cs (i + 1) = (VbjpaeNeutral.step (stAt cs i) rows).1 := by
          unfold stAt
          rw [List.take_add_one, hrows, List.foldl_append]
          rfl
        rw [e]
        exact ra8.list hR8 np8
      · rw [List.take_add_one, hout]
        refine Paired.snoc (Paired.mapP hp4 fun r' out z => ⟨z.1, z.2.1, ?_⟩) ⟨nu, nub, ?_⟩
        · rw [upd_ne z.1]; exact lt58.l _ _ z.2.2
        · rw [upd_ne nu]; exact hU
  · obtain ⟨⟨x3, x4, rfl⟩, k4, _, _, rs, hR4, hp4⟩ := hP
    have lo : (outsOf cs).length = cs.length := played_len cs _
    rw [List.length_map, lq, ← lo, List.take_length] at hp4
    refine ⟨_, rfl, res, _, rfl, .inl (.inl (.inl hR4)), fun c hc => ?_⟩
    have s5 := same_at (.lst (rs.map V.ref)) hc
    refine q c rs _ (fun b xs e => ⟨s5 _ _ (k4 _ _ e), ne_of_none (k4 _ _ e) hc⟩) upd_same (Paired.mapP hp4 fun _ _ z => ⟨z.2.1, s5 _ _ z.2.2⟩)
theorem told_take {os : List (List Int)} {i : Nat} {o : List Int} (h : os[i]? = some o) : PyFlat.told (os.take (i + 1)) = PyFlat.told (os.take i) ++ ((o.length : Int) :: o) := by
  unfold PyFlat.told
  rw [List.take_add_one, h, List.flatMap_append]
  simp
theorem told_le {os : List (List Int)} (i : Nat) : (PyFlat.told (os.take i)).length ≤ (PyFlat.told os).length := by
  unfold PyFlat.told
  exact take_flat_le _ os i
def spAnswers (K : PySem.W.Frag) : Sp := fun vs H Q _ => ∃ (a : Addr) (l : List Int) (cs : List (List (List Int))), vs = [.ref a] ∧ SqL K H a (iv l) ∧ l.length ≤ 1000000 ∧ PyFlat.calls PyVbjpae.shape l.length l = some cs ∧ cs ≠ [] ∧ cs.length ≤ 60 ∧ (∀ c ∈ cs, VbjpaeNeutral.asked1 c = true) ∧ (PyFlat.told (outsOf cs)).length ≤ 10000000 ∧
  ∀ c H', H' c = some (.lst (iv (PyFlat.told (outsOf cs)))) → Q (.ref c) H'
theorem ok_answers {f : Addr} {fd : FuncData} (F : Fun K "answers" "answers" sAnswers f fd) (T : Txt K mg CP CR CE aS) (F_request_answers : FunX P w K mg base CX0 44 "request_answers" (spReqAns P w)) (F_requests : FunX P w K mg base CX0 1 "requests" (spRequests K)) : FnOk P w K mg base CX0 45 f fd ["calls"] (spAnswers K) := by
  have nd := scAnswers.nd
  refine F.ok scAnswers (fun vs H Q E h => ?_) (fun cdv A outer sh H vs Q E hr h => ?_)
  · obtain ⟨_, _, _, rfl, _⟩ := h
    rfl
  obtain ⟨a, l, cs, rfl, hA, hz, hcs, hne, h60, hask, hbd, q⟩ := h
  refine ⟨_, (pss_cons (ps_set (i := 1) nd rfl (Or.inl rfl) (pe_lst pa_nil))
    (pss_cons (ps_for PassesOwn.never rfl (pi_list (pe_fx F_request_answers hr (by first | decide | omega) rfl (no0 (E := fun _ => E0)) (pa_cons (pe_fx F_requests hr (by first | decide | omega) rfl (no0 (E := fun _ => E0)) (pa_cons (pv 0) pa_nil)) pa_nil))) (pg_name (i := 2) nd rfl (Or.inl rfl)) (pss_cons (ps_expr (pe_bm PySem.F.plainAttrs_list PySem.F.slot_list_append PySem.F.type_list_append mt_append (pv 1) (pa_cons (pe_callB (call_lenQ rfl) (by rfl) T.m_len (by decide +kernel) (pa_cons (pv 2) pa_nil)) pa_nil)))
    (pss_one (ps_expr (pe_bm PySem.F.plainAttrs_list PySem.F.slot_list_extend PySem.F.type_list_extend mt_extend (pv 1) (pa_cons (pv 2) pa_nil))))))
    (pss_one (ps_ret (pv 1))))), ?_⟩
  refine ⟨Nat.zero_le _, fun c0 hc0 => ?_⟩
  have s0 := same_at (.lst []) hc0
  have hC0 : (upd H c0 (.lst [])) c0 = some (.lst []) := upd_same
  generalize upd H c0 (.lst []) = H0 at s0 hC0
  have hob : ∀ out ∈ outsOf cs, out.length ≤ 10000000 := fun out ho => by
    obtain ⟨i, hi⟩ := List.mem_iff_getElem?.mp ho
    have := told_le (os := outsOf cs) (i + 1)
    rw [told_take hi, List.length_append, List.length_cons] at this
    omega
  refine ⟨_, rfl, a, l, cs, rfl, Same.seq s0 hA, hz, hcs, fun lc H1 s1 hLLL => ?_⟩
  refine ⟨lc, cs, rfl, hLLL, hne, h60, hask, hob, fun al rs H2 k2 hAL hp => ?_⟩
  have hC1 := s1 _ _ hC0
  obtain ⟨hC2, nca⟩ := k2 _ _ hC1
  have lrs := Paired.length hp
  refine ⟨al, rfl, ⟨_, .inl (.inl hAL)⟩, ?_⟩
  refine for_it (walk_list (xs := rs.map V.ref)) (fun i σ H' => (∃ x2, σ = [some (.ref a), some (.ref c0), x2]) ∧ But c0 H2 H' ∧ H' c0 = some (.lst (iv (PyFlat.told ((outsOf cs).take i))))) ⟨⟨_, rfl⟩, But.refl _ _, hC2⟩ (fun i σ H' _ h => .inl (.inl (h.2.1 _ _ hAL nca.symm))) (fun i x σ H3 H4 hi hP hY => ?_) (fun σ H' hP => ?_)
  · obtain ⟨⟨x2, rfl⟩, hb, hC⟩ := hP
    obtain ⟨eH, hx⟩ := hY
    subst eH
    rw [List.getElem?_map] at hx
    obtain ⟨rk, hrk, rfl⟩ := Option.map_eq_some_iff.mp hx
    obtain ⟨out, hout, hnb, hro⟩ := paired_at hp i rk hrk
    have hro4 := hb _ _ hro (hnb _ _ hC1)
    have tt := told_take hout
    have tl := told_le (os := outsOf cs) (i + 1)
    rw [tt, List.length_append, List.length_cons] at tl
    refine ⟨_, rfl, .inl ⟨rfl, _, .inl (.inl hC)⟩, _, rfl, rk, _, rfl, .inl (.inl (.inl hro4)), c0, _, _, rfl, rfl, hC, by rw [iv_len]; exact small_lt (by omega), ?_⟩
    have nrc : rk ≠ c0 := hnb _ _ hC1
    refine ⟨_, rfl, .inl ⟨rfl, _, .inl (.inl upd_same)⟩, _, rfl, c0, rk, _, _, rfl, rfl, upd_same, by rw [upd_ne nrc]; exact hro4, ?_, ?_⟩
    · rw [List.length_append, iv_len, iv_len, sizeLine_eq, List.length_singleton]
      omega
    · refine ⟨⟨_, rfl⟩, (hb.trans (but_upd _ c0 _)).trans (but_upd _ c0 _), ?_⟩
      rw [upd_same, tt, iv_len]
      simp [iv]
  · obtain ⟨⟨x2, rfl⟩, hb, hC⟩ := hP
    rw [List.length_map, lrs, List.take_length] at hC
    exact ⟨_, rfl, q c0 H' hC⟩
/-! ### what is asked -/
theorem whole_asked {c : List (List Int)} (h : VbjpaeNeutral.asked1 (PyVbjpae.whole c) = true) : PyVbjpae.whole c = c := by
  unfold PyVbjpae.whole
  split <;> rfl
theorem whole_id (c : List (List Int)) : PyVbjpae.whole c = c := by
  unfold PyVbjpae.whole
  split <;> rfl
theorem asked_facts {l : List Int} (h : PyVbjpae.answers_asked l = true) : ∃ cs, PyFlat.calls PyVbjpae.shape l.length l = some cs ∧ cs ≠ [] ∧ cs.length ≤ 60 ∧ (∀ c ∈ cs, VbjpaeNeutral.asked1 c = true) ∧ (PyFlat.told (outsOf cs)).length ≤ 10000000 ∧ PyVbjpae.answers l = PyFlat.told (outsOf cs) := by
  unfold PyVbjpae.answers_asked at h
  cases e : PyFlat.calls PyVbjpae.shape l.length l with
  | none => rw [e] at h; cases h
  | some raw =>
    rw [e] at h
    dsimp only at h
    simp only [Bool.and_eq_true] at h
    obtain ⟨⟨⟨⟨h1, h2⟩, h3⟩, h4⟩, h5⟩ := h
    have hw : raw.map PyVbjpae.whole = raw := by
      conv => rhs; rw [← List.map_id raw]
      exact List.map_congr_left fun c _ => whole_id c
    have ha : PyVbjpae.answers l = PyFlat.told (outsOf raw) := by
      unfold PyVbjpae.answers PyVbjpae.calls
      rw [e]
      dsimp only
      rw [hw]
      rfl
    refine ⟨raw, rfl, fun z => by rw [z] at h1; simp at h1, of_decide_eq_true h2, fun c hc => ?_, ?_, ha⟩
    · rw [hw] at h4
      unfold VbjpaeNeutral.asked at h4
      rw [Bool.and_eq_true] at h4
      exact List.all_eq_true.mp h4.1 c hc
    · rw [ha] at h5
      exact of_decide_eq_true h5
end
end SP
end

section
set_option Elab.async false
set_option linter.all false
set_option maxRecDepth 100000
set_option maxHeartbeats 4000000
namespace SP
open PySem PySem.Spec PyProof.Rows L2 SPR
def keyOk (e : DictEntry) : Bool := match e.key with
  | .int j _ => decide (e.hash = hashInt j)
  | _ => false
theorem key_ok {e : DictEntry} (h : keyOk e = true) : ∃ j t, e.key = .int j t ∧ e.hash = hashInt j := by
  unfold keyOk at h
  split at h
  · rename_i j t hk
    exact ⟨j, t, hk, of_decide_eq_true h⟩
  · cases h
theorem exm_self {K : PySem.W.Frag} {S : Addr} (h1 : PySem.W.subIn K (.ref S) (.type "BaseException") = some true) (h2 : PySem.W.isClsIn K S = true) (h3 : PySem.W.typeIn K (.ref S) = some (.type "type")) (h4 : PySem.W.subIn K (.ref S) (.ref S) = some true) :
    PySem.W.exmOne K (.ref S) (.ref S) = some true := by
  have e1 : (PySem.W.subIn K (.ref S) (.type "BaseException") == some true) = true := by rw [h1] <;> rfl
  have e2 : ((PySem.W.clsIn K S).isSome && PySem.W.typeIn K (.ref S) == some (.type "type")) = true := by
    have h2' : (PySem.W.clsIn K S).isSome = true := h2
    rw [h2', h3] <;> rfl
  show (if (PySem.W.subIn K (.ref S) (.type "BaseException") == some true) = true then (if ((PySem.W.clsIn K S).isSome && PySem.W.typeIn K (.ref S) == some (.type "type")) = true then PySem.W.subIn K (.ref S) (.ref S) else none) else none) = some true
  rw [if_pos e1, if_pos e2]
  exact h4
section
variable {P : Program} {w : World} {K : PySem.W.Frag} {mg : Str → Option Value} {base : Heap} {CP CR CE aS : Addr}
theorem wins_lv {f1 f2 f3 f4 : Addr} {d1 d2 d3 d4 : FuncData} (T : Txt K mg CP CR CE aS) (F1 : Fun K "wins" "Plan.wins" sWins f1 d1) (m1 : Meth K CP "wins" f1) (b1 : Binds K d1 ["self", "position"] []) (F2 : Fun K "wins_any" "Plan.wins_any" sWinsAny f2 d2) (m2 : Meth K CP "wins_any" f2) (b2 : Binds K d2 ["self", "seen", "moment"] [])
    (F3 : Fun K "is_good_move" "Plan.is_good_move" sIgm f3 d3) (m3 : Meth K CP "is_good_move" f3) (b3 : Binds K d3 ["self", "moment", "seen", "mask"] []) (F4 : Fun K "is_good_move_all" "Plan.is_good_move_all" sIgma f4 d4) (m4 : Meth K CP "is_good_move_all" f4) (b4 : Binds K d4 ["self", "moment", "after"] [])
    (Mf : MetX P w K mg base CX0 2 CP "followers" (spFollowers CP)) (Ma : MetX P w K mg base CX0 1 CP "after_move" spAfterMove) (Mb : MetX P w K mg base CX0 3 CP "first_bad_completion" (spFbc CP)) (Mi : MetX P w K mg base CX0 2 CP "is_broken" (spIsBroken CP)) (Mm : MetX P w K mg base CX0 1 CP "moves" (spMoves CP)) :
    ∀ n, MetX P w K mg base CX0 (2 + 4 * n) CP "wins" (spWins P w CP n) ∧ MetX P w K mg base CX0 (4 + 4 * n) CP "is_good_move" (spIgm P w CP (n + 1)) := by
  have stp : ∀ n, MetX P w K mg base CX0 (2 + 4 * n) CP "wins" (spWins P w CP n) → MetX P w K mg base CX0 (4 + 4 * n) CP "is_good_move" (spIgm P w CP (n + 1)) := fun n hw => by
    have g : MetX P w K mg base CX0 (3 + 4 * n) CP "is_good_move_all" (spIgma P w CP (n + 1)) := ⟨_, _, _, m4, by have := ok_igma (n := n) (k := 2 + 4 * n) F4 T (by omega) Mf hw; rw [show 2 + 4 * n + 1 = 3 + 4 * n by omega] at this; exact this, b4⟩
    exact ⟨_, _, _, m3, by have := ok_igm (n := n) (k := 3 + 4 * n) F3 T (by omega) Ma Mb Mi g; rw [show 3 + 4 * n + 1 = 4 + 4 * n by omega] at this; exact this, b3⟩
  intro n
  induction n with
  | zero => 
    have h0 : MetX P w K mg base CX0 (2 + 4 * 0) CP "wins" (spWins P w CP 0) := ⟨_, _, _, m1, ok_wins0 (k := 1) F1, b1⟩
    exact ⟨h0, stp 0 h0⟩
  | succ n ih =>
    have a : MetX P w K mg base CX0 (5 + 4 * n) CP "wins_any" (spWinsAny P w CP (n + 1)) := ⟨_, _, _, m2, by have := ok_wins_any (n := n + 1) (k := 4 + 4 * n) F2 T (by omega) Mm ih.2; rw [show 4 + 4 * n + 1 = 5 + 4 * n by omega] at this; exact this, b2⟩
    have h1 : MetX P w K mg base CX0 (2 + 4 * (n + 1)) CP "wins" (spWins P w CP (n + 1)) := ⟨_, _, _, m1, by have := ok_wins (n := n + 1) (k := 5 + 4 * n) F1 T (by omega) Mi a; rw [show 5 + 4 * n + 1 = 2 + 4 * (n + 1) by omega] at this; exact this, b1⟩
    exact ⟨h1, stp (n + 1) h1⟩
theorem str_lv {f1 f2 : Addr} {d1 d2 : FuncData} (T : Txt K mg CP CR CE aS) (F1 : Fun K "strategy" "Plan.strategy" sStr f1 d1) (m1 : Meth K CP "strategy" f1) (b1 : Binds K d1 ["self", "position", "entries"] []) (F2 : Fun K "strategy_first" "Plan.strategy_first" sStrF f2 d2) (m2 : Meth K CP "strategy_first" f2) (b2 : Binds K d2 ["self", "seen", "moment"] [])
    (Fr : FunX P w K mg base (L2.CX P w) 3 "require" (spReq CE)) (Mf : MetX P w K mg base CX0 2 CP "followers" (spFollowers CP)) (Ma : MetX P w K mg base CX0 1 CP "after_move" spAfterMove) (Mm : MetX P w K mg base CX0 1 CP "moves" (spMoves CP)) (Mg : ∀ n, MetX P w K mg base CX0 (4 + 4 * n) CP "is_good_move" (spIgm P w CP (n + 1))) :
    ∀ n, MetX P w K mg base (L2.CX P w) (2 + 4 * n) CP "strategy" (spStr P w CP CE n) := by
  intro n
  induction n with
  | zero => exact ⟨_, _, _, m1, ok_str0 (k := 1) F1, b1⟩
  | succ n ih =>
    have g : MetX P w K mg base CX0 (5 + 4 * n) CP "strategy_first" (spStrF P w CP (n + 1)) := ⟨_, _, _, m2, by have := ok_strF (n := n + 1) (k := 4 + 4 * n) F2 T (by omega) Mm (Mg n); rw [show 4 + 4 * n + 1 = 5 + 4 * n by omega] at this; exact this, b2⟩
    exact ⟨_, _, _, m1, by have := ok_str (n := n) (k := 5 + 4 * n) (k2 := 2 + 4 * n) F1 T (by omega) (by omega) g Fr Mf Ma ih; rw [show 5 + 4 * n + 1 = 2 + 4 * (n + 1) by omega] at this; exact this, b1⟩
theorem ref_lv {f1 f2 : Addr} {d1 d2 : FuncData} (T : Txt K mg CP CR CE aS) (F1 : Fun K "refutation" "Plan.refutation" sRef f1 d1) (m1 : Meth K CP "refutation" f1) (b1 : Binds K d1 ["self", "position", "positions"] []) (F2 : Fun K "refutation_first" "Plan.refutation_first" sRefF f2 d2) (m2 : Meth K CP "refutation_first" f2) (b2 : Binds K d2 ["self", "moment", "after"] [])
    (Fr : FunX P w K mg base (L2.CX P w) 3 "require" (spReq CE)) (Mf : MetX P w K mg base CX0 2 CP "followers" (spFollowers CP)) (Ma : MetX P w K mg base CX0 1 CP "after_move" spAfterMove) (Mm : MetX P w K mg base CX0 1 CP "moves" (spMoves CP)) (Mi : MetX P w K mg base CX0 2 CP "is_broken" (spIsBroken CP)) (Mw : ∀ n, MetX P w K mg base CX0 (2 + 4 * n) CP "wins" (spWins P w CP n)) :
    ∀ n, MetX P w K mg base (L2.CX P w) (4 + 4 * n) CP "refutation" (spRef P w CP CE n) := by
  intro n
  induction n with
  | zero => exact ⟨_, _, _, m1, ok_ref0 (k := 3) F1, b1⟩
  | succ n ih =>
    have g : MetX P w K mg base CX0 (3 + 4 * n) CP "refutation_first" (spRefF P w CP (n + 1)) := ⟨_, _, _, m2, by have := ok_refF (n := n) (k := 2 + 4 * n) F2 T (by omega) Mf (Mw n); rw [show 2 + 4 * n + 1 = 3 + 4 * n by omega] at this; exact this, b2⟩
    exact ⟨_, _, _, m1, by have := ok_ref (n := n) (k := 7 + 4 * n) (k2 := 4 + 4 * n) (k3 := 3 + 4 * n) F1 T (by omega) (by omega) (by omega) Fr Mm Ma Mi g ih; rw [show 7 + 4 * n + 1 = 4 + 4 * (n + 1) by omega] at this; exact this, b1⟩
end

theorem all_mk {P : Program} {w : World} {K : PySem.W.Frag} {h : Heap} {mg : Str → Option Value} {fa CP CR CE aS f0 f1 f2 f3 f4 f5 f6 f7 f8 f9 f10 f11 f12 f13 f14 f15 f16 f17 f18 f19 f20 f21 f22 f23 f24 f25 f26 f27 f28 f29 f30 f31 f32 f33 f34 f35 f36 f37 f38 f39 f40 f41 f42 f43 f44 f45 f46 f47 f48 f49 f50 f51 f52 f53 f54 f55 f56 f57 f58 f59 f60 f61 f62 f63 f64 t0 t1 t2 t3 t4 t5 t6 t7 t8 t9 t10 t11 t12 t13 t14 : Addr} (X : K.In h) (G : h.Ns mainGlobals mg) (hfa : mg "answers" = some (.ref fa))
    {od0 an0 : Option Addr} {sl0 : Array (Option Value)} {oc0 kV0 dc0 pm0 cd0 ct0 : Value}
    {od1 an1 : Option Addr} {sl1 : Array (Option Value)} {oc1 kV1 dc1 pm1 cd1 ct1 : Value}
    {od2 an2 : Option Addr} {sl2 : Array (Option Value)} {oc2 kV2 dc2 pm2 cd2 ct2 : Value}
    {od3 an3 : Option Addr} {sl3 : Array (Option Value)} {oc3 kV3 dc3 pm3 cd3 ct3 : Value}
    {od4 an4 : Option Addr} {sl4 : Array (Option Value)} {oc4 kV4 dc4 pm4 cd4 ct4 : Value}
    {od5 an5 : Option Addr} {sl5 : Array (Option Value)} {oc5 kV5 dc5 pm5 cd5 ct5 : Value}
    {od6 an6 : Option Addr} {sl6 : Array (Option Value)} {oc6 kV6 dc6 pm6 cd6 ct6 : Value}
    {od7 an7 : Option Addr} {sl7 : Array (Option Value)} {oc7 kV7 dc7 pm7 cd7 ct7 : Value}
    {od8 an8 : Option Addr} {sl8 : Array (Option Value)} {oc8 kV8 dc8 pm8 cd8 ct8 : Value}
    {od9 an9 : Option Addr} {sl9 : Array (Option Value)} {oc9 kV9 dc9 pm9 cd9 ct9 : Value}
    {od10 an10 : Option Addr} {sl10 : Array (Option Value)} {oc10 kV10 dc10 pm10 cd10 ct10 : Value}
    {od11 an11 : Option Addr} {sl11 : Array (Option Value)} {oc11 kV11 dc11 pm11 cd11 ct11 : Value}
    {od12 an12 : Option Addr} {sl12 : Array (Option Value)} {oc12 kV12 dc12 pm12 cd12 ct12 : Value}
    {od13 an13 : Option Addr} {sl13 : Array (Option Value)} {oc13 kV13 dc13 pm13 cd13 ct13 : Value}
    {od14 an14 : Option Addr} {sl14 : Array (Option Value)} {oc14 kV14 dc14 pm14 cd14 ct14 : Value}
    {od15 an15 : Option Addr} {sl15 : Array (Option Value)} {oc15 kV15 dc15 pm15 cd15 ct15 : Value}
    {od16 an16 : Option Addr} {sl16 : Array (Option Value)} {oc16 kV16 dc16 pm16 cd16 ct16 : Value}
    {od17 an17 : Option Addr} {sl17 : Array (Option Value)} {oc17 kV17 dc17 pm17 cd17 ct17 : Value}
    {od18 an18 : Option Addr} {sl18 : Array (Option Value)} {oc18 kV18 dc18 pm18 cd18 ct18 : Value}
    {od19 an19 : Option Addr} {sl19 : Array (Option Value)} {oc19 kV19 dc19 pm19 cd19 ct19 : Value}
    {od20 an20 : Option Addr} {sl20 : Array (Option Value)} {oc20 kV20 dc20 pm20 cd20 ct20 : Value}
    {od21 an21 : Option Addr} {sl21 : Array (Option Value)} {oc21 kV21 dc21 pm21 cd21 ct21 : Value}
    {od22 an22 : Option Addr} {sl22 : Array (Option Value)} {oc22 kV22 dc22 pm22 cd22 ct22 : Value}
    {od23 an23 : Option Addr} {sl23 : Array (Option Value)} {oc23 kV23 dc23 pm23 cd23 ct23 : Value}
    {od24 an24 : Option Addr} {sl24 : Array (Option Value)} {oc24 kV24 dc24 pm24 cd24 ct24 : Value}
    {od25 an25 : Option Addr} {sl25 : Array (Option Value)} {oc25 kV25 dc25 pm25 cd25 ct25 : Value}
    {od26 an26 : Option Addr} {sl26 : Array (Option Value)} {oc26 kV26 dc26 pm26 cd26 ct26 : Value}
    {od27 an27 : Option Addr} {sl27 : Array (Option Value)} {oc27 kV27 dc27 pm27 cd27 ct27 : Value}
    {od28 an28 : Option Addr} {sl28 : Array (Option Value)} {oc28 kV28 dc28 pm28 cd28 ct28 : Value}
    {od29 an29 : Option Addr} {sl29 : Array (Option Value)} {oc29 kV29 dc29 pm29 cd29 ct29 : Value}
    {od30 an30 : Option Addr} {sl30 : Array (Option Value)} {oc30 kV30 dc30 pm30 cd30 ct30 : Value}
    {od31 an31 : Option Addr} {sl31 : Array (Option Value)} {oc31 kV31 dc31 pm31 cd31 ct31 : Value}
    {od32 an32 : Option Addr} {sl32 : Array (Option Value)} {oc32 kV32 dc32 pm32 cd32 ct32 : Value}
    {od33 an33 : Option Addr} {sl33 : Array (Option Value)} {oc33 kV33 dc33 pm33 cd33 ct33 : Value}
    {od34 an34 : Option Addr} {sl34 : Array (Option Value)} {oc34 kV34 dc34 pm34 cd34 ct34 : Value}
    {od35 an35 : Option Addr} {sl35 : Array (Option Value)} {oc35 kV35 dc35 pm35 cd35 ct35 : Value}
    {od36 an36 : Option Addr} {sl36 : Array (Option Value)} {oc36 kV36 dc36 pm36 cd36 ct36 : Value}
    {od37 an37 : Option Addr} {sl37 : Array (Option Value)} {oc37 kV37 dc37 pm37 cd37 ct37 : Value}
    {od38 an38 : Option Addr} {sl38 : Array (Option Value)} {oc38 kV38 dc38 pm38 cd38 ct38 : Value}
    {od39 an39 : Option Addr} {sl39 : Array (Option Value)} {oc39 kV39 dc39 pm39 cd39 ct39 : Value}
    {od40 an40 : Option Addr} {sl40 : Array (Option Value)} {oc40 kV40 dc40 pm40 cd40 ct40 : Value}
    {od41 an41 : Option Addr} {sl41 : Array (Option Value)} {oc41 kV41 dc41 pm41 cd41 ct41 : Value}
    {od42 an42 : Option Addr} {sl42 : Array (Option Value)} {oc42 kV42 dc42 pm42 cd42 ct42 : Value}
    {od43 an43 : Option Addr} {sl43 : Array (Option Value)} {oc43 kV43 dc43 pm43 cd43 ct43 : Value}
    {od44 an44 : Option Addr} {sl44 : Array (Option Value)} {oc44 kV44 dc44 pm44 cd44 ct44 : Value}
    {od45 an45 : Option Addr} {sl45 : Array (Option Value)} {oc45 kV45 dc45 pm45 cd45 ct45 : Value}
    {od46 an46 : Option Addr} {sl46 : Array (Option Value)} {oc46 kV46 dc46 pm46 cd46 ct46 : Value}
    {od47 an47 : Option Addr} {sl47 : Array (Option Value)} {oc47 kV47 dc47 pm47 cd47 ct47 : Value}
    {od48 an48 : Option Addr} {sl48 : Array (Option Value)} {oc48 kV48 dc48 pm48 cd48 ct48 : Value}
    {od49 an49 : Option Addr} {sl49 : Array (Option Value)} {oc49 kV49 dc49 pm49 cd49 ct49 : Value}
    {od50 an50 : Option Addr} {sl50 : Array (Option Value)} {oc50 kV50 dc50 pm50 cd50 ct50 : Value}
    {od51 an51 : Option Addr} {sl51 : Array (Option Value)} {oc51 kV51 dc51 pm51 cd51 ct51 : Value}
    {od52 an52 : Option Addr} {sl52 : Array (Option Value)} {oc52 kV52 dc52 pm52 cd52 ct52 : Value}
    {od53 an53 : Option Addr} {sl53 : Array (Option Value)} {oc53 kV53 dc53 pm53 cd53 ct53 : Value}
    {od54 an54 : Option Addr} {sl54 : Array (Option Value)} {oc54 kV54 dc54 pm54 cd54 ct54 : Value}
    {od55 an55 : Option Addr} {sl55 : Array (Option Value)} {oc55 kV55 dc55 pm55 cd55 ct55 : Value}
    {od56 an56 : Option Addr} {sl56 : Array (Option Value)} {oc56 kV56 dc56 pm56 cd56 ct56 : Value}
    {od57 an57 : Option Addr} {sl57 : Array (Option Value)} {oc57 kV57 dc57 pm57 cd57 ct57 : Value}
    {od58 an58 : Option Addr} {sl58 : Array (Option Value)} {oc58 kV58 dc58 pm58 cd58 ct58 : Value}
    {od59 an59 : Option Addr} {sl59 : Array (Option Value)} {oc59 kV59 dc59 pm59 cd59 ct59 : Value}
    {od60 an60 : Option Addr} {sl60 : Array (Option Value)} {oc60 kV60 dc60 pm60 cd60 ct60 : Value}
    {od61 an61 : Option Addr} {sl61 : Array (Option Value)} {oc61 kV61 dc61 pm61 cd61 ct61 : Value}
    {od62 an62 : Option Addr} {sl62 : Array (Option Value)} {oc62 kV62 dc62 pm62 cd62 ct62 : Value}
    {od63 an63 : Option Addr} {sl63 : Array (Option Value)} {oc63 kV63 dc63 pm63 cd63 ct63 : Value}
    {od64 an64 : Option Addr} {sl64 : Array (Option Value)} {oc64 kV64 dc64 pm64 cd64 ct64 : Value}
    {tUN tME tMS : Tok}
    {nmE : _} {qE : _} {NE : _} {bsE : _} {snE : _} {subE : _} {abE : _} {colE : _} {ddE : _} {k0E : _} {k1E : _} {k2E : _} {k3E : _} {k5E : _}
    {es : Array DictEntry} {ns : Nat}
    {odS0 : Option Addr} {taS0 tbS0 : Tok} {mS0 : Nat} {slS0 : Array (Option Value)}
    {odS1 : Option Addr} {taS1 tbS1 : Tok} {mS1 : Nat} {slS1 : Array (Option Value)}
    {odS2 : Option Addr} {taS2 tbS2 : Tok} {mS2 : Nat} {slS2 : Array (Option Value)}
    {odS3 : Option Addr} {taS3 tbS3 : Tok} {mS3 : Nat} {slS3 : Array (Option Value)}
    {odS4 : Option Addr} {taS4 tbS4 : Tok} {mS4 : Nat} {slS4 : Array (Option Value)}
    {odS5 : Option Addr} {taS5 tbS5 : Tok} {mS5 : Nat} {slS5 : Array (Option Value)}
    {odS6 : Option Addr} {taS6 tbS6 : Tok} {mS6 : Nat} {slS6 : Array (Option Value)}
    {odS7 : Option Addr} {taS7 tbS7 : Tok} {mS7 : Nat} {slS7 : Array (Option Value)}
    {odS8 : Option Addr} {taS8 tbS8 : Tok} {mS8 : Nat} {slS8 : Array (Option Value)}
    {odS9 : Option Addr} {taS9 tbS9 : Tok} {mS9 : Nat} {slS9 : Array (Option Value)}
    {odS10 : Option Addr} {taS10 tbS10 : Tok} {mS10 : Nat} {slS10 : Array (Option Value)}
    {odS11 : Option Addr} {taS11 tbS11 : Tok} {mS11 : Nat} {slS11 : Array (Option Value)}
    {odS12 : Option Addr} {taS12 tbS12 : Tok} {mS12 : Nat} {slS12 : Array (Option Value)}
    {odS13 : Option Addr} {taS13 tbS13 : Tok} {mS13 : Nat} {slS13 : Array (Option Value)}
    {odS14 : Option Addr} {taS14 tbS14 : Tok} {mS14 : Nat} {slS14 : Array (Option Value)}
    (aCP : PySem.W.nsIn K mainGlobals "Plan" = some (some (.ref CP)))
    (aCR : PySem.W.nsIn K mainGlobals "Request" = some (some (.ref CR)))
    (aCE : PySem.W.nsIn K mainGlobals "OperationError" = some (some (.ref CE)))
    (a0 : PySem.W.nsIn K mainGlobals "power" = some (some (.ref f0)))
    (l0 : K.lookup f0 = some ⟨oc0, od0, .func (PySem.W.fnOf "power" "power" (defArgs sPower) (defBody sPower) (defScope sPower) .none kV0 dc0 pm0 an0 cd0 ct0), sl0⟩)
    (c0 : PySem.W.codeIn K cd0 "power" = true)
    (k0 : PySem.W.keepIn K (.ref f0) = true)
    (a1 : PySem.W.nsIn K mainGlobals "next_row" = some (some (.ref f1)))
    (l1 : K.lookup f1 = some ⟨oc1, od1, .func (PySem.W.fnOf "next_row" "next_row" (defArgs sNextRow) (defBody sNextRow) (defScope sNextRow) .none kV1 dc1 pm1 an1 cd1 ct1), sl1⟩)
    (c1 : PySem.W.codeIn K cd1 "next_row" = true)
    (k1 : PySem.W.keepIn K (.ref f1) = true)
    (a2 : PySem.W.nsIn K mainGlobals "first_row" = some (some (.ref f2)))
    (l2 : K.lookup f2 = some ⟨oc2, od2, .func (PySem.W.fnOf "first_row" "first_row" (defArgs sFirstRow) (defBody sFirstRow) (defScope sFirstRow) .none kV2 dc2 pm2 an2 cd2 ct2), sl2⟩)
    (c2 : PySem.W.codeIn K cd2 "first_row" = true)
    (k2 : PySem.W.keepIn K (.ref f2) = true)
    (a3 : PySem.W.findIn K (.ref CE) "__init__" = some (some (.ref f3)))
    (i3 : PySem.W.typeIn K (.ref f3) = some (.type "function"))
    (l3 : K.lookup f3 = some ⟨oc3, od3, .func (PySem.W.fnOf "__init__" "OperationError.__init__" (defArgs sOexInit) (defBody sOexInit) (defScope sOexInit) .none kV3 dc3 pm3 an3 cd3 ct3), sl3⟩)
    (c3 : PySem.W.codeIn K cd3 "OperationError.__init__" = true)
    (k3 : PySem.W.keepIn K (.ref f3) = true)
    (a4 : PySem.W.nsIn K mainGlobals "require" = some (some (.ref f4)))
    (l4 : K.lookup f4 = some ⟨oc4, od4, .func (PySem.W.fnOf "require" "require" (defArgs sRequire) (defBody sRequire) (defScope sRequire) .none kV4 dc4 pm4 an4 cd4 ct4), sl4⟩)
    (c4 : PySem.W.codeIn K cd4 "require" = true)
    (k4 : PySem.W.keepIn K (.ref f4) = true)
    (a5 : PySem.W.findIn K (.ref CP) "__init__" = some (some (.ref f5)))
    (i5 : PySem.W.isFn K (.ref f5) = true)
    (l5 : K.lookup f5 = some ⟨oc5, od5, .func (PySem.W.fnOf "__init__" "Plan.__init__" (defArgs sPlanInit) (defBody sPlanInit) (defScope sPlanInit) .none kV5 dc5 pm5 an5 cd5 ct5), sl5⟩)
    (c5 : PySem.W.codeIn K cd5 "Plan.__init__" = true)
    (k5 : PySem.W.keepIn K (.ref f5) = true)
    (a6 : PySem.W.findIn K (.ref CP) "is_valid" = some (some (.ref f6)))
    (i6 : PySem.W.isFn K (.ref f6) = true)
    (l6 : K.lookup f6 = some ⟨oc6, od6, .func (PySem.W.fnOf "is_valid" "Plan.is_valid" (defArgs sIsValid) (defBody sIsValid) (defScope sIsValid) .none kV6 dc6 pm6 an6 cd6 ct6), sl6⟩)
    (c6 : PySem.W.codeIn K cd6 "Plan.is_valid" = true)
    (k6 : PySem.W.keepIn K (.ref f6) = true)
    (a7 : PySem.W.findIn K (.ref CP) "size" = some (some (.ref f7)))
    (i7 : PySem.W.isFn K (.ref f7) = true)
    (l7 : K.lookup f7 = some ⟨oc7, od7, .func (PySem.W.fnOf "size" "Plan.size" (defArgs sSize) (defBody sSize) (defScope sSize) .none kV7 dc7 pm7 an7 cd7 ct7), sl7⟩)
    (c7 : PySem.W.codeIn K cd7 "Plan.size" = true)
    (k7 : PySem.W.keepIn K (.ref f7) = true)
    (a8 : PySem.W.findIn K (.ref CP) "is_too_large" = some (some (.ref f8)))
    (i8 : PySem.W.isFn K (.ref f8) = true)
    (l8 : K.lookup f8 = some ⟨oc8, od8, .func (PySem.W.fnOf "is_too_large" "Plan.is_too_large" (defArgs sItl) (defBody sItl) (defScope sItl) .none kV8 dc8 pm8 an8 cd8 ct8), sl8⟩)
    (c8 : PySem.W.codeIn K cd8 "Plan.is_too_large" = true)
    (k8 : PySem.W.keepIn K (.ref f8) = true)
    (a9 : PySem.W.findIn K (.ref CP) "beginning" = some (some (.ref f9)))
    (i9 : PySem.W.isFn K (.ref f9) = true)
    (l9 : K.lookup f9 = some ⟨oc9, od9, .func (PySem.W.fnOf "beginning" "Plan.beginning" (defArgs sBeginning) (defBody sBeginning) (defScope sBeginning) .none kV9 dc9 pm9 an9 cd9 ct9), sl9⟩)
    (c9 : PySem.W.codeIn K cd9 "Plan.beginning" = true)
    (k9 : PySem.W.keepIn K (.ref f9) = true)
    (a10 : PySem.W.findIn K (.ref CP) "moves" = some (some (.ref f10)))
    (i10 : PySem.W.isFn K (.ref f10) = true)
    (l10 : K.lookup f10 = some ⟨oc10, od10, .func (PySem.W.fnOf "moves" "Plan.moves" (defArgs sMoves) (defBody sMoves) (defScope sMoves) .none kV10 dc10 pm10 an10 cd10 ct10), sl10⟩)
    (c10 : PySem.W.codeIn K cd10 "Plan.moves" = true)
    (k10 : PySem.W.keepIn K (.ref f10) = true)
    (a11 : PySem.W.findIn K (.ref CP) "is_move" = some (some (.ref f11)))
    (i11 : PySem.W.isFn K (.ref f11) = true)
    (l11 : K.lookup f11 = some ⟨oc11, od11, .func (PySem.W.fnOf "is_move" "Plan.is_move" (defArgs sIsMove) (defBody sIsMove) (defScope sIsMove) .none kV11 dc11 pm11 an11 cd11 ct11), sl11⟩)
    (c11 : PySem.W.codeIn K cd11 "Plan.is_move" = true)
    (k11 : PySem.W.keepIn K (.ref f11) = true)
    (a12 : PySem.W.findIn K (.ref CP) "is_move_all" = some (some (.ref f12)))
    (i12 : PySem.W.isFn K (.ref f12) = true)
    (l12 : K.lookup f12 = some ⟨oc12, od12, .func (PySem.W.fnOf "is_move_all" "Plan.is_move_all" (defArgs sIsMoveAll) (defBody sIsMoveAll) (defScope sIsMoveAll) .none kV12 dc12 pm12 an12 cd12 ct12), sl12⟩)
    (c12 : PySem.W.codeIn K cd12 "Plan.is_move_all" = true)
    (k12 : PySem.W.keepIn K (.ref f12) = true)
    (a13 : PySem.W.findIn K (.ref CP) "after_move" = some (some (.ref f13)))
    (i13 : PySem.W.isFn K (.ref f13) = true)
    (l13 : K.lookup f13 = some ⟨oc13, od13, .func (PySem.W.fnOf "after_move" "Plan.after_move" (defArgs sAfterMove) (defBody sAfterMove) (defScope sAfterMove) .none kV13 dc13 pm13 an13 cd13 ct13), sl13⟩)
    (c13 : PySem.W.codeIn K cd13 "Plan.after_move" = true)
    (k13 : PySem.W.keepIn K (.ref f13) = true)
    (a14 : PySem.W.findIn K (.ref CP) "reports" = some (some (.ref f14)))
    (i14 : PySem.W.isFn K (.ref f14) = true)
    (l14 : K.lookup f14 = some ⟨oc14, od14, .func (PySem.W.fnOf "reports" "Plan.reports" (defArgs sReports) (defBody sReports) (defScope sReports) .none kV14 dc14 pm14 an14 cd14 ct14), sl14⟩)
    (c14 : PySem.W.codeIn K cd14 "Plan.reports" = true)
    (k14 : PySem.W.keepIn K (.ref f14) = true)
    (a15 : PySem.W.findIn K (.ref CP) "after_report" = some (some (.ref f15)))
    (i15 : PySem.W.isFn K (.ref f15) = true)
    (l15 : K.lookup f15 = some ⟨oc15, od15, .func (PySem.W.fnOf "after_report" "Plan.after_report" (defArgs sAfterReport) (defBody sAfterReport) (defScope sAfterReport) .none kV15 dc15 pm15 an15 cd15 ct15), sl15⟩)
    (c15 : PySem.W.codeIn K cd15 "Plan.after_report" = true)
    (k15 : PySem.W.keepIn K (.ref f15) = true)
    (a16 : PySem.W.findIn K (.ref CP) "followers" = some (some (.ref f16)))
    (i16 : PySem.W.isFn K (.ref f16) = true)
    (l16 : K.lookup f16 = some ⟨oc16, od16, .func (PySem.W.fnOf "followers" "Plan.followers" (defArgs sFollowers) (defBody sFollowers) (defScope sFollowers) .none kV16 dc16 pm16 an16 cd16 ct16), sl16⟩)
    (c16 : PySem.W.codeIn K cd16 "Plan.followers" = true)
    (k16 : PySem.W.keepIn K (.ref f16) = true)
    (a17 : PySem.W.findIn K (.ref CP) "is_broken" = some (some (.ref f17)))
    (i17 : PySem.W.isFn K (.ref f17) = true)
    (l17 : K.lookup f17 = some ⟨oc17, od17, .func (PySem.W.fnOf "is_broken" "Plan.is_broken" (defArgs sIsBroken) (defBody sIsBroken) (defScope sIsBroken) .none kV17 dc17 pm17 an17 cd17 ct17), sl17⟩)
    (c17 : PySem.W.codeIn K cd17 "Plan.is_broken" = true)
    (k17 : PySem.W.keepIn K (.ref f17) = true)
    (a18 : PySem.W.findIn K (.ref CP) "is_broken_any" = some (some (.ref f18)))
    (i18 : PySem.W.isFn K (.ref f18) = true)
    (l18 : K.lookup f18 = some ⟨oc18, od18, .func (PySem.W.fnOf "is_broken_any" "Plan.is_broken_any" (defArgs sIsBrokenAny) (defBody sIsBrokenAny) (defScope sIsBrokenAny) .none kV18 dc18 pm18 an18 cd18 ct18), sl18⟩)
    (c18 : PySem.W.codeIn K cd18 "Plan.is_broken_any" = true)
    (k18 : PySem.W.keepIn K (.ref f18) = true)
    (a19 : PySem.W.findIn K (.ref CP) "first_bad_completion" = some (some (.ref f19)))
    (i19 : PySem.W.isFn K (.ref f19) = true)
    (l19 : K.lookup f19 = some ⟨oc19, od19, .func (PySem.W.fnOf "first_bad_completion" "Plan.first_bad_completion" (defArgs sFbc) (defBody sFbc) (defScope sFbc) .none kV19 dc19 pm19 an19 cd19 ct19), sl19⟩)
    (c19 : PySem.W.codeIn K cd19 "Plan.first_bad_completion" = true)
    (k19 : PySem.W.keepIn K (.ref f19) = true)
    (a20 : PySem.W.findIn K (.ref CP) "is_good_move" = some (some (.ref f20)))
    (i20 : PySem.W.isFn K (.ref f20) = true)
    (l20 : K.lookup f20 = some ⟨oc20, od20, .func (PySem.W.fnOf "is_good_move" "Plan.is_good_move" (defArgs sIgm) (defBody sIgm) (defScope sIgm) .none kV20 dc20 pm20 an20 cd20 ct20), sl20⟩)
    (c20 : PySem.W.codeIn K cd20 "Plan.is_good_move" = true)
    (k20 : PySem.W.keepIn K (.ref f20) = true)
    (a21 : PySem.W.findIn K (.ref CP) "is_good_move_all" = some (some (.ref f21)))
    (i21 : PySem.W.isFn K (.ref f21) = true)
    (l21 : K.lookup f21 = some ⟨oc21, od21, .func (PySem.W.fnOf "is_good_move_all" "Plan.is_good_move_all" (defArgs sIgma) (defBody sIgma) (defScope sIgma) .none kV21 dc21 pm21 an21 cd21 ct21), sl21⟩)
    (c21 : PySem.W.codeIn K cd21 "Plan.is_good_move_all" = true)
    (k21 : PySem.W.keepIn K (.ref f21) = true)
    (a22 : PySem.W.findIn K (.ref CP) "wins" = some (some (.ref f22)))
    (i22 : PySem.W.isFn K (.ref f22) = true)
    (l22 : K.lookup f22 = some ⟨oc22, od22, .func (PySem.W.fnOf "wins" "Plan.wins" (defArgs sWins) (defBody sWins) (defScope sWins) .none kV22 dc22 pm22 an22 cd22 ct22), sl22⟩)
    (c22 : PySem.W.codeIn K cd22 "Plan.wins" = true)
    (k22 : PySem.W.keepIn K (.ref f22) = true)
    (a23 : PySem.W.findIn K (.ref CP) "wins_any" = some (some (.ref f23)))
    (i23 : PySem.W.isFn K (.ref f23) = true)
    (l23 : K.lookup f23 = some ⟨oc23, od23, .func (PySem.W.fnOf "wins_any" "Plan.wins_any" (defArgs sWinsAny) (defBody sWinsAny) (defScope sWinsAny) .none kV23 dc23 pm23 an23 cd23 ct23), sl23⟩)
    (c23 : PySem.W.codeIn K cd23 "Plan.wins_any" = true)
    (k23 : PySem.W.keepIn K (.ref f23) = true)
    (a24 : PySem.W.findIn K (.ref CP) "strategy" = some (some (.ref f24)))
    (i24 : PySem.W.isFn K (.ref f24) = true)
    (l24 : K.lookup f24 = some ⟨oc24, od24, .func (PySem.W.fnOf "strategy" "Plan.strategy" (defArgs sStr) (defBody sStr) (defScope sStr) .none kV24 dc24 pm24 an24 cd24 ct24), sl24⟩)
    (c24 : PySem.W.codeIn K cd24 "Plan.strategy" = true)
    (k24 : PySem.W.keepIn K (.ref f24) = true)
    (a25 : PySem.W.findIn K (.ref CP) "strategy_first" = some (some (.ref f25)))
    (i25 : PySem.W.isFn K (.ref f25) = true)
    (l25 : K.lookup f25 = some ⟨oc25, od25, .func (PySem.W.fnOf "strategy_first" "Plan.strategy_first" (defArgs sStrF) (defBody sStrF) (defScope sStrF) .none kV25 dc25 pm25 an25 cd25 ct25), sl25⟩)
    (c25 : PySem.W.codeIn K cd25 "Plan.strategy_first" = true)
    (k25 : PySem.W.keepIn K (.ref f25) = true)
    (a26 : PySem.W.findIn K (.ref CP) "refutation" = some (some (.ref f26)))
    (i26 : PySem.W.isFn K (.ref f26) = true)
    (l26 : K.lookup f26 = some ⟨oc26, od26, .func (PySem.W.fnOf "refutation" "Plan.refutation" (defArgs sRef) (defBody sRef) (defScope sRef) .none kV26 dc26 pm26 an26 cd26 ct26), sl26⟩)
    (c26 : PySem.W.codeIn K cd26 "Plan.refutation" = true)
    (k26 : PySem.W.keepIn K (.ref f26) = true)
    (a27 : PySem.W.findIn K (.ref CP) "refutation_first" = some (some (.ref f27)))
    (i27 : PySem.W.isFn K (.ref f27) = true)
    (l27 : K.lookup f27 = some ⟨oc27, od27, .func (PySem.W.fnOf "refutation_first" "Plan.refutation_first" (defArgs sRefF) (defBody sRefF) (defScope sRefF) .none kV27 dc27 pm27 an27 cd27 ct27), sl27⟩)
    (c27 : PySem.W.codeIn K cd27 "Plan.refutation_first" = true)
    (k27 : PySem.W.keepIn K (.ref f27) = true)
    (a28 : PySem.W.findIn K (.ref CP) "is_position" = some (some (.ref f28)))
    (i28 : PySem.W.isFn K (.ref f28) = true)
    (l28 : K.lookup f28 = some ⟨oc28, od28, .func (PySem.W.fnOf "is_position" "Plan.is_position" (defArgs sIpos) (defBody sIpos) (defScope sIpos) .none kV28 dc28 pm28 an28 cd28 ct28), sl28⟩)
    (c28 : PySem.W.codeIn K cd28 "Plan.is_position" = true)
    (k28 : PySem.W.keepIn K (.ref f28) = true)
    (a29 : PySem.W.findIn K (.ref CP) "entry_fault" = some (some (.ref f29)))
    (i29 : PySem.W.isFn K (.ref f29) = true)
    (l29 : K.lookup f29 = some ⟨oc29, od29, .func (PySem.W.fnOf "entry_fault" "Plan.entry_fault" (defArgs sEf) (defBody sEf) (defScope sEf) .none kV29 dc29 pm29 an29 cd29 ct29), sl29⟩)
    (c29 : PySem.W.codeIn K cd29 "Plan.entry_fault" = true)
    (k29 : PySem.W.keepIn K (.ref f29) = true)
    (a30 : PySem.W.findIn K (.ref CP) "entry_fault_all" = some (some (.ref f30)))
    (i30 : PySem.W.isFn K (.ref f30) = true)
    (l30 : K.lookup f30 = some ⟨oc30, od30, .func (PySem.W.fnOf "entry_fault_all" "Plan.entry_fault_all" (defArgs sEfa) (defBody sEfa) (defScope sEfa) .none kV30 dc30 pm30 an30 cd30 ct30), sl30⟩)
    (c30 : PySem.W.codeIn K cd30 "Plan.entry_fault_all" = true)
    (k30 : PySem.W.keepIn K (.ref f30) = true)
    (a31 : PySem.W.findIn K (.ref CP) "is_answered" = some (some (.ref f31)))
    (i31 : PySem.W.isFn K (.ref f31) = true)
    (l31 : K.lookup f31 = some ⟨oc31, od31, .func (PySem.W.fnOf "is_answered" "Plan.is_answered" (defArgs sIsa) (defBody sIsa) (defScope sIsa) .none kV31 dc31 pm31 an31 cd31 ct31), sl31⟩)
    (c31 : PySem.W.codeIn K cd31 "Plan.is_answered" = true)
    (k31 : PySem.W.keepIn K (.ref f31) = true)
    (a32 : PySem.W.findIn K (.ref CP) "is_answered_any" = some (some (.ref f32)))
    (i32 : PySem.W.isFn K (.ref f32) = true)
    (l32 : K.lookup f32 = some ⟨oc32, od32, .func (PySem.W.fnOf "is_answered_any" "Plan.is_answered_any" (defArgs sIsaa) (defBody sIsaa) (defScope sIsaa) .none kV32 dc32 pm32 an32 cd32 ct32), sl32⟩)
    (c32 : PySem.W.codeIn K cd32 "Plan.is_answered_any" = true)
    (k32 : PySem.W.keepIn K (.ref f32) = true)
    (a33 : PySem.W.nsIn K mainGlobals "with_length" = some (some (.ref f33)))
    (l33 : K.lookup f33 = some ⟨oc33, od33, .func (PySem.W.fnOf "with_length" "with_length" (defArgs sWithLen) (defBody sWithLen) (defScope sWithLen) .none kV33 dc33 pm33 an33 cd33 ct33), sl33⟩)
    (c33 : PySem.W.codeIn K cd33 "with_length" = true)
    (k33 : PySem.W.keepIn K (.ref f33) = true)
    (a34 : PySem.W.nsIn K mainGlobals "groups" = some (some (.ref f34)))
    (l34 : K.lookup f34 = some ⟨oc34, od34, .func (PySem.W.fnOf "groups" "groups" (defArgs sGroups) (defBody sGroups) (defScope sGroups) .none kV34 dc34 pm34 an34 cd34 ct34), sl34⟩)
    (c34 : PySem.W.codeIn K cd34 "groups" = true)
    (k34 : PySem.W.keepIn K (.ref f34) = true)
    (a35 : PySem.W.nsIn K mainGlobals "operation_12_all" = some (some (.ref f35)))
    (l35 : K.lookup f35 = some ⟨oc35, od35, .func (PySem.W.fnOf "operation_12_all" "operation_12_all" (defArgs sO12a) (defBody sO12a) (defScope sO12a) .none kV35 dc35 pm35 an35 cd35 ct35), sl35⟩)
    (c35 : PySem.W.codeIn K cd35 "operation_12_all" = true)
    (k35 : PySem.W.keepIn K (.ref f35) = true)
    (a36 : PySem.W.nsIn K mainGlobals "operation_12_all_2" = some (some (.ref f36)))
    (l36 : K.lookup f36 = some ⟨oc36, od36, .func (PySem.W.fnOf "operation_12_all_2" "operation_12_all_2" (defArgs sO12b) (defBody sO12b) (defScope sO12b) .none kV36 dc36 pm36 an36 cd36 ct36), sl36⟩)
    (c36 : PySem.W.codeIn K cd36 "operation_12_all_2" = true)
    (k36 : PySem.W.keepIn K (.ref f36) = true)
    (a37 : PySem.W.nsIn K mainGlobals "operation_13_all" = some (some (.ref f37)))
    (l37 : K.lookup f37 = some ⟨oc37, od37, .func (PySem.W.fnOf "operation_13_all" "operation_13_all" (defArgs sO13a) (defBody sO13a) (defScope sO13a) .none kV37 dc37 pm37 an37 cd37 ct37), sl37⟩)
    (c37 : PySem.W.codeIn K cd37 "operation_13_all" = true)
    (k37 : PySem.W.keepIn K (.ref f37) = true)
    (a38 : PySem.W.nsIn K mainGlobals "operation_13_all_2" = some (some (.ref f38)))
    (l38 : K.lookup f38 = some ⟨oc38, od38, .func (PySem.W.fnOf "operation_13_all_2" "operation_13_all_2" (defArgs sO13b) (defBody sO13b) (defScope sO13b) .none kV38 dc38 pm38 an38 cd38 ct38), sl38⟩)
    (c38 : PySem.W.codeIn K cd38 "operation_13_all_2" = true)
    (k38 : PySem.W.keepIn K (.ref f38) = true)
    (a39 : PySem.W.findIn K (.ref CR) "__init__" = some (some (.ref f39)))
    (i39 : PySem.W.isFn K (.ref f39) = true)
    (l39 : K.lookup f39 = some ⟨oc39, od39, .func (PySem.W.fnOf "__init__" "Request.__init__" (defArgs sReqInit) (defBody sReqInit) (defScope sReqInit) .none kV39 dc39 pm39 an39 cd39 ct39), sl39⟩)
    (c39 : PySem.W.codeIn K cd39 "Request.__init__" = true)
    (k39 : PySem.W.keepIn K (.ref f39) = true)
    (a40 : PySem.W.findIn K (.ref CR) "restart" = some (some (.ref f40)))
    (i40 : PySem.W.isFn K (.ref f40) = true)
    (l40 : K.lookup f40 = some ⟨oc40, od40, .func (PySem.W.fnOf "restart" "Request.restart" (defArgs sRestart) (defBody sRestart) (defScope sRestart) .none kV40 dc40 pm40 an40 cd40 ct40), sl40⟩)
    (c40 : PySem.W.codeIn K cd40 "Request.restart" = true)
    (k40 : PySem.W.keepIn K (.ref f40) = true)
    (a41 : PySem.W.findIn K (.ref CR) "run" = some (some (.ref f41)))
    (i41 : PySem.W.isFn K (.ref f41) = true)
    (l41 : K.lookup f41 = some ⟨oc41, od41, .func (PySem.W.fnOf "run" "Request.run" (defArgs sRun) (defBody sRun) (defScope sRun) .none kV41 dc41 pm41 an41 cd41 ct41), sl41⟩)
    (c41 : PySem.W.codeIn K cd41 "Request.run" = true)
    (k41 : PySem.W.keepIn K (.ref f41) = true)
    (a42 : PySem.W.findIn K (.ref CR) "is_natures_turn" = some (some (.ref f42)))
    (i42 : PySem.W.isFn K (.ref f42) = true)
    (l42 : K.lookup f42 = some ⟨oc42, od42, .func (PySem.W.fnOf "is_natures_turn" "Request.is_natures_turn" (defArgs sNat) (defBody sNat) (defScope sNat) .none kV42 dc42 pm42 an42 cd42 ct42), sl42⟩)
    (c42 : PySem.W.codeIn K cd42 "Request.is_natures_turn" = true)
    (k42 : PySem.W.keepIn K (.ref f42) = true)
    (a43 : PySem.W.findIn K (.ref CR) "check_size" = some (some (.ref f43)))
    (i43 : PySem.W.isFn K (.ref f43) = true)
    (l43 : K.lookup f43 = some ⟨oc43, od43, .func (PySem.W.fnOf "check_size" "Request.check_size" (defArgs sChkS) (defBody sChkS) (defScope sChkS) .none kV43 dc43 pm43 an43 cd43 ct43), sl43⟩)
    (c43 : PySem.W.codeIn K cd43 "Request.check_size" = true)
    (k43 : PySem.W.keepIn K (.ref f43) = true)
    (a44 : PySem.W.findIn K (.ref CR) "operation_0" = some (some (.ref f44)))
    (i44 : PySem.W.isFn K (.ref f44) = true)
    (l44 : K.lookup f44 = some ⟨oc44, od44, .func (PySem.W.fnOf "operation_0" "Request.operation_0" (defArgs sOp0) (defBody sOp0) (defScope sOp0) .none kV44 dc44 pm44 an44 cd44 ct44), sl44⟩)
    (c44 : PySem.W.codeIn K cd44 "Request.operation_0" = true)
    (k44 : PySem.W.keepIn K (.ref f44) = true)
    (a45 : PySem.W.findIn K (.ref CR) "operation_1" = some (some (.ref f45)))
    (i45 : PySem.W.isFn K (.ref f45) = true)
    (l45 : K.lookup f45 = some ⟨oc45, od45, .func (PySem.W.fnOf "operation_1" "Request.operation_1" (defArgs sOp1) (defBody sOp1) (defScope sOp1) .none kV45 dc45 pm45 an45 cd45 ct45), sl45⟩)
    (c45 : PySem.W.codeIn K cd45 "Request.operation_1" = true)
    (k45 : PySem.W.keepIn K (.ref f45) = true)
    (a46 : PySem.W.findIn K (.ref CR) "operation_2" = some (some (.ref f46)))
    (i46 : PySem.W.isFn K (.ref f46) = true)
    (l46 : K.lookup f46 = some ⟨oc46, od46, .func (PySem.W.fnOf "operation_2" "Request.operation_2" (defArgs sOp2) (defBody sOp2) (defScope sOp2) .none kV46 dc46 pm46 an46 cd46 ct46), sl46⟩)
    (c46 : PySem.W.codeIn K cd46 "Request.operation_2" = true)
    (k46 : PySem.W.keepIn K (.ref f46) = true)
    (a47 : PySem.W.findIn K (.ref CR) "operation_3" = some (some (.ref f47)))
    (i47 : PySem.W.isFn K (.ref f47) = true)
    (l47 : K.lookup f47 = some ⟨oc47, od47, .func (PySem.W.fnOf "operation_3" "Request.operation_3" (defArgs sOp3) (defBody sOp3) (defScope sOp3) .none kV47 dc47 pm47 an47 cd47 ct47), sl47⟩)
    (c47 : PySem.W.codeIn K cd47 "Request.operation_3" = true)
    (k47 : PySem.W.keepIn K (.ref f47) = true)
    (a48 : PySem.W.findIn K (.ref CR) "operation_4" = some (some (.ref f48)))
    (i48 : PySem.W.isFn K (.ref f48) = true)
    (l48 : K.lookup f48 = some ⟨oc48, od48, .func (PySem.W.fnOf "operation_4" "Request.operation_4" (defArgs sOp4) (defBody sOp4) (defScope sOp4) .none kV48 dc48 pm48 an48 cd48 ct48), sl48⟩)
    (c48 : PySem.W.codeIn K cd48 "Request.operation_4" = true)
    (k48 : PySem.W.keepIn K (.ref f48) = true)
    (a49 : PySem.W.findIn K (.ref CR) "operation_5" = some (some (.ref f49)))
    (i49 : PySem.W.isFn K (.ref f49) = true)
    (l49 : K.lookup f49 = some ⟨oc49, od49, .func (PySem.W.fnOf "operation_5" "Request.operation_5" (defArgs sOp5) (defBody sOp5) (defScope sOp5) .none kV49 dc49 pm49 an49 cd49 ct49), sl49⟩)
    (c49 : PySem.W.codeIn K cd49 "Request.operation_5" = true)
    (k49 : PySem.W.keepIn K (.ref f49) = true)
    (a50 : PySem.W.findIn K (.ref CR) "operation_6" = some (some (.ref f50)))
    (i50 : PySem.W.isFn K (.ref f50) = true)
    (l50 : K.lookup f50 = some ⟨oc50, od50, .func (PySem.W.fnOf "operation_6" "Request.operation_6" (defArgs sOp6) (defBody sOp6) (defScope sOp6) .none kV50 dc50 pm50 an50 cd50 ct50), sl50⟩)
    (c50 : PySem.W.codeIn K cd50 "Request.operation_6" = true)
    (k50 : PySem.W.keepIn K (.ref f50) = true)
    (a51 : PySem.W.findIn K (.ref CR) "operation_7" = some (some (.ref f51)))
    (i51 : PySem.W.isFn K (.ref f51) = true)
    (l51 : K.lookup f51 = some ⟨oc51, od51, .func (PySem.W.fnOf "operation_7" "Request.operation_7" (defArgs sOp7) (defBody sOp7) (defScope sOp7) .none kV51 dc51 pm51 an51 cd51 ct51), sl51⟩)
    (c51 : PySem.W.codeIn K cd51 "Request.operation_7" = true)
    (k51 : PySem.W.keepIn K (.ref f51) = true)
    (a52 : PySem.W.findIn K (.ref CR) "operation_8" = some (some (.ref f52)))
    (i52 : PySem.W.isFn K (.ref f52) = true)
    (l52 : K.lookup f52 = some ⟨oc52, od52, .func (PySem.W.fnOf "operation_8" "Request.operation_8" (defArgs sOp8) (defBody sOp8) (defScope sOp8) .none kV52 dc52 pm52 an52 cd52 ct52), sl52⟩)
    (c52 : PySem.W.codeIn K cd52 "Request.operation_8" = true)
    (k52 : PySem.W.keepIn K (.ref f52) = true)
    (a53 : PySem.W.findIn K (.ref CR) "operation_9" = some (some (.ref f53)))
    (i53 : PySem.W.isFn K (.ref f53) = true)
    (l53 : K.lookup f53 = some ⟨oc53, od53, .func (PySem.W.fnOf "operation_9" "Request.operation_9" (defArgs sOp9) (defBody sOp9) (defScope sOp9) .none kV53 dc53 pm53 an53 cd53 ct53), sl53⟩)
    (c53 : PySem.W.codeIn K cd53 "Request.operation_9" = true)
    (k53 : PySem.W.keepIn K (.ref f53) = true)
    (a54 : PySem.W.findIn K (.ref CR) "operation_10" = some (some (.ref f54)))
    (i54 : PySem.W.isFn K (.ref f54) = true)
    (l54 : K.lookup f54 = some ⟨oc54, od54, .func (PySem.W.fnOf "operation_10" "Request.operation_10" (defArgs sOp10) (defBody sOp10) (defScope sOp10) .none kV54 dc54 pm54 an54 cd54 ct54), sl54⟩)
    (c54 : PySem.W.codeIn K cd54 "Request.operation_10" = true)
    (k54 : PySem.W.keepIn K (.ref f54) = true)
    (a55 : PySem.W.findIn K (.ref CR) "operation_11" = some (some (.ref f55)))
    (i55 : PySem.W.isFn K (.ref f55) = true)
    (l55 : K.lookup f55 = some ⟨oc55, od55, .func (PySem.W.fnOf "operation_11" "Request.operation_11" (defArgs sOp11) (defBody sOp11) (defScope sOp11) .none kV55 dc55 pm55 an55 cd55 ct55), sl55⟩)
    (c55 : PySem.W.codeIn K cd55 "Request.operation_11" = true)
    (k55 : PySem.W.keepIn K (.ref f55) = true)
    (a56 : PySem.W.findIn K (.ref CR) "operation_12" = some (some (.ref f56)))
    (i56 : PySem.W.isFn K (.ref f56) = true)
    (l56 : K.lookup f56 = some ⟨oc56, od56, .func (PySem.W.fnOf "operation_12" "Request.operation_12" (defArgs sOp12) (defBody sOp12) (defScope sOp12) .none kV56 dc56 pm56 an56 cd56 ct56), sl56⟩)
    (c56 : PySem.W.codeIn K cd56 "Request.operation_12" = true)
    (k56 : PySem.W.keepIn K (.ref f56) = true)
    (a57 : PySem.W.findIn K (.ref CR) "operation_13" = some (some (.ref f57)))
    (i57 : PySem.W.isFn K (.ref f57) = true)
    (l57 : K.lookup f57 = some ⟨oc57, od57, .func (PySem.W.fnOf "operation_13" "Request.operation_13" (defArgs sOp13) (defBody sOp13) (defScope sOp13) .none kV57 dc57 pm57 an57 cd57 ct57), sl57⟩)
    (c57 : PySem.W.codeIn K cd57 "Request.operation_13" = true)
    (k57 : PySem.W.keepIn K (.ref f57) = true)
    (a58 : PySem.W.findIn K (.ref CR) "operation_14" = some (some (.ref f58)))
    (i58 : PySem.W.isFn K (.ref f58) = true)
    (l58 : K.lookup f58 = some ⟨oc58, od58, .func (PySem.W.fnOf "operation_14" "Request.operation_14" (defArgs sOp14) (defBody sOp14) (defScope sOp14) .none kV58 dc58 pm58 an58 cd58 ct58), sl58⟩)
    (c58 : PySem.W.codeIn K cd58 "Request.operation_14" = true)
    (k58 : PySem.W.keepIn K (.ref f58) = true)
    (a59 : PySem.W.findIn K (.ref CR) "operation_chosen" = some (some (.ref f59)))
    (i59 : PySem.W.isFn K (.ref f59) = true)
    (l59 : K.lookup f59 = some ⟨oc59, od59, .func (PySem.W.fnOf "operation_chosen" "Request.operation_chosen" (defArgs sChosen) (defBody sChosen) (defScope sChosen) .none kV59 dc59 pm59 an59 cd59 ct59), sl59⟩)
    (c59 : PySem.W.codeIn K cd59 "Request.operation_chosen" = true)
    (k59 : PySem.W.keepIn K (.ref f59) = true)
    (a60 : PySem.W.nsIn K mainGlobals "request_answers" = some (some (.ref f60)))
    (l60 : K.lookup f60 = some ⟨oc60, od60, .func (PySem.W.fnOf "request_answers" "request_answers" (defArgs sReqAns) (defBody sReqAns) (defScope sReqAns) .none kV60 dc60 pm60 an60 cd60 ct60), sl60⟩)
    (c60 : PySem.W.codeIn K cd60 "request_answers" = true)
    (k60 : PySem.W.keepIn K (.ref f60) = true)
    (a61 : PySem.W.nsIn K mainGlobals "requests" = some (some (.ref f61)))
    (l61 : K.lookup f61 = some ⟨oc61, od61, .func (PySem.W.fnOf "requests" "requests" (defArgs sRequests) (defBody sRequests) (defScope sRequests) .none kV61 dc61 pm61 an61 cd61 ct61), sl61⟩)
    (c61 : PySem.W.codeIn K cd61 "requests" = true)
    (k61 : PySem.W.keepIn K (.ref f61) = true)
    (a62 : PySem.W.nsIn K mainGlobals "answers" = some (some (.ref f62)))
    (l62 : K.lookup f62 = some ⟨oc62, od62, .func (PySem.W.fnOf "answers" "answers" (defArgs sAnswers) (defBody sAnswers) (defScope sAnswers) .none kV62 dc62 pm62 an62 cd62 ct62), sl62⟩)
    (c62 : PySem.W.codeIn K cd62 "answers" = true)
    (k62 : PySem.W.keepIn K (.ref f62) = true)
    (a63 : PySem.W.nsIn K mainGlobals "operation_11_list" = some (some (.ref f63)))
    (l63 : K.lookup f63 = some ⟨oc63, od63, .func (PySem.W.fnOf "operation_11_list" "operation_11_list" (defArgs sO11l) (defBody sO11l) (defScope sO11l) .none kV63 dc63 pm63 an63 cd63 ct63), sl63⟩)
    (c63 : PySem.W.codeIn K cd63 "operation_11_list" = true)
    (k63 : PySem.W.keepIn K (.ref f63) = true)
    (a64 : PySem.W.nsIn K mainGlobals "operation_10_list" = some (some (.ref f64)))
    (l64 : K.lookup f64 = some ⟨oc64, od64, .func (PySem.W.fnOf "operation_10_list" "operation_10_list" (defArgs sO10l) (defBody sO10l) (defScope sO10l) .none kV64 dc64 pm64 an64 cd64 ct64), sl64⟩)
    (c64 : PySem.W.codeIn K cd64 "operation_10_list" = true)
    (k64 : PySem.W.keepIn K (.ref f64) = true)
    (pgP : PySem.W.plainGet K CP Str.empty = true)
    (hdP : PySem.W.hasDictIn K CP = true)
    (poP : PySem.W.plainOver K CP = true)
    (saP : PySem.W.findIn K (.ref CP) "__setattr__" = some (some (.builtin "object.__setattr__")))
    (mkP : PySem.W.makesIn K CP = true)
    (kcP : PySem.W.keepIn K (.ref CP) = true)
    (pgR : PySem.W.plainGet K CR Str.empty = true)
    (hdR : PySem.W.hasDictIn K CR = true)
    (poR : PySem.W.plainOver K CR = true)
    (saR : PySem.W.findIn K (.ref CR) "__setattr__" = some (some (.builtin "object.__setattr__")))
    (mkR : PySem.W.makesIn K CR = true)
    (kcR : PySem.W.keepIn K (.ref CR) = true)
    (nP_events : PySem.W.findIn K (.ref CP) "events" = some none)
    (nP_deadline : PySem.W.findIn K (.ref CP) "deadline" = some none)
    (nP_tasks : PySem.W.findIn K (.ref CP) "tasks" = some none)
    (nP_requirements : PySem.W.findIn K (.ref CP) "requirements" = some none)
    (nP_own : PySem.W.findIn K (.ref CP) "own" = some none)
    (nP_won : PySem.W.findIn K (.ref CP) "won" = some none)
    (nR_plan : PySem.W.findIn K (.ref CR) "plan" = some none)
    (nR_moment : PySem.W.findIn K (.ref CR) "moment" = some none)
    (nR_seen : PySem.W.findIn K (.ref CR) "seen" = some none)
    (nR_has_moved : PySem.W.findIn K (.ref CR) "has_moved" = some none)
    (m_len : PySem.W.nsIn K mainGlobals "len" = some none)
    (m_range : PySem.W.nsIn K mainGlobals "range" = some none)
    (m_list : PySem.W.nsIn K mainGlobals "list" = some none)
    (m_tuple : PySem.W.nsIn K mainGlobals "tuple" = some none)
    (m_dict : PySem.W.nsIn K mainGlobals "dict" = some none)
    (m_enumerate : PySem.W.nsIn K mainGlobals "enumerate" = some none)
    (m_sorted : PySem.W.nsIn K mainGlobals "sorted" = some none)
    (m_zip : PySem.W.nsIn K mainGlobals "zip" = some none)
    (m_all : PySem.W.nsIn K mainGlobals "all" = some none)
    (m_Exception : PySem.W.nsIn K mainGlobals "Exception" = some none)
    (gUN : PySem.W.nsIn K mainGlobals "UNSEEN" = some (some (.int (-1) tUN)))
    (gME : PySem.W.nsIn K mainGlobals "MOST_ENTRIES" = some (some (.int 600 tME)))
    (gMS : PySem.W.nsIn K mainGlobals "MOST_SIZE" = some (some (.int 10000 tMS)))
    (gSH : PySem.W.nsIn K mainGlobals "SHAPES" = some (some (.ref aS)))
    (xE : K.lookup CE = some (excClassObj nmE qE CE NE bsE [.type "Exception", .type "BaseException", .type "object"] true snE subE abE colE ddE k0E k1E k2E k3E k5E "Exception.__new__"))
    (saE : PySem.W.findIn K (.ref CE) "__setattr__" = some (some (.builtin "object.__setattr__")))
    (bE : PySem.W.subIn K (.ref CE) (.type "BaseException") = some true)
    (tyE : PySem.W.typeIn K (.ref CE) = some (.type "type"))
    (kE : PySem.W.keepIn K (.ref CE) = true)
    (gaE : PySem.W.findIn K (.ref CE) "__getattribute__" = some (some (.builtin "BaseException.__getattribute__")))
    (ggE : PySem.W.findIn K (.ref CE) "__getattr__" = some none)
    (hdE : PySem.W.hasDictIn K CE = true)
    (coE : PySem.W.findIn K (.ref CE) "code" = some none)
    (icE : PySem.W.isClsIn K CE = true)
    (sE : PySem.W.subIn K (.ref CE) (.ref CE) = some true)
    (exI : PySem.W.findCls K (.type "Exception") (.type "type") "__init__" = some (.val (.builtin "Exception.__init__")))
    (lS : K.lookup aS = some ⟨.type "dict", none, .dict es ns, #[]⟩)
    (kS : es.toList.all keyOk = true)
    (s0 : findBy Value.isInt es 0 = some (.ref t0))
    (u0 : K.lookup t0 = some ⟨.type "tuple", odS0, .seq #[.int 2 taS0, .int 2 tbS0] mS0, slS0⟩)
    (s1 : findBy Value.isInt es 1 = some (.ref t1))
    (u1 : K.lookup t1 = some ⟨.type "tuple", odS1, .seq #[.int 0 taS1, .int 0 tbS1] mS1, slS1⟩)
    (s2 : findBy Value.isInt es 2 = some (.ref t2))
    (u2 : K.lookup t2 = some ⟨.type "tuple", odS2, .seq #[.int 0 taS2, .int 0 tbS2] mS2, slS2⟩)
    (s3 : findBy Value.isInt es 3 = some (.ref t3))
    (u3 : K.lookup t3 = some ⟨.type "tuple", odS3, .seq #[.int 0 taS3, .int 0 tbS3] mS3, slS3⟩)
    (s4 : findBy Value.isInt es 4 = some (.ref t4))
    (u4 : K.lookup t4 = some ⟨.type "tuple", odS4, .seq #[.int 0 taS4, .int 0 tbS4] mS4, slS4⟩)
    (s5 : findBy Value.isInt es 5 = some (.ref t5))
    (u5 : K.lookup t5 = some ⟨.type "tuple", odS5, .seq #[.int 1 taS5, .int 0 tbS5] mS5, slS5⟩)
    (s6 : findBy Value.isInt es 6 = some (.ref t6))
    (u6 : K.lookup t6 = some ⟨.type "tuple", odS6, .seq #[.int 0 taS6, .int 0 tbS6] mS6, slS6⟩)
    (s7 : findBy Value.isInt es 7 = some (.ref t7))
    (u7 : K.lookup t7 = some ⟨.type "tuple", odS7, .seq #[.int 1 taS7, .int 0 tbS7] mS7, slS7⟩)
    (s8 : findBy Value.isInt es 8 = some (.ref t8))
    (u8 : K.lookup t8 = some ⟨.type "tuple", odS8, .seq #[.int 0 taS8, .int 0 tbS8] mS8, slS8⟩)
    (s9 : findBy Value.isInt es 9 = some (.ref t9))
    (u9 : K.lookup t9 = some ⟨.type "tuple", odS9, .seq #[.int 0 taS9, .int 0 tbS9] mS9, slS9⟩)
    (s10 : findBy Value.isInt es 10 = some (.ref t10))
    (u10 : K.lookup t10 = some ⟨.type "tuple", odS10, .seq #[.int 0 taS10, .int 0 tbS10] mS10, slS10⟩)
    (s11 : findBy Value.isInt es 11 = some (.ref t11))
    (u11 : K.lookup t11 = some ⟨.type "tuple", odS11, .seq #[.int 0 taS11, .int 0 tbS11] mS11, slS11⟩)
    (s12 : findBy Value.isInt es 12 = some (.ref t12))
    (u12 : K.lookup t12 = some ⟨.type "tuple", odS12, .seq #[.int 0 taS12, .int 1 tbS12] mS12, slS12⟩)
    (s13 : findBy Value.isInt es 13 = some (.ref t13))
    (u13 : K.lookup t13 = some ⟨.type "tuple", odS13, .seq #[.int 0 taS13, .int 1 tbS13] mS13, slS13⟩)
    (s14 : findBy Value.isInt es 14 = some (.ref t14))
    (u14 : K.lookup t14 = some ⟨.type "tuple", odS14, .seq #[.int 0 taS14, .int 0 tbS14] mS14, slS14⟩) :
    ∃ fd : FuncData, (∀ (s : Shared) (us : List Value), us.length = (["calls"] : List Str).length → BindsTo s fd ⟨us, []⟩ ((["calls"] : List Str).zip us)) ∧ ∀ base : Heap, K.In base → base.Ns mainGlobals mg → FnOk P w K mg base CX0 45 fa fd ["calls"] (spAnswers K) := by
  have e := hfa.symm.trans (PySem.W.mg_of X G a62)
  cases e
  have nPx : ∀ f ∈ (["events", "deadline", "tasks", "requirements", "own", "won"] : List Str), NoAttr K CP f := fun f hf => by
    cases hf with
    | head => exact nP_events
    | tail _ hf =>
      cases hf with
      | head => exact nP_deadline
      | tail _ hf =>
        cases hf with
        | head => exact nP_tasks
        | tail _ hf =>
          cases hf with
          | head => exact nP_requirements
          | tail _ hf =>
            cases hf with
            | head => exact nP_own
            | tail _ hf =>
              cases hf with
              | head => exact nP_won
              | tail _ hf =>
                cases hf
  have nRx : ∀ f ∈ (["plan", "moment", "seen", "has_moved"] : List Str), NoAttr K CR f := fun f hf => by
    cases hf with
    | head => exact nR_plan
    | tail _ hf =>
      cases hf with
      | head => exact nR_moment
      | tail _ hf =>
        cases hf with
        | head => exact nR_seen
        | tail _ hf =>
          cases hf with
          | head => exact nR_has_moved
          | tail _ hf =>
            cases hf
  have T : Txt K mg CP CR CE aS := { clP := ⟨pgP, hdP, poP, saP⟩, clR := ⟨pgR, hdR, poR, saR⟩, nP := nPx, nR := nRx, m_len := PySem.W.mg_none_of X G m_len, m_range := PySem.W.mg_none_of X G m_range, m_list := PySem.W.mg_none_of X G m_list, m_tuple := PySem.W.mg_none_of X G m_tuple, m_dict := PySem.W.mg_none_of X G m_dict, m_enumerate := PySem.W.mg_none_of X G m_enumerate, m_sorted := PySem.W.mg_none_of X G m_sorted, m_zip := PySem.W.mg_none_of X G m_zip, m_all := PySem.W.mg_none_of X G m_all, m_Exception := PySem.W.mg_none_of X G m_Exception, cUN := ⟨_, PySem.W.mg_of X G gUN, ⟨_, rfl⟩⟩, cME := ⟨_, PySem.W.mg_of X G gME, ⟨_, rfl⟩⟩, cMS := ⟨_, PySem.W.mg_of X G gMS, ⟨_, rfl⟩⟩, cSH := ⟨_, PySem.W.mg_of X G gSH, rfl⟩, ex := ⟨⟨_, _, _, _, _, _, _, _, _, _, _, _, _, _, xE⟩, saE, bE, tyE, kE⟩, xf := ⟨gaE, ggE, bE, hdE⟩, nCode := coE, gE := PySem.W.mg_of X G aCE, exI := exI }
  have hTE := exm_self bE icE tyE sE
  have shAt : ∀ (i : Int) (t : Addr), findBy Value.isInt es i = some (.ref t) → ShAt K aS i (.ref t) := fun i t hi => ⟨es, ns, lS, fun e he => key_ok (List.all_eq_true.mp kS e he), hi⟩
  have hSh : ShOk K aS := fun p n k hs => by
    unfold PyVbjpae.shape at hs
    by_cases h0 : p = 0
    · rw [if_pos h0] at hs
      have hs := Option.some.inj hs
      have e1 := congrArg Prod.fst hs
      have e2 := congrArg Prod.snd hs
      dsimp only at e1 e2
      subst e1 e2 h0
      exact ⟨t0, shAt _ _ s0, fun H => .inr ⟨_, _, _, u0, rfl, rfl, by rw [sizeLine_eq]; show 2 ≤ 16777216; decide, .cons ⟨_, rfl⟩ (.cons ⟨_, rfl⟩ .nil)⟩⟩
    rw [if_neg h0] at hs
    by_cases h1 : p = 1
    · rw [if_pos h1] at hs
      have hs := Option.some.inj hs
      have e1 := congrArg Prod.fst hs
      have e2 := congrArg Prod.snd hs
      dsimp only at e1 e2
      subst e1 e2 h1
      exact ⟨t1, shAt _ _ s1, fun H => .inr ⟨_, _, _, u1, rfl, rfl, by rw [sizeLine_eq]; show 2 ≤ 16777216; decide, .cons ⟨_, rfl⟩ (.cons ⟨_, rfl⟩ .nil)⟩⟩
    rw [if_neg h1] at hs
    by_cases h2 : p = 2
    · rw [if_pos h2] at hs
      have hs := Option.some.inj hs
      have e1 := congrArg Prod.fst hs
      have e2 := congrArg Prod.snd hs
      dsimp only at e1 e2
      subst e1 e2 h2
      exact ⟨t2, shAt _ _ s2, fun H => .inr ⟨_, _, _, u2, rfl, rfl, by rw [sizeLine_eq]; show 2 ≤ 16777216; decide, .cons ⟨_, rfl⟩ (.cons ⟨_, rfl⟩ .nil)⟩⟩
    rw [if_neg h2] at hs
    by_cases h3 : p = 3
    · rw [if_pos h3] at hs
      have hs := Option.some.inj hs
      have e1 := congrArg Prod.fst hs
      have e2 := congrArg Prod.snd hs
      dsimp only at e1 e2
      subst e1 e2 h3
      exact ⟨t3, shAt _ _ s3, fun H => .inr ⟨_, _, _, u3, rfl, rfl, by rw [sizeLine_eq]; show 2 ≤ 16777216; decide, .cons ⟨_, rfl⟩ (.cons ⟨_, rfl⟩ .nil)⟩⟩
    rw [if_neg h3] at hs
    by_cases h4 : p = 4
    · rw [if_pos h4] at hs
      have hs := Option.some.inj hs
      have e1 := congrArg Prod.fst hs
      have e2 := congrArg Prod.snd hs
      dsimp only at e1 e2
      subst e1 e2 h4
      exact ⟨t4, shAt _ _ s4, fun H => .inr ⟨_, _, _, u4, rfl, rfl, by rw [sizeLine_eq]; show 2 ≤ 16777216; decide, .cons ⟨_, rfl⟩ (.cons ⟨_, rfl⟩ .nil)⟩⟩
    rw [if_neg h4] at hs
    by_cases h5 : p = 5
    · rw [if_pos h5] at hs
      have hs := Option.some.inj hs
      have e1 := congrArg Prod.fst hs
      have e2 := congrArg Prod.snd hs
      dsimp only at e1 e2
      subst e1 e2 h5
      exact ⟨t5, shAt _ _ s5, fun H => .inr ⟨_, _, _, u5, rfl, rfl, by rw [sizeLine_eq]; show 2 ≤ 16777216; decide, .cons ⟨_, rfl⟩ (.cons ⟨_, rfl⟩ .nil)⟩⟩
    rw [if_neg h5] at hs
    by_cases h6 : p = 6
    · rw [if_pos h6] at hs
      have hs := Option.some.inj hs
      have e1 := congrArg Prod.fst hs
      have e2 := congrArg Prod.snd hs
      dsimp only at e1 e2
      subst e1 e2 h6
      exact ⟨t6, shAt _ _ s6, fun H => .inr ⟨_, _, _, u6, rfl, rfl, by rw [sizeLine_eq]; show 2 ≤ 16777216; decide, .cons ⟨_, rfl⟩ (.cons ⟨_, rfl⟩ .nil)⟩⟩
    rw [if_neg h6] at hs
    by_cases h7 : p = 7
    · rw [if_pos h7] at hs
      have hs := Option.some.inj hs
      have e1 := congrArg Prod.fst hs
      have e2 := congrArg Prod.snd hs
      dsimp only at e1 e2
      subst e1 e2 h7
      exact ⟨t7, shAt _ _ s7, fun H => .inr ⟨_, _, _, u7, rfl, rfl, by rw [sizeLine_eq]; show 2 ≤ 16777216; decide, .cons ⟨_, rfl⟩ (.cons ⟨_, rfl⟩ .nil)⟩⟩
    rw [if_neg h7] at hs
    by_cases h8 : p = 8
    · rw [if_pos h8] at hs
      have hs := Option.some.inj hs
      have e1 := congrArg Prod.fst hs
      have e2 := congrArg Prod.snd hs
      dsimp only at e1 e2
      subst e1 e2 h8
      exact ⟨t8, shAt _ _ s8, fun H => .inr ⟨_, _, _, u8, rfl, rfl, by rw [sizeLine_eq]; show 2 ≤ 16777216; decide, .cons ⟨_, rfl⟩ (.cons ⟨_, rfl⟩ .nil)⟩⟩
    rw [if_neg h8] at hs
    by_cases h9 : p = 9
    · rw [if_pos h9] at hs
      have hs := Option.some.inj hs
      have e1 := congrArg Prod.fst hs
      have e2 := congrArg Prod.snd hs
      dsimp only at e1 e2
      subst e1 e2 h9
      exact ⟨t9, shAt _ _ s9, fun H => .inr ⟨_, _, _, u9, rfl, rfl, by rw [sizeLine_eq]; show 2 ≤ 16777216; decide, .cons ⟨_, rfl⟩ (.cons ⟨_, rfl⟩ .nil)⟩⟩
    rw [if_neg h9] at hs
    by_cases h10 : p = 10
    · rw [if_pos h10] at hs
      have hs := Option.some.inj hs
      have e1 := congrArg Prod.fst hs
      have e2 := congrArg Prod.snd hs
      dsimp only at e1 e2
      subst e1 e2 h10
      exact ⟨t10, shAt _ _ s10, fun H => .inr ⟨_, _, _, u10, rfl, rfl, by rw [sizeLine_eq]; show 2 ≤ 16777216; decide, .cons ⟨_, rfl⟩ (.cons ⟨_, rfl⟩ .nil)⟩⟩
    rw [if_neg h10] at hs
    by_cases h11 : p = 11
    · rw [if_pos h11] at hs
      have hs := Option.some.inj hs
      have e1 := congrArg Prod.fst hs
      have e2 := congrArg Prod.snd hs
      dsimp only at e1 e2
      subst e1 e2 h11
      exact ⟨t11, shAt _ _ s11, fun H => .inr ⟨_, _, _, u11, rfl, rfl, by rw [sizeLine_eq]; show 2 ≤ 16777216; decide, .cons ⟨_, rfl⟩ (.cons ⟨_, rfl⟩ .nil)⟩⟩
    rw [if_neg h11] at hs
    by_cases h12 : p = 12
    · rw [if_pos h12] at hs
      have hs := Option.some.inj hs
      have e1 := congrArg Prod.fst hs
      have e2 := congrArg Prod.snd hs
      dsimp only at e1 e2
      subst e1 e2 h12
      exact ⟨t12, shAt _ _ s12, fun H => .inr ⟨_, _, _, u12, rfl, rfl, by rw [sizeLine_eq]; show 2 ≤ 16777216; decide, .cons ⟨_, rfl⟩ (.cons ⟨_, rfl⟩ .nil)⟩⟩
    rw [if_neg h12] at hs
    by_cases h13 : p = 13
    · rw [if_pos h13] at hs
      have hs := Option.some.inj hs
      have e1 := congrArg Prod.fst hs
      have e2 := congrArg Prod.snd hs
      dsimp only at e1 e2
      subst e1 e2 h13
      exact ⟨t13, shAt _ _ s13, fun H => .inr ⟨_, _, _, u13, rfl, rfl, by rw [sizeLine_eq]; show 2 ≤ 16777216; decide, .cons ⟨_, rfl⟩ (.cons ⟨_, rfl⟩ .nil)⟩⟩
    rw [if_neg h13] at hs
    by_cases h14 : p = 14
    · rw [if_pos h14] at hs
      have hs := Option.some.inj hs
      have e1 := congrArg Prod.fst hs
      have e2 := congrArg Prod.snd hs
      dsimp only at e1 e2
      subst e1 e2 h14
      exact ⟨t14, shAt _ _ s14, fun H => .inr ⟨_, _, _, u14, rfl, rfl, by rw [sizeLine_eq]; show 2 ≤ 16777216; decide, .cons ⟨_, rfl⟩ (.cons ⟨_, rfl⟩ .nil)⟩⟩
    rw [if_neg h14] at hs
    cases hs
  have F0 := fun_mk (st := sPower) l0 c0 k0
  have b0 := F0.binds (ps := ["b", "e"]) fun _ _ _ _ _ _ us hl => match us, hl with | [_, _], _ => rfl
  have F1 := fun_mk (st := sNextRow) l1 c1 k1
  have b1 := F1.binds (ps := ["at", "sizes"]) fun _ _ _ _ _ _ us hl => match us, hl with | [_, _], _ => rfl
  have F2 := fun_mk (st := sFirstRow) l2 c2 k2
  have b2 := F2.binds (ps := ["sizes"]) fun _ _ _ _ _ _ us hl => match us, hl with | [_], _ => rfl
  have F3 := fun_mk (st := sOexInit) l3 c3 k3
  have b3 := F3.binds (ps := ["self", "code"]) fun _ _ _ _ _ _ us hl => match us, hl with | [_, _], _ => rfl
  have F4 := fun_mk (st := sRequire) l4 c4 k4
  have b4 := F4.binds (ps := ["condition", "code"]) fun _ _ _ _ _ _ us hl => match us, hl with | [_, _], _ => rfl
  have F5 := fun_mk (st := sPlanInit) l5 c5 k5
  have b5 := F5.binds (ps := ["self", "events", "deadline", "tasks", "requirements"]) fun _ _ _ _ _ _ us hl => match us, hl with | [_, _, _, _, _], _ => rfl
  have m5 : Meth K CP "__init__" f5 := ⟨a5, i5, k5⟩
  have F6 := fun_mk (st := sIsValid) l6 c6 k6
  have b6 := F6.binds (ps := ["self"]) fun _ _ _ _ _ _ us hl => match us, hl with | [_], _ => rfl
  have m6 : Meth K CP "is_valid" f6 := ⟨a6, i6, k6⟩
  have F7 := fun_mk (st := sSize) l7 c7 k7
  have b7 := F7.binds (ps := ["self"]) fun _ _ _ _ _ _ us hl => match us, hl with | [_], _ => rfl
  have m7 : Meth K CP "size" f7 := ⟨a7, i7, k7⟩
  have F8 := fun_mk (st := sItl) l8 c8 k8
  have b8 := F8.binds (ps := ["self"]) fun _ _ _ _ _ _ us hl => match us, hl with | [_], _ => rfl
  have m8 : Meth K CP "is_too_large" f8 := ⟨a8, i8, k8⟩
  have F9 := fun_mk (st := sBeginning) l9 c9 k9
  have b9 := F9.binds (ps := ["self"]) fun _ _ _ _ _ _ us hl => match us, hl with | [_], _ => rfl
  have m9 : Meth K CP "beginning" f9 := ⟨a9, i9, k9⟩
  have F10 := fun_mk (st := sMoves) l10 c10 k10
  have b10 := F10.binds (ps := ["self", "seen"]) fun _ _ _ _ _ _ us hl => match us, hl with | [_, _], _ => rfl
  have m10 : Meth K CP "moves" f10 := ⟨a10, i10, k10⟩
  have F11 := fun_mk (st := sIsMove) l11 c11 k11
  have b11 := F11.binds (ps := ["self", "seen", "mask"]) fun _ _ _ _ _ _ us hl => match us, hl with | [_, _, _], _ => rfl
  have m11 : Meth K CP "is_move" f11 := ⟨a11, i11, k11⟩
  have F12 := fun_mk (st := sIsMoveAll) l12 c12 k12
  have b12 := F12.binds (ps := ["self", "mask", "seen"]) fun _ _ _ _ _ _ us hl => match us, hl with | [_, _, _], _ => rfl
  have m12 : Meth K CP "is_move_all" f12 := ⟨a12, i12, k12⟩
  have F13 := fun_mk (st := sAfterMove) l13 c13 k13
  have b13 := F13.binds (ps := ["self", "moment", "seen", "mask"]) fun _ _ _ _ _ _ us hl => match us, hl with | [_, _, _, _], _ => rfl
  have m13 : Meth K CP "after_move" f13 := ⟨a13, i13, k13⟩
  have F14 := fun_mk (st := sReports) l14 c14 k14
  have b14 := F14.binds (ps := ["self", "moment", "seen"]) fun _ _ _ _ _ _ us hl => match us, hl with | [_, _, _], _ => rfl
  have m14 : Meth K CP "reports" f14 := ⟨a14, i14, k14⟩
  have F15 := fun_mk (st := sAfterReport) l15 c15 k15
  have b15 := F15.binds (ps := ["self", "moment", "seen", "mask"]) fun _ _ _ _ _ _ us hl => match us, hl with | [_, _, _, _], _ => rfl
  have m15 : Meth K CP "after_report" f15 := ⟨a15, i15, k15⟩
  have F16 := fun_mk (st := sFollowers) l16 c16 k16
  have b16 := F16.binds (ps := ["self", "moment", "seen"]) fun _ _ _ _ _ _ us hl => match us, hl with | [_, _, _], _ => rfl
  have m16 : Meth K CP "followers" f16 := ⟨a16, i16, k16⟩
  have F17 := fun_mk (st := sIsBroken) l17 c17 k17
  have b17 := F17.binds (ps := ["self", "seen"]) fun _ _ _ _ _ _ us hl => match us, hl with | [_, _], _ => rfl
  have m17 : Meth K CP "is_broken" f17 := ⟨a17, i17, k17⟩
  have F18 := fun_mk (st := sIsBrokenAny) l18 c18 k18
  have b18 := F18.binds (ps := ["self", "seen"]) fun _ _ _ _ _ _ us hl => match us, hl with | [_, _], _ => rfl
  have m18 : Meth K CP "is_broken_any" f18 := ⟨a18, i18, k18⟩
  have F19 := fun_mk (st := sFbc) l19 c19 k19
  have b19 := F19.binds (ps := ["self", "seen"]) fun _ _ _ _ _ _ us hl => match us, hl with | [_, _], _ => rfl
  have m19 : Meth K CP "first_bad_completion" f19 := ⟨a19, i19, k19⟩
  have F20 := fun_mk (st := sIgm) l20 c20 k20
  have b20 := F20.binds (ps := ["self", "moment", "seen", "mask"]) fun _ _ _ _ _ _ us hl => match us, hl with | [_, _, _, _], _ => rfl
  have m20 : Meth K CP "is_good_move" f20 := ⟨a20, i20, k20⟩
  have F21 := fun_mk (st := sIgma) l21 c21 k21
  have b21 := F21.binds (ps := ["self", "moment", "after"]) fun _ _ _ _ _ _ us hl => match us, hl with | [_, _, _], _ => rfl
  have m21 : Meth K CP "is_good_move_all" f21 := ⟨a21, i21, k21⟩
  have F22 := fun_mk (st := sWins) l22 c22 k22
  have b22 := F22.binds (ps := ["self", "position"]) fun _ _ _ _ _ _ us hl => match us, hl with | [_, _], _ => rfl
  have m22 : Meth K CP "wins" f22 := ⟨a22, i22, k22⟩
  have F23 := fun_mk (st := sWinsAny) l23 c23 k23
  have b23 := F23.binds (ps := ["self", "seen", "moment"]) fun _ _ _ _ _ _ us hl => match us, hl with | [_, _, _], _ => rfl
  have m23 : Meth K CP "wins_any" f23 := ⟨a23, i23, k23⟩
  have F24 := fun_mk (st := sStr) l24 c24 k24
  have b24 := F24.binds (ps := ["self", "position", "entries"]) fun _ _ _ _ _ _ us hl => match us, hl with | [_, _, _], _ => rfl
  have m24 : Meth K CP "strategy" f24 := ⟨a24, i24, k24⟩
  have F25 := fun_mk (st := sStrF) l25 c25 k25
  have b25 := F25.binds (ps := ["self", "seen", "moment"]) fun _ _ _ _ _ _ us hl => match us, hl with | [_, _, _], _ => rfl
  have m25 : Meth K CP "strategy_first" f25 := ⟨a25, i25, k25⟩
  have F26 := fun_mk (st := sRef) l26 c26 k26
  have b26 := F26.binds (ps := ["self", "position", "positions"]) fun _ _ _ _ _ _ us hl => match us, hl with | [_, _, _], _ => rfl
  have m26 : Meth K CP "refutation" f26 := ⟨a26, i26, k26⟩
  have F27 := fun_mk (st := sRefF) l27 c27 k27
  have b27 := F27.binds (ps := ["self", "moment", "after"]) fun _ _ _ _ _ _ us hl => match us, hl with | [_, _, _], _ => rfl
  have m27 : Meth K CP "refutation_first" f27 := ⟨a27, i27, k27⟩
  have F28 := fun_mk (st := sIpos) l28 c28 k28
  have b28 := F28.binds (ps := ["self", "moment", "seen"]) fun _ _ _ _ _ _ us hl => match us, hl with | [_, _, _], _ => rfl
  have m28 : Meth K CP "is_position" f28 := ⟨a28, i28, k28⟩
  have F29 := fun_mk (st := sEf) l29 c29 k29
  have b29 := F29.binds (ps := ["self", "moment", "seen", "mask", "known"]) fun _ _ _ _ _ _ us hl => match us, hl with | [_, _, _, _, _], _ => rfl
  have m29 : Meth K CP "entry_fault" f29 := ⟨a29, i29, k29⟩
  have F30 := fun_mk (st := sEfa) l30 c30 k30
  have b30 := F30.binds (ps := ["self", "moment", "after", "known"]) fun _ _ _ _ _ _ us hl => match us, hl with | [_, _, _, _], _ => rfl
  have m30 : Meth K CP "entry_fault_all" f30 := ⟨a30, i30, k30⟩
  have F31 := fun_mk (st := sIsa) l31 c31 k31
  have b31 := F31.binds (ps := ["self", "moment", "seen", "mask", "known"]) fun _ _ _ _ _ _ us hl => match us, hl with | [_, _, _, _, _], _ => rfl
  have m31 : Meth K CP "is_answered" f31 := ⟨a31, i31, k31⟩
  have F32 := fun_mk (st := sIsaa) l32 c32 k32
  have b32 := F32.binds (ps := ["self", "moment", "after", "known"]) fun _ _ _ _ _ _ us hl => match us, hl with | [_, _, _, _], _ => rfl
  have m32 : Meth K CP "is_answered_any" f32 := ⟨a32, i32, k32⟩
  have F33 := fun_mk (st := sWithLen) l33 c33 k33
  have b33 := F33.binds (ps := ["items"]) fun _ _ _ _ _ _ us hl => match us, hl with | [_], _ => rfl
  have F34 := fun_mk (st := sGroups) l34 c34 k34
  have b34 := F34.binds (ps := ["items", "length"]) fun _ _ _ _ _ _ us hl => match us, hl with | [_, _], _ => rfl
  have F35 := fun_mk (st := sO12a) l35 c35 k35
  have b35 := F35.binds (ps := ["row"]) fun _ _ _ _ _ _ us hl => match us, hl with | [_], _ => rfl
  have F36 := fun_mk (st := sO12b) l36 c36 k36
  have b36 := F36.binds (ps := ["rows"]) fun _ _ _ _ _ _ us hl => match us, hl with | [_], _ => rfl
  have F37 := fun_mk (st := sO13a) l37 c37 k37
  have b37 := F37.binds (ps := ["row"]) fun _ _ _ _ _ _ us hl => match us, hl with | [_], _ => rfl
  have F38 := fun_mk (st := sO13b) l38 c38 k38
  have b38 := F38.binds (ps := ["rows"]) fun _ _ _ _ _ _ us hl => match us, hl with | [_], _ => rfl
  have F39 := fun_mk (st := sReqInit) l39 c39 k39
  have b39 := F39.binds (ps := ["self"]) fun _ _ _ _ _ _ us hl => match us, hl with | [_], _ => rfl
  have m39 : Meth K CR "__init__" f39 := ⟨a39, i39, k39⟩
  have F40 := fun_mk (st := sRestart) l40 c40 k40
  have b40 := F40.binds (ps := ["self"]) fun _ _ _ _ _ _ us hl => match us, hl with | [_], _ => rfl
  have m40 : Meth K CR "restart" f40 := ⟨a40, i40, k40⟩
  have F41 := fun_mk (st := sRun) l41 c41 k41
  have b41 := F41.binds (ps := ["self", "rows"]) fun _ _ _ _ _ _ us hl => match us, hl with | [_, _], _ => rfl
  have m41 : Meth K CR "run" f41 := ⟨a41, i41, k41⟩
  have F42 := fun_mk (st := sNat) l42 c42 k42
  have b42 := F42.binds (ps := ["self"]) fun _ _ _ _ _ _ us hl => match us, hl with | [_], _ => rfl
  have m42 : Meth K CR "is_natures_turn" f42 := ⟨a42, i42, k42⟩
  have F43 := fun_mk (st := sChkS) l43 c43 k43
  have b43 := F43.binds (ps := ["self"]) fun _ _ _ _ _ _ us hl => match us, hl with | [_], _ => rfl
  have m43 : Meth K CR "check_size" f43 := ⟨a43, i43, k43⟩
  have F44 := fun_mk (st := sOp0) l44 c44 k44
  have b44 := F44.binds (ps := ["self", "events", "deadline", "tasks", "requirements"]) fun _ _ _ _ _ _ us hl => match us, hl with | [_, _, _, _, _], _ => rfl
  have m44 : Meth K CR "operation_0" f44 := ⟨a44, i44, k44⟩
  have F45 := fun_mk (st := sOp1) l45 c45 k45
  have b45 := F45.binds (ps := ["self"]) fun _ _ _ _ _ _ us hl => match us, hl with | [_], _ => rfl
  have m45 : Meth K CR "operation_1" f45 := ⟨a45, i45, k45⟩
  have F46 := fun_mk (st := sOp2) l46 c46 k46
  have b46 := F46.binds (ps := ["self"]) fun _ _ _ _ _ _ us hl => match us, hl with | [_], _ => rfl
  have m46 : Meth K CR "operation_2" f46 := ⟨a46, i46, k46⟩
  have F47 := fun_mk (st := sOp3) l47 c47 k47
  have b47 := F47.binds (ps := ["self"]) fun _ _ _ _ _ _ us hl => match us, hl with | [_], _ => rfl
  have m47 : Meth K CR "operation_3" f47 := ⟨a47, i47, k47⟩
  have F48 := fun_mk (st := sOp4) l48 c48 k48
  have b48 := F48.binds (ps := ["self"]) fun _ _ _ _ _ _ us hl => match us, hl with | [_], _ => rfl
  have m48 : Meth K CR "operation_4" f48 := ⟨a48, i48, k48⟩
  have F49 := fun_mk (st := sOp5) l49 c49 k49
  have b49 := F49.binds (ps := ["self", "mask"]) fun _ _ _ _ _ _ us hl => match us, hl with | [_, _], _ => rfl
  have m49 : Meth K CR "operation_5" f49 := ⟨a49, i49, k49⟩
  have F50 := fun_mk (st := sOp6) l50 c50 k50
  have b50 := F50.binds (ps := ["self"]) fun _ _ _ _ _ _ us hl => match us, hl with | [_], _ => rfl
  have m50 : Meth K CR "operation_6" f50 := ⟨a50, i50, k50⟩
  have F51 := fun_mk (st := sOp7) l51 c51 k51
  have b51 := F51.binds (ps := ["self", "mask"]) fun _ _ _ _ _ _ us hl => match us, hl with | [_, _], _ => rfl
  have m51 : Meth K CR "operation_7" f51 := ⟨a51, i51, k51⟩
  have F52 := fun_mk (st := sOp8) l52 c52 k52
  have b52 := F52.binds (ps := ["self"]) fun _ _ _ _ _ _ us hl => match us, hl with | [_], _ => rfl
  have m52 : Meth K CR "operation_8" f52 := ⟨a52, i52, k52⟩
  have F53 := fun_mk (st := sOp9) l53 c53 k53
  have b53 := F53.binds (ps := ["self"]) fun _ _ _ _ _ _ us hl => match us, hl with | [_], _ => rfl
  have m53 : Meth K CR "operation_9" f53 := ⟨a53, i53, k53⟩
  have F54 := fun_mk (st := sOp10) l54 c54 k54
  have b54 := F54.binds (ps := ["self"]) fun _ _ _ _ _ _ us hl => match us, hl with | [_], _ => rfl
  have m54 : Meth K CR "operation_10" f54 := ⟨a54, i54, k54⟩
  have F55 := fun_mk (st := sOp11) l55 c55 k55
  have b55 := F55.binds (ps := ["self"]) fun _ _ _ _ _ _ us hl => match us, hl with | [_], _ => rfl
  have m55 : Meth K CR "operation_11" f55 := ⟨a55, i55, k55⟩
  have F56 := fun_mk (st := sOp12) l56 c56 k56
  have b56 := F56.binds (ps := ["self", "items"]) fun _ _ _ _ _ _ us hl => match us, hl with | [_, _], _ => rfl
  have m56 : Meth K CR "operation_12" f56 := ⟨a56, i56, k56⟩
  have F57 := fun_mk (st := sOp13) l57 c57 k57
  have b57 := F57.binds (ps := ["self", "items"]) fun _ _ _ _ _ _ us hl => match us, hl with | [_, _], _ => rfl
  have m57 : Meth K CR "operation_13" f57 := ⟨a57, i57, k57⟩
  have F58 := fun_mk (st := sOp14) l58 c58 k58
  have b58 := F58.binds (ps := ["self"]) fun _ _ _ _ _ _ us hl => match us, hl with | [_], _ => rfl
  have m58 : Meth K CR "operation_14" f58 := ⟨a58, i58, k58⟩
  have F59 := fun_mk (st := sChosen) l59 c59 k59
  have b59 := F59.binds (ps := ["self", "place", "given"]) fun _ _ _ _ _ _ us hl => match us, hl with | [_, _, _], _ => rfl
  have m59 : Meth K CR "operation_chosen" f59 := ⟨a59, i59, k59⟩
  have F60 := fun_mk (st := sReqAns) l60 c60 k60
  have b60 := F60.binds (ps := ["line"]) fun _ _ _ _ _ _ us hl => match us, hl with | [_], _ => rfl
  have F61 := fun_mk (st := sRequests) l61 c61 k61
  have b61 := F61.binds (ps := ["calls"]) fun _ _ _ _ _ _ us hl => match us, hl with | [_], _ => rfl
  have F62 := fun_mk (st := sAnswers) l62 c62 k62
  have b62 := F62.binds (ps := ["calls"]) fun _ _ _ _ _ _ us hl => match us, hl with | [_], _ => rfl
  have F63 := fun_mk (st := sO11l) l63 c63 k63
  have b63 := F63.binds (ps := ["positions"]) fun _ _ _ _ _ _ us hl => match us, hl with | [_], _ => rfl
  have F64 := fun_mk (st := sO10l) l64 c64 k64
  have b64 := F64.binds (ps := ["entries"]) fun _ _ _ _ _ _ us hl => match us, hl with | [_], _ => rfl
  refine ⟨PySem.W.fnOf "answers" "answers" (defArgs sAnswers) (defBody sAnswers) (defScope sAnswers) .none kV62 dc62 pm62 an62 cd62 ct62, fun s us hu => match us, hu with | [_], _ => .of_eq rfl, fun base _ _ => ?_⟩
  have X_power := (⟨_, _, _, PySem.W.mg_of X G a0, k0, ok_power F0 T , b0⟩ : FunX P w K mg base _ _ "power" _)
  have X_next_row := (⟨_, _, _, PySem.W.mg_of X G a1, k1, ok_next_row F1 T , b1⟩ : FunX P w K mg base _ _ "next_row" _)
  have X_first_row := (⟨_, _, _, PySem.W.mg_of X G a2, k2, ok_first_row F2 T , b2⟩ : FunX P w K mg base _ _ "first_row" _)
  have ME : MkE P w K mg base CE := ⟨_, _, _, a3, i3, ok_oexinit F3 T, b3⟩
  have X_require := (⟨_, _, _, PySem.W.mg_of X G a4, k4, ok_require F4 T ME, b4⟩ : FunX P w K mg base _ _ "require" _)
  have M_beginning := (⟨_, _, _, m9, ok_beginning F9 T , b9⟩ : MetX P w K mg base _ _ CP "beginning" _)
  have M_moves := (⟨_, _, _, m10, ok_moves F10 T , b10⟩ : MetX P w K mg base _ _ CP "moves" _)
  have M_is_move_all := (⟨_, _, _, m12, ok_is_move_all F12 T , b12⟩ : MetX P w K mg base _ _ CP "is_move_all" _)
  have M_is_move := (⟨_, _, _, m11, ok_is_move F11 T M_is_move_all, b11⟩ : MetX P w K mg base _ _ CP "is_move" _)
  have M_after_move := (⟨_, _, _, m13, ok_after_move F13 T , b13⟩ : MetX P w K mg base _ _ CP "after_move" _)
  have M_reports := (⟨_, _, _, m14, ok_reports F14 T , b14⟩ : MetX P w K mg base _ _ CP "reports" _)
  have M_after_report := (⟨_, _, _, m15, ok_after_report F15 T , b15⟩ : MetX P w K mg base _ _ CP "after_report" _)
  have M_followers := (⟨_, _, _, m16, ok_followers F16 T M_reports M_after_report, b16⟩ : MetX P w K mg base _ _ CP "followers" _)
  have M_is_broken_any := (⟨_, _, _, m18, ok_is_broken_any F18 T , b18⟩ : MetX P w K mg base _ _ CP "is_broken_any" _)
  have M_is_broken := (⟨_, _, _, m17, ok_is_broken F17 T M_is_broken_any, b17⟩ : MetX P w K mg base _ _ CP "is_broken" _)
  have M_size := (⟨_, _, _, m7, ok_size F7 T X_power, b7⟩ : MetX P w K mg base _ _ CP "size" _)
  have M_is_too_large := (⟨_, _, _, m8, ok_is_too_large F8 T M_size, b8⟩ : MetX P w K mg base _ _ CP "is_too_large" _)
  have M_first_bad_completion := (⟨_, _, _, m19, ok_fbc F19 T X_first_row X_next_row M_is_broken, b19⟩ : MetX P w K mg base _ _ CP "first_bad_completion" _)
  have M_is_valid := (⟨_, _, _, m6, ok_is_valid F6 T , b6⟩ : MetX P w K mg base _ _ CP "is_valid" _)
  have W := wins_lv (P := P) (w := w) (base := base) T F22 m22 b22 F23 m23 b23 F20 m20 b20 F21 m21 b21 M_followers M_after_move M_first_bad_completion M_is_broken M_moves
  have M_wins : MetX P w K mg base CX0 38 CP "wins" (spWins P w CP 9) := (W 9).1
  have M_is_good_move : MetX P w K mg base CX0 36 CP "is_good_move" (spIgm P w CP 9) := (W 8).2
  have M_strategy : MetX P w K mg base (L2.CX P w) 38 CP "strategy" (spStr P w CP CE 9) := str_lv T F24 m24 b24 F25 m25 b25 X_require M_followers M_after_move M_moves (fun n => (W n).2) 9
  have M_refutation : MetX P w K mg base (L2.CX P w) 40 CP "refutation" (spRef P w CP CE 9) := ref_lv T F26 m26 b26 F27 m27 b27 X_require M_followers M_after_move M_moves M_is_broken (fun n => (W n).1) 9
  have M_is_position := (⟨_, _, _, m28, ok_ipos F28 T , b28⟩ : MetX P w K mg base _ _ CP "is_position" _)
  have M_entry_fault_all := (⟨_, _, _, m30, ok_efa F30 T M_followers, b30⟩ : MetX P w K mg base _ _ CP "entry_fault_all" _)
  have M_is_answered_any := (⟨_, _, _, m32, ok_isaa F32 T M_followers, b32⟩ : MetX P w K mg base _ _ CP "is_answered_any" _)
  have M_entry_fault := (⟨_, _, _, m29, ok_ef F29 T M_is_position M_is_move M_after_move M_is_broken M_first_bad_completion M_entry_fault_all, b29⟩ : MetX P w K mg base _ _ CP "entry_fault" _)
  have M_is_answered := (⟨_, _, _, m31, ok_isa F31 T M_after_move M_is_broken M_first_bad_completion M_is_answered_any, b31⟩ : MetX P w K mg base _ _ CP "is_answered" _)
  have Mk_Plan : MakX P w K mg base CX0 1 "Plan" CP (spPlanInit P w CP) := ⟨_, _, _, PySem.W.mg_of X G aCP, ⟨mkP, a5, i5, kcP⟩, ok_plan_init F5 T, b5⟩
  have X_with_length := (⟨_, _, _, PySem.W.mg_of X G a33, k33, ok_with_length F33 T , b33⟩ : FunX P w K mg base _ _ "with_length" _)
  have X_groups := (⟨_, _, _, PySem.W.mg_of X G a34, k34, ok_groups F34 T X_require, b34⟩ : FunX P w K mg base _ _ "groups" _)
  have X_operation_12_all := (⟨_, _, _, PySem.W.mg_of X G a35, k35, ok_o12a F35 T , b35⟩ : FunX P w K mg base _ _ "operation_12_all" _)
  have X_operation_12_all_2 := (⟨_, _, _, PySem.W.mg_of X G a36, k36, ok_o12b F36 T X_operation_12_all, b36⟩ : FunX P w K mg base _ _ "operation_12_all_2" _)
  have X_operation_13_all := (⟨_, _, _, PySem.W.mg_of X G a37, k37, ok_o13a F37 T , b37⟩ : FunX P w K mg base _ _ "operation_13_all" _)
  have X_operation_13_all_2 := (⟨_, _, _, PySem.W.mg_of X G a38, k38, ok_o13b F38 T X_operation_13_all, b38⟩ : FunX P w K mg base _ _ "operation_13_all_2" _)
  have X_operation_10_list := (⟨_, _, _, PySem.W.mg_of X G a64, k64, ok_o10l F64 T , b64⟩ : FunX P w K mg base _ _ "operation_10_list" _)
  have X_operation_11_list := (⟨_, _, _, PySem.W.mg_of X G a63, k63, ok_o11l F63 T , b63⟩ : FunX P w K mg base _ _ "operation_11_list" _)
  have M_restart := (⟨_, _, _, m40, ok_restart F40 T M_beginning, b40⟩ : MetX P w K mg base _ _ CR "restart" _)
  have M_is_natures_turn := (⟨_, _, _, m42, ok_natures_turn F42 T , b42⟩ : MetX P w K mg base _ _ CR "is_natures_turn" _)
  have M_check_size := (⟨_, _, _, m43, ok_check_size F43 T X_require M_is_too_large, b43⟩ : MetX P w K mg base _ _ CR "check_size" _)
  have M_operation_0 := (⟨_, _, _, m44, ok_op0 F44 T X_require X_groups Mk_Plan M_is_valid M_restart M_size, b44⟩ : MetX P w K mg base _ _ CR "operation_0" _)
  have M_operation_1 := (⟨_, _, _, m45, ok_op1 F45 T M_check_size M_beginning M_wins, b45⟩ : MetX P w K mg base _ _ CR "operation_1" _)
  have M_operation_2 := (⟨_, _, _, m46, ok_op2 F46 T M_restart, b46⟩ : MetX P w K mg base _ _ CR "operation_2" _)
  have M_operation_3 := (⟨_, _, _, m47, ok_op3 F47 T , b47⟩ : MetX P w K mg base _ _ CR "operation_3" _)
  have M_operation_4 := (⟨_, _, _, m48, ok_op4 F48 T X_require X_with_length M_check_size M_moves M_is_good_move, b48⟩ : MetX P w K mg base _ _ CR "operation_4" _)
  have M_operation_5 := (⟨_, _, _, m49, ok_op5 F49 T X_require M_is_move M_after_move M_is_broken, b49⟩ : MetX P w K mg base _ _ CR "operation_5" _)
  have M_operation_6 := (⟨_, _, _, m50, ok_op6 F50 T X_require X_with_length M_is_natures_turn M_reports, b50⟩ : MetX P w K mg base _ _ CR "operation_6" _)
  have M_operation_7 := (⟨_, _, _, m51, ok_op7 F51 T X_require M_is_natures_turn M_reports M_after_report M_is_broken, b51⟩ : MetX P w K mg base _ _ CR "operation_7" _)
  have M_operation_8 := (⟨_, _, _, m52, ok_op8 F52 T X_require M_is_natures_turn M_check_size M_reports M_after_report M_wins, b52⟩ : MetX P w K mg base _ _ CR "operation_8" _)
  have M_operation_9 := (⟨_, _, _, m53, ok_op9 F53 T X_require M_first_bad_completion, b53⟩ : MetX P w K mg base _ _ CR "operation_9" _)
  have M_operation_10 := (⟨_, _, _, m54, ok_op10 F54 T X_require M_check_size M_beginning M_wins M_strategy X_operation_10_list, b54⟩ : MetX P w K mg base _ _ CR "operation_10" _)
  have M_operation_11 := (⟨_, _, _, m55, ok_op11 F55 T X_require M_check_size M_beginning M_wins M_refutation X_operation_11_list, b55⟩ : MetX P w K mg base _ _ CR "operation_11" _)
  have M_operation_12 := (⟨_, _, _, m56, ok_op12 F56 T X_require X_groups X_operation_12_all_2 M_entry_fault M_beginning, b56⟩ : MetX P w K mg base _ _ CR "operation_12" _)
  have M_operation_13 := (⟨_, _, _, m57, ok_op13 F57 T X_require X_groups X_operation_13_all_2 M_is_position M_moves M_is_answered M_beginning, b57⟩ : MetX P w K mg base _ _ CR "operation_13" _)
  have M_operation_14 := (⟨_, _, _, m58, ok_op14 F58 T M_size, b58⟩ : MetX P w K mg base _ _ CR "operation_14" _)
  have M_operation_chosen := (⟨_, _, _, m59, ok_chosen F59 T M_operation_0 M_operation_1 M_operation_2 M_operation_3 M_operation_4 M_operation_5 M_operation_6 M_operation_7 M_operation_8 M_operation_9 M_operation_10 M_operation_11 M_operation_12 M_operation_13 M_operation_14, b59⟩ : MetX P w K mg base _ _ CR "operation_chosen" _)
  have M_run := (⟨_, _, _, m41, ok_run F41 T hTE M_operation_chosen, b41⟩ : MetX P w K mg base _ _ CR "run" _)
  have Mk_Request : MakX P w K mg base CX0 3 "Request" CR (spReqInit P w CP CR) := ⟨_, _, _, PySem.W.mg_of X G aCR, ⟨mkR, a39, i39, kcR⟩, ok_req_init F39 T Mk_Plan M_restart, b39⟩
  have X_request_answers := (⟨_, _, _, PySem.W.mg_of X G a60, k60, ok_request_answers F60 T Mk_Request M_run, b60⟩ : FunX P w K mg base _ _ "request_answers" _)
  have X_requests : FunX P w K mg base CX0 1 "requests" (spRequests K) := ⟨_, _, _, PySem.W.mg_of X G a61, k61, ok_requests F61 T hSh, b61⟩
  exact ok_answers F62 T X_request_answers X_requests
end SP
end
set_option Elab.async false
open PySem PySem.W PyProof.Rows
set_option maxRecDepth 100000 in
set_option maxHeartbeats 8000000 in
theorem PySem.Challenge.cw_smallplans_s01_answers_holds : PySem.Challenge.rw_smallplans_s01_answers.Holds := by
  w_on; k_headS; (case hw => exact ⟨[.list [.int 14]], by decide +kernel, by decide +kernel⟩)
  k_fillS
  refine L2.walk_specK (r := PySem.Challenge.rw_smallplans_s01_answers) (k := 45) (CX := L2.CX0) (ps := ["calls"]) (sp := SP.spAnswers) (by decide +kernel) rfl rfl ⟨rfl, by decide, by decide⟩ (fun w h Y => PySem.W.kIn_of Y) ?F ?S (fun _ _ _ _ z => z)
  case F =>
    intro w mg fa h Y KX G hmg
    refine' SP.all_mk KX G hmg ?aCP ?aCR ?aCE ?a0 ?l0 ?c0 ?k0 ?a1 ?l1 ?c1 ?k1 ?a2 ?l2 ?c2 ?k2 ?a3 ?i3 ?l3 ?c3 ?k3 ?a4 ?l4 ?c4 ?k4 ?a5 ?i5 ?l5 ?c5 ?k5 ?a6 ?i6 ?l6 ?c6 ?k6 ?a7 ?i7 ?l7 ?c7 ?k7 ?a8 ?i8 ?l8 ?c8 ?k8 ?a9 ?i9 ?l9 ?c9 ?k9 ?a10 ?i10 ?l10 ?c10 ?k10 ?a11 ?i11 ?l11 ?c11 ?k11 ?a12 ?i12 ?l12 ?c12 ?k12 ?a13 ?i13 ?l13 ?c13 ?k13 ?a14 ?i14 ?l14 ?c14 ?k14 ?a15 ?i15 ?l15 ?c15 ?k15 ?a16 ?i16 ?l16 ?c16 ?k16 ?a17 ?i17 ?l17 ?c17 ?k17 ?a18 ?i18 ?l18 ?c18 ?k18 ?a19 ?i19 ?l19 ?c19 ?k19 ?a20 ?i20 ?l20 ?c20 ?k20 ?a21 ?i21 ?l21 ?c21 ?k21 ?a22 ?i22 ?l22 ?c22 ?k22 ?a23 ?i23 ?l23 ?c23 ?k23 ?a24 ?i24 ?l24 ?c24 ?k24 ?a25 ?i25 ?l25 ?c25 ?k25 ?a26 ?i26 ?l26 ?c26 ?k26 ?a27 ?i27 ?l27 ?c27 ?k27 ?a28 ?i28 ?l28 ?c28 ?k28 ?a29 ?i29 ?l29 ?c29 ?k29 ?a30 ?i30 ?l30 ?c30 ?k30 ?a31 ?i31 ?l31 ?c31 ?k31 ?a32 ?i32 ?l32 ?c32 ?k32 ?a33 ?l33 ?c33 ?k33 ?a34 ?l34 ?c34 ?k34 ?a35 ?l35 ?c35 ?k35 ?a36 ?l36 ?c36 ?k36 ?a37 ?l37 ?c37 ?k37 ?a38 ?l38 ?c38 ?k38 ?a39 ?i39 ?l39 ?c39 ?k39 ?a40 ?i40 ?l40 ?c40 ?k40 ?a41 ?i41 ?l41 ?c41 ?k41 ?a42 ?i42 ?l42 ?c42 ?k42 ?a43 ?i43 ?l43 ?c43 ?k43 ?a44 ?i44 ?l44 ?c44 ?k44 ?a45 ?i45 ?l45 ?c45 ?k45 ?a46 ?i46 ?l46 ?c46 ?k46 ?a47 ?i47 ?l47 ?c47 ?k47 ?a48 ?i48 ?l48 ?c48 ?k48 ?a49 ?i49 ?l49 ?c49 ?k49 ?a50 ?i50 ?l50 ?c50 ?k50 ?a51 ?i51 ?l51 ?c51 ?k51 ?a52 ?i52 ?l52 ?c52 ?k52 ?a53 ?i53 ?l53 ?c53 ?k53 ?a54 ?i54 ?l54 ?c54 ?k54 ?a55 ?i55 ?l55 ?c55 ?k55 ?a56 ?i56 ?l56 ?c56 ?k56 ?a57 ?i57 ?l57 ?c57 ?k57 ?a58 ?i58 ?l58 ?c58 ?k58 ?a59 ?i59 ?l59 ?c59 ?k59 ?a60 ?l60 ?c60 ?k60 ?a61 ?l61 ?c61 ?k61 ?a62 ?l62 ?c62 ?k62 ?a63 ?l63 ?c63 ?k63 ?a64 ?l64 ?c64 ?k64 ?pgP ?hdP ?poP ?saP ?mkP ?kcP ?pgR ?hdR ?poR ?saR ?mkR ?kcR ?nP_events ?nP_deadline ?nP_tasks ?nP_requirements ?nP_own ?nP_won ?nR_plan ?nR_moment ?nR_seen ?nR_has_moved ?m_len ?m_range ?m_list ?m_tuple ?m_dict ?m_enumerate ?m_sorted ?m_zip ?m_all ?m_Exception ?gUN ?gME ?gMS ?gSH ?xE ?saE ?bE ?tyE ?kE ?gaE ?ggE ?hdE ?coE ?icE ?sE ?exI ?lS ?kS ?s0 ?u0 ?s1 ?u1 ?s2 ?u2 ?s3 ?u3 ?s4 ?u4 ?s5 ?u5 ?s6 ?u6 ?s7 ?u7 ?s8 ?u8 ?s9 ?u9 ?s10 ?u10 ?s11 ?u11 ?s12 ?u12 ?s13 ?u13 ?s14 ?u14
    (case aCP => k_is)
    (case aCR => k_is)
    (case aCE => k_is)
    (case a0 => k_is)
    (case l0 => k_is)
    (case c0 => k_is)
    (case k0 => k_is)
    (case a1 => k_is)
    (case l1 => k_is)
    (case c1 => k_is)
    (case k1 => k_is)
    (case a2 => k_is)
    (case l2 => k_is)
    (case c2 => k_is)
    (case k2 => k_is)
    (case a3 => k_is)
    (case i3 => k_is)
    (case l3 => k_is)
    (case c3 => k_is)
    (case k3 => k_is)
    (case a4 => k_is)
    (case l4 => k_is)
    (case c4 => k_is)
    (case k4 => k_is)
    (case a5 => k_is)
    (case i5 => k_is)
    (case l5 => k_is)
    (case c5 => k_is)
    (case k5 => k_is)
    (case a6 => k_is)
    (case i6 => k_is)
    (case l6 => k_is)
    (case c6 => k_is)
    (case k6 => k_is)
    (case a7 => k_is)
    (case i7 => k_is)
    (case l7 => k_is)
    (case c7 => k_is)
    (case k7 => k_is)
    (case a8 => k_is)
    (case i8 => k_is)
    (case l8 => k_is)
    (case c8 => k_is)
    (case k8 => k_is)
    (case a9 => k_is)
    (case i9 => k_is)
    (case l9 => k_is)
    (case c9 => k_is)
    (case k9 => k_is)
    (case a10 => k_is)
    (case i10 => k_is)
    (case l10 => k_is)
    (case c10 => k_is)
    (case k10 => k_is)
    (case a11 => k_is)
    (case i11 => k_is)
    (case l11 => k_is)
    (case c11 => k_is)
    (case k11 => k_is)
    (case a12 => k_is)
    (case i12 => k_is)
    (case l12 => k_is)
    (case c12 => k_is)
    (case k12 => k_is)
    (case a13 => k_is)
    (case i13 => k_is)
    (case l13 => k_is)
    (case c13 => k_is)
    (case k13 => k_is)
    (case a14 => k_is)
    (case i14 => k_is)
    (case l14 => k_is)
    (case c14 => k_is)
    (case k14 => k_is)
    (case a15 => k_is)
    (case i15 => k_is)
    (case l15 => k_is)
    (case c15 => k_is)
    (case k15 => k_is)
    (case a16 => k_is)
    (case i16 => k_is)
    (case l16 => k_is)
    (case c16 => k_is)
    (case k16 => k_is)
    (case a17 => k_is)
    (case i17 => k_is)
    (case l17 => k_is)
    (case c17 => k_is)
    (case k17 => k_is)
    (case a18 => k_is)
    (case i18 => k_is)
    (case l18 => k_is)
    (case c18 => k_is)
    (case k18 => k_is)
    (case a19 => k_is)
    (case i19 => k_is)
    (case l19 => k_is)
    (case c19 => k_is)
    (case k19 => k_is)
    (case a20 => k_is)
    (case i20 => k_is)
    (case l20 => k_is)
    (case c20 => k_is)
    (case k20 => k_is)
    (case a21 => k_is)
    (case i21 => k_is)
    (case l21 => k_is)
    (case c21 => k_is)
    (case k21 => k_is)
    (case a22 => k_is)
    (case i22 => k_is)
    (case l22 => k_is)
    (case c22 => k_is)
    (case k22 => k_is)
    (case a23 => k_is)
    (case i23 => k_is)
    (case l23 => k_is)
    (case c23 => k_is)
    (case k23 => k_is)
    (case a24 => k_is)
    (case i24 => k_is)
    (case l24 => k_is)
    (case c24 => k_is)
    (case k24 => k_is)
    (case a25 => k_is)
    (case i25 => k_is)
    (case l25 => k_is)
    (case c25 => k_is)
    (case k25 => k_is)
    (case a26 => k_is)
    (case i26 => k_is)
    (case l26 => k_is)
    (case c26 => k_is)
    (case k26 => k_is)
    (case a27 => k_is)
    (case i27 => k_is)
    (case l27 => k_is)
    (case c27 => k_is)
    (case k27 => k_is)
    (case a28 => k_is)
    (case i28 => k_is)
    (case l28 => k_is)
    (case c28 => k_is)
    (case k28 => k_is)
    (case a29 => k_is)
    (case i29 => k_is)
    (case l29 => k_is)
    (case c29 => k_is)
    (case k29 => k_is)
    (case a30 => k_is)
    (case i30 => k_is)
    (case l30 => k_is)
    (case c30 => k_is)
    (case k30 => k_is)
    (case a31 => k_is)
    (case i31 => k_is)
    (case l31 => k_is)
    (case c31 => k_is)
    (case k31 => k_is)
    (case a32 => k_is)
    (case i32 => k_is)
    (case l32 => k_is)
    (case c32 => k_is)
    (case k32 => k_is)
    (case a33 => k_is)
    (case l33 => k_is)
    (case c33 => k_is)
    (case k33 => k_is)
    (case a34 => k_is)
    (case l34 => k_is)
    (case c34 => k_is)
    (case k34 => k_is)
    (case a35 => k_is)
    (case l35 => k_is)
    (case c35 => k_is)
    (case k35 => k_is)
    (case a36 => k_is)
    (case l36 => k_is)
    (case c36 => k_is)
    (case k36 => k_is)
    (case a37 => k_is)
    (case l37 => k_is)
    (case c37 => k_is)
    (case k37 => k_is)
    (case a38 => k_is)
    (case l38 => k_is)
    (case c38 => k_is)
    (case k38 => k_is)
    (case a39 => k_is)
    (case i39 => k_is)
    (case l39 => k_is)
    (case c39 => k_is)
    (case k39 => k_is)
    (case a40 => k_is)
    (case i40 => k_is)
    (case l40 => k_is)
    (case c40 => k_is)
    (case k40 => k_is)
    (case a41 => k_is)
    (case i41 => k_is)
    (case l41 => k_is)
    (case c41 => k_is)
    (case k41 => k_is)
    (case a42 => k_is)
    (case i42 => k_is)
    (case l42 => k_is)
    (case c42 => k_is)
    (case k42 => k_is)
    (case a43 => k_is)
    (case i43 => k_is)
    (case l43 => k_is)
    (case c43 => k_is)
    (case k43 => k_is)
    (case a44 => k_is)
    (case i44 => k_is)
    (case l44 => k_is)
    (case c44 => k_is)
    (case k44 => k_is)
    (case a45 => k_is)
    (case i45 => k_is)
    (case l45 => k_is)
    (case c45 => k_is)
    (case k45 => k_is)
    (case a46 => k_is)
    (case i46 => k_is)
    (case l46 => k_is)
    (case c46 => k_is)
    (case k46 => k_is)
    (case a47 => k_is)
    (case i47 => k_is)
    (case l47 => k_is)
    (case c47 => k_is)
    (case k47 => k_is)
    (case a48 => k_is)
    (case i48 => k_is)
    (case l48 => k_is)
    (case c48 => k_is)
    (case k48 => k_is)
    (case a49 => k_is)
    (case i49 => k_is)
    (case l49 => k_is)
    (case c49 => k_is)
    (case k49 => k_is)
    (case a50 => k_is)
    (case i50 => k_is)
    (case l50 => k_is)
    (case c50 => k_is)
    (case k50 => k_is)
    (case a51 => k_is)
    (case i51 => k_is)
    (case l51 => k_is)
    (case c51 => k_is)
    (case k51 => k_is)
    (case a52 => k_is)
    (case i52 => k_is)
    (case l52 => k_is)
    (case c52 => k_is)
    (case k52 => k_is)
    (case a53 => k_is)
    (case i53 => k_is)
    (case l53 => k_is)
    (case c53 => k_is)
    (case k53 => k_is)
    (case a54 => k_is)
    (case i54 => k_is)
    (case l54 => k_is)
    (case c54 => k_is)
    (case k54 => k_is)
    (case a55 => k_is)
    (case i55 => k_is)
    (case l55 => k_is)
    (case c55 => k_is)
    (case k55 => k_is)
    (case a56 => k_is)
    (case i56 => k_is)
    (case l56 => k_is)
    (case c56 => k_is)
    (case k56 => k_is)
    (case a57 => k_is)
    (case i57 => k_is)
    (case l57 => k_is)
    (case c57 => k_is)
    (case k57 => k_is)
    (case a58 => k_is)
    (case i58 => k_is)
    (case l58 => k_is)
    (case c58 => k_is)
    (case k58 => k_is)
    (case a59 => k_is)
    (case i59 => k_is)
    (case l59 => k_is)
    (case c59 => k_is)
    (case k59 => k_is)
    (case a60 => k_is)
    (case l60 => k_is)
    (case c60 => k_is)
    (case k60 => k_is)
    (case a61 => k_is)
    (case l61 => k_is)
    (case c61 => k_is)
    (case k61 => k_is)
    (case a62 => k_is)
    (case l62 => k_is)
    (case c62 => k_is)
    (case k62 => k_is)
    (case a63 => k_is)
    (case l63 => k_is)
    (case c63 => k_is)
    (case k63 => k_is)
    (case a64 => k_is)
    (case l64 => k_is)
    (case c64 => k_is)
    (case k64 => k_is)
    (case pgP => k_is)
    (case hdP => k_is)
    (case poP => k_is)
    (case saP => k_is)
    (case mkP => k_is)
    (case kcP => k_is)
    (case pgR => k_is)
    (case hdR => k_is)
    (case poR => k_is)
    (case saR => k_is)
    (case mkR => k_is)
    (case kcR => k_is)
    (case nP_events => k_is)
    (case nP_deadline => k_is)
    (case nP_tasks => k_is)
    (case nP_requirements => k_is)
    (case nP_own => k_is)
    (case nP_won => k_is)
    (case nR_plan => k_is)
    (case nR_moment => k_is)
    (case nR_seen => k_is)
    (case nR_has_moved => k_is)
    (case m_len => k_is)
    (case m_range => k_is)
    (case m_list => k_is)
    (case m_tuple => k_is)
    (case m_dict => k_is)
    (case m_enumerate => k_is)
    (case m_sorted => k_is)
    (case m_zip => k_is)
    (case m_all => k_is)
    (case m_Exception => k_is)
    (case gUN => k_is)
    (case gME => k_is)
    (case gMS => k_is)
    (case gSH => k_is)
    (case xE => k_is)
    (case saE => k_is)
    (case bE => k_is)
    (case tyE => k_is)
    (case kE => k_is)
    (case gaE => k_is)
    (case ggE => k_is)
    (case hdE => k_is)
    (case coE => k_is)
    (case icE => k_is)
    (case sE => first | rfl | k_is)
    (case exI => k_is)
    (case lS => k_is)
    (case kS => decide +kernel)
    (case s0 => rfl)
    (case u0 => k_is)
    (case s1 => rfl)
    (case u1 => k_is)
    (case s2 => rfl)
    (case u2 => k_is)
    (case s3 => rfl)
    (case u3 => k_is)
    (case s4 => rfl)
    (case u4 => k_is)
    (case s5 => rfl)
    (case u5 => k_is)
    (case s6 => rfl)
    (case u6 => k_is)
    (case s7 => rfl)
    (case u7 => k_is)
    (case s8 => rfl)
    (case u8 => k_is)
    (case s9 => rfl)
    (case u9 => k_is)
    (case s10 => rfl)
    (case u10 => k_is)
    (case s11 => rfl)
    (case u11 => k_is)
    (case s12 => rfl)
    (case u12 => k_is)
    (case s13 => rfl)
    (case u13 => k_is)
    (case s14 => rfl)
    (case u14 => k_is)
  case S =>
    intro K H xs a hO hwi hask hx
    cases hx with
    | cons h1 h2 =>
      cases h2
      cases h1 with
      | lst hs ha =>
        have e := L2.ints_dw a.1 _ ha
        subst e
        have q : ((Codec.inLen 0 17000 a.1 && a.1.all (Codec.inInt (Int.negSucc 999999999999999999) (Int.ofNat 1000000000000000000))) && true) = true := hwi
        rw [Bool.and_eq_true, Bool.and_eq_true] at q
        have hl : a.1.length ≤ 17000 := (Codec.inNat_iff.mp q.1.1).2
        have hq : PyVbjpae.answers_asked a.1 = true := hask
        obtain ⟨cs, f1, f2, f3, f4, f5, f6⟩ := SP.asked_facts hq
        refine ⟨_, a.1, cs, rfl, hs, by omega, f1, f2, f3, f4, f5, fun c H' hc => ?_⟩
        rw [← f6] at hc
        exact .lst (L2.SqL.of hc) (L2.dw_ints _)
