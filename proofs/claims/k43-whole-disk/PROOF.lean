import PyProof.Rows.All
import Wide.All
import OpenK.AllK
import Wide.FinOn
import HandS.Text
import HandS.StrMore
import HandS.Codes
import PyProof.EqAt
import PyProof.EqKinds
import PyProof.TupleCall
import KE.KIsAll
import KE.KExcIs
import HandS.ForMost
import HandS.Defaults
import HandS.MakeKwOnly
import HandS.Property
import HandS.ClsMeth
import HandS.ExcOwn
import HandS.ExcCtx
import HandS.HotCalls
import HandS.ExcField
import HandS.IsInst
import HandS.ExcInitHot
import HandS.ExcInit
import HandS.ExcIs
import PySem.Challenge.RW_oncecoin_k43_whole_disk
set_option Elab.async false
set_option linter.all false
set_option maxRecDepth 100000
set_option maxHeartbeats 4000000
/-! The plain law: texts as lists of signs; heads, torn ends, lines. No program in sight. -/
namespace Wd
open PySem PySem.Builtin PySem.Builtin.Str L2

/-- the text of these signs -/
abbrev S (l : List Nat) : Str := ⟨l.toArray⟩
theorem S_len (l : List Nat) : (S l).length = l.length := SX.S_len l
theorem S_app (a b : List Nat) : S a ++ S b = S (a ++ b) := SX.S_cat a b
theorem S_inj {a b : List Nat} (h : S a = S b) : a = b := SX.S_inj h

/-! ### the first c -/
def cut1 (c : Nat) : List Nat → Option (List Nat × List Nat)
  | [] => none
  | x :: r => if x = c then some ([], r) else (cut1 c r).map fun p => (x :: p.1, p.2)
theorem cut1_some {c : Nat} : ∀ {l a b : List Nat}, cut1 c l = some (a, b) → l = a ++ c :: b ∧ c ∉ a
  | [], _, _, h => by cases h
  | x :: r, a, b, h => by
    unfold cut1 at h
    by_cases e : x = c
    · rw [if_pos e] at h
      cases h
      exact ⟨by rw [e]; rfl, by simp⟩
    · rw [if_neg e] at h
      obtain ⟨p, hp, e2⟩ := Option.map_eq_some_iff.mp h
      obtain ⟨pa, pb⟩ := p
      cases e2
      obtain ⟨h1, h2⟩ := cut1_some hp
      refine ⟨by rw [h1]; rfl, fun hm => ?_⟩
      rcases List.mem_cons.mp hm with q | q
      · exact e q.symm
      · exact h2 q
theorem cut1_app {c : Nat} : ∀ {a : List Nat} (b : List Nat), c ∉ a → cut1 c (a ++ c :: b) = some (a, b)
  | [], b, _ => if_pos rfl
  | x :: a, b, h => by
    have hx : ¬ x = c := fun e => h (by rw [e]; exact List.mem_cons_self ..)
    show (if x = c then _ else (cut1 c (a ++ c :: b)).map _) = _
    rw [if_neg hx, cut1_app b fun hm => h (List.mem_cons_of_mem _ hm)]
    rfl
theorem cut1_free {c : Nat} : ∀ {l : List Nat}, c ∉ l → cut1 c l = none
  | [], _ => rfl
  | x :: r, h => by
    have hx : ¬ x = c := fun e => h (by rw [e]; exact List.mem_cons_self ..)
    show (if x = c then _ else (cut1 c r).map _) = _
    rw [if_neg hx, cut1_free fun hm => h (List.mem_cons_of_mem _ hm)]
    rfl
theorem cut1_none {c : Nat} {l : List Nat} (h : cut1 c l = none) : c ∉ l := fun hm => by
  obtain ⟨a, b, rfl, hn⟩ : ∃ a b, l = a ++ c :: b ∧ c ∉ a := by
    clear h
    induction l with
    | nil => cases hm
    | cons x r ih =>
      by_cases e : x = c
      · exact ⟨[], r, by rw [e]; rfl, by simp⟩
      · rcases List.mem_cons.mp hm with q | q
        · exact absurd q.symm e
        · obtain ⟨a, b, h1, h2⟩ := ih q
          refine ⟨x :: a, b, by rw [h1]; rfl, fun hm2 => ?_⟩
          rcases List.mem_cons.mp hm2 with q | q
          · exact e q.symm
          · exact h2 q
  rw [cut1_app b hn] at h
  cases h

/-! ### find -/
theorem at_one {l : List Nat} {c i : Nat} : StrLaws.At (S l) (S [c]) (S l).length i ↔ l[i]? = some c := StrLaws.subAt_one (S l) c i
theorem find_app {c : Nat} {a b : List Nat} (h : c ∉ a) : Txt.find (S (a ++ c :: b)) (S [c]) = (a.length : Int) := by
  rcases PyProof.Rows.find_whole (S (a ++ c :: b)) (S [c]) with ⟨_, hn⟩ | ⟨i, e, hi, hn⟩
  · refine absurd (at_one.mpr ?_) (hn a.length)
    simp
  · rw [e]
    have hi' := at_one.mp hi
    rcases Nat.lt_trichotomy i a.length with hlt | heq | hgt
    · rw [List.getElem?_append_left hlt] at hi'
      exact absurd (List.mem_of_getElem? hi') h
    · rw [heq]
    · refine absurd (at_one.mpr ?_) (hn a.length hgt)
      simp
theorem find_free {c : Nat} {l : List Nat} (h : c ∉ l) : Txt.find (S l) (S [c]) = -1 := by
  rcases PyProof.Rows.find_whole (S l) (S [c]) with ⟨e, _⟩ | ⟨i, _, hi, _⟩
  · exact e
  · exact absurd (List.mem_of_getElem? (at_one.mp hi)) h
theorem rfind_app {c : Nat} {a b : List Nat} (h : c ∉ b) : Txt.rfind (S (a ++ c :: b)) (S [c]) = (a.length : Int) := by
  unfold Txt.rfind
  rcases StrLaws.last_spec (S (a ++ c :: b)) (S [c]) with ⟨_, hn⟩ | ⟨i, e, hi, hn⟩
  · refine absurd (at_one.mpr ?_) (hn a.length)
    simp
  · rw [e]
    have hi' := at_one.mp hi
    rcases Nat.lt_trichotomy i a.length with hlt | heq | hgt
    · refine absurd (at_one.mpr ?_) (hn a.length hlt)
      simp
    · show (i : Int) = _
      rw [heq]
    · rw [List.getElem?_append_right (by omega)] at hi'
      have : (c :: b)[i - a.length]? = some c := hi'
      obtain ⟨k, hk⟩ : ∃ k, i - a.length = k + 1 := ⟨i - a.length - 1, by omega⟩
      rw [hk, List.getElem?_cons_succ] at this
      exact absurd (List.mem_of_getElem? this) h

/-! ### a head -/
/-- figures: 1 to 9, no leading zero -/
def figOk (f : List Nat) : Bool := decide (1 ≤ f.length) && decide (f.length ≤ 9) && f.all (fun c => decide (48 ≤ c ∧ c ≤ 57)) && !(decide (1 < f.length) && decide (f.head? = some 48))
def val (f : List Nat) : Int := ((NumText.digitsVal f : Nat) : Int)
/-- the head of a place: number and text -/
def headL (l : List Nat) : Option (Int × List Nat) :=
  match cut1 10 l with
  | none => none
  | some (a, _) => match cut1 32 a with
    | none => none
    | some (f, t) => if figOk f = true then some (val f, t) else none
/-- its number, -1 where there is none -/
def numL (l : List Nat) : Int := match headL l with | some (n, _) => n | none => -1
theorem headL_some {l : List Nat} {n : Int} {t : List Nat} (h : headL l = some (n, t)) : ∃ f b, l = f ++ 32 :: (t ++ 10 :: b) ∧ figOk f = true ∧ n = val f ∧ 32 ∉ f ∧ 10 ∉ f ∧ 10 ∉ t := by
  unfold headL at h
  cases e : cut1 10 l with
  | none => rw [e] at h; cases h
  | some p =>
    obtain ⟨a, b⟩ := p
    rw [e] at h
    dsimp only at h
    obtain ⟨rfl, ha⟩ := cut1_some e
    cases e2 : cut1 32 a with
    | none => rw [e2] at h; cases h
    | some q =>
      obtain ⟨f, t2⟩ := q
      rw [e2] at h
      dsimp only at h
      obtain ⟨rfl, hf⟩ := cut1_some e2
      by_cases ok : figOk f = true
      · rw [if_pos ok] at h
        cases h
        exact ⟨f, b, by rw [List.append_assoc]; rfl, ok, rfl, hf, fun hm => ha (List.mem_append_left _ hm), fun hm => ha (List.mem_append_right _ (List.mem_cons_of_mem _ hm))⟩
      · rw [if_neg ok] at h
        cases h
theorem headL_app {f t : List Nat} (b : List Nat) (h1 : 32 ∉ f) (h2 : 10 ∉ f) (h3 : 10 ∉ t) : headL (f ++ 32 :: (t ++ 10 :: b)) = if figOk f = true then some (val f, t) else none := by
  have e : f ++ 32 :: (t ++ 10 :: b) = (f ++ 32 :: t) ++ 10 :: b := by rw [List.append_assoc]; rfl
  have hn : 10 ∉ f ++ 32 :: t := fun hm => by
    rcases List.mem_append.mp hm with q | q
    · exact h2 q
    · rcases List.mem_cons.mp q with q | q
      · exact absurd q (by decide)
      · exact h3 q
  unfold headL
  rw [e, cut1_app b hn]
  dsimp only
  rw [cut1_app t h1]
theorem headL_more {l : List Nat} (x : List Nat) {p : Int × List Nat} (h : headL l = some p) : headL (l ++ x) = some p := by
  obtain ⟨n, t⟩ := p
  obtain ⟨f, b, rfl, ok, rfl, h1, h2, h3⟩ := headL_some h
  have e : f ++ 32 :: (t ++ 10 :: b) ++ x = f ++ 32 :: (t ++ 10 :: (b ++ x)) := by simp
  rw [e, headL_app _ h1 h2 h3, if_pos ok]
theorem headL_noline {l : List Nat} (h : 10 ∉ l) : headL l = none := by
  unfold headL
  rw [cut1_free h]
theorem numL_neg {l : List Nat} : numL l < 0 ↔ headL l = none := by
  unfold numL
  cases h : headL l with
  | none => simp
  | some p =>
    obtain ⟨n, t⟩ := p
    obtain ⟨f, b, _, _, rfl, _⟩ := headL_some h
    show val f < 0 ↔ _
    unfold val
    constructor
    · intro q; omega
    · intro q; cases q

/-! ### the torn end -/
/-- what stands behind the last line feed -/
def tornL : List Nat → List Nat
  | [] => []
  | x :: r => if 10 ∈ r then tornL r else if x = 10 then r else x :: r
theorem tornL_spec : ∀ (l : List Nat), (10 ∉ l ∧ tornL l = l) ∨ ∃ a, l = a ++ 10 :: tornL l ∧ 10 ∉ tornL l
  | [] => .inl ⟨by simp, rfl⟩
  | x :: r => by
    unfold tornL
    by_cases h : 10 ∈ r
    · rw [if_pos h]
      rcases tornL_spec r with ⟨h1, _⟩ | ⟨a, h1, h2⟩
      · exact absurd h h1
      · exact .inr ⟨x :: a, by rw [List.cons_append, ← h1], h2⟩
    · rw [if_neg h]
      by_cases e : x = 10
      · rw [if_pos e]
        exact .inr ⟨[], by rw [e]; rfl, h⟩
      · rw [if_neg e]
        exact .inl ⟨fun hm => by
          rcases List.mem_cons.mp hm with q | q
          · exact e q.symm
          · exact h q, rfl⟩

/-! ### slices -/
theorem cut_from {l : List Nat} {i : Int} (h : 0 ≤ i) : L2.cutS (S l) (some i) none = S (l.drop i.toNat) := by
  unfold L2.cutS
  have e : (S l).length = l.length := S_len l
  rw [e]
  have e1 : HT.sIx l.length 0 (some i) = min i.toNat l.length := by
    show (if i < 0 then (i + (l.length : Int)).toNat else min i.toNat l.length) = _
    rw [if_neg (by omega)]
  rw [e1, HT.sIx_none]
  refine congrArg S ?_
  show (l.drop (min i.toNat l.length)).take (l.length - min i.toNat l.length) = l.drop i.toNat
  by_cases hi : i.toNat ≤ l.length
  · rw [Nat.min_eq_left hi]
    exact List.take_of_length_le (by rw [List.length_drop]; exact Nat.le_refl _)
  · rw [Nat.min_eq_right (by omega), Nat.sub_self, List.take_zero]
    exact (List.drop_eq_nil_of_le (by omega)).symm
theorem cut_to {l : List Nat} {i : Int} (h : 0 ≤ i) : L2.cutS (S l) none (some i) = S (l.take i.toNat) := by
  unfold L2.cutS
  have e : (S l).length = l.length := S_len l
  rw [e]
  have e1 : HT.sIx l.length l.length (some i) = min i.toNat l.length := by
    show (if i < 0 then (i + (l.length : Int)).toNat else min i.toNat l.length) = _
    rw [if_neg (by omega)]
  rw [e1, HT.sIx_none]
  refine congrArg S ?_
  show (l.drop 0).take (min i.toNat l.length - 0) = l.take i.toNat
  rw [List.drop_zero, Nat.sub_zero]
  by_cases hi : i.toNat ≤ l.length
  · rw [Nat.min_eq_left hi]
  · rw [Nat.min_eq_right (by omega), List.take_length, List.take_of_length_le (by omega)]
theorem cut_mid {l : List Nat} {i j : Int} (h : 0 ≤ i) (h2 : i ≤ j) : L2.cutS (S l) (some i) (some j) = S ((l.drop i.toNat).take (j.toNat - i.toNat)) := by
  unfold L2.cutS
  have e : (S l).length = l.length := S_len l
  rw [e]
  have e1 : HT.sIx l.length 0 (some i) = min i.toNat l.length := by
    show (if i < 0 then (i + (l.length : Int)).toNat else min i.toNat l.length) = _
    rw [if_neg (by omega)]
  have e2 : HT.sIx l.length l.length (some j) = min j.toNat l.length := by
    show (if j < 0 then (j + (l.length : Int)).toNat else min j.toNat l.length) = _
    rw [if_neg (by omega)]
  rw [e1, e2]
  refine congrArg S ?_
  show (l.drop (min i.toNat l.length)).take (min j.toNat l.length - min i.toNat l.length) = (l.drop i.toNat).take (j.toNat - i.toNat)
  by_cases hi : i.toNat ≤ l.length
  · rw [Nat.min_eq_left hi]
    by_cases hj : j.toNat ≤ l.length
    · rw [Nat.min_eq_left hj]
    · rw [Nat.min_eq_right (by omega), List.take_of_length_le (by rw [List.length_drop]; exact Nat.le_refl _), List.take_of_length_le (by rw [List.length_drop]; omega)]
  · rw [Nat.min_eq_right (by omega), Nat.min_eq_right (by omega), Nat.sub_self, List.take_zero, List.drop_eq_nil_of_le (by omega)]
    exact List.take_nil.symm
theorem torn_cut (l : List Nat) : L2.cutS (S l) (some (Txt.rfind (S l) (S [10]) + 1)) none = S (tornL l) := by
  rcases tornL_spec l with ⟨h1, h2⟩ | ⟨a, h1, h2⟩
  · have e : Txt.rfind (S l) (S [10]) = -1 := by
      unfold Txt.rfind
      rcases StrLaws.last_spec (S l) (S [10]) with ⟨e, _⟩ | ⟨i, _, hi, _⟩
      · rw [e]
      · exact absurd (List.mem_of_getElem? (at_one.mp hi)) h1
    rw [e, h2, cut_from (by omega)]
    rfl
  · have e := rfind_app (c := 10) (a := a) (b := tornL l) h2
    rw [← h1] at e
    rw [e, cut_from (by omega)]
    have e3 : ((a.length : Int) + 1).toNat = a.length + 1 := by omega
    rw [e3]
    refine congrArg S ?_
    conv => lhs; rw [h1]
    rw [show a ++ 10 :: tornL l = (a ++ [10]) ++ tornL l by simp]
    exact List.drop_left' (by simp)
theorem rfind_ge (l : List Nat) : 0 ≤ Txt.rfind (S l) (S [10]) + 1 := by
  unfold Txt.rfind
  cases Builtin.Str.lastOccurrence (S l) (S [10]) 0 (S l).length with
  | none => decide
  | some i =>
    show 0 ≤ (i : Int) + 1
    omega
/-- the place without its torn end -/
def mendL (l : List Nat) : List Nat := l.take (l.length - (tornL l).length)
theorem tornL_len (l : List Nat) : (tornL l).length ≤ l.length := by
  rcases tornL_spec l with ⟨_, h2⟩ | ⟨a, h1, _⟩
  · rw [h2]; exact Nat.le_refl _
  · have e := congrArg List.length h1
    rw [List.length_append, List.length_cons] at e
    omega
theorem headL_mend {l : List Nat} {p : Int × List Nat} (h : headL l = some p) : headL (mendL l) = some p := by
  obtain ⟨n, t⟩ := p
  obtain ⟨f, b, e, ok, rfl, h1, h2, h3⟩ := headL_some h
  rcases tornL_spec l with ⟨hn, _⟩ | ⟨a, ha, hb⟩
  · exact absurd (by rw [e]; simp) hn
  · have em : mendL l = a ++ [10] := by
      unfold mendL
      have el : l.length - (tornL l).length = (a ++ [10]).length := by
        have q := congrArg List.length ha
        rw [List.length_append, List.length_cons] at q
        rw [List.length_append]
        simp only [List.length_singleton]
        omega
      rw [el]
      conv => lhs; rw [ha]
      rw [show a ++ 10 :: tornL l = (a ++ [10]) ++ tornL l by simp]
      exact List.take_left' rfl
    rw [em]
    -- a ++ [10] holds the head line
    have e4 : (f ++ 32 :: t) ++ 10 :: b = a ++ 10 :: tornL l := by
      rw [← ha, e, List.append_assoc]; rfl
    have hn : 10 ∉ f ++ 32 :: t := fun hm => by
      rcases List.mem_append.mp hm with q | q
      · exact h2 q
      · rcases List.mem_cons.mp q with q | q
        · exact absurd q (by decide)
        · exact h3 q
    obtain ⟨b', hb'⟩ : ∃ b', a ++ [10] = (f ++ 32 :: t) ++ 10 :: b' := by
      rcases List.append_eq_append_iff.mp e4 with ⟨as, q1, q2⟩ | ⟨bs, q1, q2⟩
      · cases as with
        | nil =>
          refine ⟨[], ?_⟩
          rw [q1, List.append_nil]
        | cons x xs =>
          have q3 : 10 = x := (List.cons.inj q2).1
          refine ⟨xs ++ [10], ?_⟩
          rw [q1, ← q3]
          simp
      · cases bs with
        | nil =>
          refine ⟨[], ?_⟩
          rw [q1, List.append_nil]
        | cons x xs =>
          have q3 : 10 = x := (List.cons.inj q2).1
          exact absurd (by rw [q1, ← q3]; simp) hn
    rw [hb', show (f ++ 32 :: t) ++ 10 :: b' = f ++ 32 :: (t ++ 10 :: b') by simp, headL_app _ h1 h2 h3, if_pos ok]
/-! ### lines -/
/-- the lines of a place, the torn end last -/
def linesL (l : List Nat) : List (List Nat) := TL.spl [10] 0 [] l
theorem split_lines (l : List Nat) : Txt.split (S l) (S [10]) = (linesL l).map S := SX.split_S (by simp) (by decide)
theorem lines_cons {a : List Nat} (b : List Nat) (h : 10 ∉ a) : linesL (a ++ 10 :: b) = a :: linesL b := by
  have e := TL.spl_part1 (s := 10) (S := []) (p := a) (rest := b) (acc := []) h
  exact e
theorem spl_ne : ∀ (l : List Nat) (acc : List Nat), TL.spl [10] 0 acc l ≠ []
  | [], acc => by simp [TL.spl]
  | c :: r, acc => by
    show (if TL.pre [10] (c :: r) = true then acc :: TL.spl [10] ([10].length - 1) [] r else TL.spl [10] 0 (acc ++ [c]) r) ≠ []
    by_cases h : TL.pre [10] (c :: r) = true
    · rw [if_pos h]; simp
    · rw [if_neg h]; exact spl_ne r _
theorem lines_ne (l : List Nat) : linesL l ≠ [] := spl_ne l []
theorem spl_len : ∀ (l : List Nat) (acc : List Nat), (TL.spl [10] 0 acc l).length ≤ l.length + 1
  | [], acc => by simp [TL.spl]
  | c :: r, acc => by
    show (if TL.pre [10] (c :: r) = true then acc :: TL.spl [10] ([10].length - 1) [] r else TL.spl [10] 0 (acc ++ [c]) r).length ≤ _
    by_cases h : TL.pre [10] (c :: r) = true
    · rw [if_pos h]
      have q : (TL.spl [10] ([10].length - 1) [] r).length ≤ r.length + 1 := spl_len r []
      simp only [List.length_cons]
      simp only [List.length_cons] at q
      omega
    · rw [if_neg h]
      have q := spl_len r (acc ++ [c])
      simp only [List.length_cons]
      omega
theorem lines_len (l : List Nat) : (linesL l).length ≤ l.length + 1 := spl_len l []
/-- what a head says of the place's lines -/
theorem headL_lines {l : List Nat} {n : Int} {t : List Nat} (h : headL l = some (n, t)) : ∃ f r, 32 ∉ f ∧ r ≠ [] ∧ (f ++ 32 :: t).length ≤ l.length ∧ linesL l = (f ++ 32 :: t) :: r := by
  obtain ⟨f, b, rfl, ok, rfl, h1, h2, h3⟩ := headL_some h
  refine ⟨f, linesL b, h1, lines_ne b, by simp only [List.length_append, List.length_cons]; omega, ?_⟩
  rw [show f ++ 32 :: (t ++ 10 :: b) = (f ++ 32 :: t) ++ 10 :: b by simp]
  refine lines_cons b fun hm => ?_
  rcases List.mem_append.mp hm with q | q
  · exact h2 q
  · rcases List.mem_cons.mp q with q | q
    · exact absurd q (by decide)
    · exact h3 q
theorem part_head {f t : List Nat} (h : 32 ∉ f) : Txt.partition (S (f ++ 32 :: t)) (S [32]) = (S f, S [32], S t) :=
  SX.partition_some (by simp) (TL.par_part1 (s := 32) (S := []) (acc := []) h)
/-- a head read by places: the law's way -/
theorem headL_places {l : List Nat} {f t b : List Nat} (e : l = f ++ 32 :: (t ++ 10 :: b)) (h1 : 32 ∉ f) (h2 : 10 ∉ f) (h3 : 10 ∉ t) :
    Txt.find (S l) (S [10]) = ((f.length + 1 + t.length : Nat) : Int) ∧ Txt.find (S l) (S [32]) = (f.length : Int) ∧
    L2.cutS (S l) none (some (f.length : Int)) = S f ∧ L2.cutS (S l) (some ((f.length : Int) + 1)) (some ((f.length + 1 + t.length : Nat) : Int)) = S t := by
  have hn : 10 ∉ f ++ 32 :: t := fun hm => by
    rcases List.mem_append.mp hm with q | q
    · exact h2 q
    · rcases List.mem_cons.mp q with q | q
      · exact absurd q (by decide)
      · exact h3 q
  refine ⟨?_, ?_, ?_, ?_⟩
  · rw [e, show f ++ 32 :: (t ++ 10 :: b) = (f ++ 32 :: t) ++ 10 :: b by simp, find_app hn]
    simp only [List.length_append, List.length_cons]
    omega
  · rw [e, find_app h1]
  · rw [cut_to (by omega), e, Int.toNat_natCast]
    exact congrArg S List.take_left
  · rw [cut_mid (by omega) (by omega), e]
    have e1 : ((f.length : Int) + 1).toNat = f.length + 1 := by omega
    have e2 : ((f.length + 1 + t.length : Nat) : Int).toNat - ((f.length : Int) + 1).toNat = t.length := by omega
    rw [e2, e1, show f ++ 32 :: (t ++ 10 :: b) = (f ++ [32]) ++ (t ++ 10 :: b) by simp]
    refine congrArg S ?_
    have e3 : ((f ++ [32]) ++ (t ++ 10 :: b)).drop (f.length + 1) = t ++ 10 :: b := List.drop_left' (by simp)
    rw [e3]
    exact List.take_left
/-! ### a head, told by its places -/
def isFig (c : Nat) : Prop := 48 ≤ c ∧ c ≤ 57
theorem figOk_iff {f : List Nat} : figOk f = true ↔ 1 ≤ f.length ∧ f.length ≤ 9 ∧ (∀ c ∈ f, isFig c) ∧ ¬ (1 < f.length ∧ f[0]? = some 48) := by
  unfold figOk
  have e : f.head? = f[0]? := by cases f <;> rfl
  rw [e]
  simp only [Bool.and_eq_true, Bool.not_eq_true', decide_eq_true_eq, List.all_eq_true, Bool.and_eq_false_iff, decide_eq_false_iff_not]
  constructor
  · rintro ⟨⟨⟨h1, h2⟩, h3⟩, h4⟩
    refine ⟨h1, h2, fun c hc => h3 c hc, fun ⟨h5, h6⟩ => ?_⟩
    rcases h4 with h4 | h4
    · exact h4 h5
    · exact h4 h6
  · rintro ⟨h1, h2, h3, h4⟩
    refine ⟨⟨⟨h1, h2⟩, fun c hc => h3 c hc⟩, ?_⟩
    by_cases h5 : 1 < f.length
    · exact .inr fun h6 => h4 ⟨h5, h6⟩
    · exact .inl h5
/-- where the blank and the line feed stand -/
def blankI (l : List Nat) : Int := Txt.find (S l) (S [32])
def feedI (l : List Nat) : Int := Txt.find (S l) (S [10])
theorem split_at {c : Nat} {l : List Nat} (h : 0 ≤ Txt.find (S l) (S [c])) : ∃ a b, l = a ++ c :: b ∧ c ∉ a ∧ Txt.find (S l) (S [c]) = (a.length : Int) := by
  cases e : cut1 c l with
  | none =>
    rw [find_free (cut1_none e)] at h
    omega
  | some p =>
    obtain ⟨a, b⟩ := p
    obtain ⟨rfl, h2⟩ := cut1_some e
    exact ⟨a, b, rfl, h2, find_app h2⟩
theorem find_lt {c : Nat} {l : List Nat} : Txt.find (S l) (S [c]) < l.length := by
  by_cases h : 0 ≤ Txt.find (S l) (S [c])
  · obtain ⟨a, b, e, _, e2⟩ := split_at h
    rw [e2, e, List.length_append, List.length_cons]
    omega
  · omega
/-- what a head needs -/
theorem head_need {l : List Nat} {n : Int} {t : List Nat} (h : headL l = some (n, t)) : 1 ≤ blankI l ∧ blankI l ≤ 9 ∧ blankI l ≤ feedI l ∧ 0 ≤ feedI l ∧ (∀ c ∈ l.take (blankI l).toNat, isFig c) ∧ ¬ (1 < blankI l ∧ (l.take (blankI l).toNat)[0]? = some 48) ∧
    cutS (S l) none (some (blankI l)) = S (l.take (blankI l).toNat) ∧ n = val (l.take (blankI l).toNat) ∧ cutS (S l) (some (blankI l + 1)) (some (feedI l)) = S t := by
  obtain ⟨f, b, e, ok, rfl, h1, h2, h3⟩ := headL_some h
  obtain ⟨p1, p2, p3, p4⟩ := headL_places e h1 h2 h3
  have eb : blankI l = (f.length : Int) := p2
  have en : feedI l = ((f.length + 1 + t.length : Nat) : Int) := p1
  obtain ⟨k1, k2, k3, k4⟩ := figOk_iff.mp ok
  have et : l.take (blankI l).toNat = f := by
    rw [eb, Int.toNat_natCast, e]
    exact List.take_left
  rw [et, eb, en]
  refine ⟨by omega, by omega, by omega, by omega, k3, fun ⟨q1, q2⟩ => k4 ⟨by omega, q2⟩, p3, rfl, p4⟩
/-- what makes one -/
theorem head_pass {l : List Nat} (h1 : 1 ≤ blankI l) (h2 : blankI l ≤ 9) (h3 : blankI l ≤ feedI l) (h4 : ∀ c ∈ l.take (blankI l).toNat, isFig c) (h5 : ¬ (1 < blankI l ∧ (l.take (blankI l).toNat)[0]? = some 48)) : ∃ p, headL l = some p := by
  obtain ⟨f, r, e, hf, eb⟩ := split_at (c := 32) (l := l) (by show 0 ≤ blankI l; omega)
  obtain ⟨a, b, e2, ha, en⟩ := split_at (c := 10) (l := l) (by show 0 ≤ feedI l; omega)
  have eb' : blankI l = (f.length : Int) := eb
  have en' : feedI l = (a.length : Int) := en
  have et : l.take (blankI l).toNat = f := by
    rw [eb', Int.toNat_natCast, e]
    exact List.take_left
  rw [et] at h4 h5
  rw [eb'] at h1 h2 h3 h5
  rw [en'] at h3
  have q : f ++ 32 :: r = a ++ 10 :: b := e.symm.trans e2
  obtain ⟨t, ht⟩ : ∃ t, a = f ++ 32 :: t := by
    rcases List.append_eq_append_iff.mp q with ⟨as, q1, q2⟩ | ⟨bs, q1, q2⟩
    · cases as with
      | nil => exact absurd (List.cons.inj q2).1 (by decide)
      | cons x xs =>
        have q3 : 32 = x := (List.cons.inj q2).1
        exact ⟨xs, by rw [q1, ← q3]⟩
    · cases bs with
      | nil => exact absurd (List.cons.inj q2).1 (by decide)
      | cons x xs =>
        have := congrArg List.length q1
        rw [List.length_append, List.length_cons] at this
        omega
  rw [ht] at ha e2
  have n10 : 10 ∉ f := fun hm => ha (List.mem_append_left _ hm)
  have t10 : 10 ∉ t := fun hm => ha (List.mem_append_right _ (List.mem_cons_of_mem _ hm))
  have ok : figOk f = true := figOk_iff.mpr ⟨by omega, by omega, h4, fun ⟨q1, q2⟩ => h5 ⟨by omega, q2⟩⟩
  refine ⟨(val f, t), ?_⟩
  rw [e2, show f ++ 32 :: t ++ 10 :: b = f ++ 32 :: (t ++ 10 :: b) by simp, headL_app b hf n10 t10, if_pos ok]
theorem numL_none {l : List Nat} (h : headL l = none) : numL l = -1 := by unfold numL; rw [h]
theorem numL_some {l : List Nat} {n : Int} {t : List Nat} (h : headL l = some (n, t)) : numL l = n := by unfold numL; rw [h]
theorem int_figs {f : List Nat} (h : ∀ c ∈ f, isFig c) (h1 : f ≠ []) (h2 : f.length ≤ 9) : intText? (S f) = some (val f) :=
  intText_digits (x := S f) (fun c hc => h c hc) h1 (by rw [S_len]; omega)
theorem figs_list : ("0123456789" : Str).cps.toList = [48, 49, 50, 51, 52, 53, 54, 55, 56, 57] := by decide +kernel
theorem in_figs {c : Nat} : c ∈ ("0123456789" : Str).cps.toList ↔ isFig c := by
  rw [figs_list]
  unfold isFig
  constructor
  · intro h
    simp at h
    omega
  · rintro ⟨h1, h2⟩
    simp
    omega
theorem str_nl : ("\n" : Str) = S [10] := by decide +kernel
theorem str_sp : (" " : Str) = S [32] := by decide +kernel
theorem str_zero : ("0" : Str) = S [48] := by decide +kernel
theorem str_nil : ("" : Str) = S [] := by decide +kernel
theorem str_zsp : ("0 " : Str) = S [48, 32] := by decide +kernel
end Wd
/-! Rules of my own over the layer: a method called with keywords (it may raise), a classmethod that may raise, a local name that holds a class, len of an own instance, isinstance of a caught error that has a dict. -/
namespace Wd
open PySem PySem.Spec PyProof.Rows L2

/-- nothing is let out -/
theorem passN {X : Cx} : Passes (L2N.CX X.prog X.w) X E0 := fun _ _ _ _ _ _ _ h => by
  obtain ⟨a, B, H', cls, d, h1, h2, h3, h4, h5, h6, h7, z⟩ := h
  exact z.elim
theorem passAt0 {X : Cx} {CX : CXT} {E : XK} (h : Passes CX X E) (σ : L2.St) : PassesAt CX X σ E := fun pins H s e s' I c => h pins σ H s e s' I c

section
variable {X : Cx} {CX : CXT} {k n : Nat} {f C : Addr} {fd : FuncData} {ps ks : List Str} {sp : Sp} {E : L2.St → XK} {m : Str} {pos apos : Pos} {e o : Expr} {es : List Expr} {kws : List Keyword} {ta : TE} {t tk : TA}
  {g : List Value → List Value → List Value} {gV : List V → List V → List V} {pins : List (Addr × Obj)} {σ : L2.St} {H : Hp} {s : Shared} {Q : VK}
/-- what a call's result is worth to the caller -/
theorem back_of {code : Code} {E1 : XK} (I : Inv X pins σ H s) (hx : PassesAt CX X σ E1) (h : codeAny (model X.prog X.w) X.A code (CR CX X.stack X.prog X.w H s Q E1) s) :
    codeAny (model X.prog X.w) X.A code (fun r s' => match r with | .ok (.ret v) => EP X pins σ Q v s' | .ok _ => False | .error er => X.xe er s') s := by
  refine codeAny_mono h fun r s' hq => ?_
  cases r with
  | error er => exact hx pins H s er s' I hq
  | ok fl =>
    cases fl with
    | ret u => exact I.after hq
    | next => exact False.elim hq
    | brk => exact False.elim hq
    | cont => exact False.elim hq
/-- o.m(e, .., k = v, ..), m a method that may raise -/
def tMethN (C : Addr) (m : Str) (n j : Nat) (sp : Sp) (gV : List V → List V → List V) (E : L2.St → XK) (ta : TE) (t tk : TA) : TE := fun σ H Q =>
  ta σ H fun x H1 => ∃ a dx fs, x = .ref a ∧ H1 a = some (.ins C dx fs) ∧ fs.lookup m = none ∧ t σ H1 fun vs H2 => tk σ H2 fun zs H3 => vs.length = n ∧ zs.length = j ∧ sp (gV (x :: vs) zs) H3 Q (E σ)
theorem pe_methN {pl : Sem Bool} (c : Cls X.K C) (hm : Meth X.K C m f) (F : FnOk X.prog X.w X.K X.mg X.base CX k f fd ps sp) (hr : Room k X.A) (hb : KBn X.K fd ps (n + 1) ks g gV) (hx : ∀ σ, PassesAt CX X σ (E σ))
    (he : PE X o ta) (ha : PA X (e :: es) t) (hkw : PK X kws tk) (hall : (backToKw pos (keywordEach kws X.env)).all (fun q => q.1.isSome) = true := by rfl) (hks : (backToKw pos (keywordEach kws X.env)).filterMap (fun q => q.1) = ks := by rfl)
    (hst : starEach (e :: es) X.env = (false, eval e X.env) :: starEach es X.env := by rfl)
    (hpl : ((backTo pos (starEach (e :: es) X.env)).any (fun q => q.1) || (backToKw pos (keywordEach kws X.env)).any (fun q => q.1.isNone)) = false := by rfl)
    (ht : eval (.Call (.Attribute o m apos) (e :: es) kws pos) X.env = (do
      let ov ← eval o X.env
      standAt apos.atName
      let (f, first) ← holding [ov] (getMethod ov m pl)
      callWith pos f first (backTo pos (starEach (e :: es) X.env)) (backToKw pos (keywordEach kws X.env))) := by rfl) :
    PE X (.Call (.Attribute o m apos) (e :: es) kws pos) (tMethN C m n ks.length sp gV E ta t tk) := by
  constructor
  intro pins s σ H Q I h
  refine PySem.W.methodCall_KW (pl := pl) (thn (he.run pins s σ H _ I h) ?_) ht
  rintro u s1 ⟨x, H1, I1, rx, a, dx, fs, ex, ea, l, q⟩
  subst ex
  cases (show u = Value.ref a from rx)
  refine getmeth_ok I1 ea c hm l (PySem.W.callWith_KW (first := [.ref a]) (h₀ := X.base) I.ok.mod.kin hm.kp hall (thn (ha.run pos pins s1 σ H1 _ I1 q) ?_) hpl hst)
  rintro us s2 ⟨vs, H2, I2, r, q2⟩
  refine thn (hkw.run pos pins s2 σ H2 _ I2 q2) ?_
  rintro ws s3 ⟨zs, H3, I3, rz, l1, l2, q3⟩
  refine ⟨I3.kIn, ?_⟩
  rw [hks]
  have r1 : Vals (V.ref a :: vs) (Value.ref a :: us) := .cons rfl r
  have n1 : (Value.ref a :: us).length = n + 1 := by rw [← r1.length, List.length_cons, l1]
  exact wpAny_call (back_of I3 (hx σ) (F.run X.A X.stack s3 H3 _ _ _ Q (E σ) hr I3.env0 (hb.to s3 (Value.ref a :: us) ws I3.kIn n1 (rz.length.symm.trans l2)) (hb.rel r1 rz) q3))
/-- o.m(e, ..), m a method that may raise: wished for at the slots -/
def tMethE (C : Addr) (m : Str) (sp : Sp) (dvs : List V) (E : L2.St → XK) (ta : TE) (t : TA) : TE := fun σ H Q =>
  ta σ H fun x H1 => ∃ a dx fs, x = .ref a ∧ H1 a = some (.ins C dx fs) ∧ fs.lookup m = none ∧ t σ H1 fun vs H2 => sp (x :: (vs ++ dvs)) H2 Q (E σ)
end

section
variable {X : Cx} {CX : CXT} {k : Nat} {C p g : Addr} {mc : Value} {sp : Sp} {E : L2.St → XK} {o e : Expr} {es : List Expr} {m : Str} {pos apos : Pos} {ta : TE} {t : TA} {pl : Sem Bool}
/-- e.m(..), e the class at C, m a classmethod that may raise -/
def tCMethS (C : Addr) (sp : Sp) (E : L2.St → XK) (ta : TE) (t : TA) : TE := fun σ H Q => ta σ H fun x H1 => x = .ref C ∧ t σ H1 fun vs H2 => sp (.ref C :: vs) H2 Q (E σ)
theorem pe_cmethS (r : ClX.CRead X.K C mc) (c : ClX.CMet X.K C mc m p g) (F : FnR X.prog X.w X.K X.mg X.base CX k g sp) (hr : Room k X.A) (hx : ∀ σ, PassesAt CX X σ (E σ)) (he : PE X o ta) (ha : PA X (e :: es) t)
    (hst : starEach (e :: es) X.env = (false, eval e X.env) :: starEach es X.env := by rfl) (hpl : (backTo pos (starEach es X.env)).any (fun q => q.1) = false := by rfl)
    (ht : eval (.Call (.Attribute o m apos) (e :: es) [] pos) X.env = (do
      let ov ← eval o X.env
      standAt apos.atName
      let (f, first) ← holding [ov] (getMethod ov m pl)
      callWith pos f first (backTo pos (starEach (e :: es) X.env)) (backToKw pos (keywordEach [] X.env))) := by rfl) :
    PE X (.Call (.Attribute o m apos) (e :: es) [] pos) (tCMethS C sp E ta t) := by
  constructor
  intro pins s σ H Q I h
  refine PySem.W.methodCall_KW (pl := pl) (thn (he.run pins s σ H _ I h) ?_) ht
  rintro u s1 ⟨x, H1, I1, rx, ex, q⟩
  subst ex
  cases (show u = Value.ref C from rx)
  refine ClX.getmethcm_ok I1 r c fun s2 I2 => ClX.callwith_cm I2 (ClX.base_none I1 (Nat.le_refl _)) c.fi (thn (ha.run pos _ s2 σ H1 _ I2 q) ?_) hst hpl
  rintro us s3 ⟨vs, H2, I3, rv, q2⟩
  have rv1 : Vals (V.ref C :: vs) (Value.ref C :: us) := .cons rfl rv
  have z : wpAny (model X.prog X.w) X.A (call (.ref s1.heap.objs.size) us) (EP X ((s1.heap.objs.size, PySem.W.methodObj (.ref g) (.ref C)) :: pins) σ Q) X.xe s3 :=
    wpAny_call (PySem.W.method_call (ClX.pin_at I3) (back_of I3 (hx σ) (F X.A X.stack s3 H2 _ _ Q (E σ) hr I3.env0 rv1 q2)))
  exact ⟨⟨ClX.pin_at I3, I3.kIn⟩, thn z fun _ _ y => ClX.unpinE y⟩
end

section
variable {X : Cx} {CX : CXT} {k i : Nat} {f C : Addr} {fd : FuncData} {ps : List Str} {sp : Sp} {dvs : List V} {ds : List Value} {E : XK} {x : Str} {p pos : Pos} {e : Expr} {es : List Expr} {t : TA}
/-- x(e, ..), the i-th slot holds the class at C -/
def tMakeL (i : Nat) (C : Addr) (sp : Sp) (dvs : List V) (E : XK) (t : TA) : TE := fun σ H Q => σ[i]? = some (some (.ref C)) ∧ tMake C sp dvs E t σ H Q
theorem pe_makeL (M : Mk X.K C f) (F : FnOk X.prog X.w X.K X.mg X.base CX k f fd ps sp) (hr : Room (k + 1) X.A) (hN : X.N[i]? = some x) (hv : Vis X.env.scope x) (hb : Binds X.K fd ps ds) (hd : Vals dvs ds) (hx : Passes CX X E) (ha : PA X (e :: es) t)
    (hdb : (x == ("__debug__" : Str)) = false := by decide) (hcd : (x == ("__classdict__" : Str)) = false := by decide)
    (hst : starEach (e :: es) X.env = (false, eval e X.env) :: starEach es X.env := by rfl) (hpl : (backTo pos (starEach es X.env)).any (fun q => q.1) = false := by rfl) :
    PE X (.Call (.Name x p) (e :: es) [] pos) (tMakeL i C sp dvs E t) := by
  constructor
  intro pins s σ H Q I h
  obtain ⟨hs, ht⟩ := h
  refine wpAny_Call_Name_kw (thn ((pe_var (pos := p) hN hv hdb hcd).run pins s σ H (fun v H1 => v = .ref C ∧ H1 = H) I ⟨.ref C, hs, rfl, rfl⟩) ?_)
  rintro u s1 ⟨v, H1, I1, r1, rfl, rfl⟩
  cases (show u = Value.ref C from r1)
  refine PySem.W.callWith_K (h₀ := X.base) I.ok.mod.kin M.kp (thn (ha.run pos pins s1 σ _ _ I1 ht) ?_) hst hpl
  rintro us s2 ⟨vs, H2, I2, r, q⟩
  exact ⟨I2.kIn, run_make M F hr hb hd hx I2 r q⟩
end

/-! ### len of an own instance -/
section
variable {X : Cx} {CX : CXT} {k : Nat} {f C : Addr} {fd : FuncData} {ps : List Str} {sp : Sp}
/-- len(o): its __len__ gives n -/
def rLenOwn (C : Addr) (sp : Sp) : List V → Hp → VK → Prop := fun xs H Q => ∃ (a dx : Addr) (fs : List (Str × V)), xs = [.ref a] ∧ H a = some (.ins C dx fs) ∧ sp [.ref a] H (fun v H' => ∃ j : Int, v = .int j ∧ 0 ≤ j ∧ j < 2 ^ 63 ∧ Q (.int j) H') E0
theorem call_lenOwn (hs : PySem.W.findIn X.K (.ref C) "__len__" = some (some (.ref f))) (hf : PySem.W.isFn X.K (.ref f) = true) (F : FnOk X.prog X.w X.K X.mg X.base CX k f fd ps sp) (hr : Room (k + 1) X.A) (hb : Binds X.K fd ps []) (hx : Passes CX X E0) :
    CallR X (.builtin "len") (rLenOwn C sp) := by
  intro pins s σ H xs us Q I rs h
  obtain ⟨a, dx, fs, rfl, ea, h⟩ := h
  cases rs with
  | cons r0 rs =>
    cases rs
    rename_i u
    cases (show u = Value.ref a from r0)
    obtain ⟨mA, O, _⟩ := ins_get I.hok ea
    obtain ⟨od, J, _⟩ := O.look
    obtain ⟨m, fr⟩ := I.fr
    have hl := F.len _ _ _ _ h
    have b := hb s [Value.ref a] I.kIn hl
    refine PySem.W.len_K fr I.ok.mod.kin J hs hf (wpAny_call (codeAny_mono (F.run X.A.in1 X.stack s H ⟨[.ref a], []⟩ [.ref a] [.ref a] _ E0 hr.in1 I.env0.in1 b (.cons rfl .nil) h) fun r s' hq => ?_))
    cases r with
    | error er => exact hx pins σ H s er s' I hq
    | ok fl =>
      cases fl with
      | ret u =>
        obtain ⟨v, H', I3, rv, j, rfl, h0, h1, q3⟩ := I.after hq
        obtain ⟨t, rfl⟩ := rv
        exact ⟨⟨h0, h1⟩, .int j, H', I3.tok _, ⟨_, rfl⟩, q3⟩
      | next => exact False.elim hq
      | brk => exact False.elim hq
      | cont => exact False.elim hq
end

/-! ### isinstance of a caught error with a dict -/
/-- what the error's class must say -/
structure ErrC (K : PySem.W.Frag) (D : Addr) : Prop where
  cl : (PySem.W.clsIn K D).isSome = true
  ga : PySem.W.findIn K (.ref D) "__getattribute__" = some (some (.builtin "BaseException.__getattribute__"))
  gt : PySem.W.findIn K (.ref D) "__getattr__" = some none
  sb : PySem.W.subIn K (.ref D) (.type "BaseException") = some true
  ca : PySem.W.findIn K (.ref D) "__class__" = some (some (.builtin "object.__class__"))
  sg : PySem.W.specialIn K (.builtin "object.__class__") "__get__" = some (some (.builtin "getset_descriptor.__get__"))
  tk : PySem.W.takesIn K (.builtin "object.__class__") = some true
  mo : PySem.W.mroIn K D (.type "object") = some true
section
variable {X : Cx} {a D : Addr} {dd : Addr} {oe : Obj} {pn : List (Addr × Obj)}
/-- the error as an instance with its own dict -/
theorem err_at {pins : List (Addr × Obj)} {σ : L2.St} {H : Hp} {s : Shared} {fs : List (Str × V)} (hz : Zc (.ref D) (some dd) oe) (hf : ∃ vs, oe.data = .fields vs) (I : Inv (X.suite a ((a, oe) :: pn)) pins σ H s) (hd : H dd = some (.xd fs)) :
    ∃ od : Obj, PySem.W.InstAt s.heap a oe D (some od) := by
  obtain ⟨hget, _⟩ := I.pin (a, oe) (List.mem_append_left _ List.mem_cons_self)
  have hx : ObjOk X.prog X.w H s.heap dd (.xd fs) := I.hok dd _ hd
  obtain ⟨mA, hns, _⟩ := hx
  obtain ⟨od, ho, _⟩ := lookIn_ns hns
  obtain ⟨vs, hv⟩ := hf
  refine ⟨od, hget, hz.1, ?_, ?_⟩
  · unfold PySem.W.notCls
    rw [hv] <;> rfl
  · rw [hz.2]
    exact ho
/-- isinstance(e, c) -/
def rIsX (K : PySem.W.Frag) (D a dd : Addr) : List V → Hp → VK → Prop := fun xs H Q => ∃ (c : V) (cv : Value) (b : Bool) (fs : List (Str × V)), xs = [.ref a, c] ∧ H dd = some (.xd fs) ∧ ClsV c cv ∧ PySem.W.kitOne K (.ref D) cv = some b ∧ Q (.bl b) H
theorem call_isX (T : ErrC X.K D) (hz : Zc (.ref D) (some dd) oe) (hf : ∃ vs, oe.data = .fields vs) : CallR (X.suite a ((a, oe) :: pn)) (.builtin "isinstance") (rIsX X.K D a dd) := by
  intro pins s σ H xs us Q I r h
  obtain ⟨c, cv, b, fs, rfl, hd, hcv, e, q⟩ := h
  obtain ⟨u1, u2, rfl, r1, r2⟩ := vals2 r
  cases (show u1 = Value.ref a from r1)
  have e2 := hcv.eq r2
  subst e2
  obtain ⟨od, J⟩ := err_at hz hf I hd
  exact PySem.W.kia_one (PySem.W.kitx_exc (od := some od) T.cl T.ga T.gt T.sb T.ca T.sg T.tk T.mo) I.kIn J e (fun z => nomatch z) fun tk => ⟨.bl b, H, I.tok tk, rfl, q⟩
/-- isinstance(e, (c, ..)) -/
def rIsXT (K : PySem.W.Frag) (D a dd : Addr) : List V → Hp → VK → Prop := fun xs H Q => ∃ (tp : Addr) (cs : List V) (us : List Value) (b : Bool) (fs : List (Str × V)), xs = [.ref a, .ref tp] ∧ H dd = some (.xd fs) ∧ H tp = some (.tup cs) ∧ Paired ClsV cs us ∧
  PySem.W.kitAny K (.ref D) us = some b ∧ Q (.bl b) H
theorem call_isXT (T : ErrC X.K D) (hz : Zc (.ref D) (some dd) oe) (hf : ∃ vs, oe.data = .fields vs) : CallR (X.suite a ((a, oe) :: pn)) (.builtin "isinstance") (rIsXT X.K D a dd) := by
  intro pins s σ H xs us Q I r h
  obtain ⟨tp, cs, ws, b, fs, rfl, hd, hT, hcs, e, q⟩ := h
  obtain ⟨u1, u2, rfl, r1, r2⟩ := vals2 r
  cases (show u1 = Value.ref a from r1)
  cases (show u2 = Value.ref tp from r2)
  obtain ⟨od, J⟩ := err_at hz hf I hd
  obtain ⟨_, its, rv, o, h1, h2, n, h3⟩ := (show ObjOk X.prog X.w H s.heap tp (.tup cs) from I.hok tp _ hT)
  have e3 := ClsV.all hcs rv
  subst e3
  obtain ⟨oc, od2, dt, sl⟩ := o
  simp only at h2 h3
  subst h2 h3
  exact PySem.W.kia_tup (PySem.W.kitx_exc (od := some od) T.cl T.ga T.gt T.sb T.ca T.sg T.tk T.mo) I.kIn J h1 e (fun z => nomatch z) fun tk => ⟨.bl b, H, I.tok tk, rfl, q⟩
end
end Wd
/-! An own error, made where nothing is handled: its context is None (for suites that call). -/
namespace Wd
open PySem PySem.Spec PyProof.Rows L2
section
variable {X : Cx} {CX : CXT} {x : Str} {C fI : Addr} {k : Nat} {fd : FuncData} {ps : List Str} {sp : Sp} {e : Expr} {es : List Expr} {ta : TA} {p pos : Pos}
theorem pmkN (T : OexC X.K C) (iC : PySem.W.findIn X.K (.ref C) "__init__" = some (some (.ref fI))) (tI : PySem.W.typeIn X.K (.ref fI) = some (.type "function")) (F1 : FnOk X.prog X.w X.K X.mg X.base CX k fI fd ps sp)
    (hr : Room (k + 1) X.A) (hb : Binds X.K fd ps []) (hx : Passes CX X (fun _ _ _ => False)) (hg : Gl X x) (hm : X.mg x = some (.ref C)) (ha : PA X (e :: es) ta) (hdb : (x == ("__debug__" : Str)) = false := by decide)
    (hst : starEach (e :: es) X.env = (false, eval e X.env) :: starEach es X.env := by rfl) (hpl : (backTo pos (starEach es X.env)).any (fun q => q.1) = false := by rfl) : L2N.PMk X (.Call (.Name x p) (e :: es) [] pos) (tMkO C sp [] ta) := by
  intro pins s σ H Q I h
  obtain ⟨_, _, _, _, bm, _, _, _, _, _, _, _, _, _, _, hC, hbm⟩ := T.cls
  refine wpAny_Call_Name_kw (ld_glob I hg hm (PySem.W.callWith_K (h₀ := X.base) I.ok.mod.kin T.kC (thn (ha.run pos pins s σ H _ I h) ?_) hst hpl) hdb)
  rintro us ⟨hp, gs, dr, tk, os⟩ ⟨vs, H1, I1, r1, hz, q1⟩
  refine ⟨I1.kIn, ?_⟩
  show wpAny _ _ (call (.ref C) us) _ _ _
  -- the place of the new error
  obtain ⟨A1, hA1⟩ : ∃ A1 : Addr, A1 = hp.objs.size + 1 := ⟨_, rfl⟩
  have fresh : hp.objs.size ≤ A1 := by rw [hA1]; exact Nat.le_succ _
  have hq := q1 A1 (I1.hok.fresh fresh)
  rw [List.append_nil] at hq
  obtain ⟨h2, hh2⟩ : ∃ h2 : Heap, h2 = (hp.push (PySem.W.kdv_tup us)).push (PySem.HandSPX.excO C hp.objs.size) := ⟨_, rfl⟩
  have kk : ∀ b o, hp.get? b = some o → h2.get? b = some o := fun b o z => by rw [hh2]; exact Heap.get?_push_of_some _ (Heap.get?_push_of_some _ z)
  have hget : h2.get? A1 = some (PySem.HandSPX.excO C hp.objs.size) := by rw [hh2, hA1]; heap_get
  have I2 : Inv X pins σ (upd H1 A1 (exo A1 C none)) ⟨h2, gs, dr, tk, os⟩ := I1.laid (t' := tk) (a := A1) (o := exo A1 C none) (h' := h2) kk fresh (exo_ok hget)
  have r2 : Vals (V.ref A1 :: vs) (Value.ref A1 :: us) := .cons rfl r1
  have hl : (Value.ref A1 :: us ++ []).length = ps.length := by
    rw [List.append_nil, ← r2.length]
    exact F1.len _ _ _ _ hq
  have b2 := hb ⟨h2, gs, dr, tk, os⟩ (Value.ref A1 :: us) I2.kIn hl
  rw [List.append_nil] at b2
  have hus : us.length ≤ sizeLine := by
    rw [← Paired.length r1, sizeLine_eq]
    omega
  have run := F1.run _ X.stack ⟨h2, gs, dr, tk, os⟩ _ ⟨Value.ref A1 :: us, []⟩ (Value.ref A1 :: us) _ _ (fun _ _ _ => False) (hr.make C us []) (I2.env0.make C us []) b2 r2 hq
  rw [hh2, hA1] at run
  refine wpAny_call (PySem.HandSPX.call_own F.excBase_ValueError (fun Y => PySem.HandSPX.refsVE_contains Y bm hbm) (I1.kIn _ _ hC) (PySem.W.looks_findIn I1.kIn iC) (fun self => PySem.W.bind_fn I1.kIn self tI) hus (codeAny_mono run fun r s' hq' => ?_))
  rw [hA1, hh2] at I2
  cases r with
  | error er => exact hx pins σ _ _ er s' I2 hq'
  | ok fl =>
    cases fl with
    | ret u =>
      obtain ⟨v, H2, os2, bare2, un2, hok2, rv, ev, d, fs, ea, ed, hd1, q2⟩ := hq'
      subst ev
      obtain ⟨h3, g2, d2, t2, os'⟩ := s'
      obtain ⟨t0, G, J, kG, ge, hoe, na⟩ := mk_end0 (d2 := d2) (t2 := t2) I1 (hA1 ▸ fresh) (hh2 ▸ kk) un2 hok2 os2 bare2 ea ed hd1
      refine ⟨rv, hp.objs.size + 1, _, _, ⟨G, g2, d2, t2, os'⟩, _, .ref C, some d, rfl, J, kG, ge, hoe, ⟨rfl, rfl, fun vs hv => ?_⟩, rfl, rfl, na, rfl, bare2, raises_own T.exC T.tyC, q2⟩
      cases hv
      rfl
    | next => exact False.elim hq'
    | brk => exact False.elim hq'
    | cont => exact False.elim hq'
end
/-! ### __init__ of such a class: self.f = v -/
/-- the error at a, without a dict, gets one that holds the field -/
def spErr (C : Addr) (fld : Str) : Sp := fun vs H Q _ => ∃ (a : Addr) (v : V), vs = [.ref a, v] ∧ H a = some (exo a C none) ∧ ∀ dx, H dx = none → dx ≠ a → Q .non (upd (upd H dx (exd dx [(fld, v)])) a (exo a C (some dx)))
/-- raise C(e) -/
def tRaiseE (C : Addr) (fld : Str) (W : WX) (ta : TA) : TS := fun _ σ H => tMkO C (spErr C fld) [] ta σ H fun cls d H' => W cls d σ H'
/-- what is left to say of it, once the argument is read -/
theorem err_mk {C : Addr} {fld : Str} {Q : XK} {H1 : Hp} {v : V} (q : ∀ d, H1 d = none → Q (.ref C) (some d) (upd H1 d (.xd [(fld, v)]))) :
    [v].length ≤ 1000 ∧ ∀ a, H1 a = none → spErr C fld (.ref a :: ([v] ++ [])) (upd H1 a (exo a C none))
      (fun v H2 => v = .non ∧ ∃ (d : Addr) (fs : List (Str × V)), H2 a = some (exo a C (some d)) ∧ H2 d = some (exd d fs) ∧ H1 d = none ∧ Q (.ref C) (some d) (upd (del H2 a) d (.xd fs))) (fun _ _ _ => False) := by
  refine ⟨by show 1 ≤ 1000; decide, fun a ha => ⟨a, v, rfl, upd_same, fun dx hdx hne => ?_⟩⟩
  have hd1 : H1 dx = none := by
    rw [upd_ne hne] at hdx
    exact hdx
  refine ⟨rfl, dx, [(fld, v)], upd_same, ?_, hd1, ?_⟩
  · rw [upd_ne hne, upd_same]
  · have e : upd (del (upd (upd (upd H1 a (exo a C none)) dx (exd dx [(fld, v)])) a (exo a C (some dx))) a) dx (.xd [(fld, v)]) = upd H1 dx (.xd [(fld, v)]) := by
      funext b
      by_cases h1 : b = dx
      · rw [h1, upd_same, upd_same]
      · rw [upd_ne h1, upd_ne h1]
        by_cases h2 : b = a
        · rw [h2, del_same, ha]
        · rw [del_ne h2, upd_ne h2, upd_ne h1, upd_ne h2]
    rw [e]
    exact q dx hd1
end Wd
/-! The text by places, packages of what a def is worth, heaps, promises. -/
namespace Wd
open PySem PySem.Spec PyProof.Rows L2

/-! ### 1. the text by places -/
def top (i : Nat) : Stmt := PySem.Challenge.pw_oncecoin_k43_whole_disk.main.body.getD i (.Pass ⟨0, 0, 0, 0⟩)
abbrev sHeadNumber : Stmt := top 18
abbrev sWholeLines : Stmt := top 19
abbrev sTornEnd : Stmt := top 20
abbrev sFirstSigns : Stmt := top 21
abbrev sInit : Stmt := inClass (top 22) 0
abbrev sOfPlaces : Stmt := inClass (top 22) 1
abbrev sPlaces : Stmt := inClass (top 22) 2
abbrev sPresentAt : Stmt := inClass (top 22) 3
abbrev sPut : Stmt := inClass (top 22) 4
abbrev sBook : Stmt := inClass (top 22) 5
abbrev sHead : Stmt := inClass (top 22) 6
abbrev sRecords : Stmt := inClass (top 22) 7
abbrev sWrite : Stmt := inClass (top 22) 8
abbrev sClose : Stmt := inClass (top 22) 9
abbrev sMend : Stmt := inClass (top 22) 10
abbrev sLen : Stmt := inClass (top 22) 11
abbrev sTornI : Stmt := inClass (top 12) 0
abbrev sBadI : Stmt := inClass (top 13) 0
abbrev sLPool : Stmt := top 24
abbrev sLDraw : Stmt := top 25
abbrev sLText : Stmt := top 26
abbrev sLCut : Stmt := top 27
abbrev sLSame : Stmt := top 28
abbrev sLHead : Stmt := top 29
abbrev sLPresent : Stmt := top 30
abbrev sLRests : Stmt := top 31
abbrev sLAlike : Stmt := top 32
abbrev sLTorn : Stmt := top 33
abbrev sLWritten : Stmt := top 34
abbrev sLMended : Stmt := top 35
abbrev sLClosed : Stmt := top 36
abbrev sLNumber : Stmt := top 37
abbrev sLPlace : Stmt := top 38
abbrev sLNoBook : Stmt := top 39
abbrev sLBad : Stmt := top 40
abbrev sLMayPass : Stmt := top 41
abbrev sLPlaces : Stmt := top 42
abbrev sLaw : Stmt := top 43

/-! ### 2. packages: what a caller needs of a def, a method, a class -/
/-- a def of the text, x its global name -/
def Df (K : PySem.W.Frag) (mg : Str → Option Value) (x : Str) (st : Stmt) : Prop := ∃ (f : Addr) (fd : FuncData), mg x = some (.ref f) ∧ Fun K x x st f fd
/-- a method m of the class at C -/
def Dm (K : PySem.W.Frag) (C : Addr) (m qual : Str) (st : Stmt) : Prop := ∃ (f : Addr) (fd : FuncData), Meth K C m f ∧ Fun K m qual st f fd
section
variable (P : Program) (w : World) (K : PySem.W.Frag) (mg : Str → Option Value) (base : Heap) (CX : CXT)
def Gd (x : Str) (k : Nat) (sp : Sp) : Prop := ∃ (f : Addr) (fd : FuncData) (ps : List Str), FnOk P w K mg base CX k f fd ps sp ∧ mg x = some (.ref f) ∧ PySem.W.keepIn K (.ref f) = true ∧ Binds K fd ps []
/-- .. also within an except suite -/
def Gh (x : Str) (k : Nat) (sp : Sp) : Prop := ∃ (f : Addr) (fd : FuncData) (ps : List Str), L2H.FnH P w K mg base CX k f fd ps sp ∧ mg x = some (.ref f) ∧ PySem.W.keepIn K (.ref f) = true ∧ Binds K fd ps []
def Gm (C : Addr) (m : Str) (k : Nat) (sp : Sp) : Prop := ∃ (f : Addr) (fd : FuncData) (ps : List Str), Meth K C m f ∧ FnOk P w K mg base CX k f fd ps sp ∧ Binds K fd ps []
/-- a method with one more keyword-only parameter, None by default -/
def Gk (C : Addr) (m : Str) (k n : Nat) (kw : Str) (sp : Sp) : Prop := ∃ (f : Addr) (fd : FuncData) (ps : List Str), Meth K C m f ∧ FnOk P w K mg base CX k f fd ps sp ∧ (∃ ds, Vals [V.non] ds ∧ Binds K fd ps ds) ∧
  ∃ g : List Value → List Value → List Value, KBn K fd ps (n + 1) [kw] g (fun vs zs => vs ++ zs)
/-- a property -/
def Gp (C : Addr) (m : Str) (k : Nat) (sp : Sp) : Prop := ∃ (p g : Addr) (fd : FuncData) (ps : List Str), PropOf K C m p g ∧ FnOk P w K mg base CX k g fd ps sp ∧ Binds K fd ps []
/-- the class's making -/
def Gi (C : Addr) (k : Nat) (sp : Sp) : Prop := ∃ (f : Addr) (fd : FuncData) (ps : List Str), Mk K C f ∧ FnOk P w K mg base CX k f fd ps sp ∧ Binds K fd ps []
/-- len of an instance -/
def Gl (C : Addr) (k : Nat) (sp : Sp) : Prop := ∃ (f : Addr) (fd : FuncData) (ps : List Str), PySem.W.findIn K (.ref C) "__len__" = some (some (.ref f)) ∧ PySem.W.isFn K (.ref f) = true ∧ FnOk P w K mg base CX k f fd ps sp ∧ Binds K fd ps []
/-- a classmethod -/
def Gc (C : Addr) (m : Str) (k : Nat) (sp : Sp) : Prop := ∃ (mc : Value) (p g : Addr) (fd : FuncData) (ps : List Str), ClX.CRead K C mc ∧ ClX.CMet K C mc m p g ∧ FnOk P w K mg base CX k g fd ps sp ∧ Binds K fd ps []
end
section
variable {X : Cx} {CX : CXT} {x m kw : Str} {C : Addr} {k n i : Nat} {sp : Sp} {p pos apos : Pos} {o e : Expr} {es : List Expr} {t tk : TA} {ta : TE} {pl : Sem Bool}
theorem pe_gd (G : Gd X.prog X.w X.K X.mg X.base CX0 x k sp) (hr : Room k X.A) (hg : L2.Gl X x) (ha : PA X (e :: es) t) (hdb : (x == ("__debug__" : Str)) = false := by decide)
    (hst : starEach (e :: es) X.env = (false, eval e X.env) :: starEach es X.env := by rfl) (hpl : (backTo pos (starEach es X.env)).any (·.1) = false := by rfl) : PE X (.Call (.Name x p) (e :: es) [] pos) (tCall sp [] E0 t) := by
  obtain ⟨f, fd, ps, F, hm, hk, hb⟩ := G
  exact pe_call F hr hg hm hk hb .nil pass0 ha hdb hst hpl
theorem pe_gh (G : Gh X.prog X.w X.K X.mg X.base CX0 x k sp) (hr : L2H.RoomH k X.A) (hc : L2H.HotC X) (hg : L2.Gl X x) (ha : PA X (e :: es) t) (hdb : (x == ("__debug__" : Str)) = false := by decide)
    (hst : starEach (e :: es) X.env = (false, eval e X.env) :: starEach es X.env := by rfl) (hpl : (backTo pos (starEach es X.env)).any (·.1) = false := by rfl) : PE X (.Call (.Name x p) (e :: es) [] pos) (tCallS sp (fun _ => E0) t) := by
  obtain ⟨f, fd, ps, F, hm, hk, hb⟩ := G
  exact L2H.pe_callH F hr hc hg hm hk hb (fun σ => passAt0 pass0 σ) ha hdb hst hpl
theorem pe_gm (c : Cls X.K C) (G : Gm X.prog X.w X.K X.mg X.base CX0 C m k sp) (hr : Room k X.A) (ho : PE X o ta) (ha : PA X (e :: es) t)
    (hst : starEach (e :: es) X.env = (false, eval e X.env) :: starEach es X.env := by rfl) (hpl : (backTo pos (starEach es X.env)).any (·.1) = false := by rfl)
    (ht : eval (.Call (.Attribute o m apos) (e :: es) [] pos) X.env = (do
      let ov ← eval o X.env
      standAt apos.atName
      let (f, first) ← holding [ov] (getMethod ov m pl)
      callWith pos f first (backTo pos (starEach (e :: es) X.env)) (backToKw pos (keywordEach [] X.env))) := by rfl) : PE X (.Call (.Attribute o m apos) (e :: es) [] pos) (tMeth C m sp [] E0 ta t) := by
  obtain ⟨f, fd, ps, hm, F, hb⟩ := G
  exact pe_meth (pl := pl) ho c hm F hr hb .nil pass0 ha hst hpl ht
theorem pe_gm0 (c : Cls X.K C) (G : Gm X.prog X.w X.K X.mg X.base CX0 C m k sp) (hr : Room k X.A) (ho : PE X o ta)
    (ht : eval (.Call (.Attribute o m apos) [] [] pos) X.env = (do
      let ov ← eval o X.env
      standAt apos.atName
      let (f, first) ← holding [ov] (getMethod ov m pl)
      callWith pos f first (backTo pos (starEach [] X.env)) (backToKw pos (keywordEach [] X.env))) := by rfl) : PE X (.Call (.Attribute o m apos) [] [] pos) (tMeth C m sp [] E0 ta tNil) := by
  obtain ⟨f, fd, ps, hm, F, hb⟩ := G
  exact pe_meth0 (pl := pl) ho c hm F hr hb .nil pass0 ht
theorem pe_gp (c : Cls X.K C) (G : Gp X.prog X.w X.K X.mg X.base CX0 C m k sp) (hr : Room (k + 1) X.A) (ho : PE X o ta) (hab : attributeBase o m X.env (eval o X.env) = eval o X.env := by rfl) : PE X (.Attribute o m pos) (tProp C sp [] E0 ta) := by
  obtain ⟨p, g, fd, ps, hp, F, hb⟩ := G
  exact pe_prop ho c hp F hr hb .nil pass0 hab
theorem pe_gi (G : Gi X.prog X.w X.K X.mg X.base CX0 C k sp) (hr : Room (k + 1) X.A) (hg : L2.Gl X x) (hm : X.mg x = some (.ref C)) (ha : PA X (e :: es) t) (hdb : (x == ("__debug__" : Str)) = false := by decide)
    (hst : starEach (e :: es) X.env = (false, eval e X.env) :: starEach es X.env := by rfl) (hpl : (backTo pos (starEach es X.env)).any (·.1) = false := by rfl) : PE X (.Call (.Name x p) (e :: es) [] pos) (tMake C sp [] E0 t) := by
  obtain ⟨f, fd, ps, M, F, hb⟩ := G
  exact pe_make M F hr hg hm hb .nil pass0 ha hdb hst hpl
theorem pe_giL (G : Gi X.prog X.w X.K X.mg X.base CX0 C k sp) (hr : Room (k + 1) X.A) (hN : X.N[i]? = some x) (hv : Vis X.env.scope x) (ha : PA X (e :: es) t) (hdb : (x == ("__debug__" : Str)) = false := by decide) (hcd : (x == ("__classdict__" : Str)) = false := by decide)
    (hst : starEach (e :: es) X.env = (false, eval e X.env) :: starEach es X.env := by rfl) (hpl : (backTo pos (starEach es X.env)).any (fun q => q.1) = false := by rfl) : PE X (.Call (.Name x p) (e :: es) [] pos) (tMakeL i C sp [] E0 t) := by
  obtain ⟨f, fd, ps, M, F, hb⟩ := G
  exact pe_makeL M F hr hN hv hb .nil pass0 ha hdb hcd hst hpl
theorem call_gl (G : Gl X.prog X.w X.K X.mg X.base CX0 C k sp) (hr : Room (k + 1) X.A) : CallR X (.builtin "len") (rLenOwn C sp) := by
  obtain ⟨f, fd, ps, hs, hf, F, hb⟩ := G
  exact call_lenOwn hs hf F hr hb pass0
/-- o.m(e), the keyword-only one left at None; nothing is let out -/
theorem pe_gk0 (c : Cls X.K C) (G : Gk X.prog X.w X.K X.mg X.base CX C m k n kw sp) (hr : Room k X.A) (hx : Passes CX X E0) (ho : PE X o ta) (ha : PA X (e :: es) t)
    (hst : starEach (e :: es) X.env = (false, eval e X.env) :: starEach es X.env := by rfl) (hpl : (backTo pos (starEach es X.env)).any (·.1) = false := by rfl)
    (ht : eval (.Call (.Attribute o m apos) (e :: es) [] pos) X.env = (do
      let ov ← eval o X.env
      standAt apos.atName
      let (f, first) ← holding [ov] (getMethod ov m pl)
      callWith pos f first (backTo pos (starEach (e :: es) X.env)) (backToKw pos (keywordEach [] X.env))) := by rfl) : PE X (.Call (.Attribute o m apos) (e :: es) [] pos) (tMeth C m sp [V.non] E0 ta t) := by
  obtain ⟨f, fd, ps, hm, F, ⟨ds, hd, hb⟩, _⟩ := G
  exact pe_meth (pl := pl) ho c hm F hr hb hd hx ha hst hpl ht
/-- o.m(e, kw=v) -/
theorem pe_gk {E : L2.St → XK} {kws : List Keyword} (c : Cls X.K C) (G : Gk X.prog X.w X.K X.mg X.base CX C m k n kw sp) (hr : Room k X.A) (hx : ∀ σ, PassesAt CX X σ (E σ)) (ho : PE X o ta) (ha : PA X (e :: es) t) (hkw : PK X kws tk)
    (hall : (backToKw pos (keywordEach kws X.env)).all (fun q => q.1.isSome) = true := by rfl) (hks : (backToKw pos (keywordEach kws X.env)).filterMap (fun q => q.1) = [kw] := by rfl)
    (hst : starEach (e :: es) X.env = (false, eval e X.env) :: starEach es X.env := by rfl)
    (hpl : ((backTo pos (starEach (e :: es) X.env)).any (fun q => q.1) || (backToKw pos (keywordEach kws X.env)).any (fun q => q.1.isNone)) = false := by rfl)
    (ht : eval (.Call (.Attribute o m apos) (e :: es) kws pos) X.env = (do
      let ov ← eval o X.env
      standAt apos.atName
      let (f, first) ← holding [ov] (getMethod ov m pl)
      callWith pos f first (backTo pos (starEach (e :: es) X.env)) (backToKw pos (keywordEach kws X.env))) := by rfl) : PE X (.Call (.Attribute o m apos) (e :: es) kws pos) (tMethN C m n [kw].length sp (fun vs zs => vs ++ zs) E ta t tk) := by
  obtain ⟨f, fd, ps, hm, F, _, g, hb⟩ := G
  exact pe_methN (pl := pl) c hm F hr hb hx ho ha hkw hall hks hst hpl ht
/-- e.m(..), e the class -/
theorem pe_gc {E : L2.St → XK} (G : Gc X.prog X.w X.K X.mg X.base CX C m k sp) (hr : Room k X.A) (hx : ∀ σ, PassesAt CX X σ (E σ)) (ho : PE X o ta) (ha : PA X (e :: es) t)
    (hst : starEach (e :: es) X.env = (false, eval e X.env) :: starEach es X.env := by rfl) (hpl : (backTo pos (starEach es X.env)).any (fun q => q.1) = false := by rfl)
    (ht : eval (.Call (.Attribute o m apos) (e :: es) [] pos) X.env = (do
      let ov ← eval o X.env
      standAt apos.atName
      let (f, first) ← holding [ov] (getMethod ov m pl)
      callWith pos f first (backTo pos (starEach (e :: es) X.env)) (backToKw pos (keywordEach [] X.env))) := by rfl) : PE X (.Call (.Attribute o m apos) (e :: es) [] pos) (tCMethS C (fun vs H Q E => sp (vs ++ []) H Q E) E ta t) := by
  obtain ⟨mc, q, g, fd, ps, r, c, F, hb⟩ := G
  exact pe_cmethS (pl := pl) r c (F.raw hb .nil) hr hx ho ha hst hpl ht
/-- a module's constant -/
theorem pe_gint {z : Int} (hg : L2.Gl X x) (h : ∃ t, X.mg x = some (.int z t)) (hd : (x == ("__debug__" : Str)) = false := by decide) : PE X (.Name x pos) (tC (.int z)) := by
  obtain ⟨t, h⟩ := h
  exact pe_glob hg h ⟨t, rfl⟩ hd
theorem pe_gstr {z : Str} (hg : L2.Gl X x) (h : ∃ t, X.mg x = some (.str z t)) (hd : (x == ("__debug__" : Str)) = false := by decide) : PE X (.Name x pos) (tC (.str z)) := by
  obtain ⟨t, h⟩ := h
  exact pe_glob hg h ⟨t, rfl⟩ hd
end
/-- over a text, sign by sign -/
theorem for_str {l : List Nat} {g : TG} {tb : TS} {D : Ends} {σ : L2.St} {H : Hp} (Pv : Nat → L2.St → Hp → Prop) (h0 : Pv 0 σ H)
    (hs : ∀ i c σ H, l[i]? = some c → Pv i σ H → g (.str (S [c])) σ H fun σ2 H2 => tb { D with nx := Pv (i + 1), ct := Pv (i + 1), bk := D.nx } σ2 H2) (hd : ∀ σ H, Pv l.length σ H → D.nx σ H) :
    ∃ W : Nat → Nat → L2.St → Hp → Prop, (∃ m, W 0 m σ H) ∧ ∀ i m σ H, W i m σ H →
      ((Its (S l)).stop i H ∧ D.nx σ H) ∨ ((Its (S l)).go i H ∧ ∃ N : L2.St → Hp → Prop, (∀ σ' H', N σ' H' → ∃ m', m' < m ∧ W (i + 1) m' σ' H') ∧ ∀ x H', (Its (S l)).yld i H x H' → g x σ H' fun σ2 H2 => tb { D with nx := N, ct := N, bk := D.nx } σ2 H2) := by
  refine ⟨fun i m σ H => m = l.length - i ∧ i ≤ l.length ∧ Pv i σ H, ⟨l.length, by simp, Nat.zero_le _, h0⟩, ?_⟩
  rintro i m σ H ⟨rfl, hi, p⟩
  have hz : (S l).cps.size = l.length := by simp
  by_cases hlt : i < l.length
  · refine .inr ⟨by show i < (S l).cps.size; rw [hz]; exact hlt, Pv (i + 1), fun σ' H' p' => ⟨l.length - (i + 1), by omega, rfl, hlt, p'⟩, ?_⟩
    rintro x H' ⟨rfl, c, hc, rfl⟩
    exact hs i c σ _ (by simpa using hc) p
  · have e : i = l.length := by omega
    subst e
    exact .inl ⟨by show (S l).cps.size ≤ l.length; rw [hz]; exact Nat.le_refl _, hd σ H p⟩
end Wd
/-! Heaps and promises. -/
namespace Wd
open PySem PySem.Spec PyProof.Rows L2

/-! ### heaps -/
/-- all that was tracked but p is as it was -/
def But (p : Addr) (H H' : Hp) : Prop := ∀ b o, H b = some o → b ≠ p → H' b = some o
def But2 (p q : Addr) (H H' : Hp) : Prop := ∀ b o, H b = some o → b ≠ p → b ≠ q → H' b = some o
theorem But.of {p : Addr} {H H' : Hp} (s : Same H H') : But p H H' := fun b o e _ => s b o e
theorem But.trans {p : Addr} {H H1 H2 : Hp} (a : But p H H1) (b : But p H1 H2) : But p H H2 := fun c o e h => b c o (a c o e h) h
theorem But.same {p : Addr} {H H1 H2 : Hp} (a : But p H H1) (b : Same H1 H2) : But p H H2 := fun c o e h => b c o (a c o e h)
theorem Same.but {p : Addr} {H H1 H2 : Hp} (a : Same H H1) (b : But p H1 H2) : But p H H2 := fun c o e h => b c o (a c o e) h
theorem But2.of {p q : Addr} {H H' : Hp} (s : But p H H') : But2 p q H H' := fun b o e h _ => s b o e h
theorem But2.of' {p q : Addr} {H H' : Hp} (s : But q H H') : But2 p q H H' := fun b o e _ h => s b o e h
theorem But2.sm {p q : Addr} {H H' : Hp} (s : Same H H') : But2 p q H H' := fun b o e _ _ => s b o e
theorem But2.trans {p q : Addr} {H H1 H2 : Hp} (a : But2 p q H H1) (b : But2 p q H1 H2) : But2 p q H H2 := fun c o e h1 h2 => b c o (a c o e h1 h2) h1 h2
theorem same_upd {H : Hp} {p : Addr} {o : HO} (h : H p = none) : Same H (upd H p o) := fun b u e => by rw [upd_ne (ne_of_none e h)]; exact e
theorem but_upd {H : Hp} {p : Addr} {o : HO} : But p H (upd H p o) := fun b u e h => by rw [upd_ne h]; exact e
theorem But.free {p : Addr} {H H' : Hp} (e : But p H H') {l : Addr} (hl : l ≠ p) (h : H' l = Option.none) : H l = Option.none := by
  cases q : H l with
  | none => rfl
  | some o =>
    rw [e l o q hl] at h
    cases h
/-- a list of texts, a tuple of texts -/
abbrev vs2 (l0 l1 : List Nat) : List V := [.str (S l0), .str (S l1)]
/-- the pool: some ints, at most 700 -/
def Pool (H : Hp) (p : Addr) : Prop := ∃ ns : List Int, ns.length ≤ 700 ∧ H p = some (.lst (ns.map V.int))
theorem Pool.same {H H' : Hp} {p : Addr} (h : Pool H p) (s : Same H H') : Pool H' p := by
  obtain ⟨ns, h1, h2⟩ := h
  exact ⟨ns, h1, s _ _ h2⟩
theorem Pool.but {H H' : Hp} {p q : Addr} (h : Pool H p) (s : But q H H') (hne : p ≠ q) : Pool H' p := by
  obtain ⟨ns, h1, h2⟩ := h
  exact ⟨ns, h1, s _ _ h2 hne⟩
theorem Pool.but2 {H H' : Hp} {p q r : Addr} (h : Pool H p) (s : But2 q r H H') (hne : p ≠ q) (hnr : p ≠ r) : Pool H' p := by
  obtain ⟨ns, h1, h2⟩ := h
  exact ⟨ns, h1, s _ _ h2 hne hnr⟩
/-- a disk's attributes -/
def pf (t : Addr) : List (Str × V) := putF "pair" (.ref t) []
theorem pf_pair (t : Addr) : (pf t).lookup ("pair" : Str) = some (.ref t) := by
  unfold pf
  rw [lookup_putF, if_pos rfl]
theorem pf_no (t : Addr) {m : Str} (h : ¬ m = "pair") : (pf t).lookup m = none := by
  unfold pf
  rw [lookup_putF, if_neg h]
  rfl
theorem pf_put (t u : Addr) : putF "pair" (.ref u) (pf t) = pf u := by
  show (if ("pair" : Str) = "pair" then [(("pair" : Str), V.ref u)] else _) = ([("pair", V.ref u)] : List (Str × V))
  rw [if_pos rfl]
theorem pf_len (t : Addr) : (pf t).length < 1000 := by show 1 < 1000; decide
/-- a disk at d with these two places -/
def DiskAt (C : Addr) (H : Hp) (d : Addr) (l0 l1 : List Nat) : Prop := ∃ dx t, H d = some (.ins C dx (pf t)) ∧ H t = some (.tup (vs2 l0 l1))
theorem DiskAt.same {C d : Addr} {H H' : Hp} {l0 l1 : List Nat} (h : DiskAt C H d l0 l1) (s : Same H H') : DiskAt C H' d l0 l1 := by
  obtain ⟨dx, t, h1, h2⟩ := h
  exact ⟨dx, t, s _ _ h1, s _ _ h2⟩
/-- a store to what is no disk and no tuple -/
theorem DiskAt.but {C d p : Addr} {H H' : Hp} {l0 l1 : List Nat} {xs : List V} (h : DiskAt C H d l0 l1) (s : But p H H') (hp : H p = some (.lst xs)) : DiskAt C H' d l0 l1 := by
  obtain ⟨dx, t, h1, h2⟩ := h
  exact ⟨dx, t, s _ _ h1 (ne_of h1 hp (by intro z; cases z)), s _ _ h2 (ne_of h2 hp (by intro z; cases z))⟩
theorem DiskAt.ne {C d p : Addr} {H : Hp} {l0 l1 : List Nat} {xs : List V} (h : DiskAt C H d l0 l1) (hp : H p = some (.lst xs)) : p ≠ d := by
  obtain ⟨dx, t, h1, h2⟩ := h
  exact ne_of hp h1 (by intro z; cases z)
/-- the list of the two places -/
def ListAt (H : Hp) (p : Addr) (l0 l1 : List Nat) : Prop := H p = some (.lst (vs2 l0 l1))

/-! ### the present place -/
def nowB (l0 l1 : List Nat) : Bool := decide (numL l0 < numL l1)
def nowI (l0 l1 : List Nat) : Int := if nowB l0 l1 = true then 1 else 0
def nowL (l0 l1 : List Nat) : List Nat := if nowB l0 l1 = true then l1 else l0
/-- the present place changed, the other place changed -/
def putNow (l0 l1 x : List Nat) : List Nat × List Nat := if nowB l0 l1 = true then (l0, x) else (x, l1)
def putOther (l0 l1 x : List Nat) : List Nat × List Nat := if nowB l0 l1 = true then (x, l1) else (l0, x)
/-- one of them is a book -/
def Good (l0 l1 : List Nat) : Prop := (headL l0).isSome = true ∨ (headL l1).isSome = true
theorem now_good {l0 l1 : List Nat} (g : Good l0 l1) : (headL (nowL l0 l1)).isSome = true := by
  unfold nowL nowB
  by_cases h : numL l0 < numL l1
  · rw [if_pos (decide_eq_true h)]
    cases e : headL l1 with
    | some p => rfl
    | none =>
      have h1 : numL l1 = -1 := by unfold numL; rw [e]
      have h0 : headL l0 = none := numL_neg.mp (by omega)
      rcases g with g | g
      · rw [h0] at g; exact absurd g Bool.false_ne_true
      · rw [e] at g; exact absurd g Bool.false_ne_true
  · rw [if_neg (by rw [decide_eq_false h]; exact Bool.false_ne_true)]
    cases e : headL l0 with
    | some p => rfl
    | none =>
      have h0 : numL l0 = -1 := by unfold numL; rw [e]
      have h1 : headL l1 = none := numL_neg.mp (by
        have : ¬ (-1 : Int) < numL l1 := by rw [← h0]; exact h
        omega)
      rcases g with g | g
      · rw [e] at g; exact absurd g Bool.false_ne_true
      · rw [h1] at g; exact absurd g Bool.false_ne_true
theorem putNow_good {l0 l1 x : List Nat} (h : (headL x).isSome = true) : Good (putNow l0 l1 x).1 (putNow l0 l1 x).2 := by
  unfold putNow
  by_cases b : nowB l0 l1 = true
  · rw [if_pos b]; exact .inr h
  · rw [if_neg b]; exact .inl h
theorem putOther_good {l0 l1 x : List Nat} (g : Good l0 l1) : Good (putOther l0 l1 x).1 (putOther l0 l1 x).2 := by
  have h := now_good g
  unfold nowL at h
  unfold putOther
  by_cases b : nowB l0 l1 = true
  · rw [if_pos b] at h ⊢
    exact .inr h
  · rw [if_neg b] at h ⊢
    exact .inl h
/-- lengths -/
def Len (M : Nat) (l0 l1 : List Nat) : Prop := l0.length ≤ M ∧ l1.length ≤ M
theorem Len.now {M : Nat} {l0 l1 : List Nat} (h : Len M l0 l1) : (nowL l0 l1).length ≤ M := by
  unfold nowL
  by_cases b : nowB l0 l1 = true
  · rw [if_pos b]; exact h.2
  · rw [if_neg b]; exact h.1
theorem Len.putNow {M N : Nat} {l0 l1 x : List Nat} (h : Len M l0 l1) (hM : M ≤ N) (hx : x.length ≤ N) : Len N (putNow l0 l1 x).1 (putNow l0 l1 x).2 := by
  unfold Wd.putNow
  by_cases b : nowB l0 l1 = true
  · rw [if_pos b]; exact ⟨Nat.le_trans h.1 hM, hx⟩
  · rw [if_neg b]; exact ⟨hx, Nat.le_trans h.2 hM⟩
theorem Len.putOther {M N : Nat} {l0 l1 x : List Nat} (h : Len M l0 l1) (hM : M ≤ N) (hx : x.length ≤ N) : Len N (putOther l0 l1 x).1 (putOther l0 l1 x).2 := by
  unfold Wd.putOther
  by_cases b : nowB l0 l1 = true
  · rw [if_pos b]; exact ⟨hx, Nat.le_trans h.2 hM⟩
  · rw [if_neg b]; exact ⟨Nat.le_trans h.1 hM, hx⟩
/-- the item at the present place -/
theorem at_now {l0 l1 : List Nat} : atI (vs2 l0 l1) (nowI l0 l1) = some (.str (S (nowL l0 l1))) := by
  unfold nowI nowL
  by_cases b : nowB l0 l1 = true
  · rw [if_pos b, if_pos b]; rfl
  · rw [if_neg b, if_neg b]; rfl
theorem small {n : Nat} (h : n ≤ 1000000) : n ≤ sizeLine := Nat.le_trans h (by decide)
theorem smallS {l : List Nat} (h : l.length ≤ 1000000) : (S l).length ≤ sizeLine := by rw [S_len]; exact small h

/-! ### what a cut lets through -/
def partS (l : List Nat) : V → List Nat
  | .int i => (cutS (S l) none (some i)).cps.toList
  | _ => l
theorem partS_non (l : List Nat) : partS l .non = l := rfl
theorem partS_int (l : List Nat) (i : Int) : S (partS l (.int i)) = cutS (S l) none (some i) := SX.S_tl _
theorem partS_len (l : List Nat) (c : V) : (partS l c).length ≤ l.length := by
  cases c with
  | int i =>
    show (cutS (S l) none (some i)).cps.toList.length ≤ _
    have h := cutS_length (S l) none (some i)
    have h2 := S_len l
    have e : (cutS (S l) none (some i)).cps.toList.length = (cutS (S l) none (some i)).length := by simp [Str.length]
    omega
  | _ => exact Nat.le_refl _
/-- None, or an int -/
def IsCut (c : V) : Prop := c = .non ∨ ∃ i, c = .int i

/-! ### promises: the program -/
def spHN : Sp := fun vs H Q _ => ∃ l : List Nat, vs = [.str (S l)] ∧ l.length ≤ 1000000 ∧ Q (.int (numL l)) H
def spWL : Sp := fun vs H Q _ => ∃ l : List Nat, vs = [.str (S l)] ∧ l.length ≤ 1000000 ∧ ∀ p H', Same H H' → H' p = some (.lst (((linesL l).dropLast).map fun z => V.str (S z))) → Q (.ref p) H'
def spTE : Sp := fun vs H Q _ => ∃ l : List Nat, vs = [.str (S l)] ∧ l.length ≤ 1000000 ∧ Q (.str (S (tornL l))) H
def spFS : Sp := fun vs H Q _ => ∃ (l : List Nat) (c : V), vs = [.str (S l), c] ∧ l.length ≤ 1000000 ∧ IsCut c ∧ Q (.str (S (partS l c))) H
def spInit (C : Addr) : Sp := fun vs H Q _ => ∃ (d dx : Addr) (t : List Nat), vs = [.ref d, .str (S t)] ∧ t.length ≤ 1000 ∧ H d = some (.ins C dx []) ∧
  ∀ H', DiskAt C H' d (48 :: 32 :: (t ++ [10])) [] → But d H H' → Q .non H'
def spOf (C CB : Addr) : Sp := fun vs H Q E => ∃ (t : Addr) (l0 l1 : List Nat), vs = [.ref C, .ref t] ∧ H t = some (.tup (vs2 l0 l1)) ∧ Len 1000000 l0 l1 ∧
  (Good l0 l1 → ∀ d H', H d = none → DiskAt C H' d l0 l1 → Same H H' → Q (.ref d) H') ∧
  (headL l0 = none → headL l1 = none → ∀ dd t2 H', Same H H' → H' dd = some (.xd [("texts", .ref t2)]) → H' t2 = some (.tup (vs2 l0 l1)) → E (.ref CB) (some dd) H')
def spPlacesM (C : Addr) : Sp := fun vs H Q _ => ∃ (d : Addr) (l0 l1 : List Nat), vs = [.ref d] ∧ DiskAt C H d l0 l1 ∧ ∀ t, H t = some (.tup (vs2 l0 l1)) → Q (.ref t) H
def spPresentAt (C : Addr) : Sp := fun vs H Q _ => ∃ (d : Addr) (l0 l1 : List Nat), vs = [.ref d] ∧ DiskAt C H d l0 l1 ∧ Len 1000000 l0 l1 ∧ Q (.int (nowI l0 l1)) H
def spPut (C : Addr) : Sp := fun vs H Q _ => ∃ (d : Addr) (l0 l1 x : List Nat) (i : Int), vs = [.ref d, .int i, .str (S x)] ∧ DiskAt C H d l0 l1 ∧
  ∀ H', DiskAt C H' d (if i = 0 then x else l0) (if i = 0 then l1 else x) → But d H H' → Q .non H'
def spBook (C : Addr) : Sp := fun vs H Q _ => ∃ (d : Addr) (l0 l1 : List Nat), vs = [.ref d] ∧ DiskAt C H d l0 l1 ∧ Len 1000000 l0 l1 ∧ Q (.int (numL (nowL l0 l1))) H
def spHeadM (C : Addr) : Sp := fun vs H Q _ => ∃ (d : Addr) (l0 l1 : List Nat) (n : Int) (t : List Nat), vs = [.ref d] ∧ DiskAt C H d l0 l1 ∧ Len 1000000 l0 l1 ∧ headL (nowL l0 l1) = some (n, t) ∧ ∀ H', Same H H' → Q (.str (S t)) H'
/-- the records: the lines but the first and the torn end -/
def recsL (l : List Nat) : List (List Nat) := (linesL l).dropLast.drop 1
def spRecords (C : Addr) : Sp := fun vs H Q _ => ∃ (d : Addr) (l0 l1 : List Nat), vs = [.ref d] ∧ DiskAt C H d l0 l1 ∧ Len 1000000 l0 l1 ∧ ∀ p H', Same H H' → H' p = some (.tup ((recsL (nowL l0 l1)).map fun z => V.str (S z))) → Q (.ref p) H'
def spLenM (C : Addr) : Sp := fun vs H Q _ => ∃ (d : Addr) (l0 l1 : List Nat), vs = [.ref d] ∧ DiskAt C H d l0 l1 ∧ Len 1000000 l0 l1 ∧ ∀ H', Same H H' → Q (.int ((recsL (nowL l0 l1)).length : Nat)) H'
def spWrite (C CT : Addr) : Sp := fun vs H Q E => ∃ (d : Addr) (l0 l1 t : List Nat) (c : V), vs = [.ref d, .str (S t), c] ∧ IsCut c ∧ DiskAt C H d l0 l1 ∧ Len 900000 l0 l1 ∧ t.length ≤ 1000 ∧
  (tornL (nowL l0 l1) = [] → ∀ H', DiskAt C H' d (putNow l0 l1 (nowL l0 l1 ++ partS (t ++ [10]) c)).1 (putNow l0 l1 (nowL l0 l1 ++ partS (t ++ [10]) c)).2 → But d H H' → Q (.bl (decide (partS (t ++ [10]) c = t ++ [10]))) H') ∧
  (tornL (nowL l0 l1) ≠ [] → ∀ dd H', Same H H' → H' dd = some (.xd [("text", .str (S t))]) → E (.ref CT) (some dd) H')
/-- the line of a head -/
def headLine (n : Int) (t : List Nat) : List Nat := (toString n : Str).cps.toList ++ 32 :: (t ++ [10])
def spClose (C : Addr) : Sp := fun vs H Q _ => ∃ (d : Addr) (l0 l1 t : List Nat) (c : V), vs = [.ref d, .str (S t), c] ∧ IsCut c ∧ DiskAt C H d l0 l1 ∧ Len 900000 l0 l1 ∧ Good l0 l1 ∧ t.length ≤ 1000 ∧
  ∀ H', DiskAt C H' d (putOther l0 l1 (partS (headLine (numL (nowL l0 l1) + 1) t) c)).1 (putOther l0 l1 (partS (headLine (numL (nowL l0 l1) + 1) t) c)).2 → But d H H' →
    Q (.bl (decide (partS (headLine (numL (nowL l0 l1) + 1) t) c = headLine (numL (nowL l0 l1) + 1) t))) H'
def spMend (C : Addr) : Sp := fun vs H Q _ => ∃ (d : Addr) (l0 l1 : List Nat), vs = [.ref d] ∧ DiskAt C H d l0 l1 ∧ Len 1000000 l0 l1 ∧
  ∀ H', DiskAt C H' d (putNow l0 l1 (mendL (nowL l0 l1))).1 (putNow l0 l1 (mendL (nowL l0 l1))).2 → But d H H' → Q (.bl (!decide (tornL (nowL l0 l1) = []))) H'

/-! ### promises: the law -/
def spPool (K : PySem.W.Frag) : Sp := fun vs H Q _ => ∃ (a : Addr) (ns : List Int), vs = [.ref a, .int 700] ∧ SqL K H a (ns.map V.int) ∧ ns.length ≤ 63 ∧ ∀ p H', H p = none → Pool H' p → Same H H' → Q (.ref p) H'
def spDraw : Sp := fun vs H Q _ => ∃ (p : Addr) (k : Int), vs = [.ref p, .int k] ∧ Pool H p ∧ 0 < k ∧ ∀ v H', 0 ≤ v → v < k → Pool H' p → But p H H' → Q (.int v) H'
def spText : Sp := fun vs H Q _ => ∃ p : Addr, vs = [.ref p] ∧ Pool H p ∧ ∀ l H', 10 ∉ l → l.length ≤ 300 → Pool H' p → But p H H' → Q (.str (S l)) H'
def spCut : Sp := fun vs H Q _ => ∃ (p : Addr) (n : Int), vs = [.ref p, .int n] ∧ Pool H p ∧ 0 < n ∧ n < 1000000 ∧ ∀ c H', IsCut c → Pool H' p → But p H H' → Q c H'
/-- flat values -/
def Flat : V → Prop
  | .bl _ => True
  | .int _ => True
  | .str _ => True
  | _ => False
/-- told as due: alike flat values, tuples of alike texts -/
def spSame : Sp := fun vs H Q _ => (∃ x, vs = [x, x] ∧ Flat x ∧ Q (.bl true) H) ∨ ∃ (a b : Addr) (ls : List (List Nat)), vs = [.ref a, .ref b] ∧ H a = some (.tup (ls.map fun z => V.str (S z))) ∧ H b = some (.tup (ls.map fun z => V.str (S z))) ∧ ls.length ≤ 1000001 ∧ Q (.bl true) H
/-- what _law_head hands back -/
def HeadV (l : List Nat) (v : V) (H : Hp) : Prop := match headL l with
  | none => v = .non
  | some (n, t) => ∃ p, v = .ref p ∧ H p = some (.tup [.int n, .str (S t)])
def spLHead : Sp := fun vs H Q _ => ∃ l : List Nat, vs = [.str (S l)] ∧ l.length ≤ 1000000 ∧ ∀ v H', Same H H' → HeadV l v H' → Q v H'
def spPresent : Sp := fun vs H Q _ => ∃ (p : Addr) (l0 l1 : List Nat), vs = [.ref p] ∧ ListAt H p l0 l1 ∧ Len 1000000 l0 l1 ∧ Good l0 l1 ∧ ∀ H', Same H H' → Q (.int (nowI l0 l1)) H'
def spRests : Sp := fun vs H Q _ => ∃ (p : Addr) (l0 l1 : List Nat), vs = [.ref p] ∧ ListAt H p l0 l1 ∧ Len 1000000 l0 l1 ∧ Good l0 l1 ∧ ∀ H', Same H H' → Q (.str (S (tornL (nowL l0 l1)))) H'
def spAlike (C : Addr) : Sp := fun vs H Q _ => ∃ (d p : Addr) (l0 l1 : List Nat), vs = [.ref d, .ref p] ∧ DiskAt C H d l0 l1 ∧ ListAt H p l0 l1 ∧ Len 1000000 l0 l1 ∧ Good l0 l1 ∧ ∀ H', Same H H' → Q (.bl true) H'
def spTorn (C : Addr) : Sp := fun vs H Q _ => ∃ (d : Addr) (l0 l1 t : List Nat) (c : V), vs = [.ref d, .str (S t), c] ∧ IsCut c ∧ DiskAt C H d l0 l1 ∧ Len 900000 l0 l1 ∧ t.length ≤ 1000 ∧ tornL (nowL l0 l1) ≠ [] ∧ ∀ H', Same H H' → Q (.bl true) H'
/-- the disk at d and the list at p have gone on alike -/
def Went (C d p : Addr) (M : Nat) (H : Hp) (Q : VK) : Prop := ∀ (l0 l1 : List Nat) (H' : Hp), DiskAt C H' d l0 l1 → ListAt H' p l0 l1 → Len (M + 2000) l0 l1 → Good l0 l1 → But2 d p H H' → Q (.bl true) H'
def spWritten (C : Addr) : Sp := fun vs H Q _ => ∃ (d p : Addr) (l0 l1 t : List Nat) (c : V) (M : Nat), vs = [.ref d, .ref p, .str (S t), c] ∧ IsCut c ∧ DiskAt C H d l0 l1 ∧ ListAt H p l0 l1 ∧ Len M l0 l1 ∧ M ≤ 800000 ∧ Good l0 l1 ∧ t.length ≤ 1000 ∧ Went C d p M H Q
def spMended (C : Addr) : Sp := fun vs H Q _ => ∃ (d p : Addr) (l0 l1 : List Nat) (M : Nat), vs = [.ref d, .ref p] ∧ DiskAt C H d l0 l1 ∧ ListAt H p l0 l1 ∧ Len M l0 l1 ∧ M ≤ 800000 ∧ Good l0 l1 ∧ Went C d p M H Q
def spClosed (C : Addr) : Sp := spWritten C
def spNumber : Sp := fun vs H Q _ => ∃ p : Addr, vs = [.ref p] ∧ Pool H p ∧ ∀ n H', 0 ≤ n → n ≤ 900000000 → Pool H' p → But p H H' → Q (.int n) H'
def spPlace : Sp := fun vs H Q _ => ∃ (p : Addr) (n : Int), vs = [.ref p, .int n] ∧ Pool H p ∧ 0 ≤ n ∧ n ≤ 900000000 ∧ ∀ l H', (headL l).isSome = true → l.length ≤ 3000 → Pool H' p → But p H H' → Q (.str (S l)) H'
def spNoBook : Sp := fun vs H Q _ => ∃ p : Addr, vs = [.ref p] ∧ Pool H p ∧ ∀ l H', headL l = none → l.length ≤ 3000 → Pool H' p → But p H H' → Q (.str (S l)) H'
def spBad : Sp := fun vs H Q _ => ∃ (t : Addr) (l0 l1 : List Nat), vs = [.ref t] ∧ H t = some (.tup (vs2 l0 l1)) ∧ Len 1000000 l0 l1 ∧ headL l0 = none ∧ headL l1 = none ∧ ∀ H', Same H H' → Q (.bl true) H'
def spMayPass : Sp := fun vs H Q _ => ∃ (p : Addr) (l0 l1 : List Nat), vs = [.ref p] ∧ ListAt H p l0 l1 ∧ Len 1000000 l0 l1 ∧ ∀ b H', Same H H' → Q (.bl b) H'
def spLPlaces : Sp := fun vs H Q _ => ∃ p : Addr, vs = [.ref p] ∧ Pool H p ∧ ∀ q l0 l1 H', H q = none → ListAt H' q l0 l1 → Len 3000 l0 l1 → Good l0 l1 → Pool H' p → But p H H' → Q (.ref q) H'
def spLaw (K : PySem.W.Frag) : Sp := fun vs H Q _ => ∃ (a : Addr) (ns : List Int), vs = [.ref a] ∧ SqL K H a (ns.map V.int) ∧ ns.length ≤ 63 ∧ ∀ H', Q (.bl true) H'

/-! ### what is asked of the text's names -/
structure Tx (mg : Str → Option Value) : Prop where
  n_int : mg "int" = none
  n_str : mg "str" = none
  n_len : mg "len" = none
  n_abs : mg "abs" = none
  n_min : mg "min" = none
  n_range : mg "range" = none
  n_tuple : mg "tuple" = none
  n_list : mg "list" = none
  n_bool : mg "bool" = none
  n_isinstance : mg "isinstance" = none
  n_ValueError : mg "ValueError" = none
  gFig : ∃ t, mg "FIGURES" = some (.str "0123456789" t)
  gMost : ∃ t, mg "MOST_FIGURES" = some (.int 9 t)
end Wd
/-! The program's four small defs. -/
namespace Wd
open PySem PySem.Spec PyProof.Rows L2
theorem ite_dec {p : Prop} [Decidable p] {A B : Prop} (h1 : p → A) (h2 : ¬ p → B) : if decide p = true then A else B := by
  by_cases h : p
  · rw [if_pos (decide_eq_true h)]; exact h1 h
  · rw [if_neg (by rw [decide_eq_false h]; exact Bool.false_ne_true)]; exact h2 h
theorem ite_ndec {p : Prop} [Decidable p] {A B : Prop} (h1 : ¬ p → A) (h2 : p → B) : if (!decide p) = true then A else B := by
  by_cases h : p
  · rw [if_neg (by rw [decide_eq_true h]; exact Bool.false_ne_true)]; exact h2 h
  · rw [if_pos (by rw [decide_eq_false h]; rfl)]; exact h1 h
theorem ite_t {A B : Prop} (h : A) : if true = true then A else B := by rw [if_pos rfl]; exact h
theorem ite_f {A B : Prop} (h : B) : if false = true then A else B := by rw [if_neg Bool.false_ne_true]; exact h
section
variable {P : Program} {w : World} {K : PySem.W.Frag} {mg : Str → Option Value} {base : Heap}
theorem gd_mk {x : Str} {st : Stmt} {k : Nat} {sp : Sp} {ps : List Str} (D : Df K mg x st) (hb : ∀ (kV doc pm : Value) (an : Option Addr) (cdv ct : Value) (us : List Value), us.length = ps.length → bindArgs (PySem.W.fnOf x x (defArgs st) (defBody st) (defScope st) .none kV doc pm an cdv ct) ⟨us, []⟩ = pure (ps.zip us))
    (h : ∀ f fd, Fun K x x st f fd → FnOk P w K mg base CX0 k f fd ps sp) : Gd P w K mg base CX0 x k sp := by
  obtain ⟨f, fd, hm, F⟩ := D
  exact ⟨f, fd, ps, h f fd F, hm, F.kp, F.binds hb⟩
theorem scHeadNumber : FnScope ["place", "blank", "sign"] ["place"] (defScope sHeadNumber) := ⟨rfl, rfl, rfl, by decide +kernel, rfl, by decide +kernel, by decide +kernel⟩
theorem ok_HeadNumber (T : Tx mg) (D : Df K mg "head_number" sHeadNumber) : Gd P w K mg base CX0 "head_number" 1 spHN := by
  refine gd_mk (ps := ["place"]) D (fun _ _ _ _ _ _ us hl => match us, hl with | [_], _ => rfl) fun f fd F => F.ok scHeadNumber (fun vs H Q E h => ?_) (fun cdv A outer s H vs Q E hr h => ?_)
  · obtain ⟨l, rfl, _⟩ := h
    rfl
  · obtain ⟨l, rfl, hl, k⟩ := h
    refine ⟨_, (pss_cons (ps_set (i := 1) scHeadNumber.nd rfl (Or.inl rfl) (pe_m1 PySem.F.slot_str_find PySem.F.type_str_find mt_find (pv 0) pe_str))
      (pss_cons (ps_if (PW.pt (pw_or (pt_not (pt_chain op_le op_le pe_int (pv 1) (pe_gint rfl T.gMost))) (pw_or1 (pt_cmpR op_lt (pe_m1 PySem.F.slot_str_find PySem.F.type_str_find mt_find (pv 0) pe_str) (pv 1) (nomark _)))))
        (pss_one (ps_ret (pe_un un_neg pe_int)))
        pss_nil)
      (pss_cons (ps_for PassesOwn.never rfl (pi_str (pe_slice sl_str (pv 0) po_none (po_some (pv 1)))) (pg_name (i := 2) scHeadNumber.nd rfl (Or.inl rfl))
        (pss_one (ps_if (pt_cmpR op_notIn_sign (pv 2) (pe_gstr rfl T.gFig) (by rfl))
          (pss_one (ps_ret (pe_un un_neg pe_int)))
          pss_nil)))
      (pss_cons (ps_if (PW.pt (pw_and (pt_cmpR op_eq (pe_ix ix_str (pv 0) pe_int (fun _ _ => rfl)) pe_str (nomark _)) (pw_and1 (pt_cmpR op_gt (pv 1) pe_int (nomark _)))))
        (pss_one (ps_ret (pe_un un_neg pe_int)))
        pss_nil)
      (pss_one (ps_ret (pe_callTy call_int_str (by rfl) T.n_int (by decide +kernel) (pa_cons (pe_slice sl_str (pv 0) po_none (po_some (pv 1))) pa_nil)))))))), ?_⟩
    have hb : Txt.find (S l) (" " : Str) = blankI l := by rw [str_sp]; rfl
    have hn : Txt.find (S l) ("\n" : Str) = feedI l := by rw [str_nl]; rfl
    refine ⟨_, rfl, ⟨_, rfl⟩, _, _, rfl, rfl, ?_⟩
    rw [hb]
    have bad : ¬ (∃ p, headL l = some p) → Q (.int (-1)) H := fun hno => by
      have e : headL l = none := by
        cases e : headL l with
        | none => rfl
        | some p => exact absurd ⟨p, e⟩ hno
      rw [numL_none e] at k
      exact k
    refine ⟨_, rfl, _, _, rfl, rfl, _, rfl, ite_dec (fun c1 => ?_) (fun c1 => ?_)⟩
    · refine ⟨_, _, rfl, rfl, _, rfl, ite_ndec (fun c2 => ite_t ⟨_, rfl, ?_⟩) (fun c2 => ?_)⟩
      · refine bad fun ⟨⟨n, t⟩, e⟩ => c2 (head_need e).2.1
      · refine ⟨_, rfl, ⟨_, rfl⟩, _, _, rfl, rfl, ?_⟩
        rw [hn]
        refine ⟨_, rfl, _, _, rfl, rfl, _, rfl, ite_dec (fun c3 => ⟨_, rfl, ?_⟩) (fun c3 => ?_)⟩
        · refine bad fun ⟨⟨n, t⟩, e⟩ => ?_
          have := (head_need e).2.2.1
          omega
        · -- for sign in place[:blank]
          refine ⟨_, rfl, _, rfl, _, rfl, _, rfl, smallS hl, S (l.take (blankI l).toNat), congrArg V.str (cut_to (by omega)), for_str (l := l.take (blankI l).toNat)
            (fun i σ H1 => ∃ v : Option V, σ = [some (.str (S l)), some (.int (blankI l)), v] ∧ H1 = H ∧ ∀ c ∈ (l.take (blankI l).toNat).take i, isFig c) ⟨none, rfl, rfl, by simp⟩ ?_ ?_⟩
          · rintro i c σ H1 hc ⟨v, rfl, rfl, hv⟩
            refine ⟨_, rfl, _, _, rfl, rfl, _, rfl, ite_ndec (fun c4 => ⟨_, rfl, ?_⟩) (fun c4 => ?_)⟩
            · refine bad fun ⟨⟨n, t⟩, e⟩ => c4 (in_figs.mpr ((head_need e).2.2.2.2.1 c (List.mem_of_getElem? hc)))
            · refine ⟨_, rfl, rfl, fun d hd => ?_⟩
              rw [List.take_add_one, hc] at hd
              rcases List.mem_append.mp hd with q | q
              · exact hv d q
              · have e : d = c := by simpa using q
                rw [e]
                exact in_figs.mp c4
          · rintro σ H1 ⟨v, rfl, rfl, hv⟩
            rw [List.take_length] at hv
            have hB : blankI l < l.length := find_lt
            obtain ⟨c0, hc0⟩ : ∃ c0, l[0]? = some c0 := ⟨l[0]'(by omega), List.getElem?_eq_getElem (by omega)⟩
            have ht0 : (l.take (blankI l).toNat)[0]? = some c0 := by rw [List.getElem?_take_of_lt (by omega)]; exact hc0
            have fin : ¬ (1 < blankI l ∧ c0 = 48) → tRet (tCB (fun xs H Q => ∃ a n, xs = [V.str a] ∧ intText? a = some n ∧ a.length ≤ 640 ∧ Q (V.int n) H) (tCons (tSl rSlS (tVar 0) tNoPart (tPart (tVar 1))) tNil))
                { nx := fun _ H' => Q .non H', rt := Q } [some (.str (S l)), some (.int (blankI l)), v] H1 := fun hno => by
              obtain ⟨⟨n, t⟩, e⟩ := head_pass c1 c2 (by omega) hv (fun ⟨q1, q2⟩ => hno ⟨q1, by rw [ht0] at q2; exact Option.some.inj q2⟩)
              rw [numL_some e, (head_need e).2.2.2.2.2.2.2.1] at k
              have hne : l.take (blankI l).toNat ≠ [] := fun q => by rw [q] at ht0; cases ht0
              have hle : (l.take (blankI l).toNat).length ≤ 9 := by rw [List.length_take]; omega
              exact ⟨_, rfl, _, rfl, _, rfl, _, rfl, smallS hl, S (l.take (blankI l).toNat), _, congrArg (fun z => [V.str z]) (cut_to (by omega)), int_figs hv hne hle, by rw [S_len]; omega, k⟩
            refine ⟨_, rfl, _, _, c0, rfl, rfl, smallS hl, atI_nat (j := 0) hc0, rfl, _, rfl, ite_dec (fun c5 => ?_) (fun c5 => ?_)⟩
            · have e0 : c0 = 48 := by
                have q := V.str.inj c5
                rw [str_zero] at q
                exact (List.cons.inj (S_inj (a := [c0]) (b := [48]) q)).1
              refine ⟨_, rfl, _, _, rfl, rfl, _, rfl, ite_dec (fun c6 => ⟨_, rfl, ?_⟩) (fun c6 => ?_)⟩
              · exact bad fun ⟨⟨n, t⟩, e⟩ => (head_need e).2.2.2.2.2.1 ⟨c6, by rw [ht0, e0]⟩
              · exact fin fun q => c6 q.1
            · refine fin fun q => c5 ?_
              rw [q.2, str_zero]
    · refine ⟨_, rfl, ite_t (ite_t ⟨_, rfl, ?_⟩)⟩
      exact bad fun ⟨⟨n, t⟩, e⟩ => c1 (head_need e).1
theorem cutV_last (xs : List V) : cutV xs none (some (-1)) = xs.dropLast := by
  unfold cutV
  have e : HT.sIx xs.length xs.length (some (-1)) = xs.length - 1 := by
    show (if (-1 : Int) < 0 then ((-1 : Int) + (xs.length : Int)).toNat else min (-1 : Int).toNat xs.length) = _
    rw [if_pos (by decide)]
    omega
  rw [HT.sIx_none, e, List.drop_zero, Nat.sub_zero, List.dropLast_eq_take]
theorem split_vals (l : List Nat) : (Txt.split (S l) ("\n" : Str)).map V.str = (linesL l).map fun z => V.str (S z) := by
  rw [str_nl, split_lines, List.map_map]
  rfl
theorem scWholeLines : FnScope ["place"] ["place"] (defScope sWholeLines) := ⟨rfl, rfl, rfl, by decide +kernel, rfl, by decide +kernel, by decide +kernel⟩
theorem ok_WholeLines (D : Df K mg "whole_lines" sWholeLines) : Gd P w K mg base CX0 "whole_lines" 1 spWL := by
  refine gd_mk (ps := ["place"]) D (fun _ _ _ _ _ _ us hl => match us, hl with | [_], _ => rfl) fun f fd F => F.ok scWholeLines (fun vs H Q E h => ?_) (fun cdv A outer s H vs Q E hr h => ?_)
  · obtain ⟨l, rfl, _⟩ := h
    rfl
  · obtain ⟨l, rfl, hl, k⟩ := h
    refine ⟨_, (pss_one (ps_ret (pe_slice sl_list (pe_split (pv 0) pe_str) po_none (po_some (pe_un un_neg pe_int))))), ?_⟩
    refine ⟨_, rfl, ⟨_, rfl⟩, _, _, rfl, rfl, rfl, Nat.le_trans (Nat.add_le_add_right (by rw [S_len]; exact hl) 2) (by decide), fun p hp => ⟨_, rfl, _, rfl, _, _, rfl, SqL.of upd_same, fun p2 hp2 => ?_⟩⟩
    refine k p2 _ ((same_upd hp).trans (same_upd hp2)) ?_
    rw [upd_same, cutV_last, split_vals, List.map_dropLast]
theorem scTornEnd : FnScope ["place"] ["place"] (defScope sTornEnd) := ⟨rfl, rfl, rfl, by decide +kernel, rfl, by decide +kernel, by decide +kernel⟩
theorem ok_TornEnd (D : Df K mg "torn_end" sTornEnd) : Gd P w K mg base CX0 "torn_end" 1 spTE := by
  refine gd_mk (ps := ["place"]) D (fun _ _ _ _ _ _ us hl => match us, hl with | [_], _ => rfl) fun f fd F => F.ok scTornEnd (fun vs H Q E h => ?_) (fun cdv A outer s H vs Q E hr h => ?_)
  · obtain ⟨l, rfl, _⟩ := h
    rfl
  · obtain ⟨l, rfl, hl, k⟩ := h
    refine ⟨_, (pss_one (ps_ret (pe_slice sl_str (pv 0) (po_some (pe_op op_add (pe_m1 PySem.F.slot_str_rfind PySem.F.type_str_rfind mt_rfind (pv 0) pe_str) pe_int)) po_none))), ?_⟩
    refine ⟨_, rfl, _, rfl, ⟨_, rfl⟩, _, _, rfl, rfl, _, _, rfl, rfl, _, rfl, _, rfl, smallS hl, ?_⟩
    rw [str_nl, torn_cut]
    exact k
theorem scFirstSigns : FnScope ["line", "cut"] ["line", "cut"] (defScope sFirstSigns) := ⟨rfl, rfl, rfl, by decide +kernel, rfl, by decide +kernel, by decide +kernel⟩
theorem ok_FirstSigns (D : Df K mg "first_signs" sFirstSigns) : Gd P w K mg base CX0 "first_signs" 1 spFS := by
  refine gd_mk (ps := ["line", "cut"]) D (fun _ _ _ _ _ _ us hl => match us, hl with | [_, _], _ => rfl) fun f fd F => F.ok scFirstSigns (fun vs H Q E h => ?_) (fun cdv A outer s H vs Q E hr h => ?_)
  · obtain ⟨l, c, rfl, _⟩ := h
    rfl
  · obtain ⟨l, c, rfl, hl, hc, k⟩ := h
    refine ⟨_, (pss_cons (ps_if (pt_cmpR op_isN (pv 1) pe_non (nomark _))
        (pss_one (ps_ret (pv 0)))
        pss_nil)
      (pss_one (ps_ret (pe_slice sl_str (pv 0) po_none (po_some (pv 1)))))), ?_⟩
    rcases hc with rfl | ⟨i, rfl⟩
    · exact ⟨_, rfl, rfl, _, rfl, ite_t ⟨_, rfl, k⟩⟩
    · refine ⟨_, rfl, rfl, _, rfl, ite_dec (fun z => by cases z) (fun _ => ?_)⟩
      rw [partS_int] at k
      exact ⟨_, rfl, _, rfl, _, rfl, _, rfl, smallS hl, k⟩
end
end Wd
/-! The program's class. -/
namespace Wd
open PySem PySem.Spec PyProof.Rows L2
/-- what the walk asks of the class -/
structure Dk (K : PySem.W.Frag) (C : Addr) : Prop where
  cl : Cls K C
  nP : NoAttr K C "pair"
theorem appS {a b : Str} {l m : List Nat} (ha : a = S l) (hb : b = S m) : a ++ b = S (l ++ m) := by rw [ha, hb, S_app]
theorem lenS {a b : Str} {l m : List Nat} (ha : a = S l) (hb : b = S m) (h : l.length + m.length ≤ 1000000) : a.length + b.length ≤ sizeLine := by
  rw [ha, hb, S_len, S_len]
  exact small h
theorem rd_fld {K : PySem.W.Frag} {C d dx t : Addr} {H : Hp} {j : Nat} {σ : L2.St} {Q : VK} (hσ : σ[j]? = some (some (.ref d))) (D : Dk K C) (h1 : H d = some (.ins C dx (pf t))) (q : Q (.ref t) H) : tFld K (tVar j) "pair" σ H Q :=
  ⟨_, hσ, d, C, dx, _, _, rfl, h1, D.cl, D.nP, pf_pair t, q⟩
/-- the length of a tuple of two, of one -/
theorem two_ok (a b : V) : [a, b].length ≤ sizeLine := by show 2 ≤ sizeLine; decide
/-- the error's class, ready to be made -/
def Ge (P : Program) (w : World) (K : PySem.W.Frag) (mg : Str → Option Value) (base : Heap) (x : Str) (CE : Addr) (fld : Str) (k : Nat) : Prop := OexC K CE ∧ mg x = some (.ref CE) ∧ ∃ (fI : Addr) (fd : FuncData) (ps : List Str), PySem.W.findIn K (.ref CE) "__init__" = some (some (.ref fI)) ∧ PySem.W.typeIn K (.ref fI) = some (.type "function") ∧
  FnOk P w K mg base CX0 k fI fd ps (spErr CE fld) ∧ Binds K fd ps []
theorem pmk_ge {X : Cx} {x fld : Str} {CE : Addr} {k : Nat} {e : Expr} {es : List Expr} {ta : TA} {p pos : Pos} (G : Ge X.prog X.w X.K X.mg X.base x CE fld k) (hr : Room (k + 1) X.A) (hg : L2.Gl X x) (ha : PA X (e :: es) ta) (hdb : (x == ("__debug__" : Str)) = false := by decide)
    (hst : starEach (e :: es) X.env = (false, eval e X.env) :: starEach es X.env := by rfl) (hpl : (backTo pos (starEach es X.env)).any (fun q => q.1) = false := by rfl) : L2N.PMk X (.Call (.Name x p) (e :: es) [] pos) (tMkO CE (spErr CE fld) [] ta) := by
  obtain ⟨T, hm, fI, fd, ps, iC, tI, F, hb⟩ := G
  exact pmkN T iC tI F hr hb pass0 hg hm ha hdb hst hpl
section
variable {P : Program} {w : World} {K : PySem.W.Frag} {mg : Str → Option Value} {base : Heap} {C CB CT : Addr}
/-! ### __init__ -/
def Di (K : PySem.W.Frag) (C : Addr) : Prop := ∃ (f : Addr) (fd : FuncData), Mk K C f ∧ Fun K "__init__" "Disk.__init__" sInit f fd
theorem scInit : FnScope ["self", "text"] ["self", "text"] (defScope sInit) := ⟨rfl, rfl, rfl, by decide +kernel, rfl, by decide +kernel, by decide +kernel⟩
theorem ok_Init (D : Dk K C) (I : Di K C) : Gi P w K mg base CX0 C 1 (spInit C) := by
  obtain ⟨f, fd, M, F⟩ := I
  refine ⟨f, fd, ["self", "text"], M, F.ok scInit (fun vs H Q E h => ?_) (fun cdv A outer s H vs Q E hr h => ?_), F.binds fun _ _ _ _ _ _ us hl => match us, hl with | [_, _], _ => rfl⟩
  · obtain ⟨d, dx, t, rfl, _⟩ := h
    rfl
  · obtain ⟨d, dx, t, rfl, ht, h1, k⟩ := h
    refine ⟨_, (pss_one (ps_fld (pv 0) (pe_tup (pa_cons (pe_op op_add_str (pe_op op_add_str pe_str (pv 1)) pe_str) (pa_cons pe_str pa_nil))) rfl)), ?_⟩
    refine ⟨_, rfl, _, _, rfl, rfl, lenS str_zsp rfl (by simp; omega), _, _, rfl, rfl, lenS (appS str_zsp rfl) str_nl (by simp; omega), two_ok _ _, fun p hp => ?_⟩
    have np : d ≠ p := ne_of_none h1 hp
    refine ⟨_, rfl, d, C, dx, [], rfl, by rw [upd_ne np]; exact h1, D.cl, D.nP, (by show 0 < 1000; decide), ?_⟩
    refine k _ ⟨dx, p, upd_same, ?_⟩ fun b o e hb => ?_
    · rw [upd_ne np.symm, upd_same, str_nil, appS (appS str_zsp rfl) str_nl]
      simp
    · rw [upd_ne hb, upd_ne (ne_of_none e hp)]
      exact e
/-! ### methods -/
theorem gm_mk {m qual : Str} {st : Stmt} {k : Nat} {sp : Sp} {ps : List Str} (D : Dm K C m qual st)
    (hb : ∀ (kV doc pm : Value) (an : Option Addr) (cdv ct : Value) (us : List Value), us.length = ps.length → bindArgs (PySem.W.fnOf m qual (defArgs st) (defBody st) (defScope st) .none kV doc pm an cdv ct) ⟨us, []⟩ = pure (ps.zip us))
    (h : ∀ f fd, Fun K m qual st f fd → FnOk P w K mg base CX0 k f fd ps sp) : Gm P w K mg base CX0 C m k sp := by
  obtain ⟨f, fd, hm, F⟩ := D
  exact ⟨f, fd, ps, hm, h f fd F, F.binds hb⟩
theorem scPlaces : FnScope ["self"] ["self"] (defScope sPlaces) := ⟨rfl, rfl, rfl, by decide +kernel, rfl, by decide +kernel, by decide +kernel⟩
theorem ok_Places (D : Dk K C) (M : Dm K C "places" "Disk.places" sPlaces) : Gm P w K mg base CX0 C "places" 1 (spPlacesM C) := by
  refine gm_mk (ps := ["self"]) M (fun _ _ _ _ _ _ us hl => match us, hl with | [_], _ => rfl) fun f fd F => F.ok scPlaces (fun vs H Q E h => ?_) (fun cdv A outer s H vs Q E hr h => ?_)
  · obtain ⟨d, l0, l1, rfl, _⟩ := h
    rfl
  · obtain ⟨d, l0, l1, rfl, ⟨dx, t, h1, h2⟩, k⟩ := h
    refine ⟨_, (pss_one (ps_ret (pe_fld (pv 0) rfl))), ?_⟩
    exact rd_fld rfl D h1 (k t h2)
theorem scPresentAt : FnScope ["self"] ["self"] (defScope sPresentAt) := ⟨rfl, rfl, rfl, by decide +kernel, rfl, by decide +kernel, by decide +kernel⟩
theorem ok_PresentAt (D : Dk K C) (gHeadNumber : Gd P w K mg base CX0 "head_number" 1 spHN) (M : Dm K C "present_at" "Disk.present_at" sPresentAt) : Gm P w K mg base CX0 C "present_at" 2 (spPresentAt C) := by
  refine gm_mk (ps := ["self"]) M (fun _ _ _ _ _ _ us hl => match us, hl with | [_], _ => rfl) fun f fd F => F.ok scPresentAt (fun vs H Q E h => ?_) (fun cdv A outer s H vs Q E hr h => ?_)
  · obtain ⟨d, l0, l1, rfl, _⟩ := h
    rfl
  · obtain ⟨d, l0, l1, rfl, ⟨dx, t, h1, h2⟩, hL, k⟩ := h
    refine ⟨_, (pss_cons (ps_if (pt_cmpR op_gt (pe_gd gHeadNumber (hr.mono (by decide)) rfl (pa_cons (pe_ix ix_tup (pe_fld (pv 0) rfl) pe_int (fun _ _ => rfl)) pa_nil)) (pe_gd gHeadNumber (hr.mono (by decide)) rfl (pa_cons (pe_ix ix_tup (pe_fld (pv 0) rfl) pe_int (fun _ _ => rfl)) pa_nil)) (nomark _))
        (pss_one (ps_ret pe_int))
        pss_nil)
      (pss_one (ps_ret pe_int))), ?_⟩
    refine ⟨_, rfl, d, C, dx, _, _, rfl, h1, D.cl, D.nP, pf_pair t, t, _, _, _, rfl, rfl, SqT.of h2, rfl, l1, rfl, hL.2, ?_⟩
    refine ⟨_, rfl, d, C, dx, _, _, rfl, h1, D.cl, D.nP, pf_pair t, t, _, _, _, rfl, rfl, SqT.of h2, rfl, l0, rfl, hL.1, ?_⟩
    unfold nowI nowB at k
    refine ⟨_, _, rfl, rfl, _, rfl, ite_dec (fun c => ?_) (fun c => ?_)⟩
    · rw [if_pos (decide_eq_true c)] at k
      exact k
    · rw [if_neg (by rw [decide_eq_false c]; exact Bool.false_ne_true)] at k
      exact k
theorem scPut : FnScope ["self", "at", "place"] ["self", "at", "place"] (defScope sPut) := ⟨rfl, rfl, rfl, by decide +kernel, rfl, by decide +kernel, by decide +kernel⟩
theorem ok_Put (D : Dk K C) (M : Dm K C "put" "Disk.put" sPut) : Gm P w K mg base CX0 C "put" 1 (spPut C) := by
  refine gm_mk (ps := ["self", "at", "place"]) M (fun _ _ _ _ _ _ us hl => match us, hl with | [_, _, _], _ => rfl) fun f fd F => F.ok scPut (fun vs H Q E h => ?_) (fun cdv A outer s H vs Q E hr h => ?_)
  · obtain ⟨d, l0, l1, x, i, rfl, _⟩ := h
    rfl
  · obtain ⟨d, l0, l1, x, i, rfl, ⟨dx, t, h1, h2⟩, k⟩ := h
    refine ⟨_, (pss_one (ps_if (pt_cmpR op_eq (pv 1) pe_int (nomark _))
        (pss_one (ps_fld (pv 0) (pe_tup (pa_cons (pv 2) (pa_cons (pe_ix ix_tup (pe_fld (pv 0) rfl) pe_int (fun _ _ => rfl)) pa_nil))) rfl))
        (pss_one (ps_fld (pv 0) (pe_tup (pa_cons (pe_ix ix_tup (pe_fld (pv 0) rfl) pe_int (fun _ _ => rfl)) (pa_cons (pv 2) pa_nil))) rfl)))), ?_⟩
    refine ⟨_, rfl, rfl, _, rfl, ite_dec (fun c => ?_) (fun c => ?_)⟩
    · have hi : i = 0 := V.int.inj c
      rw [if_pos hi, if_pos hi] at k
      refine ⟨_, rfl, _, rfl, d, C, dx, _, _, rfl, h1, D.cl, D.nP, pf_pair t, t, _, _, _, rfl, rfl, SqT.of h2, rfl, two_ok _ _, fun p hp => ?_⟩
      have np : d ≠ p := ne_of_none h1 hp
      refine ⟨_, rfl, d, C, dx, _, rfl, by rw [upd_ne np]; exact h1, D.cl, D.nP, pf_len t, ?_⟩
      refine k _ ⟨dx, p, by rw [upd_same, pf_put], by rw [upd_ne np.symm, upd_same]⟩ fun b o e hb => ?_
      rw [upd_ne hb, upd_ne (ne_of_none e hp)]
      exact e
    · have hi : ¬ i = 0 := fun z => c (by rw [z])
      rw [if_neg hi, if_neg hi] at k
      refine ⟨_, rfl, d, C, dx, _, _, rfl, h1, D.cl, D.nP, pf_pair t, t, _, _, _, rfl, rfl, SqT.of h2, rfl, _, rfl, two_ok _ _, fun p hp => ?_⟩
      have np : d ≠ p := ne_of_none h1 hp
      refine ⟨_, rfl, d, C, dx, _, rfl, by rw [upd_ne np]; exact h1, D.cl, D.nP, pf_len t, ?_⟩
      refine k _ ⟨dx, p, by rw [upd_same, pf_put], by rw [upd_ne np.symm, upd_same]⟩ fun b o e hb => ?_
      rw [upd_ne hb, upd_ne (ne_of_none e hp)]
      exact e
/-! ### of_places -/
def Dc (K : PySem.W.Frag) (C : Addr) : Prop := ∃ (mc : Value) (p g : Addr) (fd : FuncData), ClX.CRead K C mc ∧ ClX.CMet K C mc "of_places" p g ∧ Fun K "of_places" "Disk.of_places" sOfPlaces g fd
theorem scOfPlaces : FnScope ["cls", "places", "first", "second", "disk"] ["cls", "places"] (defScope sOfPlaces) := ⟨rfl, rfl, rfl, by decide +kernel, rfl, by decide +kernel, by decide +kernel⟩
theorem okN {x qual : Str} {st : Stmt} {f : Addr} {fd : FuncData} {N ps : List Str} {k : Nat} {sp : Sp} (F : Fun K x qual st f fd) (S : FnScope N ps (defScope st)) (len : ∀ vs H Q E, sp vs H Q E → vs.length = ps.length)
    (hbody : ∀ (cdv : Value) (A : Around) (outer : List Env) (s : Shared) (H : Hp) (vs : List V) (Q : VK) (E : XK), Room k (A.deeper (envOfC qual (defScope st) s.heap.objs.size f cdv)) → sp vs H Q E →
      ∃ t, PSs (cxOf (L2N.CX P w) P w K mg base N qual (defScope st) f cdv A outer s H E) (defBody st) t ∧ t { nx := fun _ H' => Q .non H', rt := Q } (start N vs) H) : FnOk P w K mg base (L2N.CX P w) (k + 1) f fd ps sp := by
  obtain ⟨oc, od, kV, doc, pm, an, cdv, ct, osl, rfl, lk, hcd⟩ := F.ex
  exact fn_of lk hcd S len fun A outer s H vs Q E hr hsp => hbody cdv A outer s H vs Q E hr hsp
theorem ok_OfPlaces (D : Dk K C) (gHeadNumber : Gd P w K mg base CX0 "head_number" 1 spHN) (gInit : Gi P w K mg base CX0 C 1 (spInit C)) (gBad : Ge P w K mg base "BadBook" CB "texts" 1) (M : Dc K C) : Gc P w K mg base (L2N.CX P w) C "of_places" 3 (spOf C CB) := by
  obtain ⟨mc, p, g, fd, r, c, F⟩ := M
  refine ⟨mc, p, g, fd, ["cls", "places"], r, c, okN F scOfPlaces (fun vs H Q E h => ?_) (fun cdv A outer s H vs Q E hr h => ?_), F.binds fun _ _ _ _ _ _ us hl => match us, hl with | [_, _], _ => rfl⟩
  · obtain ⟨t, l0, l1, rfl, _⟩ := h
    rfl
  · obtain ⟨t, l0, l1, rfl, ht, hL, k1, k2⟩ := h
    refine ⟨_, (pss_cons (ps_asg (pv 1) (pg_tup rfl (pgs_cons (pg_name (i := 2) scOfPlaces.nd rfl (Or.inl rfl)) (pgs_cons (pg_name (i := 3) scOfPlaces.nd rfl (Or.inl rfl)) pgs_nil))))
      (pss_cons (ps_if (PW.pt (pw_and (pt_cmpR op_lt (pe_gd gHeadNumber (hr.mono (by decide)) rfl (pa_cons (pv 2) pa_nil)) pe_int (nomark _)) (pw_and1 (pt_cmpR op_lt (pe_gd gHeadNumber (hr.mono (by decide)) rfl (pa_cons (pv 3) pa_nil)) pe_int (nomark _)))))
        (pss_one (L2N.ps_raise rfl (L2N.takes_of rfl rfl rfl rfl) (pmk_ge gBad (hr.mono (by decide)) rfl (pa_cons (pe_tup (pa_cons (pv 2) (pa_cons (pv 3) pa_nil))) pa_nil))))
        pss_nil)
      (pss_cons (ps_set (i := 4) scOfPlaces.nd rfl (Or.inl rfl) (pe_giL (i := 0) gInit (hr.mono (by decide)) rfl (Or.inl rfl) (pa_cons pe_str pa_nil)))
      (pss_cons (ps_fld (pv 4) (pe_tup (pa_cons (pv 2) (pa_cons (pv 3) pa_nil))) rfl)
      (pss_one (ps_ret (pv 4))))))), ?_⟩
    -- the way on, where one of them is a book
    have go : Good l0 l1 → tSeq (tAsg (tMakeL 0 C (spInit C) [] E0 (tCons (tC (.str "")) tNil)) (gName 4)) (tSeq (sFld K (tVar 4) (tTup (tCons (tVar 2) (tCons (tVar 3) tNil))) "pair") (tRet (tVar 4)))
        { nx := fun _ H' => Q .non H', rt := Q } [some (.ref C), some (.ref t), some (.str (S l0)), some (.str (S l1)), none] H := fun gd => by
      refine ⟨rfl, fun x dx nx ndx nex => ⟨x, dx, [], congrArg (fun z => [V.ref x, V.str z]) str_nil, by decide, upd_same, fun H1 D1 b1 => ⟨rfl, ?_⟩⟩⟩
      obtain ⟨dx', t', e1, e2⟩ := D1
      refine ⟨_, rfl, _, rfl, two_ok _ _, fun u hu => ?_⟩
      have nu : x ≠ u := ne_of_none e1 hu
      refine ⟨_, rfl, x, C, dx', _, rfl, by rw [upd_ne nu]; exact e1, D.cl, D.nP, pf_len t', _, rfl, ?_⟩
      refine k1 gd x _ nx ⟨dx', u, by rw [upd_same, pf_put], by rw [upd_ne nu.symm, upd_same]⟩ fun b o e => ?_
      have hb : b ≠ x := ne_of_none e nx
      have e3 : H1 b = some o := b1 b o (by rw [upd_ne hb, upd_ne (ne_of_none e ndx)]; exact e) hb
      rw [upd_ne hb, upd_ne (ne_of_none e3 hu)]
      exact e3
    have gd0 : ∀ {l : List Nat}, ¬ numL l < 0 → (headL l).isSome = true := fun {l} c => by
      cases e : headL l with
      | none => exact absurd (numL_neg.mpr e) c
      | some p => rfl
    refine ⟨_, rfl, t, _, rfl, SqT.of ht, rfl, _, _, rfl, _, _, rfl, rfl, ?_⟩
    refine ⟨_, rfl, l0, rfl, hL.1, _, _, rfl, rfl, _, rfl, ite_dec (fun c1 => ?_) (fun c1 => go (.inl (gd0 c1)))⟩
    refine ⟨_, rfl, l1, rfl, hL.2, _, _, rfl, rfl, _, rfl, ite_dec (fun c2 => ?_) (fun c2 => go (.inr (gd0 c2)))⟩
    refine ⟨_, rfl, _, rfl, two_ok _ _, fun u hu => err_mk fun dd hdd => ?_⟩
    have nu : u ≠ dd := ne_of_none upd_same hdd
    exact k2 (numL_neg.mp c1) (numL_neg.mp c2) dd u _ ((same_upd hu).trans (same_upd hdd)) upd_same (by rw [upd_ne nu, upd_same])
end
end Wd
/-! The program's class, what reads and what writes. -/
namespace Wd
open PySem PySem.Spec PyProof.Rows L2
theorem cutV_from1 (xs : List V) : cutV xs (some 1) none = xs.drop 1 := by
  unfold cutV
  have e : HT.sIx xs.length 0 (some 1) = min 1 xs.length := by
    show (if (1 : Int) < 0 then ((1 : Int) + (xs.length : Int)).toNat else min (1 : Int).toNat xs.length) = _
    rw [if_neg (by decide)]
    rfl
  rw [HT.sIx_none, e]
  by_cases h : 1 ≤ xs.length
  · rw [Nat.min_eq_left h]
    exact List.take_of_length_le (by rw [List.length_drop]; exact Nat.le_refl _)
  · rw [Nat.min_eq_right (by omega), Nat.sub_self, List.take_zero, List.drop_eq_nil_of_le (by omega)]
theorem dec_S {a b : List Nat} : decide (V.str (S a) = V.str (S b)) = decide (a = b) := by
  by_cases h : a = b
  · rw [h, decide_eq_true rfl, decide_eq_true rfl]
  · rw [decide_eq_false h, decide_eq_false fun z => h (S_inj (V.str.inj z))]
theorem dec_nil {a : List Nat} : decide (V.str (S a) = V.str ("" : Str)) = decide (a = []) := by rw [str_nil]; exact dec_S
theorem nowI_0 {l0 l1 : List Nat} : nowI l0 l1 = 0 ↔ ¬ nowB l0 l1 = true := by
  unfold nowI
  by_cases b : nowB l0 l1 = true
  · rw [if_pos b]; simp [b]
  · rw [if_neg b]; simp [b]
theorem nowI_1 {l0 l1 : List Nat} : 1 - nowI l0 l1 = 0 ↔ nowB l0 l1 = true := by
  unfold nowI
  by_cases b : nowB l0 l1 = true
  · rw [if_pos b]; simp [b]
  · rw [if_neg b]; simp [b]
theorem putNow_eq {C d : Addr} {H : Hp} {l0 l1 x : List Nat} (h : DiskAt C H d (if nowI l0 l1 = 0 then x else l0) (if nowI l0 l1 = 0 then l1 else x)) : DiskAt C H d (putNow l0 l1 x).1 (putNow l0 l1 x).2 := by
  unfold putNow
  by_cases b : nowB l0 l1 = true
  · have q : ¬ nowI l0 l1 = 0 := fun z => nowI_0.mp z b
    rw [if_neg q, if_neg q] at h
    rw [if_pos b]
    exact h
  · have q : nowI l0 l1 = 0 := nowI_0.mpr b
    rw [if_pos q, if_pos q] at h
    rw [if_neg b]
    exact h
theorem putOther_eq {C d : Addr} {H : Hp} {l0 l1 x : List Nat} (h : DiskAt C H d (if 1 - nowI l0 l1 = 0 then x else l0) (if 1 - nowI l0 l1 = 0 then l1 else x)) : DiskAt C H d (putOther l0 l1 x).1 (putOther l0 l1 x).2 := by
  unfold putOther
  by_cases b : nowB l0 l1 = true
  · have q : 1 - nowI l0 l1 = 0 := nowI_1.mpr b
    rw [if_pos q, if_pos q] at h
    rw [if_pos b]
    exact h
  · have q : ¬ 1 - nowI l0 l1 = 0 := fun z => b (nowI_1.mp z)
    rw [if_neg q, if_neg q] at h
    rw [if_neg b]
    exact h
theorem mend_cut (l : List Nat) : cutS (S l) none (some (((S l).length : Int) - ((S (tornL l)).length : Int))) = S (mendL l) := by
  have h := tornL_len l
  rw [S_len, S_len, cut_to (by omega)]
  unfold mendL
  refine congrArg S (congrArg (fun n => l.take n) ?_)
  omega
theorem mend_len (l : List Nat) : (mendL l).length ≤ l.length := by
  unfold mendL
  rw [List.length_take]
  omega
/-! ### numbers -/
theorem val_fold : ∀ (cs : List Nat) (a : Nat), (∀ c ∈ cs, isFig c) → cs.foldl (fun acc c => acc * 10 + (c - 48)) a < (a + 1) * 10 ^ cs.length
  | [], a, _ => by simp
  | c :: r, a, h => by
    have hc := h c (List.mem_cons_self ..)
    unfold isFig at hc
    have ih := val_fold r (a * 10 + (c - 48)) fun d hd => h d (List.mem_cons_of_mem _ hd)
    rw [List.foldl_cons, List.length_cons, Nat.pow_succ]
    refine Nat.lt_of_lt_of_le ih ?_
    have e : (a + 1) * (10 ^ r.length * 10) = ((a + 1) * 10) * 10 ^ r.length := by
      rw [Nat.mul_comm (10 ^ r.length) 10, Nat.mul_assoc]
    rw [e]
    exact Nat.mul_le_mul_right _ (by omega)
theorem numL_bound (l : List Nat) : -1 ≤ numL l ∧ numL l < 1000000000 := by
  unfold numL
  cases h : headL l with
  | none => exact ⟨by decide, by decide⟩
  | some p =>
    obtain ⟨n, t⟩ := p
    obtain ⟨f, b, _, ok, rfl, _⟩ := headL_some h
    obtain ⟨_, k2, k3, _⟩ := figOk_iff.mp ok
    have q := val_fold f 0 k3
    have q2 : 10 ^ f.length ≤ 10 ^ 9 := Nat.pow_le_pow_right (by decide) k2
    show -1 ≤ val f ∧ val f < 1000000000
    unfold val NumText.digitsVal
    rw [Nat.zero_add, Nat.one_mul] at q
    have q3 : f.foldl (fun acc c => acc * 10 + (c - 48)) 0 < 1000000000 := Nat.lt_of_lt_of_le q q2
    omega
theorem log_small {n : Nat} (h : n < 2 ^ 64) : n.log2 < 1920 := by
  by_cases h0 : n = 0
  · rw [h0]; decide
  · exact Nat.lt_of_lt_of_le ((Nat.log2_lt h0).mpr h) (by decide)
/-- the signs of a number -/
def sgn (n : Int) : List Nat := (toString n : Str).cps.toList
theorem sgn_S (n : Int) : (toString n : Str) = S (sgn n) := (SX.S_tl _).symm
theorem sgn_len {n : Int} (h : 0 ≤ n) (h2 : n ≤ 1000000000) : (sgn n).length ≤ 10 := by
  have z := PyProof.Rows.toString_length_le (v := n) (k := 10) h (by decide) (by omega)
  have e : (sgn n).length = (toString n : Str).length := by simp [sgn, Str.length]
  rw [e]
  exact z
/-- a method with the keyword-only cut=None -/
def Dw (K : PySem.W.Frag) (C : Addr) (m qual : Str) (st : Stmt) : Prop := ∃ (f : Addr) (fd : FuncData), Meth K C m f ∧ FunD K m qual (defArgs st) (defBody st) (defScope st) [] [("cut", V.non)] f fd
/-- the property -/
def Dp (K : PySem.W.Frag) (C : Addr) : Prop := ∃ (p g : Addr) (fd : FuncData), PropOf K C "book" p g ∧ Fun K "book" "Disk.book" sBook g fd
/-- __len__ -/
def Dl (K : PySem.W.Frag) (C : Addr) : Prop := ∃ (f : Addr) (fd : FuncData), PySem.W.findIn K (.ref C) "__len__" = some (some (.ref f)) ∧ PySem.W.isFn K (.ref f) = true ∧ Fun K "__len__" "Disk.__len__" sLen f fd
section
variable {P : Program} {w : World} {K : PySem.W.Frag} {mg : Str → Option Value} {base : Heap} {C CB CT : Addr}
theorem kw_write {f : Addr} {fd : FuncData} (F : FunD K "write" "Disk.write" (defArgs sWrite) (defBody sWrite) (defScope sWrite) [] [("cut", V.non)] f fd) : (∃ ds, Vals [V.non] ds ∧ Binds K fd ["self", "text", "cut"] ds) ∧
    ∃ g : List Value → List Value → List Value, KBn K fd ["self", "text", "cut"] (1 + 1) ["cut"] g (fun vs zs => vs ++ zs) := by
  refine ⟨F.binds0 2 (by simp) rfl fun D doc pm an cdv ct us ks l1 l2 => ?_, ?_⟩
  · match us, ks, l1, l2 with
    | [a, b], [c], _, _ => exact ⟨_, _, _, _, _, _, rfl, rfl, rfl⟩
  · obtain ⟨mv, h⟩ := F.kbinds0 (ps := ["self", "text", "cut"]) 2 ["cut"] [] (fun vs _ zs => vs ++ zs) (by simp) (fun q hq => by cases hq) (fun r1 _ r3 => r1.append r3) fun D doc pm an cdv ct us mv ws l1 l2 l3 => by
      match us, mv, ws, l1, l2, l3 with
      | [a, b], [], [c], _, _, _ => exact (by rfl)
    exact ⟨_, h⟩
theorem kw_close {f : Addr} {fd : FuncData} (F : FunD K "close" "Disk.close" (defArgs sClose) (defBody sClose) (defScope sClose) [] [("cut", V.non)] f fd) : (∃ ds, Vals [V.non] ds ∧ Binds K fd ["self", "text", "cut"] ds) ∧
    ∃ g : List Value → List Value → List Value, KBn K fd ["self", "text", "cut"] (1 + 1) ["cut"] g (fun vs zs => vs ++ zs) := by
  refine ⟨F.binds0 2 (by simp) rfl fun D doc pm an cdv ct us ks l1 l2 => ?_, ?_⟩
  · match us, ks, l1, l2 with
    | [a, b], [c], _, _ => exact ⟨_, _, _, _, _, _, rfl, rfl, rfl⟩
  · obtain ⟨mv, h⟩ := F.kbinds0 (ps := ["self", "text", "cut"]) 2 ["cut"] [] (fun vs _ zs => vs ++ zs) (by simp) (fun q hq => by cases hq) (fun r1 _ r3 => r1.append r3) fun D doc pm an cdv ct us mv ws l1 l2 l3 => by
      match us, mv, ws, l1, l2, l3 with
      | [a, b], [], [c], _, _, _ => exact (by rfl)
    exact ⟨_, h⟩
theorem scBook : FnScope ["self"] ["self"] (defScope sBook) := ⟨rfl, rfl, rfl, by decide +kernel, rfl, by decide +kernel, by decide +kernel⟩
theorem ok_Book (D : Dk K C) (gHeadNumber : Gd P w K mg base CX0 "head_number" 1 spHN) (gPresentAt : Gm P w K mg base CX0 C "present_at" 2 (spPresentAt C)) (M : Dp K C) : Gp P w K mg base CX0 C "book" 3 (spBook C) := by
  obtain ⟨p, g, fd, hp, F⟩ := M
  refine ⟨p, g, fd, ["self"], hp, F.ok scBook (fun vs H Q E h => ?_) (fun cdv A outer s H vs Q E hr h => ?_), F.binds fun _ _ _ _ _ _ us hl => match us, hl with | [_], _ => rfl⟩
  · obtain ⟨d, l0, l1, rfl, _⟩ := h
    rfl
  · obtain ⟨d, l0, l1, rfl, ⟨dx, t, h1, h2⟩, hL, k⟩ := h
    refine ⟨_, (pss_one (ps_ret (pe_gd gHeadNumber (hr.mono (by decide)) rfl (pa_cons (pe_ix ix_tup (pe_fld (pv 0) rfl) (pe_gm0 D.cl gPresentAt (hr.mono (by decide)) (pv 0)) (fun _ _ => rfl)) pa_nil)))), ?_⟩
    exact ⟨_, rfl, d, C, dx, _, _, rfl, h1, D.cl, D.nP, pf_pair t, _, rfl, d, dx, _, rfl, h1, pf_no t (by decide +kernel), d, l0, l1, rfl, ⟨dx, t, h1, h2⟩, hL, t, _, _, _, rfl, rfl, SqT.of h2, at_now, nowL l0 l1, rfl, hL.now, k⟩
theorem scHead : FnScope ["self"] ["self"] (defScope sHead) := ⟨rfl, rfl, rfl, by decide +kernel, rfl, by decide +kernel, by decide +kernel⟩
theorem ok_Head (D : Dk K C) (gWholeLines : Gd P w K mg base CX0 "whole_lines" 1 spWL) (gPresentAt : Gm P w K mg base CX0 C "present_at" 2 (spPresentAt C)) (M : Dm K C "head" "Disk.head" sHead) : Gm P w K mg base CX0 C "head" 3 (spHeadM C) := by
  refine gm_mk (ps := ["self"]) M (fun _ _ _ _ _ _ us hl => match us, hl with | [_], _ => rfl) fun f fd F => F.ok scHead (fun vs H Q E h => ?_) (fun cdv A outer s H vs Q E hr h => ?_)
  · obtain ⟨d, l0, l1, n, t, rfl, _⟩ := h
    rfl
  · obtain ⟨d, l0, l1, n, x, rfl, ⟨dx, t, h1, h2⟩, hL, hh, k⟩ := h
    obtain ⟨f, r, hf, hr0, hlen, el⟩ := headL_lines hh
    have hz := hL.now
    refine ⟨_, (pss_one (ps_ret (pe_ix ix_tup (pe_partition (pe_ix ix_list (pe_gd gWholeLines (hr.mono (by decide)) rfl (pa_cons (pe_ix ix_tup (pe_fld (pv 0) rfl) (pe_gm0 D.cl gPresentAt (hr.mono (by decide)) (pv 0)) (fun _ _ => rfl)) pa_nil)) pe_int (fun _ _ => rfl)) pe_str) pe_int (fun _ _ => rfl)))), ?_⟩
    refine ⟨_, rfl, d, C, dx, _, _, rfl, h1, D.cl, D.nP, pf_pair t, _, rfl, d, dx, _, rfl, h1, pf_no t (by decide +kernel), d, l0, l1, rfl, ⟨dx, t, h1, h2⟩, hL, t, _, _, _, rfl, rfl, SqT.of h2, at_now, nowL l0 l1, rfl, hL.now, fun p H1 s1 e1 => ?_⟩
    have hat : atI (((linesL (nowL l0 l1)).dropLast).map fun z => V.str (S z)) 0 = some (.str (S (f ++ 32 :: x))) := by
      rw [el]
      cases r with
      | nil => exact absurd rfl hr0
      | cons r0 r1 => exact atI_nat (j := 0) rfl
    refine ⟨p, _, _, _, rfl, rfl, SqL.of e1, hat, ⟨_, rfl⟩, _, _, rfl, rfl, rfl, smallS (by omega), fun q hq => ⟨q, _, _, _, rfl, rfl, SqT.of upd_same, rfl, ?_⟩⟩
    rw [str_sp, part_head hf]
    exact k _ (s1.trans (same_upd hq))
theorem scRecords : FnScope ["self"] ["self"] (defScope sRecords) := ⟨rfl, rfl, rfl, by decide +kernel, rfl, by decide +kernel, by decide +kernel⟩
theorem ok_Records (T : Tx mg) (D : Dk K C) (gWholeLines : Gd P w K mg base CX0 "whole_lines" 1 spWL) (gPresentAt : Gm P w K mg base CX0 C "present_at" 2 (spPresentAt C)) (M : Dm K C "records" "Disk.records" sRecords) : Gm P w K mg base CX0 C "records" 3 (spRecords C) := by
  refine gm_mk (ps := ["self"]) M (fun _ _ _ _ _ _ us hl => match us, hl with | [_], _ => rfl) fun f fd F => F.ok scRecords (fun vs H Q E h => ?_) (fun cdv A outer s H vs Q E hr h => ?_)
  · obtain ⟨d, l0, l1, rfl, _⟩ := h
    rfl
  · obtain ⟨d, l0, l1, rfl, ⟨dx, t, h1, h2⟩, hL, k⟩ := h
    refine ⟨_, (pss_one (ps_ret (pe_callTy call_tuple_of (by rfl) T.n_tuple (by decide +kernel) (pa_cons (pe_slice sl_list (pe_gd gWholeLines (hr.mono (by decide)) rfl (pa_cons (pe_ix ix_tup (pe_fld (pv 0) rfl) (pe_gm0 D.cl gPresentAt (hr.mono (by decide)) (pv 0)) (fun _ _ => rfl)) pa_nil)) (po_some pe_int) po_none) pa_nil)))), ?_⟩
    refine ⟨_, rfl, d, C, dx, _, _, rfl, h1, D.cl, D.nP, pf_pair t, _, rfl, d, dx, _, rfl, h1, pf_no t (by decide +kernel), d, l0, l1, rfl, ⟨dx, t, h1, h2⟩, hL, t, _, _, _, rfl, rfl, SqT.of h2, at_now, nowL l0 l1, rfl, hL.now, fun p H1 s1 e1 => ?_⟩
    refine ⟨_, rfl, p, _, rfl, SqL.of e1, fun p2 hp2 => ⟨p2, _, rfl, .inl ⟨SqL.of upd_same, fun p3 hp3 => ?_⟩⟩⟩
    refine k p3 _ ((s1.trans (same_upd hp2)).trans (same_upd hp3)) ?_
    rw [upd_same, cutV_from1]
    unfold recsL
    rw [List.map_drop]
theorem scLen : FnScope ["self"] ["self"] (defScope sLen) := ⟨rfl, rfl, rfl, by decide +kernel, rfl, by decide +kernel, by decide +kernel⟩
theorem ok_Len (T : Tx mg) (D : Dk K C) (gRecords : Gm P w K mg base CX0 C "records" 3 (spRecords C)) (M : Dl K C) : Gl P w K mg base CX0 C 4 (spLenM C) := by
  obtain ⟨f, fd, a, b, F⟩ := M
  refine ⟨f, fd, ["self"], a, b, F.ok scLen (fun vs H Q E h => ?_) (fun cdv A outer s H vs Q E hr h => ?_), F.binds fun _ _ _ _ _ _ us hl => match us, hl with | [_], _ => rfl⟩
  · obtain ⟨d, l0, l1, rfl, _⟩ := h
    rfl
  · obtain ⟨d, l0, l1, rfl, ⟨dx, t, h1, h2⟩, hL, k⟩ := h
    refine ⟨_, (pss_one (ps_ret (pe_callB call_len_seq (by rfl) T.n_len boot_len (pa_cons (pe_gm0 D.cl gRecords (hr.mono (by decide)) (pv 0)) pa_nil)))), ?_⟩
    refine ⟨_, rfl, d, dx, _, rfl, h1, pf_no t (by decide +kernel), d, l0, l1, rfl, ⟨dx, t, h1, h2⟩, hL, fun p H1 s1 e1 => ⟨p, _, rfl, .inr (SqT.of e1), ?_⟩⟩
    rw [List.length_map]
    exact k _ s1
theorem scWrite : FnScope ["self", "text", "cut", "at", "line", "signs"] ["self", "text", "cut"] (defScope sWrite) := ⟨rfl, rfl, rfl, by decide +kernel, rfl, by decide +kernel, by decide +kernel⟩
theorem ok_Write (T : Tx mg) (D : Dk K C) (gTornEnd : Gd P w K mg base CX0 "torn_end" 1 spTE) (gFirstSigns : Gd P w K mg base CX0 "first_signs" 1 spFS) (gPresentAt : Gm P w K mg base CX0 C "present_at" 2 (spPresentAt C)) (gPut : Gm P w K mg base CX0 C "put" 1 (spPut C))
    (gTorn : Ge P w K mg base "Torn" CT "text" 1) (M : Dw K C "write" "Disk.write" sWrite) : Gk P w K mg base (L2N.CX P w) C "write" 3 1 "cut" (spWrite C CT) := by
  obtain ⟨f, fd, hm, F⟩ := M
  obtain ⟨hb, hk⟩ := kw_write F
  refine ⟨f, fd, ["self", "text", "cut"], hm, F.ok scWrite (fun vs H Q E h => ?_) (fun cdv A outer s H vs Q E hr h => ?_), hb, hk⟩
  · obtain ⟨d, l0, l1, t, c, rfl, _⟩ := h
    rfl
  · obtain ⟨d, l0, l1, t, c, rfl, hc, ⟨dx, u, h1, h2⟩, hL9, ht, k1, k2⟩ := h
    have hL : Len 1000000 l0 l1 := ⟨Nat.le_trans hL9.1 (by decide), Nat.le_trans hL9.2 (by decide)⟩
    have hz := hL9.now
    have hp := partS_len (t ++ [10]) c
    rw [List.length_append, List.length_singleton] at hp
    refine ⟨_, (pss_cons (ps_set (i := 3) scWrite.nd rfl (Or.inl rfl) (pe_gm0 D.cl gPresentAt (hr.mono (by decide)) (pv 0)))
      (pss_cons (ps_if (pt_cmpR op_ne (pe_gd gTornEnd (hr.mono (by decide)) rfl (pa_cons (pe_ix ix_tup (pe_fld (pv 0) rfl) (pv 3) (fun _ _ => rfl)) pa_nil)) pe_str (nomark _))
        (pss_one (L2N.ps_raise rfl (L2N.takes_of rfl rfl rfl rfl) (pmk_ge gTorn (hr.mono (by decide)) rfl (pa_cons (pv 1) pa_nil))))
        pss_nil)
      (pss_cons (ps_set (i := 4) scWrite.nd rfl (Or.inl rfl) (pe_op op_add_str (pv 1) pe_str))
      (pss_cons (ps_set (i := 5) scWrite.nd rfl (Or.inl rfl) (pe_gd gFirstSigns (hr.mono (by decide)) rfl (pa_cons (pv 4) (pa_cons (pv 2) pa_nil))))
      (pss_cons (ps_expr (pe_gm D.cl gPut (hr.mono (by decide)) (pv 0) (pa_cons (pv 3) (pa_cons (pe_op op_add_str (pe_ix ix_tup (pe_fld (pv 0) rfl) (pv 3) (fun _ _ => rfl)) (pv 5)) pa_nil))))
      (pss_one (ps_ret (pe_cmpR op_eq (pv 5) (pv 4) (nomark _))))))))), ?_⟩
    refine ⟨_, rfl, d, dx, _, rfl, h1, pf_no u (by decide +kernel), d, l0, l1, rfl, ⟨dx, u, h1, h2⟩, hL, ?_⟩
    refine ⟨_, rfl, d, C, dx, _, _, rfl, h1, D.cl, D.nP, pf_pair u, _, rfl, u, _, _, _, rfl, rfl, SqT.of h2, at_now, nowL l0 l1, rfl, hL.now, rfl, _, rfl, ite_ndec (fun c1 => ?_) (fun c1 => ?_)⟩
    · refine ⟨_, rfl, err_mk fun dd hdd => k2 (fun z => c1 (by rw [z, str_nil])) dd _ (same_upd hdd) upd_same⟩
    · have e0 : tornL (nowL l0 l1) = [] := S_inj (by have z := V.str.inj c1; rw [str_nil] at z; exact z)
      refine ⟨_, rfl, _, _, rfl, rfl, lenS rfl str_nl (by simp; omega), ?_⟩
      rw [show S t ++ ("\n" : Str) = S (t ++ [10]) from appS rfl str_nl]
      refine ⟨_, rfl, _, rfl, t ++ [10], c, rfl, by simp; omega, hc, ?_⟩
      refine ⟨_, rfl, d, dx, _, rfl, h1, pf_no u (by decide +kernel), _, rfl, _, rfl, d, C, dx, _, _, rfl, h1, D.cl, D.nP, pf_pair u, _, rfl, u, _, _, _, rfl, rfl, SqT.of h2, at_now, _, rfl, _, _, rfl, rfl, lenS rfl rfl (by omega),
        d, l0, l1, nowL l0 l1 ++ partS (t ++ [10]) c, nowI l0 l1, congrArg (fun z => [V.ref d, V.int (nowI l0 l1), V.str z]) (appS rfl rfl), ⟨dx, u, h1, h2⟩, fun H' D' b' => ?_⟩
      refine ⟨_, rfl, _, rfl, rfl, ?_⟩
      rw [dec_S]
      exact k1 e0 H' (putNow_eq D') b'
theorem scClose : FnScope ["self", "text", "cut", "line", "signs"] ["self", "text", "cut"] (defScope sClose) := ⟨rfl, rfl, rfl, by decide +kernel, rfl, by decide +kernel, by decide +kernel⟩
theorem ok_Close (T : Tx mg) (D : Dk K C) (gFirstSigns : Gd P w K mg base CX0 "first_signs" 1 spFS) (gPresentAt : Gm P w K mg base CX0 C "present_at" 2 (spPresentAt C)) (gPut : Gm P w K mg base CX0 C "put" 1 (spPut C)) (gBook : Gp P w K mg base CX0 C "book" 3 (spBook C))
    (M : Dw K C "close" "Disk.close" sClose) : Gk P w K mg base CX0 C "close" 5 1 "cut" (spClose C) := by
  obtain ⟨f, fd, hm, F⟩ := M
  obtain ⟨hb, hk⟩ := kw_close F
  refine ⟨f, fd, ["self", "text", "cut"], hm, F.ok scClose (fun vs H Q E h => ?_) (fun cdv A outer s H vs Q E hr h => ?_), hb, hk⟩
  · obtain ⟨d, l0, l1, t, c, rfl, _⟩ := h
    rfl
  · obtain ⟨d, l0, l1, t, c, rfl, hc, ⟨dx, u, h1, h2⟩, hL9, gd, ht, k⟩ := h
    have hL : Len 1000000 l0 l1 := ⟨Nat.le_trans hL9.1 (by decide), Nat.le_trans hL9.2 (by decide)⟩
    obtain ⟨b1, b2⟩ := numL_bound (nowL l0 l1)
    have hs := sgn_len (n := numL (nowL l0 l1) + 1) (by omega) (by omega)
    refine ⟨_, (pss_cons (ps_set (i := 3) scClose.nd rfl (Or.inl rfl) (pe_op op_add_str (pe_op op_add_str (pe_op op_add_str (pe_callTy call_str_int (by rfl) T.n_str (by decide +kernel) (pa_cons (pe_op op_add (pe_gp D.cl gBook (hr.mono (by decide)) (pv 0)) pe_int) pa_nil)) pe_str) (pv 1)) pe_str))
      (pss_cons (ps_set (i := 4) scClose.nd rfl (Or.inl rfl) (pe_gd gFirstSigns (hr.mono (by decide)) rfl (pa_cons (pv 3) (pa_cons (pv 2) pa_nil))))
      (pss_cons (ps_expr (pe_gm D.cl gPut (hr.mono (by decide)) (pv 0) (pa_cons (pe_op op_sub pe_int (pe_gm0 D.cl gPresentAt (hr.mono (by decide)) (pv 0))) (pa_cons (pv 4) pa_nil))))
      (pss_one (ps_ret (pe_cmpR op_eq (pv 4) (pv 3) (nomark _))))))), ?_⟩
    refine ⟨_, rfl, d, dx, _, rfl, h1, d, l0, l1, rfl, ⟨dx, u, h1, h2⟩, hL, _, _, rfl, rfl, _, rfl, log_small (by omega), _, _, rfl, rfl, lenS (sgn_S _) str_sp (by simp; omega), _, rfl, _, _, rfl, rfl, lenS (appS (sgn_S _) str_sp) rfl (by simp; omega),
      _, _, rfl, rfl, lenS (appS (appS (sgn_S _) str_sp) rfl) str_nl (by simp; omega), ?_⟩
    rw [show (toString (numL (nowL l0 l1) + 1) : Str) ++ (" " : Str) ++ S t ++ ("\n" : Str) = S (headLine (numL (nowL l0 l1) + 1) t) from (appS (appS (appS (sgn_S _) str_sp) rfl) str_nl).trans (congrArg S (by unfold headLine sgn; simp))]
    have hz : (headLine (numL (nowL l0 l1) + 1) t).length ≤ 1012 := by
      show (sgn (numL (nowL l0 l1) + 1) ++ 32 :: (t ++ [10])).length ≤ 1012
      simp
      omega
    refine ⟨_, rfl, _, rfl, headLine (numL (nowL l0 l1) + 1) t, c, rfl, by omega, hc, ?_⟩
    refine ⟨_, rfl, d, dx, _, rfl, h1, pf_no u (by decide +kernel), _, rfl, d, dx, _, rfl, h1, pf_no u (by decide +kernel), d, l0, l1, rfl, ⟨dx, u, h1, h2⟩, hL, _, _, rfl, rfl, _, rfl,
      d, l0, l1, partS (headLine (numL (nowL l0 l1) + 1) t) c, _, rfl, ⟨dx, u, h1, h2⟩, fun H' D' b' => ?_⟩
    refine ⟨_, rfl, _, rfl, rfl, ?_⟩
    rw [dec_S]
    exact k H' (putOther_eq D') b'
theorem scMend : FnScope ["self", "at", "place", "torn"] ["self"] (defScope sMend) := ⟨rfl, rfl, rfl, by decide +kernel, rfl, by decide +kernel, by decide +kernel⟩
theorem ok_Mend (T : Tx mg) (D : Dk K C) (gTornEnd : Gd P w K mg base CX0 "torn_end" 1 spTE) (gPresentAt : Gm P w K mg base CX0 C "present_at" 2 (spPresentAt C)) (gPut : Gm P w K mg base CX0 C "put" 1 (spPut C)) (M : Dm K C "mend" "Disk.mend" sMend) : Gm P w K mg base CX0 C "mend" 3 (spMend C) := by
  refine gm_mk (ps := ["self"]) M (fun _ _ _ _ _ _ us hl => match us, hl with | [_], _ => rfl) fun f fd F => F.ok scMend (fun vs H Q E h => ?_) (fun cdv A outer s H vs Q E hr h => ?_)
  · obtain ⟨d, l0, l1, rfl, _⟩ := h
    rfl
  · obtain ⟨d, l0, l1, rfl, ⟨dx, u, h1, h2⟩, hL, k⟩ := h
    have hz := hL.now
    have hz2 := tornL_len (nowL l0 l1)
    refine ⟨_, (pss_cons (ps_set (i := 1) scMend.nd rfl (Or.inl rfl) (pe_gm0 D.cl gPresentAt (hr.mono (by decide)) (pv 0)))
      (pss_cons (ps_set (i := 2) scMend.nd rfl (Or.inl rfl) (pe_ix ix_tup (pe_fld (pv 0) rfl) (pv 1) (fun _ _ => rfl)))
      (pss_cons (ps_set (i := 3) scMend.nd rfl (Or.inl rfl) (pe_gd gTornEnd (hr.mono (by decide)) rfl (pa_cons (pv 2) pa_nil)))
      (pss_cons (ps_expr (pe_gm D.cl gPut (hr.mono (by decide)) (pv 0) (pa_cons (pv 1) (pa_cons (pe_slice sl_str (pv 2) po_none (po_some (pe_op op_sub (pe_callB call_len_str (by rfl) T.n_len boot_len (pa_cons (pv 2) pa_nil)) (pe_callB call_len_str (by rfl) T.n_len boot_len (pa_cons (pv 3) pa_nil))))) pa_nil))))
      (pss_one (ps_ret (pe_cmpR op_ne (pv 3) pe_str (nomark _)))))))), ?_⟩
    refine ⟨_, rfl, d, dx, _, rfl, h1, pf_no u (by decide +kernel), d, l0, l1, rfl, ⟨dx, u, h1, h2⟩, hL, ?_⟩
    refine ⟨_, rfl, d, C, dx, _, _, rfl, h1, D.cl, D.nP, pf_pair u, _, rfl, u, _, _, _, rfl, rfl, SqT.of h2, at_now, ?_⟩
    refine ⟨_, rfl, nowL l0 l1, rfl, hL.now, ?_⟩
    refine ⟨_, rfl, d, dx, _, rfl, h1, pf_no u (by decide +kernel), _, rfl, _, rfl, _, rfl, _, rfl, smallS hz, _, rfl, _, rfl, smallS (by omega), _, _, rfl, rfl, _, rfl, _, rfl, smallS hz,
      d, l0, l1, mendL (nowL l0 l1), nowI l0 l1, congrArg (fun z => [V.ref d, V.int (nowI l0 l1), V.str z]) (mend_cut _), ⟨dx, u, h1, h2⟩, fun H' D' b' => ?_⟩
    refine ⟨_, rfl, rfl, ?_⟩
    rw [dec_nil]
    exact k H' (putNow_eq D') b'
end
end Wd
/-! The law's draws. -/
namespace Wd
open PySem PySem.Spec PyProof.Rows L2
theorem atI_mem {α : Type} {xs : List α} {i : Int} (h0 : 0 ≤ i) (h1 : i < xs.length) : ∃ v, atI xs i = some v ∧ v ∈ xs := by
  obtain ⟨n, rfl⟩ : ∃ n : Nat, i = (n : Int) := ⟨i.toNat, by omega⟩
  have hn : n < xs.length := by omega
  exact ⟨xs[n], atI_nat (List.getElem?_eq_getElem hn), List.getElem_mem hn⟩
theorem yes_t {σ : L2.St} {H : Hp} {A B : Hp → Prop} (h : A H) : tYes σ H fun b H' => if b = true then A H' else B H' := by
  show if (true : Bool) = true then A H else B H
  rw [if_pos rfl]
  exact h
def signsL : List Nat := ("abcdefghijklmnopqrstuvwxyz 0123456789(),-;:=+ANTF" : Str).cps.toList
theorem signs_len : signsL.length = 49 := by decide +kernel
theorem signs_ok : ∀ c ∈ signsL, c ≠ 10 := by decide +kernel
theorem signs_small : ("abcdefghijklmnopqrstuvwxyz 0123456789(),-;:=+ANTF" : Str).length ≤ sizeLine := by
  have e : ("abcdefghijklmnopqrstuvwxyz 0123456789(),-;:=+ANTF" : Str).length = 49 := by decide +kernel
  rw [e]
  decide
theorem joinL_nil : ∀ cs : List Nat, TL.joinL [] (cs.map fun c => [c]) = cs
  | [] => rfl
  | [_] => rfl
  | a :: b :: r => by
    show [a] ++ ([] ++ TL.joinL [] ((b :: r).map fun c => [c])) = a :: b :: r
    rw [joinL_nil (b :: r)]
    rfl
theorem join_signs (cs : List Nat) : Txt.join ("" : Str) (cs.map fun c => S [c]) = S cs := by
  have e := SX.join_S [] (cs.map fun c => [c])
  rw [List.map_map, joinL_nil] at e
  rw [str_nil]
  exact e
theorem sum_ones : ∀ cs : List Nat, ((cs.map fun c => S [c]).map (·.length)).sum = cs.length
  | [] => rfl
  | a :: r => by
    show (S [a]).length + ((r.map fun c => S [c]).map (·.length)).sum = r.length + 1
    rw [sum_ones r, S_len]
    simp
    omega
theorem sgn_no {n : Int} (h : 0 ≤ n) : 10 ∉ sgn n := by
  obtain ⟨m, rfl⟩ := Int.eq_ofNat_of_zero_le h
  have e : sgn ((m : Nat) : Int) = TL.numL m := TL.tl_num m
  rw [e]
  exact TL.numL_free (.inl (by decide))
section
variable {P : Program} {w : World} {K : PySem.W.Frag} {mg : Str → Option Value} {base : Heap}
theorem scLDraw : FnScope ["_law_pool_here", "_law_many"] ["_law_pool_here", "_law_many"] (defScope sLDraw) := ⟨rfl, rfl, rfl, by decide +kernel, rfl, by decide +kernel, by decide +kernel⟩
theorem ok_LDraw (T : Tx mg) (D : Df K mg "_law_draw" sLDraw) : Gd P w K mg base CX0 "_law_draw" 1 spDraw := by
  refine gd_mk (ps := ["_law_pool_here", "_law_many"]) D (fun _ _ _ _ _ _ us hl => match us, hl with | [_, _], _ => rfl) fun f fd F => F.ok scLDraw (fun vs H Q E h => ?_) (fun cdv A outer s H vs Q E hr h => ?_)
  · obtain ⟨p, n, rfl, _⟩ := h
    rfl
  · obtain ⟨p, n, rfl, ⟨ns, hns, hp⟩, hn, k⟩ := h
    refine ⟨_, (pss_cons (ps_if (pt_cmpR op_eq (pe_callB call_len_seq (by rfl) T.n_len boot_len (pa_cons (pv 0) pa_nil)) pe_int (nomark _))
        (pss_one (ps_ret pe_int))
        pss_nil)
      (pss_one (ps_ret (pe_op op_mod (pe_callTy call_int1 (by rfl) T.n_int (by decide +kernel) (pa_cons (pe_bm0 PySem.F.plainAttrs_list PySem.F.slot_list_pop PySem.F.type_list_pop mt_pop (pv 0)) pa_nil)) (pv 1))))), ?_⟩
    refine ⟨_, rfl, p, _, rfl, .inl (SqL.of hp), rfl, _, rfl, ite_dec (fun c => ?_) (fun c => ?_)⟩
    · exact k 0 H (by decide) hn ⟨ns, hns, hp⟩ fun b o e _ => e
    · have hl : (ns.map V.int).length ≠ 0 := fun z => c (by rw [z]; rfl)
      rw [List.length_map] at hl
      obtain ⟨z, hz⟩ : ∃ z, ns[ns.length - 1]? = some z := ⟨ns[ns.length - 1]'(by omega), List.getElem?_eq_getElem (by omega)⟩
      have hz2 : (ns.map V.int)[(ns.map V.int).length - 1]? = some (V.int z) := by rw [List.length_map, List.getElem?_map, hz]; rfl
      refine ⟨_, rfl, .inl ⟨rfl, _, SqL.of hp⟩, p, _, _, rfl, rfl, hp, hz2, .inl ⟨_, rfl, _, rfl, _, _, rfl, rfl, hn, ?_⟩⟩
      refine k _ _ (Int.emod_nonneg _ (by omega)) (Int.emod_lt_of_pos _ hn) ⟨ns.dropLast, ?_, ?_⟩ but_upd
      · rw [List.length_dropLast]; omega
      · rw [upd_same, List.map_dropLast]
theorem scLText : FnScope ["_law_pool_here", "_law_signs", "_law_one", "_law_two", "_law_size", "_law_text_here", "_law_k"] ["_law_pool_here"] (defScope sLText) := ⟨rfl, rfl, rfl, by decide +kernel, rfl, by decide +kernel, by decide +kernel⟩
theorem ok_LText (T : Tx mg) (gLDraw : Gd P w K mg base CX0 "_law_draw" 1 spDraw) (D : Df K mg "_law_text" sLText) : Gd P w K mg base CX0 "_law_text" 2 spText := by
  refine gd_mk (ps := ["_law_pool_here"]) D (fun _ _ _ _ _ _ us hl => match us, hl with | [_], _ => rfl) fun f fd F => F.ok scLText (fun vs H Q E h => ?_) (fun cdv A outer s H vs Q E hr h => ?_)
  · obtain ⟨p, rfl, _⟩ := h
    rfl
  · obtain ⟨p, rfl, hP, k⟩ := h
    refine ⟨_, (pss_cons (ps_set (i := 1) scLText.nd rfl (Or.inr rfl) pe_str)
      (pss_cons (ps_set (i := 2) scLText.nd rfl (Or.inr rfl) (pe_gd gLDraw (hr.mono (by decide)) rfl (pa_cons (pv 0) (pa_cons pe_int pa_nil))))
      (pss_cons (ps_set (i := 3) scLText.nd rfl (Or.inr rfl) (pe_gd gLDraw (hr.mono (by decide)) rfl (pa_cons (pv 0) (pa_cons pe_int pa_nil))))
      (pss_cons (ps_set (i := 4) scLText.nd rfl (Or.inl rfl) (pe_ix ix_list (pe_lst (pa_cons pe_int (pa_cons pe_int (pa_cons (pe_op op_add pe_int (pe_op op_mod (pe_callTy call_int1 (by rfl) T.n_int (by decide +kernel) (pa_cons (pv 3) pa_nil)) pe_int)) (pa_cons (pe_op op_add pe_int (pe_op op_mod (pe_callTy call_int1 (by rfl) T.n_int (by decide +kernel) (pa_cons (pe_op op_fdiv (pv 3) pe_int) pa_nil)) pe_int)) pa_nil))))) (pe_op op_mod (pe_callTy call_int1 (by rfl) T.n_int (by decide +kernel) (pa_cons (pv 2) pa_nil)) pe_int) (fun _ _ => rfl)))
      (pss_cons (ps_if (pt_cmpR op_lt (pv 2) pe_int (nomark _))
        (pss_one (ps_set (i := 4) scLText.nd rfl (Or.inl rfl) (pe_op op_add pe_int (pe_op op_mod (pe_callTy call_int1 (by rfl) T.n_int (by decide +kernel) (pa_cons (pv 3) pa_nil)) pe_int))))
        pss_nil)
      (pss_cons (ps_set (i := 5) scLText.nd rfl (Or.inl rfl) (pe_join pe_str (pe_lc (own := [("_law_k", 6)]) (g := gName 6) rfl scLText.nd (pi_range1 rfl T.n_range (pa_cons (pv 4) pa_nil)) (blkOk_by (N := ["_law_pool_here", "_law_signs", "_law_one", "_law_two", "_law_size", "_law_text_here", "_law_k"]) (sc := defScope sLText) (by decide +kernel)) (fun _ _ _ _ _ => pg_name (i := 6) scLText.nd rfl (Or.inl rfl)) (fun _ _ _ _ _ => pts_nil) (fun _ _ _ _ _ => (pe_ix ix_str (pv 1) (pe_op op_mod (pe_callTy call_int1 (by rfl) T.n_int (by decide +kernel) (pa_cons (pe_op op_add (pe_op op_fdiv (pv 2) pe_int) (pe_op op_mul (pv 3) (pv 6))) pa_nil)) pe_int) (fun _ _ => rfl))))))
      (pss_one (ps_ret (pe_ix ix_list (pe_lst (pa_cons (pv 5) (pa_cons (pv 5) (pa_cons (pv 5) (pa_cons (pv 5) (pa_cons (pe_op op_add_str pe_str (pv 5)) (pa_cons (pe_op op_add_str (pe_op op_add_str (pe_callTy call_str_int (by rfl) T.n_str (by decide +kernel) (pa_cons (pv 3) pa_nil)) pe_str) (pv 5)) pa_nil))))))) (pe_op op_mod (pe_callTy call_int1 (by rfl) T.n_int (by decide +kernel) (pa_cons (pe_op op_fdiv (pv 2) pe_int) pa_nil)) pe_int) (fun _ _ => rfl)))))))))), ?_⟩
    refine ⟨_, rfl, p, 2520, rfl, hP, by decide, fun one H1 o1 o2 P1 B1 => ?_⟩
    refine ⟨_, rfl, p, 2520, rfl, P1, by decide, fun two H2 t1 t2 P2 B2 => ?_⟩
    obtain ⟨v, hat, hv⟩ := atI_mem (xs := [V.int 0, V.int 1, V.int (1 + two % 9), V.int (1 + two / 9 % 40)]) (i := one % 4) (Int.emod_nonneg _ (by decide)) (Int.emod_lt_of_pos _ (by decide))
    obtain ⟨sz0, rfl, z0, z1⟩ : ∃ z : Int, v = .int z ∧ 0 ≤ z ∧ z ≤ 199 := by
      simp only [List.mem_cons, List.not_mem_nil, or_false] at hv
      rcases hv with rfl | rfl | rfl | rfl
      · exact ⟨_, rfl, by decide, by decide⟩
      · exact ⟨_, rfl, by decide, by decide⟩
      · exact ⟨_, rfl, by omega, by omega⟩
      · exact ⟨_, rfl, by omega, by omega⟩
    refine ⟨_, rfl, .inl ⟨_, rfl, _, _, rfl, rfl, (by show (0 : Int) < 9; decide), _, _, rfl, rfl, _, rfl, _, _, rfl, rfl, ⟨by decide, by decide⟩, .inl ⟨_, rfl, _, _, rfl, rfl, (by show (0 : Int) < 40; decide), _, _, rfl, rfl, (by show 4 ≤ sizeLine; decide), fun q hq =>
      ⟨_, rfl, .inl ⟨_, rfl, _, _, rfl, rfl, (by show (0 : Int) < 4; decide), q, _, _, _, rfl, rfl, SqL.of upd_same, hat, ?_⟩⟩⟩⟩⟩
    have P3 : Pool (upd H2 q (.lst [V.int 0, V.int 1, V.int (1 + two % 9), V.int (1 + two / 9 % 40)])) p := P2.same (same_upd hq)
    have B3 : But p H (upd H2 q (.lst [V.int 0, V.int 1, V.int (1 + two % 9), V.int (1 + two / 9 % 40)])) := (B1.trans B2).same (same_upd hq)
    revert P3 B3
    generalize upd H2 q (.lst [V.int 0, V.int 1, V.int (1 + two % 9), V.int (1 + two / 9 % 40)]) = H3
    intro P3 B3
    refine ⟨_, rfl, _, _, rfl, rfl, _, rfl, ite_dec (fun c => ?_) (fun c => ?_)⟩
    · refine ⟨_, rfl, .inl ⟨_, rfl, _, _, rfl, rfl, (by show (0 : Int) < 140; decide), _, _, rfl, rfl, ?_⟩⟩
      have hz : 0 ≤ 60 + two % 140 ∧ 60 + two % 140 ≤ 199 := by omega
      obtain ⟨sz, hsz⟩ : ∃ sz, 60 + two % 140 = sz := ⟨_, rfl⟩
      rw [hsz] at hz
      obtain ⟨s0, s1⟩ := hz
      -- "".join([..])
      refine ⟨⟨_, rfl⟩, _, rfl, sz, congrArg (fun z => [V.int z]) hsz, by omega, by omega, fun D hD => lc_range (lo := 0) (n := sz.toNat) (fun i H' => ∃ cs : List Nat, cs.length = i ∧ (∀ c ∈ cs, c ≠ 10) ∧ H' D = some (.lst (cs.map fun c => V.str (S [c]))) ∧ Same H3 H')
        ⟨[], rfl, by simp, upd_same, same_upd hD⟩ ?_ ?_⟩
      · rintro i H' hi ⟨cs, hc, hcs, hD', sm⟩
        obtain ⟨x, hx, hxm⟩ := atI_mem (xs := signsL) (i := (one / 4 + two * (0 + (i : Int))) % 49) (Int.emod_nonneg _ (by decide)) (by rw [signs_len]; exact Int.emod_lt_of_pos _ (by decide))
        refine ⟨rfl, ?_⟩
        refine yes_t ?_
        refine ⟨_, rfl, _, rfl, _, _, rfl, rfl, ⟨by decide, by decide⟩, _, rfl, _, rfl, _, _, rfl, rfl, .inl ⟨by omega, by omega⟩, _, _, rfl, rfl, .inl ⟨_, rfl, _, _, rfl, rfl, (by show (0 : Int) < 49; decide), _, _, x, rfl, rfl, signs_small, hx,
          cs.map (fun c => V.str (S [c])), hD', ?_, cs ++ [x], ?_, ?_, ?_, ?_⟩⟩
        · rw [List.length_map, hc]
          exact Nat.lt_of_lt_of_le (show i < 1000 by omega) (by decide)
        · rw [List.length_append, hc]; rfl
        · intro d hd
          rcases List.mem_append.mp hd with z | z
          · exact hcs d z
          · rw [List.mem_singleton.mp z]
            exact signs_ok x hxm
        · rw [upd_same, List.map_append]; rfl
        · intro b o e
          have nb : b ≠ D := ne_of_none e hD
          rw [upd_ne nb]
          exact sm b o e
      · rintro H' ⟨cs, hc, hcs, hD', sm⟩
        refine ⟨_, D, cs.map fun c => S [c], rfl, rfl, .inl (SqL.of (by rw [hD', List.map_map]; rfl)), ?_, ?_⟩
        · rw [sum_ones, List.length_map]
          have e : ("" : Str).length = 0 := by rw [str_nil, S_len]; rfl
          rw [e]
          omega
        · rw [join_signs]
          have n10 : 10 ∉ cs := fun z => hcs 10 z rfl
          have hlen : cs.length ≤ 199 := by omega
          have hs2 := sgn_len (n := two) t1 (by omega)
          have hd10 : 10 ∉ sgn two := sgn_no t1
          obtain ⟨v6, hat6, hv6⟩ := atI_mem (xs := [V.str (S cs), V.str (S cs), V.str (S cs), V.str (S cs), V.str (S (32 :: cs)), V.str (S (sgn two ++ 32 :: cs))]) (i := one / 4 % 6) (Int.emod_nonneg _ (by decide)) (Int.emod_lt_of_pos _ (by decide))
          obtain ⟨l, rfl, l10, ll⟩ : ∃ l, v6 = .str (S l) ∧ 10 ∉ l ∧ l.length ≤ 300 := by
            simp only [List.mem_cons, List.not_mem_nil, or_false] at hv6
            rcases hv6 with rfl | rfl | rfl | rfl | rfl | rfl
            · exact ⟨cs, rfl, n10, by omega⟩
            · exact ⟨cs, rfl, n10, by omega⟩
            · exact ⟨cs, rfl, n10, by omega⟩
            · exact ⟨cs, rfl, n10, by omega⟩
            · exact ⟨32 :: cs, rfl, by simp [n10], by simp; omega⟩
            · exact ⟨sgn two ++ 32 :: cs, rfl, by simp [n10, hd10], by simp; omega⟩
          refine ⟨_, rfl, _, rfl, _, rfl, _, rfl, _, rfl, _, _, rfl, rfl, lenS str_sp rfl (by simp; omega), _, rfl, _, rfl, log_small (by omega), _, _, rfl, rfl, lenS (sgn_S _) str_sp (by simp; omega), _, rfl, _, _, rfl, rfl, lenS (appS (sgn_S _) str_sp) rfl (by simp; omega),
            (by show 6 ≤ sizeLine; decide), fun q6 hq6 => ?_⟩
          rw [show (" " : Str) ++ S cs = S (32 :: cs) from appS str_sp rfl, show (toString two : Str) ++ (" " : Str) ++ S cs = S (sgn two ++ 32 :: cs) from (appS (appS (sgn_S _) str_sp) rfl).trans (congrArg S (by simp))]
          refine ⟨_, rfl, _, _, rfl, rfl, ⟨by decide, by decide⟩, .inl ⟨_, rfl, _, _, rfl, rfl, (by show (0 : Int) < 6; decide), q6, _, _, _, rfl, rfl, SqL.of upd_same, hat6, ?_⟩⟩
          exact k l _ l10 ll ((P3.same sm).same (same_upd hq6)) ((B3.same sm).same (same_upd hq6))
    · have hz : 0 ≤ sz0 ∧ sz0 ≤ 199 := ⟨z0, z1⟩
      obtain ⟨sz, hsz⟩ : ∃ sz, sz0 = sz := ⟨_, rfl⟩
      rw [hsz] at hz
      obtain ⟨s0, s1⟩ := hz
      -- "".join([..])
      refine ⟨⟨_, rfl⟩, _, rfl, sz, congrArg (fun z => [V.int z]) hsz, by omega, by omega, fun D hD => lc_range (lo := 0) (n := sz.toNat) (fun i H' => ∃ cs : List Nat, cs.length = i ∧ (∀ c ∈ cs, c ≠ 10) ∧ H' D = some (.lst (cs.map fun c => V.str (S [c]))) ∧ Same H3 H')
        ⟨[], rfl, by simp, upd_same, same_upd hD⟩ ?_ ?_⟩
      · rintro i H' hi ⟨cs, hc, hcs, hD', sm⟩
        obtain ⟨x, hx, hxm⟩ := atI_mem (xs := signsL) (i := (one / 4 + two * (0 + (i : Int))) % 49) (Int.emod_nonneg _ (by decide)) (by rw [signs_len]; exact Int.emod_lt_of_pos _ (by decide))
        refine ⟨rfl, ?_⟩
        refine yes_t ?_
        refine ⟨_, rfl, _, rfl, _, _, rfl, rfl, ⟨by decide, by decide⟩, _, rfl, _, rfl, _, _, rfl, rfl, .inl ⟨by omega, by omega⟩, _, _, rfl, rfl, .inl ⟨_, rfl, _, _, rfl, rfl, (by show (0 : Int) < 49; decide), _, _, x, rfl, rfl, signs_small, hx,
          cs.map (fun c => V.str (S [c])), hD', ?_, cs ++ [x], ?_, ?_, ?_, ?_⟩⟩
        · rw [List.length_map, hc]
          exact Nat.lt_of_lt_of_le (show i < 1000 by omega) (by decide)
        · rw [List.length_append, hc]; rfl
        · intro d hd
          rcases List.mem_append.mp hd with z | z
          · exact hcs d z
          · rw [List.mem_singleton.mp z]
            exact signs_ok x hxm
        · rw [upd_same, List.map_append]; rfl
        · intro b o e
          have nb : b ≠ D := ne_of_none e hD
          rw [upd_ne nb]
          exact sm b o e
      · rintro H' ⟨cs, hc, hcs, hD', sm⟩
        refine ⟨_, D, cs.map fun c => S [c], rfl, rfl, .inl (SqL.of (by rw [hD', List.map_map]; rfl)), ?_, ?_⟩
        · rw [sum_ones, List.length_map]
          have e : ("" : Str).length = 0 := by rw [str_nil, S_len]; rfl
          rw [e]
          omega
        · rw [join_signs]
          have n10 : 10 ∉ cs := fun z => hcs 10 z rfl
          have hlen : cs.length ≤ 199 := by omega
          have hs2 := sgn_len (n := two) t1 (by omega)
          have hd10 : 10 ∉ sgn two := sgn_no t1
          obtain ⟨v6, hat6, hv6⟩ := atI_mem (xs := [V.str (S cs), V.str (S cs), V.str (S cs), V.str (S cs), V.str (S (32 :: cs)), V.str (S (sgn two ++ 32 :: cs))]) (i := one / 4 % 6) (Int.emod_nonneg _ (by decide)) (Int.emod_lt_of_pos _ (by decide))
          obtain ⟨l, rfl, l10, ll⟩ : ∃ l, v6 = .str (S l) ∧ 10 ∉ l ∧ l.length ≤ 300 := by
            simp only [List.mem_cons, List.not_mem_nil, or_false] at hv6
            rcases hv6 with rfl | rfl | rfl | rfl | rfl | rfl
            · exact ⟨cs, rfl, n10, by omega⟩
            · exact ⟨cs, rfl, n10, by omega⟩
            · exact ⟨cs, rfl, n10, by omega⟩
            · exact ⟨cs, rfl, n10, by omega⟩
            · exact ⟨32 :: cs, rfl, by simp [n10], by simp; omega⟩
            · exact ⟨sgn two ++ 32 :: cs, rfl, by simp [n10, hd10], by simp; omega⟩
          refine ⟨_, rfl, _, rfl, _, rfl, _, rfl, _, rfl, _, _, rfl, rfl, lenS str_sp rfl (by simp; omega), _, rfl, _, rfl, log_small (by omega), _, _, rfl, rfl, lenS (sgn_S _) str_sp (by simp; omega), _, rfl, _, _, rfl, rfl, lenS (appS (sgn_S _) str_sp) rfl (by simp; omega),
            (by show 6 ≤ sizeLine; decide), fun q6 hq6 => ?_⟩
          rw [show (" " : Str) ++ S cs = S (32 :: cs) from appS str_sp rfl, show (toString two : Str) ++ (" " : Str) ++ S cs = S (sgn two ++ 32 :: cs) from (appS (appS (sgn_S _) str_sp) rfl).trans (congrArg S (by simp))]
          refine ⟨_, rfl, _, _, rfl, rfl, ⟨by decide, by decide⟩, .inl ⟨_, rfl, _, _, rfl, rfl, (by show (0 : Int) < 6; decide), q6, _, _, _, rfl, rfl, SqL.of upd_same, hat6, ?_⟩⟩
          exact k l _ l10 ll ((P3.same sm).same (same_upd hq6)) ((B3.same sm).same (same_upd hq6))
end
end Wd
/-! The law's cut, its test of sameness. -/
namespace Wd
open PySem PySem.Spec PyProof.Rows L2
section
variable {P : Program} {w : World} {K : PySem.W.Frag} {mg : Str → Option Value} {base : Heap}
theorem scLCut : FnScope ["_law_pool_here", "_law_full", "_law_way", "_law_some"] ["_law_pool_here", "_law_full"] (defScope sLCut) := ⟨rfl, rfl, rfl, by decide +kernel, rfl, by decide +kernel, by decide +kernel⟩
theorem ok_LCut (T : Tx mg) (gLDraw : Gd P w K mg base CX0 "_law_draw" 1 spDraw) (D : Df K mg "_law_cut" sLCut) : Gd P w K mg base CX0 "_law_cut" 2 spCut := by
  refine gd_mk (ps := ["_law_pool_here", "_law_full"]) D (fun _ _ _ _ _ _ us hl => match us, hl with | [_, _], _ => rfl) fun f fd F => F.ok scLCut (fun vs H Q E h => ?_) (fun cdv A outer s H vs Q E hr h => ?_)
  · obtain ⟨p, n, rfl, _⟩ := h
    rfl
  · obtain ⟨p, n, rfl, hP, n0, n1, k⟩ := h
    refine ⟨_, (pss_cons (ps_set (i := 2) scLCut.nd rfl (Or.inl rfl) (pe_gd gLDraw (hr.mono (by decide)) rfl (pa_cons (pv 0) (pa_cons pe_int pa_nil))))
      (pss_cons (ps_set (i := 3) scLCut.nd rfl (Or.inl rfl) (pe_op op_mod (pe_callTy call_int1 (by rfl) T.n_int (by decide +kernel) (pa_cons (pe_gd gLDraw (hr.mono (by decide)) rfl (pa_cons (pv 0) (pa_cons pe_int pa_nil))) pa_nil)) (pe_op op_add (pv 1) pe_int)))
      (pss_one (ps_ret (pe_ix ix_list (pe_lst (pa_cons pe_non (pa_cons pe_int (pa_cons (pe_op op_sub (pv 1) pe_int) (pa_cons (pv 1) (pa_cons (pv 3) (pa_cons (pe_op op_add (pe_op op_add (pv 1) pe_int) (pv 3)) pa_nil))))))) (pv 2) (fun _ _ => rfl)))))), ?_⟩
    refine ⟨_, rfl, p, 6, rfl, hP, by decide, fun way H1 w1 w2 P1 B1 => ?_⟩
    refine ⟨_, rfl, p, 2520, rfl, P1, by decide, fun som H2 s1 s2 P2 B2 => ?_⟩
    have m1 : 0 ≤ som % (n + 2) := Int.emod_nonneg _ (by omega)
    refine .inl ⟨_, rfl, _, rfl, _, _, rfl, rfl, _, _, rfl, rfl, (by show (0 : Int) < n + 2; omega), ?_⟩
    obtain ⟨v, hat, hv⟩ := atI_mem (xs := [V.non, V.int 0, V.int (n - 1), V.int n, V.int (som % (n + 2)), V.int (n + 1 + som % (n + 2))]) (i := way) w1 w2
    have hc : IsCut v := by
      simp only [List.mem_cons, List.not_mem_nil, or_false] at hv
      rcases hv with rfl | rfl | rfl | rfl | rfl | rfl
      · exact .inl rfl
      all_goals exact .inr ⟨_, rfl⟩
    refine ⟨_, rfl, _, _, rfl, rfl, _, rfl, _, rfl, _, rfl, _, _, rfl, rfl, _, rfl, _, _, rfl, rfl, (by show 6 ≤ sizeLine; decide), fun q hq => ?_⟩
    refine ⟨_, rfl, q, _, _, _, rfl, rfl, SqL.of upd_same, hat, ?_⟩
    exact k v _ hc (P2.same (same_upd hq)) ((B1.trans B2).same (same_upd hq))
theorem scLSame : FnScope ["_law_told", "_law_due", "_law_k"] ["_law_told", "_law_due"] (defScope sLSame) := ⟨rfl, rfl, rfl, by decide +kernel, rfl, by decide +kernel, by decide +kernel⟩
/-- told as due, flat values -/
def spFlat : Sp := fun vs H Q _ => ∃ x, vs = [x, x] ∧ Flat x ∧ Q (.bl true) H
theorem okH {x qual : Str} {st : Stmt} {f : Addr} {fd : FuncData} {N ps : List Str} {k : Nat} {sp : Sp} (F : Fun K x qual st f fd) (S : FnScope N ps (defScope st)) (len : ∀ vs H Q E, sp vs H Q E → vs.length = ps.length)
    (hbody : ∀ (cdv : Value) (A : Around) (outer : List Env) (s : Shared) (H : Hp) (vs : List V) (Q : VK) (E : XK) (p : Addr × Obj), L2H.Hot1 A p → L2H.RoomH k (A.deeper (envOfC qual (defScope st) s.heap.objs.size f cdv)) → sp vs H Q E →
      ∃ t, PSs (L2H.cxH CX0 P w K mg base N qual (defScope st) f cdv A outer s H E p).nox (defBody st) t ∧ t { nx := fun _ H' => Q .non H', rt := Q } (L2.start N vs) H) : L2H.FnH P w K mg base CX0 (k + 1) f fd ps sp := by
  obtain ⟨oc, od, kV, doc, pm, an, cdv, ct, osl, rfl, lk, hcd⟩ := F.ex
  refine L2H.fn_ofH lk hcd S len fun A outer s H vs Q E p hot hr h => ?_
  obtain ⟨t, h1, q⟩ := hbody cdv A outer s H vs Q E p hot hr h
  exact ⟨t, h1.nox, q⟩
theorem gh_mk {x : Str} {st : Stmt} {k : Nat} {sp : Sp} {ps : List Str} (D : Df K mg x st) (hb : ∀ (kV doc pm : Value) (an : Option Addr) (cdv ct : Value) (us : List Value), us.length = ps.length → bindArgs (PySem.W.fnOf x x (defArgs st) (defBody st) (defScope st) .none kV doc pm an cdv ct) ⟨us, []⟩ = pure (ps.zip us))
    (h : ∀ f fd, Fun K x x st f fd → L2H.FnH P w K mg base CX0 k f fd ps sp) : Gh P w K mg base CX0 x k sp := by
  obtain ⟨f, fd, hm, F⟩ := D
  exact ⟨f, fd, ps, h f fd F, hm, F.kp, F.binds hb⟩
theorem ok_LSame1 (T : Tx mg) (D : Df K mg "_law_same" sLSame) : Gd P w K mg base CX0 "_law_same" 1 spFlat := by
  refine gd_mk (ps := ["_law_told", "_law_due"]) D (fun _ _ _ _ _ _ us hl => match us, hl with | [_, _], _ => rfl) fun f fd F => F.ok scLSame (fun vs H Q E h => ?_) (fun cdv A outer s H vs Q E hr h => ?_)
  · obtain ⟨x, rfl, _⟩ := h
    rfl
  · obtain ⟨x, rfl, hF, k⟩ := h
    refine ⟨_, (pss_cons (ps_if (pt_val (pe_callB call_isi (by rfl) T.n_isinstance (by decide +kernel) (pa_cons (pv 1) (pa_cons (pe_bltn (v := .ty "tuple") (u := .type "tuple") rfl T.n_tuple (by decide +kernel) rfl) pa_nil))))
        pss_never
        pss_nil)
      (pss_cons (ps_if (pt_cmpR op_isN (pv 1) pe_non (nomark _))
        (pss_one (ps_ret (pe_cmpR op_isN (pv 0) pe_non (nomark _))))
        pss_nil)
      (pss_cons (ps_if (pt_val (pe_callB call_isi (by rfl) T.n_isinstance (by decide +kernel) (pa_cons (pv 1) (pa_cons (pe_bltn (v := .ty "bool") (u := .type "bool") rfl T.n_bool (by decide +kernel) rfl) pa_nil))))
        (pss_one (ps_ret (pe_and (pe_callB call_isi (by rfl) T.n_isinstance (by decide +kernel) (pa_cons (pv 0) (pa_cons (pe_bltn (v := .ty "bool") (u := .type "bool") rfl T.n_bool (by decide +kernel) rfl) pa_nil))) (pe_one (pe_cmpR op_eq (pv 0) (pv 1) (nomark _))))))
        pss_nil)
      (pss_cons (ps_if (pt_val (pe_callB call_isi (by rfl) T.n_isinstance (by decide +kernel) (pa_cons (pv 1) (pa_cons (pe_bltn (v := .ty "str") (u := .type "str") rfl T.n_str (by decide +kernel) rfl) pa_nil))))
        (pss_one (ps_ret (pe_and (pe_callB call_isi (by rfl) T.n_isinstance (by decide +kernel) (pa_cons (pv 0) (pa_cons (pe_bltn (v := .ty "str") (u := .type "str") rfl T.n_str (by decide +kernel) rfl) pa_nil))) (pe_one (pe_cmpR op_eq (pv 0) (pv 1) (nomark _))))))
        pss_nil)
      (pss_one (ps_ret (pe_and (pe_callB call_isi (by rfl) T.n_isinstance (by decide +kernel) (pa_cons (pv 0) (pa_cons (pe_bltn (v := .ty "int") (u := .type "int") rfl T.n_int (by decide +kernel) rfl) pa_nil))) (pe_and (pe_not (pe_callB call_isi (by rfl) T.n_isinstance (by decide +kernel) (pa_cons (pv 0) (pa_cons (pe_bltn (v := .ty "bool") (u := .type "bool") rfl T.n_bool (by decide +kernel) rfl) pa_nil)))) (pe_one (pe_cmpR op_eq (pv 0) (pv 1) (nomark _))))))))))), ?_⟩
    cases x with
    | bl b =>
      refine ⟨_, rfl, .bl b, .ty "tuple", .type "bool", .type "tuple", false, rfl, .ty _, .base (.bl _), kit_ty (by decide +kernel), _, rfl, ite_f ?_⟩
      refine ⟨_, rfl, rfl, _, rfl, ite_dec (fun z => by cases z) (fun _ => ?_)⟩
      refine ⟨_, rfl, .bl b, .ty "bool", .type "bool", .type "bool", true, rfl, .ty _, .base (.bl _), kit_ty (by decide +kernel), _, rfl, ite_t ?_⟩
      refine ⟨_, rfl, .bl b, .ty "bool", .type "bool", .type "bool", true, rfl, .ty _, .base (.bl _), kit_ty (by decide +kernel), _, rfl, ite_t ?_⟩
      refine ⟨_, rfl, _, rfl, rfl, ?_⟩
      rw [decide_eq_true rfl]
      exact k
    | str z =>
      refine ⟨_, rfl, .str z, .ty "tuple", .type "str", .type "tuple", false, rfl, .ty _, .base (.str _), kit_ty (by decide +kernel), _, rfl, ite_f ?_⟩
      refine ⟨_, rfl, rfl, _, rfl, ite_dec (fun z => by cases z) (fun _ => ?_)⟩
      refine ⟨_, rfl, .str z, .ty "bool", .type "str", .type "bool", false, rfl, .ty _, .base (.str _), kit_ty (by decide +kernel), _, rfl, ite_f ?_⟩
      refine ⟨_, rfl, .str z, .ty "str", .type "str", .type "str", true, rfl, .ty _, .base (.str _), kit_ty (by decide +kernel), _, rfl, ite_t ?_⟩
      refine ⟨_, rfl, .str z, .ty "str", .type "str", .type "str", true, rfl, .ty _, .base (.str _), kit_ty (by decide +kernel), _, rfl, ite_t ?_⟩
      refine ⟨_, rfl, _, rfl, rfl, ?_⟩
      rw [decide_eq_true rfl]
      exact k
    | int i =>
      refine ⟨_, rfl, .int i, .ty "tuple", .type "int", .type "tuple", false, rfl, .ty _, .base (.int _), kit_ty (by decide +kernel), _, rfl, ite_f ?_⟩
      refine ⟨_, rfl, rfl, _, rfl, ite_dec (fun z => by cases z) (fun _ => ?_)⟩
      refine ⟨_, rfl, .int i, .ty "bool", .type "int", .type "bool", false, rfl, .ty _, .base (.int _), kit_ty (by decide +kernel), _, rfl, ite_f ?_⟩
      refine ⟨_, rfl, .int i, .ty "str", .type "int", .type "str", false, rfl, .ty _, .base (.int _), kit_ty (by decide +kernel), _, rfl, ite_f ?_⟩
      refine ⟨_, rfl, .int i, .ty "int", .type "int", .type "int", true, rfl, .ty _, .base (.int _), kit_ty (by decide +kernel), _, rfl, ite_t ?_⟩
      refine ⟨_, rfl, .int i, .ty "bool", .type "int", .type "bool", false, rfl, .ty _, .base (.int _), kit_ty (by decide +kernel), _, rfl, _, rfl, ite_t ?_⟩
      refine ⟨_, rfl, _, rfl, rfl, ?_⟩
      rw [decide_eq_true rfl]
      exact k
    | _ => exact hF.elim
theorem ok_LSame (T : Tx mg) (gS1 : Gd P w K mg base CX0 "_law_same" 1 spFlat) (D : Df K mg "_law_same" sLSame) : Gd P w K mg base CX0 "_law_same" 2 spSame := by
  refine gd_mk (ps := ["_law_told", "_law_due"]) D (fun _ _ _ _ _ _ us hl => match us, hl with | [_, _], _ => rfl) fun f fd F => F.ok scLSame (fun vs H Q E h => ?_) (fun cdv A outer s H vs Q E hr h => ?_)
  · rcases h with ⟨x, rfl, _⟩ | ⟨a, b, ls, rfl, _⟩
    · rfl
    · rfl
  ·
    refine ⟨_, (pss_cons (ps_if (pt_val (pe_callB call_isi (by rfl) T.n_isinstance (by decide +kernel) (pa_cons (pv 1) (pa_cons (pe_bltn (v := .ty "tuple") (u := .type "tuple") rfl T.n_tuple (by decide +kernel) rfl) pa_nil))))
        (pss_cons (ps_if (PW.pt (pw_or (pt_not (pt_val (pe_callB call_isi (by rfl) T.n_isinstance (by decide +kernel) (pa_cons (pv 0) (pa_cons (pe_bltn (v := .ty "tuple") (u := .type "tuple") rfl T.n_tuple (by decide +kernel) rfl) pa_nil))))) (pw_or1 (pt_cmpR op_ne (pe_callB call_len_seq (by rfl) T.n_len boot_len (pa_cons (pv 0) pa_nil)) (pe_callB call_len_seq (by rfl) T.n_len boot_len (pa_cons (pv 1) pa_nil)) (nomark _)))))
          (pss_one (ps_ret pe_bl))
          pss_nil)
        (pss_cons (ps_for PassesOwn.never rfl (pi_range1 rfl T.n_range (pa_cons (pe_callB call_len_seq (by rfl) T.n_len boot_len (pa_cons (pv 1) pa_nil)) pa_nil)) (pg_name (i := 2) scLSame.nd rfl (Or.inl rfl))
          (pss_one (ps_if (pt_not (pt_val (pe_gd gS1 (hr.mono (by decide)) rfl (pa_cons (pe_ix ix_tup (pv 0) (pv 2) (fun _ _ => rfl)) (pa_cons (pe_ix ix_tup (pv 1) (pv 2) (fun _ _ => rfl)) pa_nil)))))
            (pss_one (ps_ret pe_bl))
            pss_nil)))
        (pss_one (ps_ret pe_bl))))
        pss_nil)
      (pss_cons (ps_if (pt_cmpR op_isN (pv 1) pe_non (nomark _))
        (pss_one (ps_ret (pe_cmpR op_isN (pv 0) pe_non (nomark _))))
        pss_nil)
      (pss_cons (ps_if (pt_val (pe_callB call_isi (by rfl) T.n_isinstance (by decide +kernel) (pa_cons (pv 1) (pa_cons (pe_bltn (v := .ty "bool") (u := .type "bool") rfl T.n_bool (by decide +kernel) rfl) pa_nil))))
        (pss_one (ps_ret (pe_and (pe_callB call_isi (by rfl) T.n_isinstance (by decide +kernel) (pa_cons (pv 0) (pa_cons (pe_bltn (v := .ty "bool") (u := .type "bool") rfl T.n_bool (by decide +kernel) rfl) pa_nil))) (pe_one (pe_cmpR op_eq (pv 0) (pv 1) (nomark _))))))
        pss_nil)
      (pss_cons (ps_if (pt_val (pe_callB call_isi (by rfl) T.n_isinstance (by decide +kernel) (pa_cons (pv 1) (pa_cons (pe_bltn (v := .ty "str") (u := .type "str") rfl T.n_str (by decide +kernel) rfl) pa_nil))))
        (pss_one (ps_ret (pe_and (pe_callB call_isi (by rfl) T.n_isinstance (by decide +kernel) (pa_cons (pv 0) (pa_cons (pe_bltn (v := .ty "str") (u := .type "str") rfl T.n_str (by decide +kernel) rfl) pa_nil))) (pe_one (pe_cmpR op_eq (pv 0) (pv 1) (nomark _))))))
        pss_nil)
      (pss_one (ps_ret (pe_and (pe_callB call_isi (by rfl) T.n_isinstance (by decide +kernel) (pa_cons (pv 0) (pa_cons (pe_bltn (v := .ty "int") (u := .type "int") rfl T.n_int (by decide +kernel) rfl) pa_nil))) (pe_and (pe_not (pe_callB call_isi (by rfl) T.n_isinstance (by decide +kernel) (pa_cons (pv 0) (pa_cons (pe_bltn (v := .ty "bool") (u := .type "bool") rfl T.n_bool (by decide +kernel) rfl) pa_nil)))) (pe_one (pe_cmpR op_eq (pv 0) (pv 1) (nomark _))))))))))), ?_⟩
    rcases h with ⟨x, rfl, hF, k⟩ | ⟨a, b, ls, rfl, ea, eb, hl, k⟩
    · cases x with
      | bl b =>
        refine ⟨_, rfl, .bl b, .ty "tuple", .type "bool", .type "tuple", false, rfl, .ty _, .base (.bl _), kit_ty (by decide +kernel), _, rfl, ite_f ?_⟩
        refine ⟨_, rfl, rfl, _, rfl, ite_dec (fun z => by cases z) (fun _ => ?_)⟩
        refine ⟨_, rfl, .bl b, .ty "bool", .type "bool", .type "bool", true, rfl, .ty _, .base (.bl _), kit_ty (by decide +kernel), _, rfl, ite_t ?_⟩
        refine ⟨_, rfl, .bl b, .ty "bool", .type "bool", .type "bool", true, rfl, .ty _, .base (.bl _), kit_ty (by decide +kernel), _, rfl, ite_t ?_⟩
        refine ⟨_, rfl, _, rfl, rfl, ?_⟩
        rw [decide_eq_true rfl]
        exact k
      | str z =>
        refine ⟨_, rfl, .str z, .ty "tuple", .type "str", .type "tuple", false, rfl, .ty _, .base (.str _), kit_ty (by decide +kernel), _, rfl, ite_f ?_⟩
        refine ⟨_, rfl, rfl, _, rfl, ite_dec (fun z => by cases z) (fun _ => ?_)⟩
        refine ⟨_, rfl, .str z, .ty "bool", .type "str", .type "bool", false, rfl, .ty _, .base (.str _), kit_ty (by decide +kernel), _, rfl, ite_f ?_⟩
        refine ⟨_, rfl, .str z, .ty "str", .type "str", .type "str", true, rfl, .ty _, .base (.str _), kit_ty (by decide +kernel), _, rfl, ite_t ?_⟩
        refine ⟨_, rfl, .str z, .ty "str", .type "str", .type "str", true, rfl, .ty _, .base (.str _), kit_ty (by decide +kernel), _, rfl, ite_t ?_⟩
        refine ⟨_, rfl, _, rfl, rfl, ?_⟩
        rw [decide_eq_true rfl]
        exact k
      | int i =>
        refine ⟨_, rfl, .int i, .ty "tuple", .type "int", .type "tuple", false, rfl, .ty _, .base (.int _), kit_ty (by decide +kernel), _, rfl, ite_f ?_⟩
        refine ⟨_, rfl, rfl, _, rfl, ite_dec (fun z => by cases z) (fun _ => ?_)⟩
        refine ⟨_, rfl, .int i, .ty "bool", .type "int", .type "bool", false, rfl, .ty _, .base (.int _), kit_ty (by decide +kernel), _, rfl, ite_f ?_⟩
        refine ⟨_, rfl, .int i, .ty "str", .type "int", .type "str", false, rfl, .ty _, .base (.int _), kit_ty (by decide +kernel), _, rfl, ite_f ?_⟩
        refine ⟨_, rfl, .int i, .ty "int", .type "int", .type "int", true, rfl, .ty _, .base (.int _), kit_ty (by decide +kernel), _, rfl, ite_t ?_⟩
        refine ⟨_, rfl, .int i, .ty "bool", .type "int", .type "bool", false, rfl, .ty _, .base (.int _), kit_ty (by decide +kernel), _, rfl, _, rfl, ite_t ?_⟩
        refine ⟨_, rfl, _, rfl, rfl, ?_⟩
        rw [decide_eq_true rfl]
        exact k
      | _ => exact hF.elim
    · refine ⟨_, rfl, .ref b, .ty "tuple", .type "tuple", .type "tuple", true, rfl, .ty _, .base (.tup eb), kit_ty (by decide +kernel), _, rfl, ite_t ?_⟩
      refine ⟨_, rfl, .ref a, .ty "tuple", .type "tuple", .type "tuple", true, rfl, .ty _, .base (.tup ea), kit_ty (by decide +kernel), _, rfl, ite_f ?_⟩
      refine ⟨_, rfl, a, _, rfl, .inr (SqT.of ea), _, rfl, b, _, rfl, .inr (SqT.of eb), rfl, _, rfl, ite_ndec (fun c => absurd rfl c) (fun _ => ?_)⟩
      refine ⟨_, rfl, b, _, rfl, .inr (SqT.of eb), _, rfl, by rw [List.length_map]; omega, by rw [List.length_map]; omega, for_range (fun i σ H' => H' = H ∧ ∃ z, σ = [some (V.ref a), some (V.ref b), z]) ⟨rfl, _, rfl⟩ ?_ ?_⟩
      · rintro i σ H' hi ⟨rfl, z, rfl⟩
        obtain ⟨x, hx, hxm⟩ := atI_mem (xs := ls.map fun z => V.str (S z)) (i := 0 + (i : Int)) (by omega) (by omega)
        obtain ⟨l, _, rfl⟩ := List.mem_map.mp hxm
        refine ⟨_, rfl, _, rfl, a, _, _, _, rfl, rfl, SqT.of ea, hx, _, rfl, _, rfl, b, _, _, _, rfl, rfl, SqT.of eb, hx, _, rfl, trivial, _, rfl, ite_f ⟨rfl, _, rfl⟩⟩
      · rintro σ H' ⟨rfl, z, rfl⟩
        exact k
theorem ok_LSameH1 (T : Tx mg) (D : Df K mg "_law_same" sLSame) : Gh P w K mg base CX0 "_law_same" 1 spFlat := by
  refine gh_mk (ps := ["_law_told", "_law_due"]) D (fun _ _ _ _ _ _ us hl => match us, hl with | [_, _], _ => rfl) fun f fd F => okH F scLSame (fun vs H Q E h => ?_) (fun cdv A outer s H vs Q E p hot hr h => ?_)
  · obtain ⟨x, rfl, _⟩ := h
    rfl
  · obtain ⟨x, rfl, hF, k⟩ := h
    refine ⟨_, (pss_cons (ps_if (pt_val (pe_callB call_isi (by rfl) T.n_isinstance (by decide +kernel) (pa_cons (pv 1) (pa_cons (pe_bltn (v := .ty "tuple") (u := .type "tuple") rfl T.n_tuple (by decide +kernel) rfl) pa_nil))))
        pss_never
        pss_nil)
      (pss_cons (ps_if (pt_cmpR op_isN (pv 1) pe_non (nomark _))
        (pss_one (ps_ret (pe_cmpR op_isN (pv 0) pe_non (nomark _))))
        pss_nil)
      (pss_cons (ps_if (pt_val (pe_callB call_isi (by rfl) T.n_isinstance (by decide +kernel) (pa_cons (pv 1) (pa_cons (pe_bltn (v := .ty "bool") (u := .type "bool") rfl T.n_bool (by decide +kernel) rfl) pa_nil))))
        (pss_one (ps_ret (pe_and (pe_callB call_isi (by rfl) T.n_isinstance (by decide +kernel) (pa_cons (pv 0) (pa_cons (pe_bltn (v := .ty "bool") (u := .type "bool") rfl T.n_bool (by decide +kernel) rfl) pa_nil))) (pe_one (pe_cmpR op_eq (pv 0) (pv 1) (nomark _))))))
        pss_nil)
      (pss_cons (ps_if (pt_val (pe_callB call_isi (by rfl) T.n_isinstance (by decide +kernel) (pa_cons (pv 1) (pa_cons (pe_bltn (v := .ty "str") (u := .type "str") rfl T.n_str (by decide +kernel) rfl) pa_nil))))
        (pss_one (ps_ret (pe_and (pe_callB call_isi (by rfl) T.n_isinstance (by decide +kernel) (pa_cons (pv 0) (pa_cons (pe_bltn (v := .ty "str") (u := .type "str") rfl T.n_str (by decide +kernel) rfl) pa_nil))) (pe_one (pe_cmpR op_eq (pv 0) (pv 1) (nomark _))))))
        pss_nil)
      (pss_one (ps_ret (pe_and (pe_callB call_isi (by rfl) T.n_isinstance (by decide +kernel) (pa_cons (pv 0) (pa_cons (pe_bltn (v := .ty "int") (u := .type "int") rfl T.n_int (by decide +kernel) rfl) pa_nil))) (pe_and (pe_not (pe_callB call_isi (by rfl) T.n_isinstance (by decide +kernel) (pa_cons (pv 0) (pa_cons (pe_bltn (v := .ty "bool") (u := .type "bool") rfl T.n_bool (by decide +kernel) rfl) pa_nil)))) (pe_one (pe_cmpR op_eq (pv 0) (pv 1) (nomark _))))))))))), ?_⟩
    cases x with
    | bl b =>
      refine ⟨_, rfl, .bl b, .ty "tuple", .type "bool", .type "tuple", false, rfl, .ty _, .base (.bl _), kit_ty (by decide +kernel), _, rfl, ite_f ?_⟩
      refine ⟨_, rfl, rfl, _, rfl, ite_dec (fun z => by cases z) (fun _ => ?_)⟩
      refine ⟨_, rfl, .bl b, .ty "bool", .type "bool", .type "bool", true, rfl, .ty _, .base (.bl _), kit_ty (by decide +kernel), _, rfl, ite_t ?_⟩
      refine ⟨_, rfl, .bl b, .ty "bool", .type "bool", .type "bool", true, rfl, .ty _, .base (.bl _), kit_ty (by decide +kernel), _, rfl, ite_t ?_⟩
      refine ⟨_, rfl, _, rfl, rfl, ?_⟩
      rw [decide_eq_true rfl]
      exact k
    | str z =>
      refine ⟨_, rfl, .str z, .ty "tuple", .type "str", .type "tuple", false, rfl, .ty _, .base (.str _), kit_ty (by decide +kernel), _, rfl, ite_f ?_⟩
      refine ⟨_, rfl, rfl, _, rfl, ite_dec (fun z => by cases z) (fun _ => ?_)⟩
      refine ⟨_, rfl, .str z, .ty "bool", .type "str", .type "bool", false, rfl, .ty _, .base (.str _), kit_ty (by decide +kernel), _, rfl, ite_f ?_⟩
      refine ⟨_, rfl, .str z, .ty "str", .type "str", .type "str", true, rfl, .ty _, .base (.str _), kit_ty (by decide +kernel), _, rfl, ite_t ?_⟩
      refine ⟨_, rfl, .str z, .ty "str", .type "str", .type "str", true, rfl, .ty _, .base (.str _), kit_ty (by decide +kernel), _, rfl, ite_t ?_⟩
      refine ⟨_, rfl, _, rfl, rfl, ?_⟩
      rw [decide_eq_true rfl]
      exact k
    | int i =>
      refine ⟨_, rfl, .int i, .ty "tuple", .type "int", .type "tuple", false, rfl, .ty _, .base (.int _), kit_ty (by decide +kernel), _, rfl, ite_f ?_⟩
      refine ⟨_, rfl, rfl, _, rfl, ite_dec (fun z => by cases z) (fun _ => ?_)⟩
      refine ⟨_, rfl, .int i, .ty "bool", .type "int", .type "bool", false, rfl, .ty _, .base (.int _), kit_ty (by decide +kernel), _, rfl, ite_f ?_⟩
      refine ⟨_, rfl, .int i, .ty "str", .type "int", .type "str", false, rfl, .ty _, .base (.int _), kit_ty (by decide +kernel), _, rfl, ite_f ?_⟩
      refine ⟨_, rfl, .int i, .ty "int", .type "int", .type "int", true, rfl, .ty _, .base (.int _), kit_ty (by decide +kernel), _, rfl, ite_t ?_⟩
      refine ⟨_, rfl, .int i, .ty "bool", .type "int", .type "bool", false, rfl, .ty _, .base (.int _), kit_ty (by decide +kernel), _, rfl, _, rfl, ite_t ?_⟩
      refine ⟨_, rfl, _, rfl, rfl, ?_⟩
      rw [decide_eq_true rfl]
      exact k
    | _ => exact hF.elim
theorem ok_LSameH (T : Tx mg) (gS1 : Gh P w K mg base CX0 "_law_same" 1 spFlat) (D : Df K mg "_law_same" sLSame) : Gh P w K mg base CX0 "_law_same" 2 spSame := by
  refine gh_mk (ps := ["_law_told", "_law_due"]) D (fun _ _ _ _ _ _ us hl => match us, hl with | [_, _], _ => rfl) fun f fd F => okH F scLSame (fun vs H Q E h => ?_) (fun cdv A outer s H vs Q E p hot hr h => ?_)
  · rcases h with ⟨x, rfl, _⟩ | ⟨a, b, ls, rfl, _⟩
    · rfl
    · rfl
  ·
    have hc : L2H.HotC (L2H.cxH CX0 P w K mg base ["_law_told", "_law_due", "_law_k"] "_law_same" (defScope sLSame) f cdv A outer s H E p).nox := ⟨p, ⟨hot.1, hot.2⟩, List.mem_singleton_self _⟩
    refine ⟨_, (pss_cons (ps_if (pt_val (pe_callB call_isi (by rfl) T.n_isinstance (by decide +kernel) (pa_cons (pv 1) (pa_cons (pe_bltn (v := .ty "tuple") (u := .type "tuple") rfl T.n_tuple (by decide +kernel) rfl) pa_nil))))
        (pss_cons (ps_if (PW.pt (pw_or (pt_not (pt_val (pe_callB call_isi (by rfl) T.n_isinstance (by decide +kernel) (pa_cons (pv 0) (pa_cons (pe_bltn (v := .ty "tuple") (u := .type "tuple") rfl T.n_tuple (by decide +kernel) rfl) pa_nil))))) (pw_or1 (pt_cmpR op_ne (pe_callB call_len_seq (by rfl) T.n_len boot_len (pa_cons (pv 0) pa_nil)) (pe_callB call_len_seq (by rfl) T.n_len boot_len (pa_cons (pv 1) pa_nil)) (nomark _)))))
          (pss_one (ps_ret pe_bl))
          pss_nil)
        (pss_cons (L2H.ps_forH PassesOwn.never hc (L2H.pi_range1H rfl T.n_range (pa_cons (pe_callB call_len_seq (by rfl) T.n_len boot_len (pa_cons (pv 1) pa_nil)) pa_nil)) (pg_name (i := 2) scLSame.nd rfl (Or.inl rfl))
          (pss_one (ps_if (pt_not (pt_val (pe_gh gS1 (hr.mono (by decide)) hc rfl (pa_cons (pe_ix ix_tup (pv 0) (pv 2) (fun _ _ => rfl)) (pa_cons (pe_ix ix_tup (pv 1) (pv 2) (fun _ _ => rfl)) pa_nil)))))
            (pss_one (ps_ret pe_bl))
            pss_nil)))
        (pss_one (ps_ret pe_bl))))
        pss_nil)
      (pss_cons (ps_if (pt_cmpR op_isN (pv 1) pe_non (nomark _))
        (pss_one (ps_ret (pe_cmpR op_isN (pv 0) pe_non (nomark _))))
        pss_nil)
      (pss_cons (ps_if (pt_val (pe_callB call_isi (by rfl) T.n_isinstance (by decide +kernel) (pa_cons (pv 1) (pa_cons (pe_bltn (v := .ty "bool") (u := .type "bool") rfl T.n_bool (by decide +kernel) rfl) pa_nil))))
        (pss_one (ps_ret (pe_and (pe_callB call_isi (by rfl) T.n_isinstance (by decide +kernel) (pa_cons (pv 0) (pa_cons (pe_bltn (v := .ty "bool") (u := .type "bool") rfl T.n_bool (by decide +kernel) rfl) pa_nil))) (pe_one (pe_cmpR op_eq (pv 0) (pv 1) (nomark _))))))
        pss_nil)
      (pss_cons (ps_if (pt_val (pe_callB call_isi (by rfl) T.n_isinstance (by decide +kernel) (pa_cons (pv 1) (pa_cons (pe_bltn (v := .ty "str") (u := .type "str") rfl T.n_str (by decide +kernel) rfl) pa_nil))))
        (pss_one (ps_ret (pe_and (pe_callB call_isi (by rfl) T.n_isinstance (by decide +kernel) (pa_cons (pv 0) (pa_cons (pe_bltn (v := .ty "str") (u := .type "str") rfl T.n_str (by decide +kernel) rfl) pa_nil))) (pe_one (pe_cmpR op_eq (pv 0) (pv 1) (nomark _))))))
        pss_nil)
      (pss_one (ps_ret (pe_and (pe_callB call_isi (by rfl) T.n_isinstance (by decide +kernel) (pa_cons (pv 0) (pa_cons (pe_bltn (v := .ty "int") (u := .type "int") rfl T.n_int (by decide +kernel) rfl) pa_nil))) (pe_and (pe_not (pe_callB call_isi (by rfl) T.n_isinstance (by decide +kernel) (pa_cons (pv 0) (pa_cons (pe_bltn (v := .ty "bool") (u := .type "bool") rfl T.n_bool (by decide +kernel) rfl) pa_nil)))) (pe_one (pe_cmpR op_eq (pv 0) (pv 1) (nomark _))))))))))), ?_⟩
    rcases h with ⟨x, rfl, hF, k⟩ | ⟨a, b, ls, rfl, ea, eb, hl, k⟩
    · cases x with
      | bl b =>
        refine ⟨_, rfl, .bl b, .ty "tuple", .type "bool", .type "tuple", false, rfl, .ty _, .base (.bl _), kit_ty (by decide +kernel), _, rfl, ite_f ?_⟩
        refine ⟨_, rfl, rfl, _, rfl, ite_dec (fun z => by cases z) (fun _ => ?_)⟩
        refine ⟨_, rfl, .bl b, .ty "bool", .type "bool", .type "bool", true, rfl, .ty _, .base (.bl _), kit_ty (by decide +kernel), _, rfl, ite_t ?_⟩
        refine ⟨_, rfl, .bl b, .ty "bool", .type "bool", .type "bool", true, rfl, .ty _, .base (.bl _), kit_ty (by decide +kernel), _, rfl, ite_t ?_⟩
        refine ⟨_, rfl, _, rfl, rfl, ?_⟩
        rw [decide_eq_true rfl]
        exact k
      | str z =>
        refine ⟨_, rfl, .str z, .ty "tuple", .type "str", .type "tuple", false, rfl, .ty _, .base (.str _), kit_ty (by decide +kernel), _, rfl, ite_f ?_⟩
        refine ⟨_, rfl, rfl, _, rfl, ite_dec (fun z => by cases z) (fun _ => ?_)⟩
        refine ⟨_, rfl, .str z, .ty "bool", .type "str", .type "bool", false, rfl, .ty _, .base (.str _), kit_ty (by decide +kernel), _, rfl, ite_f ?_⟩
        refine ⟨_, rfl, .str z, .ty "str", .type "str", .type "str", true, rfl, .ty _, .base (.str _), kit_ty (by decide +kernel), _, rfl, ite_t ?_⟩
        refine ⟨_, rfl, .str z, .ty "str", .type "str", .type "str", true, rfl, .ty _, .base (.str _), kit_ty (by decide +kernel), _, rfl, ite_t ?_⟩
        refine ⟨_, rfl, _, rfl, rfl, ?_⟩
        rw [decide_eq_true rfl]
        exact k
      | int i =>
        refine ⟨_, rfl, .int i, .ty "tuple", .type "int", .type "tuple", false, rfl, .ty _, .base (.int _), kit_ty (by decide +kernel), _, rfl, ite_f ?_⟩
        refine ⟨_, rfl, rfl, _, rfl, ite_dec (fun z => by cases z) (fun _ => ?_)⟩
        refine ⟨_, rfl, .int i, .ty "bool", .type "int", .type "bool", false, rfl, .ty _, .base (.int _), kit_ty (by decide +kernel), _, rfl, ite_f ?_⟩
        refine ⟨_, rfl, .int i, .ty "str", .type "int", .type "str", false, rfl, .ty _, .base (.int _), kit_ty (by decide +kernel), _, rfl, ite_f ?_⟩
        refine ⟨_, rfl, .int i, .ty "int", .type "int", .type "int", true, rfl, .ty _, .base (.int _), kit_ty (by decide +kernel), _, rfl, ite_t ?_⟩
        refine ⟨_, rfl, .int i, .ty "bool", .type "int", .type "bool", false, rfl, .ty _, .base (.int _), kit_ty (by decide +kernel), _, rfl, _, rfl, ite_t ?_⟩
        refine ⟨_, rfl, _, rfl, rfl, ?_⟩
        rw [decide_eq_true rfl]
        exact k
      | _ => exact hF.elim
    · refine ⟨_, rfl, .ref b, .ty "tuple", .type "tuple", .type "tuple", true, rfl, .ty _, .base (.tup eb), kit_ty (by decide +kernel), _, rfl, ite_t ?_⟩
      refine ⟨_, rfl, .ref a, .ty "tuple", .type "tuple", .type "tuple", true, rfl, .ty _, .base (.tup ea), kit_ty (by decide +kernel), _, rfl, ite_f ?_⟩
      refine ⟨_, rfl, a, _, rfl, .inr (SqT.of ea), _, rfl, b, _, rfl, .inr (SqT.of eb), rfl, _, rfl, ite_ndec (fun c => absurd rfl c) (fun _ => ?_)⟩
      refine ⟨_, rfl, b, _, rfl, .inr (SqT.of eb), _, rfl, by rw [List.length_map]; omega, by rw [List.length_map]; omega, for_range (fun i σ H' => H' = H ∧ ∃ z, σ = [some (V.ref a), some (V.ref b), z]) ⟨rfl, _, rfl⟩ ?_ ?_⟩
      · rintro i σ H' hi ⟨rfl, z, rfl⟩
        obtain ⟨x, hx, hxm⟩ := atI_mem (xs := ls.map fun z => V.str (S z)) (i := 0 + (i : Int)) (by omega) (by omega)
        obtain ⟨l, _, rfl⟩ := List.mem_map.mp hxm
        refine ⟨_, rfl, _, rfl, a, _, _, _, rfl, rfl, SqT.of ea, hx, _, rfl, _, rfl, b, _, _, _, rfl, rfl, SqT.of eb, hx, _, rfl, trivial, _, rfl, ite_f ⟨rfl, _, rfl⟩⟩
      · rintro σ H' ⟨rfl, z, rfl⟩
        exact k
end
end Wd
/-! The law's own reading of a place. -/
namespace Wd
open PySem PySem.Spec PyProof.Rows L2
/-- over a text -/
theorem lc_str {l : List Nat} {g : TG} {tt : TT} {te : TE} {vs : List Nat} {σ : L2.St} {H1 : Hp} {D : Addr} {Qd : Hp → Prop} (Pv : Nat → Hp → Prop) (h0 : Pv 0 (upd H1 D (.lst [])))
    (hs : ∀ i c H, l[i]? = some c → Pv i H → g (.str (S [c])) (wipe σ vs) H fun σ2 H2 => wipe σ2 vs = wipe σ vs ∧ tt σ2 H2 fun b H3 =>
      if b = true then te σ2 H3 fun y H4 => ∃ acc, H4 D = some (.lst acc) ∧ acc.length < sizeLine ∧ Pv (i + 1) (upd H4 D (.lst (acc ++ [y]))) else Pv (i + 1) H3) (hd : ∀ H, Pv l.length H → Qd H) :
    ∃ W : Nat → Nat → Hp → Prop, (∃ m, W 0 m (upd H1 D (.lst []))) ∧ ∀ i m H, W i m H →
      ((Its (S l)).stop i H ∧ Qd H) ∨ ((Its (S l)).go i H ∧ ∃ Nx : Hp → Prop, (∀ H', Nx H' → ∃ m', m' < m ∧ W (i + 1) m' H') ∧ ∀ x H', (Its (S l)).yld i H x H' → g x (wipe σ vs) H' fun σ2 H2 => wipe σ2 vs = wipe σ vs ∧ tt σ2 H2 fun b H3 =>
        if b = true then te σ2 H3 fun y H4 => ∃ acc, H4 D = some (.lst acc) ∧ acc.length < sizeLine ∧ Nx (upd H4 D (.lst (acc ++ [y]))) else Nx H3) := by
  refine ⟨fun i m H => m = l.length - i ∧ i ≤ l.length ∧ Pv i H, ⟨l.length, by simp, Nat.zero_le _, h0⟩, ?_⟩
  rintro i m H ⟨rfl, hi, p⟩
  have hz : (S l).cps.size = l.length := by simp
  by_cases hlt : i < l.length
  · refine .inr ⟨by show i < (S l).cps.size; rw [hz]; exact hlt, Pv (i + 1), fun H' p' => ⟨l.length - (i + 1), by omega, rfl, hlt, p'⟩, ?_⟩
    rintro x H' ⟨rfl, c, hc, rfl⟩
    exact hs i c _ (by simpa using hc) p
  · have e : i = l.length := by omega
    subst e
    exact .inl ⟨by show (S l).cps.size ≤ l.length; rw [hz]; exact Nat.le_refl _, hd H p⟩
theorem headV_none {l : List Nat} {H : Hp} (h : headL l = none) : HeadV l .non H := by
  unfold HeadV
  rw [h]
theorem headV_some {l t : List Nat} {n : Int} {q : Addr} {H : Hp} (h : headL l = some (n, t)) (e : H q = some (.tup [.int n, .str (S t)])) : HeadV l (.ref q) H := by
  unfold HeadV
  rw [h]
  exact ⟨q, rfl, e⟩
section
variable {P : Program} {w : World} {K : PySem.W.Frag} {mg : Str → Option Value} {base : Heap}
theorem scLHead : FnScope ["_law_place_here", "_law_at", "_law_blank", "_law_figures", "_law_sign"] ["_law_place_here"] (defScope sLHead) := ⟨rfl, rfl, rfl, by decide +kernel, rfl, by decide +kernel, by decide +kernel⟩
theorem ok_LHead (T : Tx mg) (D : Df K mg "_law_head" sLHead) : Gd P w K mg base CX0 "_law_head" 1 spLHead := by
  refine gd_mk (ps := ["_law_place_here"]) D (fun _ _ _ _ _ _ us hl => match us, hl with | [_], _ => rfl) fun f fd F => F.ok scLHead (fun vs H Q E h => ?_) (fun cdv A outer s H vs Q E hr h => ?_)
  · obtain ⟨l, rfl, _⟩ := h
    rfl
  · obtain ⟨l, rfl, hl, k⟩ := h
    refine ⟨_, (pss_cons (ps_set (i := 1) scLHead.nd rfl (Or.inl rfl) (pe_m1 PySem.F.slot_str_find PySem.F.type_str_find mt_find (pv 0) pe_str))
      (pss_cons (ps_set (i := 2) scLHead.nd rfl (Or.inl rfl) (pe_m1 PySem.F.slot_str_find PySem.F.type_str_find mt_find (pv 0) pe_str))
      (pss_cons (ps_if (PW.pt (pw_or (pt_cmpR op_lt (pv 1) pe_int (nomark _)) (pw_or (pt_cmpR op_lt (pv 2) pe_int (nomark _)) (pw_or (pt_cmpR op_gt (pv 2) pe_int (nomark _)) (pw_or1 (pt_cmpR op_gt (pv 2) (pv 1) (nomark _)))))))
        (pss_one (ps_ret pe_non))
        pss_nil)
      (pss_cons (ps_set (i := 3) scLHead.nd rfl (Or.inl rfl) (pe_slice sl_str (pv 0) po_none (po_some (pv 2))))
      (pss_cons (ps_if (PW.pt (pw_or (pt_cmpR op_gt (pe_callB call_len_seq (by rfl) T.n_len boot_len (pa_cons (pe_lc (own := [("_law_sign", 4)]) (g := gName 4) rfl scLHead.nd (pi_str (pv 3)) (blkOk_by (N := ["_law_place_here", "_law_at", "_law_blank", "_law_figures", "_law_sign"]) (sc := defScope sLHead) (by decide +kernel)) (fun _ _ _ _ _ => pg_name (i := 4) scLHead.nd rfl (Or.inl rfl)) (fun _ _ _ _ _ => (pts_one (pt_cmpR op_notIn_sign (pv 4) pe_str (by rfl)))) (fun _ _ _ _ _ => (pv 4))) pa_nil)) pe_int (nomark _)) (pw_or1 (PW.pt (pw_and (pt_cmpR op_gt (pv 2) pe_int (nomark _)) (pw_and1 (pt_cmpR op_eq (pe_ix ix_str (pv 3) pe_int (fun _ _ => rfl)) pe_str (nomark _))))))))
        (pss_one (ps_ret pe_non))
        pss_nil)
      (pss_one (ps_ret (pe_tup (pa_cons (pe_callTy call_int_str (by rfl) T.n_int (by decide +kernel) (pa_cons (pv 3) pa_nil)) (pa_cons (pe_slice sl_str (pv 0) (po_some (pe_op op_add (pv 2) pe_int)) (po_some (pv 1))) pa_nil)))))))))), ?_⟩
    have hb : Txt.find (S l) (" " : Str) = blankI l := by rw [str_sp]; rfl
    have hn : Txt.find (S l) ("\n" : Str) = feedI l := by rw [str_nl]; rfl
    have bad : ∀ {H'}, Same H H' → ¬ (∃ p, headL l = some p) → Q .non H' := fun {H'} sm hno => by
      have e : headL l = none := by
        cases e : headL l with
        | none => rfl
        | some p => exact absurd ⟨p, e⟩ hno
      exact k _ _ sm (headV_none e)
    have S0 : Same H H := fun _ _ e => e
    refine ⟨_, rfl, ⟨_, rfl⟩, _, _, rfl, rfl, _, rfl, ⟨_, rfl⟩, _, _, rfl, rfl, ?_⟩
    rw [hb, hn]
    refine ⟨_, rfl, _, _, rfl, rfl, _, rfl, ite_dec (fun c1 => ?_) (fun c1 => ?_)⟩
    · refine bad S0 fun ⟨⟨n, t⟩, e⟩ => ?_
      have := head_need e
      omega
    refine ⟨_, rfl, _, _, rfl, rfl, _, rfl, ite_dec (fun c2 => ?_) (fun c2 => ?_)⟩
    · refine bad S0 fun ⟨⟨n, t⟩, e⟩ => ?_
      have := head_need e
      omega
    refine ⟨_, rfl, _, _, rfl, rfl, _, rfl, ite_dec (fun c3 => ?_) (fun c3 => ?_)⟩
    · refine bad S0 fun ⟨⟨n, t⟩, e⟩ => ?_
      have := head_need e
      omega
    refine ⟨_, rfl, _, rfl, _, _, rfl, rfl, _, rfl, ite_dec (fun c4 => ?_) (fun c4 => ?_)⟩
    · refine bad S0 fun ⟨⟨n, t⟩, e⟩ => ?_
      have := head_need e
      omega
    -- the figures
    obtain ⟨fl, hfl⟩ : ∃ fl, l.take (blankI l).toNat = fl := ⟨_, rfl⟩
    have hcut : cutS (S l) none (some (blankI l)) = S fl := by rw [cut_to (by omega), hfl]
    have hB : blankI l < l.length := find_lt
    have hln : fl.length ≤ 9 := by rw [← hfl, List.length_take]; omega
    have hne : fl ≠ [] := fun z => by
      have h2 : fl.length = min (blankI l).toNat l.length := by rw [← hfl, List.length_take]
      rw [z, List.length_nil] at h2
      omega
    refine ⟨_, rfl, _, rfl, _, rfl, _, rfl, smallS hl, ?_⟩
    rw [hcut]
    refine ⟨_, rfl, S fl, rfl, fun D hD => lc_str (l := fl) (fun i H' => ∃ xs : List V, H' = upd H D (.lst xs) ∧ xs.length ≤ i ∧ (xs.length = 0 ↔ ∀ c ∈ fl.take i, isFig c)) ⟨[], rfl, Nat.le_refl _, by simp⟩ ?_ ?_⟩
    · rintro i c H' hc ⟨xs, rfl, hx, hiff⟩
      have hlt : i < fl.length := by
        rcases Nat.lt_or_ge i fl.length with z | z
        · exact z
        · rw [List.getElem?_eq_none z] at hc; cases hc
      have step : (∀ d ∈ fl.take (i + 1), isFig d) ↔ (∀ d ∈ fl.take i, isFig d) ∧ isFig c := by
        rw [List.take_add_one, hc]
        constructor
        · intro h
          exact ⟨fun d hd => h d (List.mem_append_left _ hd), h c (List.mem_append_right _ (by simp))⟩
        · rintro ⟨h1, h2⟩ d hd
          rcases List.mem_append.mp hd with q | q
          · exact h1 d q
          · have e : d = c := by simpa using q
            rw [e]
            exact h2
      refine ⟨rfl, _, rfl, _, _, rfl, rfl, _, rfl, ite_ndec (fun c5 => ?_) (fun c5 => ?_)⟩
      · refine ⟨_, rfl, xs, upd_same, Nat.lt_of_lt_of_le (show xs.length < 1000 by omega) (by decide), xs ++ [.str (S [c])], ?_, by rw [List.length_append, List.length_singleton]; omega, ?_⟩
        · rw [upd_upd]
        · rw [step, List.length_append, List.length_singleton]
          constructor
          · intro z; omega
          · intro z; exact absurd (in_figs.mpr z.2) c5
      · refine ⟨xs, rfl, by omega, ?_⟩
        rw [step, hiff]
        exact ⟨fun z => ⟨z, in_figs.mp c5⟩, fun z => z.1⟩
    · rintro H' ⟨xs, rfl, hx, hiff⟩
      rw [List.take_length] at hiff
      have sm : Same H (upd H D (.lst xs)) := same_upd hD
      refine ⟨D, _, rfl, .inl (SqL.of upd_same), _, _, rfl, rfl, _, rfl, ite_dec (fun c5 => ?_) (fun c5 => ?_)⟩
      · refine bad sm fun ⟨⟨n, t⟩, e⟩ => ?_
        have h5 := (head_need e).2.2.2.2.1
        rw [hfl] at h5
        have := hiff.mpr h5
        omega
      have h5 : ∀ c ∈ fl, isFig c := hiff.mp (by omega)
      obtain ⟨c0, hc0⟩ : ∃ c0, fl[0]? = some c0 := by
        cases fl with
        | nil => exact absurd rfl hne
        | cons c0 r => exact ⟨c0, rfl⟩
      have fin : ¬ (1 < blankI l ∧ c0 = 48) → tRet (tTup (tCons (tCB (fun xs H Q => ∃ a n, xs = [V.str a] ∧ intText? a = some n ∧ a.length ≤ 640 ∧ Q (V.int n) H) (tCons (tVar 3) tNil)) (tCons (tSl rSlS (tVar 0) (tPart (tOp (rI0 fun i j => V.int (i + j)) (tVar 2) (tC (V.int 1)))) (tPart (tVar 1))) tNil)))
          { nx := fun _ H' => Q .non H', rt := Q } [some (.str (S l)), some (.int (feedI l)), some (.int (blankI l)), some (.str (S fl)), none] (upd H D (.lst xs)) := fun hno => by
        obtain ⟨⟨n, t⟩, e⟩ := head_pass (l := l) (by omega) (by omega) (by omega) (by rw [hfl]; exact h5) (fun ⟨q1, q2⟩ => hno ⟨q1, by rw [hfl, hc0] at q2; exact Option.some.inj q2⟩)
        obtain ⟨_, _, _, _, _, _, _, en, et⟩ := head_need e
        rw [hfl] at en
        have el : headL l = some (val fl, t) := by rw [e, en]
        refine ⟨_, rfl, S fl, _, rfl, int_figs h5 hne hln, by rw [S_len]; omega, _, rfl, _, rfl, _, _, rfl, rfl, _, rfl, _, rfl, _, rfl, _, rfl, smallS hl, two_ok _ _, fun q hq => ?_⟩
        rw [et]
        exact k _ _ (sm.trans (same_upd hq)) (headV_some el upd_same)
      refine ⟨_, rfl, _, _, rfl, rfl, _, rfl, ite_dec (fun c6 => ?_) (fun c6 => fin fun q => c6 q.1)⟩
      refine ⟨_, rfl, _, _, c0, rfl, rfl, smallS (by omega), atI_nat (j := 0) hc0, rfl, _, rfl, ite_dec (fun c7 => ?_) (fun c7 => fin fun q => c7 (by rw [q.2, str_zero]))⟩
      have e0 : c0 = 48 := by
        have q := V.str.inj c7
        rw [str_zero] at q
        exact (List.cons.inj (S_inj (a := [c0]) (b := [48]) q)).1
      exact bad sm fun ⟨⟨n, t⟩, e⟩ => (head_need e).2.2.2.2.2.1 ⟨c6, by rw [hfl, hc0, e0]⟩
theorem headV_cases {l : List Nat} {v : V} {H : Hp} (h : HeadV l v H) : (headL l = none ∧ v = .non) ∨ ∃ n t p, headL l = some (n, t) ∧ v = .ref p ∧ H p = some (.tup [.int n, .str (S t)]) := by
  unfold HeadV at h
  cases e : headL l with
  | none => rw [e] at h; exact .inl ⟨rfl, h⟩
  | some q =>
    obtain ⟨n, t⟩ := q
    rw [e] at h
    obtain ⟨p, h1, h2⟩ := h
    exact .inr ⟨n, t, p, rfl, h1, h2⟩
theorem numL_ge {l : List Nat} {n : Int} {t : List Nat} (h : headL l = some (n, t)) : 0 ≤ n := by
  rw [(head_need h).2.2.2.2.2.2.2.1]
  unfold val
  omega
theorem scLPresent : FnScope ["_law_places_here", "_law_heads"] ["_law_places_here"] (defScope sLPresent) := ⟨rfl, rfl, rfl, by decide +kernel, rfl, by decide +kernel, by decide +kernel⟩
theorem ok_LPresent (T : Tx mg) (gLHead : Gd P w K mg base CX0 "_law_head" 1 spLHead) (D : Df K mg "_law_present" sLPresent) : Gd P w K mg base CX0 "_law_present" 2 spPresent := by
  refine gd_mk (ps := ["_law_places_here"]) D (fun _ _ _ _ _ _ us hl => match us, hl with | [_], _ => rfl) fun f fd F => F.ok scLPresent (fun vs H Q E h => ?_) (fun cdv A outer s H vs Q E hr h => ?_)
  · obtain ⟨p, l0, l1, rfl, _⟩ := h
    rfl
  · obtain ⟨p, l0, l1, rfl, hp, hL, hG, k⟩ := h
    refine ⟨_, (pss_cons (ps_set (i := 1) scLPresent.nd rfl (Or.inl rfl) (pe_lst (pa_cons (pe_gd gLHead (hr.mono (by decide)) rfl (pa_cons (pe_ix ix_list (pv 0) pe_int (fun _ _ => rfl)) pa_nil)) (pa_cons (pe_gd gLHead (hr.mono (by decide)) rfl (pa_cons (pe_ix ix_list (pv 0) pe_int (fun _ _ => rfl)) pa_nil)) pa_nil))))
      (pss_cons (ps_if (pt_cmpR op_isN (pe_ix ix_list (pv 1) pe_int (fun _ _ => rfl)) pe_non (nomark _))
        (pss_one (ps_ret pe_int))
        pss_nil)
      (pss_one (ps_ret (pe_callTy call_int1 (by rfl) T.n_int (by decide +kernel) (pa_cons (pe_and (pe_cmpR op_notN (pe_ix ix_list (pv 1) pe_int (fun _ _ => rfl)) pe_non (nomark _)) (pe_one (pe_cmpR op_gt (pe_ix ix_tup (pe_ix ix_list (pv 1) pe_int (fun _ _ => rfl)) pe_int (fun _ _ => rfl)) (pe_ix ix_tup (pe_ix ix_list (pv 1) pe_int (fun _ _ => rfl)) pe_int (fun _ _ => rfl)) (nomark _)))) pa_nil)))))), ?_⟩
    refine ⟨_, rfl, p, _, _, _, rfl, rfl, SqL.of hp, rfl, l0, rfl, hL.1, fun v0 H1 S1 hv0 => ?_⟩
    refine ⟨_, rfl, p, _, _, _, rfl, rfl, SqL.of (S1 _ _ hp), rfl, l1, rfl, hL.2, fun v1 H2 S2 hv1 => ⟨two_ok _ _, fun q hq => ?_⟩⟩
    have S3 := (S1.trans S2).trans (same_upd (o := .lst [v0, v1]) hq)
    refine ⟨_, rfl, q, _, _, _, rfl, rfl, SqL.of upd_same, rfl, rfl, _, rfl, ite_dec (fun c => ?_) (fun c => ?_)⟩
    · have e0 : headL l0 = none := by
        rcases headV_cases hv0 with ⟨e, _⟩ | ⟨n, t, p0, _, e, _⟩
        · exact e
        · rw [e] at c; cases c
      have e : nowI l0 l1 = 1 := by
        have h1 : (headL l1).isSome = true := by
          rcases hG with g | g
          · rw [e0] at g; cases g
          · exact g
        obtain ⟨⟨n, t⟩, e1⟩ := Option.isSome_iff_exists.mp h1
        have := numL_ge e1
        unfold nowI nowB
        rw [numL_none e0, numL_some e1, if_pos (decide_eq_true (by omega))]
      rw [e] at k
      exact k _ S3
    · rcases headV_cases hv0 with ⟨_, e⟩ | ⟨n0, t0, p0, e0, rfl, hp0⟩
      · exact absurd e c
      refine ⟨_, rfl, q, _, _, _, rfl, rfl, SqL.of upd_same, rfl, rfl, _, rfl, ?_⟩
      rcases headV_cases hv1 with ⟨e1, rfl⟩ | ⟨n1, t1, p1, e1, rfl, hp1⟩
      · refine ite_f (.inr ⟨_, rfl, ?_⟩)
        have e : nowI l0 l1 = 0 := by
          have := numL_ge e0
          unfold nowI nowB
          rw [numL_none e1, numL_some e0, if_neg (by rw [decide_eq_false (by omega)]; exact Bool.false_ne_true)]
        rw [e] at k
        exact k _ S3
      · refine ite_t ?_
        have hp0' : upd H2 q (.lst [.ref p0, .ref p1]) p0 = some (.tup [.int n0, .str (S t0)]) := (S2.trans (same_upd hq)) _ _ hp0
        have hp1' : upd H2 q (.lst [.ref p0, .ref p1]) p1 = some (.tup [.int n1, .str (S t1)]) := (same_upd hq) _ _ hp1
        refine ⟨_, rfl, q, _, _, _, rfl, rfl, SqL.of upd_same, rfl, p1, _, _, _, rfl, rfl, SqT.of hp1', rfl, _, rfl, q, _, _, _, rfl, rfl, SqL.of upd_same, rfl, p0, _, _, _, rfl, rfl, SqT.of hp0', rfl, _, _, rfl, rfl, .inr ⟨_, rfl, ?_⟩⟩
        have e : nowI l0 l1 = (if decide (n0 < n1) = true then 1 else 0) := by
          unfold nowI nowB
          rw [numL_some e0, numL_some e1]
        rw [e] at k
        exact k _ S3
theorem scLRests : FnScope ["_law_places_here", "_law_place_here"] ["_law_places_here"] (defScope sLRests) := ⟨rfl, rfl, rfl, by decide +kernel, rfl, by decide +kernel, by decide +kernel⟩
theorem ok_LRests (gLPresent : Gd P w K mg base CX0 "_law_present" 2 spPresent) (D : Df K mg "_law_rests" sLRests) : Gd P w K mg base CX0 "_law_rests" 3 spRests := by
  refine gd_mk (ps := ["_law_places_here"]) D (fun _ _ _ _ _ _ us hl => match us, hl with | [_], _ => rfl) fun f fd F => F.ok scLRests (fun vs H Q E h => ?_) (fun cdv A outer s H vs Q E hr h => ?_)
  · obtain ⟨p, l0, l1, rfl, _⟩ := h
    rfl
  · obtain ⟨p, l0, l1, rfl, hp, hL, hG, k⟩ := h
    refine ⟨_, (pss_cons (ps_set (i := 1) scLRests.nd rfl (Or.inl rfl) (pe_ix ix_list (pv 0) (pe_gd gLPresent (hr.mono (by decide)) rfl (pa_cons (pv 0) pa_nil)) (fun _ _ => rfl)))
      (pss_one (ps_ret (pe_slice sl_str (pv 1) (po_some (pe_op op_add (pe_m1 PySem.F.slot_str_rfind PySem.F.type_str_rfind mt_rfind (pv 1) pe_str) pe_int)) po_none)))), ?_⟩
    refine ⟨_, rfl, _, rfl, p, l0, l1, rfl, hp, hL, hG, fun H1 S1 => ?_⟩
    refine ⟨p, _, _, _, rfl, rfl, SqL.of (S1 _ _ hp), at_now, ?_⟩
    refine ⟨_, rfl, _, rfl, ⟨_, rfl⟩, _, _, rfl, rfl, _, _, rfl, rfl, _, rfl, _, rfl, smallS hL.now, ?_⟩
    rw [str_nl, torn_cut]
    exact k _ S1
end
end Wd
/-! The disk and the law's own list, alike. -/
namespace Wd
open PySem PySem.Spec PyProof.Rows L2
theorem cutV_mid (xs : List V) (h : 2 ≤ xs.length) : cutV xs (some 1) (some (-1)) = xs.dropLast.drop 1 := by
  unfold cutV
  have e : HT.sIx xs.length 0 (some 1) = 1 := by
    show (if (1 : Int) < 0 then ((1 : Int) + (xs.length : Int)).toNat else min (1 : Int).toNat xs.length) = _
    rw [if_neg (by decide)]
    show min 1 xs.length = 1
    omega
  have e2 : HT.sIx xs.length xs.length (some (-1)) = xs.length - 1 := by
    show (if (-1 : Int) < 0 then ((-1 : Int) + (xs.length : Int)).toNat else min (-1 : Int).toNat xs.length) = _
    rw [if_pos (by decide)]
    omega
  rw [e, e2, List.dropLast_eq_take, List.drop_take]
section
variable {P : Program} {w : World} {K : PySem.W.Frag} {mg : Str → Option Value} {base : Heap} {C : Addr}
theorem scLAlike : FnScope ["_law_disk", "_law_places_here", "_law_head_here", "_law_lines"] ["_law_disk", "_law_places_here"] (defScope sLAlike) := ⟨rfl, rfl, rfl, by decide +kernel, rfl, by decide +kernel, by decide +kernel⟩
theorem ok_LAlike (T : Tx mg) (Dkk : Dk K C) (gLHead : Gd P w K mg base CX0 "_law_head" 1 spLHead) (gLPresent : Gd P w K mg base CX0 "_law_present" 2 spPresent) (gLSame : Gd P w K mg base CX0 "_law_same" 2 spSame)
    (gPlaces : Gm P w K mg base CX0 C "places" 1 (spPlacesM C)) (gBook : Gp P w K mg base CX0 C "book" 3 (spBook C)) (gHead : Gm P w K mg base CX0 C "head" 3 (spHeadM C)) (gRecords : Gm P w K mg base CX0 C "records" 3 (spRecords C)) (gLen : Gl P w K mg base CX0 C 4 (spLenM C))
    (D : Df K mg "_law_alike" sLAlike) : Gd P w K mg base CX0 "_law_alike" 6 (spAlike C) := by
  refine gd_mk (ps := ["_law_disk", "_law_places_here"]) D (fun _ _ _ _ _ _ us hl => match us, hl with | [_, _], _ => rfl) fun f fd F => F.ok scLAlike (fun vs H Q E h => ?_) (fun cdv A outer s H vs Q E hr h => ?_)
  · obtain ⟨d, p, l0, l1, rfl, _⟩ := h
    rfl
  · obtain ⟨d, p, l0, l1, rfl, hd, hp, hL, hG, k⟩ := h
    have D := Dkk
    obtain ⟨⟨n, x⟩, hh⟩ := Option.isSome_iff_exists.mp (now_good hG)
    obtain ⟨f1, r1, hf1, hr1, hlen1, el1⟩ := headL_lines hh
    have hln := lines_len (nowL l0 l1)
    have hz := hL.now
    have h2 : 2 ≤ (linesL (nowL l0 l1)).length := by
      rw [el1, List.length_cons]
      have : r1.length ≠ 0 := fun z => hr1 (List.length_eq_zero_iff.mp z)
      omega
    refine ⟨_, (pss_cons (ps_set (i := 2) scLAlike.nd rfl (Or.inl rfl) (pe_gd gLHead (hr.mono (by decide)) rfl (pa_cons (pe_ix ix_list (pv 1) (pe_gd gLPresent (hr.mono (by decide)) rfl (pa_cons (pv 1) pa_nil)) (fun _ _ => rfl)) pa_nil)))
      (pss_cons (ps_set (i := 3) scLAlike.nd rfl (Or.inl rfl) (pe_split (pe_ix ix_list (pv 1) (pe_gd gLPresent (hr.mono (by decide)) rfl (pa_cons (pv 1) pa_nil)) (fun _ _ => rfl)) pe_str))
      (pss_cons (ps_if (PW.pt (pw_or (pt_not (pt_val (pe_gd gLSame (hr.mono (by decide)) rfl (pa_cons (pe_gm0 D.cl gPlaces (hr.mono (by decide)) (pv 0)) (pa_cons (pe_callTy call_tuple_of (by rfl) T.n_tuple (by decide +kernel) (pa_cons (pv 1) pa_nil)) pa_nil))))) (pw_or1 (pt_not (pt_val (pe_gd gLSame (hr.mono (by decide)) rfl (pa_cons (pe_gp D.cl gBook (hr.mono (by decide)) (pv 0)) (pa_cons (pe_ix ix_tup (pv 2) pe_int (fun _ _ => rfl)) pa_nil))))))))
        (pss_one (ps_ret pe_bl))
        pss_nil)
      (pss_cons (ps_if (PW.pt (pw_or (pt_not (pt_val (pe_gd gLSame (hr.mono (by decide)) rfl (pa_cons (pe_gm0 D.cl gHead (hr.mono (by decide)) (pv 0)) (pa_cons (pe_ix ix_tup (pv 2) pe_int (fun _ _ => rfl)) pa_nil))))) (pw_or1 (pt_not (pt_val (pe_gd gLSame (hr.mono (by decide)) rfl (pa_cons (pe_callB (call_gl gLen (hr.mono (by decide))) (by rfl) T.n_len boot_len (pa_cons (pv 0) pa_nil)) (pa_cons (pe_op op_sub (pe_callB call_len_seq (by rfl) T.n_len boot_len (pa_cons (pv 3) pa_nil)) pe_int) pa_nil))))))))
        (pss_one (ps_ret pe_bl))
        pss_nil)
      (pss_one (ps_ret (pe_gd gLSame (hr.mono (by decide)) rfl (pa_cons (pe_gm0 D.cl gRecords (hr.mono (by decide)) (pv 0)) (pa_cons (pe_callTy call_tuple_of (by rfl) T.n_tuple (by decide +kernel) (pa_cons (pe_slice sl_list (pv 3) (po_some pe_int) (po_some (pe_un un_neg pe_int))) pa_nil)) pa_nil))))))))), ?_⟩
    refine ⟨_, rfl, _, rfl, p, l0, l1, rfl, hp, hL, hG, fun H1 S1 => ⟨p, _, _, _, rfl, rfl, SqL.of (S1 _ _ hp), at_now, nowL l0 l1, rfl, hL.now, fun v H2 S2 hv => ?_⟩⟩
    have S02 := S1.trans S2
    rcases headV_cases hv with ⟨e, _⟩ | ⟨n', x', a, e, rfl, ha⟩
    · rw [hh] at e; cases e
    rw [hh] at e
    cases e
    refine ⟨_, rfl, _, rfl, p, l0, l1, rfl, S02 _ _ hp, hL, hG, fun H3 S3 => ⟨p, _, _, _, rfl, rfl, SqL.of (S02.trans S3 _ _ hp), at_now, ⟨_, rfl⟩, _, _, rfl, rfl, rfl, Nat.le_trans (Nat.add_le_add_right (by rw [S_len]; exact hz) 2) (by decide), fun q hq => ?_⟩⟩
    rw [split_vals]
    have S04 := (S02.trans S3).trans (same_upd (o := .lst ((linesL (nowL l0 l1)).map fun z => V.str (S z))) hq)
    have hqq : upd H3 q (.lst ((linesL (nowL l0 l1)).map fun z => V.str (S z))) q = some (.lst ((linesL (nowL l0 l1)).map fun z => V.str (S z))) := upd_same
    have ha4 := (S3.trans (same_upd (o := .lst ((linesL (nowL l0 l1)).map fun z => V.str (S z))) hq)) _ _ ha
    revert S04 hqq ha4
    generalize upd H3 q (.lst ((linesL (nowL l0 l1)).map fun z => V.str (S z))) = H4
    intro S04 hqq ha4
    have hd4 := hd.same S04
    obtain ⟨dx, u, h41, h42⟩ := id hd4
    refine ⟨_, rfl, d, dx, _, rfl, h41, pf_no u (by decide +kernel), d, l0, l1, rfl, hd4, fun t ht => ?_⟩
    refine ⟨_, rfl, p, _, rfl, .inl ⟨SqL.of (S04 _ _ hp), fun p3 hp3 => ?_⟩⟩
    have S45 : Same H4 (upd H4 p3 (.tup (vs2 l0 l1))) := same_upd hp3
    refine .inr ⟨t, p3, [l0, l1], rfl, S45 _ _ ht, upd_same, (by show 2 ≤ 1000001; decide), _, rfl, ite_f ?_⟩
    revert S45
    generalize upd H4 p3 (.tup (vs2 l0 l1)) = H5
    intro S45
    have hd5 := hd4.same S45
    obtain ⟨dx5, u5, h51, h52⟩ := id hd5
    refine ⟨_, rfl, d, dx5, _, rfl, h51, d, l0, l1, rfl, hd5, hL, ?_⟩
    refine ⟨_, rfl, a, _, _, _, rfl, rfl, SqT.of (S45 _ _ ha4), rfl, ?_⟩
    rw [numL_some hh]
    refine .inl ⟨.int n, rfl, trivial, _, rfl, ite_f ?_⟩
    refine ⟨_, rfl, d, dx5, _, rfl, h51, pf_no u5 (by decide +kernel), d, l0, l1, n, x, rfl, hd5, hL, hh, fun H6 S6 => ?_⟩
    refine ⟨_, rfl, a, _, _, _, rfl, rfl, SqT.of (S6 _ _ (S45 _ _ ha4)), rfl, ?_⟩
    refine .inl ⟨.str (S x), rfl, trivial, _, rfl, ite_f ?_⟩
    have hd6 := hd5.same S6
    obtain ⟨dx6, u6, h61, h62⟩ := id hd6
    refine ⟨_, rfl, d, dx6, _, rfl, h61, d, l0, l1, rfl, hd6, hL, fun H7 S7 => ⟨_, rfl, by omega, ?_, ?_⟩⟩
    · unfold recsL
      rw [List.length_drop, List.length_dropLast]
      omega
    have S47 := (S45.trans S6).trans S7
    have e7 : ((recsL (nowL l0 l1)).length : Int) = (((linesL (nowL l0 l1)).map fun z => V.str (S z)).length : Int) - 2 := by
      unfold recsL
      rw [List.length_drop, List.length_dropLast, List.length_map]
      omega
    refine ⟨_, rfl, q, _, rfl, .inl (SqL.of (S47 _ _ hqq)), _, _, rfl, rfl, ?_⟩
    rw [e7]
    refine .inl ⟨_, rfl, trivial, _, rfl, ite_f ?_⟩
    have hd7 := hd6.same S7
    obtain ⟨dx7, u7, h71, h72⟩ := id hd7
    refine ⟨_, rfl, d, dx7, _, rfl, h71, pf_no u7 (by decide +kernel), d, l0, l1, rfl, hd7, hL, fun r H8 S8 hr8 => ?_⟩
    refine ⟨_, rfl, _, rfl, _, rfl, _, rfl, q, _, rfl, SqL.of (S8 _ _ (S47 _ _ hqq)), fun p9 hp9 => ?_⟩
    refine ⟨p9, _, rfl, .inl ⟨SqL.of upd_same, fun p10 hp10 => ?_⟩⟩
    have S90 := (same_upd (H := H8) (o := .lst (cutV ((linesL (nowL l0 l1)).map fun z => V.str (S z)) (some 1) (some (-1)))) hp9).trans (same_upd (o := .tup (cutV ((linesL (nowL l0 l1)).map fun z => V.str (S z)) (some 1) (some (-1)))) hp10)
    refine .inr ⟨r, p10, recsL (nowL l0 l1), rfl, S90 _ _ hr8, ?_, ?_, ?_⟩
    · rw [upd_same, cutV_mid _ (by rw [List.length_map]; exact h2)]
      unfold recsL
      rw [List.map_drop, List.map_dropLast]
    · unfold recsL
      rw [List.length_drop, List.length_dropLast]
      omega
    · exact k _ (((S04.trans S47).trans S8).trans S90)
end
end Wd
/-! What is done to the disk, done to the law's own list. -/
namespace Wd
open PySem PySem.Spec PyProof.Rows L2
theorem set_now (l0 l1 x : List Nat) : ∃ j, ixN (vs2 l0 l1).length (nowI l0 l1) = some j ∧ (vs2 l0 l1).set j (.str (S x)) = vs2 (putNow l0 l1 x).1 (putNow l0 l1 x).2 := by
  unfold nowI putNow
  by_cases b : nowB l0 l1 = true
  · rw [if_pos b, if_pos b]
    exact ⟨1, rfl, rfl⟩
  · rw [if_neg b, if_neg b]
    exact ⟨0, rfl, rfl⟩
theorem set_other (l0 l1 x : List Nat) : ∃ j, ixN (vs2 l0 l1).length (1 - nowI l0 l1) = some j ∧ (vs2 l0 l1).set j (.str (S x)) = vs2 (putOther l0 l1 x).1 (putOther l0 l1 x).2 := by
  unfold nowI putOther
  by_cases b : nowB l0 l1 = true
  · rw [if_pos b, if_pos b]
    exact ⟨0, rfl, rfl⟩
  · rw [if_neg b, if_neg b]
    exact ⟨1, rfl, rfl⟩
theorem Len.mono {M N : Nat} {l0 l1 : List Nat} (h : Len M l0 l1) (hM : M ≤ N) : Len N l0 l1 := ⟨Nat.le_trans h.1 hM, Nat.le_trans h.2 hM⟩
section
variable {P : Program} {w : World} {K : PySem.W.Frag} {mg : Str → Option Value} {base : Heap} {C CT : Addr}
theorem scLMended : FnScope ["_law_disk", "_law_places_here", "_law_now", "_law_rest"] ["_law_disk", "_law_places_here"] (defScope sLMended) := ⟨rfl, rfl, rfl, by decide +kernel, rfl, by decide +kernel, by decide +kernel⟩
theorem ok_LMended (T : Tx mg) (Dkk : Dk K C) (gLPresent : Gd P w K mg base CX0 "_law_present" 2 spPresent) (gLRests : Gd P w K mg base CX0 "_law_rests" 3 spRests) (gLSame : Gd P w K mg base CX0 "_law_same" 2 spSame)
    (gMend : Gm P w K mg base CX0 C "mend" 3 (spMend C)) (D : Df K mg "_law_mended" sLMended) : Gd P w K mg base CX0 "_law_mended" 4 (spMended C) := by
  refine gd_mk (ps := ["_law_disk", "_law_places_here"]) D (fun _ _ _ _ _ _ us hl => match us, hl with | [_, _], _ => rfl) fun f fd F => F.ok scLMended (fun vs H Q E h => ?_) (fun cdv A outer s H vs Q E hr h => ?_)
  · obtain ⟨d, p, l0, l1, M, rfl, _⟩ := h
    rfl
  · obtain ⟨d, p, l0, l1, M, rfl, hd, hp, hLM, hM, hG, k⟩ := h
    have D := Dkk
    have hL : Len 1000000 l0 l1 := hLM.mono (by omega)
    have hz := hL.now
    have hz1 := tornL_len (nowL l0 l1)
    refine ⟨_, (pss_cons (ps_set (i := 2) scLMended.nd rfl (Or.inl rfl) (pe_gd gLPresent (hr.mono (by decide)) rfl (pa_cons (pv 1) pa_nil)))
      (pss_cons (ps_set (i := 3) scLMended.nd rfl (Or.inl rfl) (pe_gd gLRests (hr.mono (by decide)) rfl (pa_cons (pv 1) pa_nil)))
      (pss_cons (ps_asg (pe_slice sl_str (pe_ix ix_list (pv 1) (pv 2) (fun _ _ => rfl)) po_none (po_some (pe_op op_sub (pe_callB call_len_str (by rfl) T.n_len boot_len (pa_cons (pe_ix ix_list (pv 1) (pv 2) (fun _ _ => rfl)) pa_nil)) (pe_callB call_len_str (by rfl) T.n_len boot_len (pa_cons (pv 3) pa_nil))))) (pg_sub (pv 1) (pv 2) set_list))
      (pss_one (ps_ret (pe_gd gLSame (hr.mono (by decide)) rfl (pa_cons (pe_gm0 D.cl gMend (hr.mono (by decide)) (pv 0)) (pa_cons (pe_cmpR op_ne (pv 3) pe_str (nomark _)) pa_nil)))))))), ?_⟩
    refine ⟨_, rfl, p, l0, l1, rfl, hp, hL, hG, fun H1 S1 => ?_⟩
    refine ⟨_, rfl, p, l0, l1, rfl, S1 _ _ hp, hL, hG, fun H2 S2 => ?_⟩
    have S12 := S1.trans S2
    have hp2 := S12 _ _ hp
    obtain ⟨j, hj, hset⟩ := set_now l0 l1 (mendL (nowL l0 l1))
    refine ⟨_, rfl, _, rfl, p, _, _, _, rfl, rfl, SqL.of hp2, at_now, _, rfl, _, rfl, p, _, _, _, rfl, rfl, SqL.of hp2, at_now, _, rfl, smallS hz, _, rfl, _, rfl, smallS (by omega), _, _, rfl, rfl, _, rfl, _, rfl, smallS hz, ?_⟩
    refine ⟨_, rfl, _, rfl, p, _, _, j, rfl, rfl, hp2, hj, ?_⟩
    rw [mend_cut, hset]
    have B23 : But p H2 (upd H2 p (.lst (vs2 (putNow l0 l1 (mendL (nowL l0 l1))).1 (putNow l0 l1 (mendL (nowL l0 l1))).2))) := but_upd
    have hp3 : ListAt (upd H2 p (.lst (vs2 (putNow l0 l1 (mendL (nowL l0 l1))).1 (putNow l0 l1 (mendL (nowL l0 l1))).2))) p (putNow l0 l1 (mendL (nowL l0 l1))).1 (putNow l0 l1 (mendL (nowL l0 l1))).2 := upd_same
    revert B23 hp3
    generalize upd H2 p (.lst (vs2 (putNow l0 l1 (mendL (nowL l0 l1))).1 (putNow l0 l1 (mendL (nowL l0 l1))).2)) = H3
    intro B23 hp3
    have hd3 := (hd.same S12).but B23 hp2
    obtain ⟨dx, u, h31, h32⟩ := id hd3
    refine ⟨_, rfl, d, dx, _, rfl, h31, pf_no u (by decide +kernel), d, l0, l1, rfl, hd3, hL, fun H4 D4 B4 => ⟨_, rfl, rfl, ?_⟩⟩
    rw [dec_nil]
    refine .inl ⟨_, rfl, trivial, ?_⟩
    have hg := now_good hG
    obtain ⟨pr, hpr⟩ := Option.isSome_iff_exists.mp hg
    have ml := mend_len (nowL l0 l1)
    have zn := hLM.now
    refine k _ _ H4 D4 (B4 _ _ hp3 (DiskAt.ne hd hp)) (hLM.putNow (by omega) (by omega)) (putNow_good (by rw [headL_mend hpr]; rfl)) ?_
    exact (But2.sm S12).trans ((But2.of' B23).trans (But2.of B4))
theorem scLWritten : FnScope ["_law_disk", "_law_places_here", "_law_text_here", "_law_cut_here", "_law_now", "_law_line", "_law_part"] ["_law_disk", "_law_places_here", "_law_text_here", "_law_cut_here"] (defScope sLWritten) := ⟨rfl, rfl, rfl, by decide +kernel, rfl, by decide +kernel, by decide +kernel⟩
theorem ok_LWritten (T : Tx mg) (Dkk : Dk K C) (gLPresent : Gd P w K mg base CX0 "_law_present" 2 spPresent) (gLRests : Gd P w K mg base CX0 "_law_rests" 3 spRests) (gLSame : Gd P w K mg base CX0 "_law_same" 2 spSame) (gLTorn : Gd P w K mg base CX0 "_law_torn" 5 (spTorn C))
    (gWrite : Gk P w K mg base (L2N.CX P w) C "write" 3 1 "cut" (spWrite C CT)) (D : Df K mg "_law_written" sLWritten) : Gd P w K mg base CX0 "_law_written" 6 (spWritten C) := by
  refine gd_mk (ps := ["_law_disk", "_law_places_here", "_law_text_here", "_law_cut_here"]) D (fun _ _ _ _ _ _ us hl => match us, hl with | [_, _, _, _], _ => rfl) fun f fd F => F.ok scLWritten (fun vs H Q E h => ?_) (fun cdv A outer s H vs Q E hr h => ?_)
  · obtain ⟨d, p, l0, l1, t, c, M, rfl, _⟩ := h
    rfl
  · obtain ⟨d, p, l0, l1, t, c, M, rfl, hc, hd, hp, hLM, hM, hG, ht, k⟩ := h
    have D := Dkk
    have hL : Len 1000000 l0 l1 := hLM.mono (by omega)
    have hL9 : Len 900000 l0 l1 := hLM.mono (by omega)
    have hz := hL.now
    have hzM := hLM.now
    refine ⟨_, (pss_cons (ps_set (i := 4) scLWritten.nd rfl (Or.inl rfl) (pe_gd gLPresent (hr.mono (by decide)) rfl (pa_cons (pv 1) pa_nil)))
      (pss_cons (ps_if (pt_cmpR op_ne (pe_gd gLRests (hr.mono (by decide)) rfl (pa_cons (pv 1) pa_nil)) pe_str (nomark _))
        (pss_one (ps_ret (pe_gd gLTorn (hr.mono (by decide)) rfl (pa_cons (pv 0) (pa_cons (pv 2) (pa_cons (pv 3) pa_nil))))))
        pss_nil)
      (pss_cons (ps_set (i := 5) scLWritten.nd rfl (Or.inl rfl) (pe_op op_add_str (pv 2) pe_str))
      (pss_cons (ps_set (i := 6) scLWritten.nd rfl (Or.inl rfl) (pv 5))
      (pss_cons (ps_if (pt_cmpR op_notN (pv 3) pe_non (nomark _))
        (pss_one (ps_set (i := 6) scLWritten.nd rfl (Or.inl rfl) (pe_slice sl_str (pv 5) po_none (po_some (pv 3)))))
        pss_nil)
      (pss_cons (ps_asg (pe_op op_add_str (pe_ix ix_list (pv 1) (pv 4) (fun _ _ => rfl)) (pv 6)) (pg_sub (pv 1) (pv 4) set_list))
      (pss_cons (ps_if (PW.pt (pw_and (pt_cmpR op_isN (pv 3) pe_non (nomark _)) (pw_and1 (pt_cmpR op_eq (pe_op op_mod (pe_callB call_len_str (by rfl) T.n_len boot_len (pa_cons (pv 2) pa_nil)) pe_int) pe_int (nomark _)))))
        (pss_one (ps_ret (pe_gd gLSame (hr.mono (by decide)) rfl (pa_cons (pe_gk0 D.cl gWrite (hr.mono (by decide)) passN (pv 0) (pa_cons (pv 2) pa_nil)) (pa_cons pe_bl pa_nil)))))
        pss_nil)
      (pss_one (ps_ret (pe_gd gLSame (hr.mono (by decide)) rfl (pa_cons (pe_gk D.cl gWrite (hr.mono (by decide)) (fun σ => passAt0 passN σ) (pv 0) (pa_cons (pv 2) pa_nil) (pk_cons (pv 3) pk_nil)) (pa_cons (pe_cmpR op_eq (pv 6) (pv 5) (nomark _)) pa_nil)))))))))))), ?_⟩
    refine ⟨_, rfl, p, l0, l1, rfl, hp, hL, hG, fun H1 S1 => ?_⟩
    refine ⟨_, rfl, p, l0, l1, rfl, S1 _ _ hp, hL, hG, fun H2 S2 => ⟨rfl, _, rfl, ite_ndec (fun c1 => ?_) (fun c1 => ?_)⟩⟩
    · have e0 : tornL (nowL l0 l1) ≠ [] := fun z => c1 (by rw [z, str_nil])
      refine ⟨_, rfl, _, rfl, _, rfl, d, l0, l1, t, c, rfl, hc, hd.same (S1.trans S2), hL9, ht, e0, fun H3 S3 => ?_⟩
      have S13 := (S1.trans S2).trans S3
      exact k _ _ H3 (hd.same S13) (S13 _ _ hp) (hLM.mono (by omega)) hG (But2.sm S13)
    have e0 : tornL (nowL l0 l1) = [] := S_inj (by have z := V.str.inj c1; rw [str_nil] at z; exact z)
    have S12 := S1.trans S2
    have hp2 := S12 _ _ hp
    have hpl := partS_len (t ++ [10]) c
    rw [List.length_append, List.length_singleton] at hpl
    obtain ⟨x, hx⟩ : ∃ x, nowL l0 l1 ++ partS (t ++ [10]) c = x := ⟨_, rfl⟩
    have hxl : x.length ≤ M + 1001 := by rw [← hx, List.length_append]; omega
    have hxg : (headL x).isSome = true := by
      obtain ⟨pr, hpr⟩ := Option.isSome_iff_exists.mp (now_good hG)
      rw [← hx, headL_more _ hpr]
      rfl
    obtain ⟨j, hj, hset⟩ := set_now l0 l1 x
    have fin : ∀ H3 H4, But p H2 H3 → ListAt H3 p (putNow l0 l1 x).1 (putNow l0 l1 x).2 → DiskAt C H4 d (putNow l0 l1 x).1 (putNow l0 l1 x).2 → But d H3 H4 → Q (.bl true) H4 := fun H3 H4 B23 hp3 D4 B4 =>
      k _ _ H4 D4 (B4 _ _ hp3 (DiskAt.ne hd hp)) (hLM.putNow (by omega) (by omega)) (putNow_good hxg) ((But2.sm S12).trans ((But2.of' B23).trans (But2.of B4)))
    refine ⟨_, rfl, _, _, rfl, rfl, lenS rfl str_nl (by simp; omega), ?_⟩
    rw [show S t ++ ("\n" : Str) = S (t ++ [10]) from appS rfl str_nl]
    refine ⟨_, rfl, ?_⟩
    rcases hc with rfl | ⟨i, rfl⟩
    · refine ⟨_, rfl, rfl, _, rfl, ite_ndec (fun z => absurd rfl z) (fun _ => ?_)⟩
      refine ⟨_, rfl, _, rfl, p, _, _, _, rfl, rfl, SqL.of hp2, at_now, _, rfl, _, _, rfl, rfl, lenS rfl rfl (by rw [List.length_append, List.length_singleton]; omega), _, rfl, _, rfl, p, _, _, j, rfl, rfl, hp2, hj, ?_⟩
      rw [show S (nowL l0 l1) ++ S (t ++ [10]) = S x from (appS rfl rfl).trans (congrArg S hx), hset]
      have B23 : But p H2 (upd H2 p (.lst (vs2 (putNow l0 l1 x).1 (putNow l0 l1 x).2))) := but_upd
      have hp3 : ListAt (upd H2 p (.lst (vs2 (putNow l0 l1 x).1 (putNow l0 l1 x).2))) p (putNow l0 l1 x).1 (putNow l0 l1 x).2 := upd_same
      revert B23 hp3
      generalize upd H2 p (.lst (vs2 (putNow l0 l1 x).1 (putNow l0 l1 x).2)) = H3
      intro B23 hp3
      have hd3 := (hd.same S12).but B23 hp2
      obtain ⟨dx, u, h31, h32⟩ := id hd3
      have hne := DiskAt.ne hd hp
      refine ⟨_, rfl, rfl, _, rfl, ite_dec (fun _ => ?_) (fun z => absurd rfl z)⟩
      refine ⟨_, rfl, _, rfl, smallS (by omega), _, _, rfl, rfl, (by show (0 : Int) < 2; decide), rfl, _, rfl, ite_dec (fun _ => ?_) (fun _ => ?_)⟩
      · refine ⟨_, rfl, d, dx, _, rfl, h31, pf_no u (by decide +kernel), _, rfl, d, l0, l1, t, .non, rfl, .inl rfl, hd3, hL9, ht, fun _ H4 D4 B4 => ?_, fun ne => absurd e0 ne⟩
        rw [hx] at D4
        exact .inl ⟨.bl true, congrArg (fun z => [V.bl z, V.bl true]) (decide_eq_true rfl), trivial, fin _ _ B23 hp3 D4 B4⟩
      · refine ⟨_, rfl, d, dx, _, rfl, h31, pf_no u (by decide +kernel), _, rfl, _, rfl, rfl, rfl, d, l0, l1, t, .non, rfl, .inl rfl, hd3, hL9, ht, fun _ H4 D4 B4 => ?_, fun ne => absurd e0 ne⟩
        refine ⟨_, rfl, _, rfl, rfl, ?_⟩
        rw [dec_S]
        rw [hx] at D4
        exact .inl ⟨_, rfl, trivial, fin _ _ B23 hp3 D4 B4⟩
    · refine ⟨_, rfl, rfl, _, rfl, ite_ndec (fun _ => ?_) (fun z => by cases z)⟩
      refine ⟨_, rfl, _, rfl, _, rfl, _, rfl, smallS (by simp; omega), ?_⟩
      rw [← partS_int]
      refine ⟨_, rfl, _, rfl, p, _, _, _, rfl, rfl, SqL.of hp2, at_now, _, rfl, _, _, rfl, rfl, lenS rfl rfl (by omega), _, rfl, _, rfl, p, _, _, j, rfl, rfl, hp2, hj, ?_⟩
      rw [show S (nowL l0 l1) ++ S (partS (t ++ [10]) (.int i)) = S x from (appS rfl rfl).trans (congrArg S hx), hset]
      have B23 : But p H2 (upd H2 p (.lst (vs2 (putNow l0 l1 x).1 (putNow l0 l1 x).2))) := but_upd
      have hp3 : ListAt (upd H2 p (.lst (vs2 (putNow l0 l1 x).1 (putNow l0 l1 x).2))) p (putNow l0 l1 x).1 (putNow l0 l1 x).2 := upd_same
      revert B23 hp3
      generalize upd H2 p (.lst (vs2 (putNow l0 l1 x).1 (putNow l0 l1 x).2)) = H3
      intro B23 hp3
      have hd3 := (hd.same S12).but B23 hp2
      obtain ⟨dx, u, h31, h32⟩ := id hd3
      have hne := DiskAt.ne hd hp
      refine ⟨_, rfl, rfl, _, rfl, ite_dec (fun z => by cases z) (fun _ => ?_)⟩
      refine ⟨_, rfl, d, dx, _, rfl, h31, pf_no u (by decide +kernel), _, rfl, _, rfl, rfl, rfl, d, l0, l1, t, .int i, rfl, .inr ⟨_, rfl⟩, hd3, hL9, ht, fun _ H4 D4 B4 => ?_, fun ne => absurd e0 ne⟩
      refine ⟨_, rfl, _, rfl, rfl, ?_⟩
      rw [dec_S]
      rw [hx] at D4
      exact .inl ⟨_, rfl, trivial, fin _ _ B23 hp3 D4 B4⟩
theorem scLClosed : FnScope ["_law_disk", "_law_places_here", "_law_text_here", "_law_cut_here", "_law_now", "_law_line", "_law_part"] ["_law_disk", "_law_places_here", "_law_text_here", "_law_cut_here"] (defScope sLClosed) := ⟨rfl, rfl, rfl, by decide +kernel, rfl, by decide +kernel, by decide +kernel⟩
theorem ok_LClosed (T : Tx mg) (Dkk : Dk K C) (gLHead : Gd P w K mg base CX0 "_law_head" 1 spLHead) (gLPresent : Gd P w K mg base CX0 "_law_present" 2 spPresent) (gLSame : Gd P w K mg base CX0 "_law_same" 2 spSame)
    (gClose : Gk P w K mg base CX0 C "close" 5 1 "cut" (spClose C)) (D : Df K mg "_law_closed" sLClosed) : Gd P w K mg base CX0 "_law_closed" 6 (spClosed C) := by
  refine gd_mk (ps := ["_law_disk", "_law_places_here", "_law_text_here", "_law_cut_here"]) D (fun _ _ _ _ _ _ us hl => match us, hl with | [_, _, _, _], _ => rfl) fun f fd F => F.ok scLClosed (fun vs H Q E h => ?_) (fun cdv A outer s H vs Q E hr h => ?_)
  · obtain ⟨d, p, l0, l1, t, c, M, rfl, _⟩ := h
    rfl
  · obtain ⟨d, p, l0, l1, t, c, M, rfl, hc, hd, hp, hLM, hM, hG, ht, k⟩ := h
    have D := Dkk
    have hL : Len 1000000 l0 l1 := hLM.mono (by omega)
    have hL9 : Len 900000 l0 l1 := hLM.mono (by omega)
    have hz := hL.now
    obtain ⟨⟨n, y⟩, hh⟩ := Option.isSome_iff_exists.mp (now_good hG)
    have en : numL (nowL l0 l1) = n := numL_some hh
    obtain ⟨b1, b2⟩ := numL_bound (nowL l0 l1)
    rw [en] at b1 b2
    have hs := sgn_len (n := n + 1) (by omega) (by omega)
    refine ⟨_, (pss_cons (ps_set (i := 4) scLClosed.nd rfl (Or.inl rfl) (pe_gd gLPresent (hr.mono (by decide)) rfl (pa_cons (pv 1) pa_nil)))
      (pss_cons (ps_set (i := 5) scLClosed.nd rfl (Or.inl rfl) (pe_op op_add_str (pe_op op_add_str (pe_op op_add_str (pe_callTy call_str_int (by rfl) T.n_str (by decide +kernel) (pa_cons (pe_op op_add (pe_ix ix_tup (pe_gd gLHead (hr.mono (by decide)) rfl (pa_cons (pe_ix ix_list (pv 1) (pv 4) (fun _ _ => rfl)) pa_nil)) pe_int (fun _ _ => rfl)) pe_int) pa_nil)) pe_str) (pv 2)) pe_str))
      (pss_cons (ps_set (i := 6) scLClosed.nd rfl (Or.inl rfl) (pv 5))
      (pss_cons (ps_if (pt_cmpR op_notN (pv 3) pe_non (nomark _))
        (pss_one (ps_set (i := 6) scLClosed.nd rfl (Or.inl rfl) (pe_slice sl_str (pv 5) po_none (po_some (pv 3)))))
        pss_nil)
      (pss_cons (ps_asg (pv 6) (pg_sub (pv 1) (pe_op op_sub pe_int (pv 4)) set_list))
      (pss_cons (ps_if (PW.pt (pw_and (pt_cmpR op_isN (pv 3) pe_non (nomark _)) (pw_and1 (pt_cmpR op_eq (pe_op op_mod (pe_callB call_len_str (by rfl) T.n_len boot_len (pa_cons (pv 2) pa_nil)) pe_int) pe_int (nomark _)))))
        (pss_one (ps_ret (pe_gd gLSame (hr.mono (by decide)) rfl (pa_cons (pe_gk0 D.cl gClose (hr.mono (by decide)) pass0 (pv 0) (pa_cons (pv 2) pa_nil)) (pa_cons pe_bl pa_nil)))))
        pss_nil)
      (pss_one (ps_ret (pe_gd gLSame (hr.mono (by decide)) rfl (pa_cons (pe_gk D.cl gClose (hr.mono (by decide)) (fun σ => passAt0 pass0 σ) (pv 0) (pa_cons (pv 2) pa_nil) (pk_cons (pv 3) pk_nil)) (pa_cons (pe_cmpR op_eq (pv 6) (pv 5) (nomark _)) pa_nil))))))))))), ?_⟩
    refine ⟨_, rfl, p, l0, l1, rfl, hp, hL, hG, fun H1 S1 => ?_⟩
    refine ⟨_, rfl, _, rfl, p, _, _, _, rfl, rfl, SqL.of (S1 _ _ hp), at_now, nowL l0 l1, rfl, hz, fun v H2 S2 hv => ?_⟩
    rcases headV_cases hv with ⟨e, _⟩ | ⟨n', y', a, e, rfl, ha⟩
    · rw [hh] at e; cases e
    rw [hh] at e
    cases e
    refine ⟨a, _, _, _, rfl, rfl, SqT.of ha, rfl, _, _, rfl, rfl, _, rfl, log_small (by omega), _, _, rfl, rfl, lenS (sgn_S _) str_sp (by simp; omega), _, rfl, _, _, rfl, rfl, lenS (appS (sgn_S _) str_sp) rfl (by simp; omega), _, _, rfl, rfl, lenS (appS (appS (sgn_S _) str_sp) rfl) str_nl (by simp; omega), ?_⟩
    rw [show (toString (n + 1) : Str) ++ (" " : Str) ++ S t ++ ("\n" : Str) = S (headLine (n + 1) t) from (appS (appS (appS (sgn_S _) str_sp) rfl) str_nl).trans (congrArg S (by unfold headLine sgn; simp))]
    have hhl : (headLine (n + 1) t).length ≤ 1012 := by
      show (sgn (n + 1) ++ 32 :: (t ++ [10])).length ≤ 1012
      simp
      omega
    have S12 := S1.trans S2
    have hp2 := S12 _ _ hp
    have hpl := partS_len (headLine (n + 1) t) c
    obtain ⟨x, hx⟩ : ∃ x, partS (headLine (n + 1) t) c = x := ⟨_, rfl⟩
    have hxl : x.length ≤ 1012 := by rw [← hx]; omega
    obtain ⟨j, hj, hset⟩ := set_other l0 l1 x
    have fin : ∀ H3 H4, But p H2 H3 → ListAt H3 p (putOther l0 l1 x).1 (putOther l0 l1 x).2 → DiskAt C H4 d (putOther l0 l1 x).1 (putOther l0 l1 x).2 → But d H3 H4 → Q (.bl true) H4 := fun H3 H4 B23 hp3 D4 B4 =>
      k _ _ H4 D4 (B4 _ _ hp3 (DiskAt.ne hd hp)) (hLM.putOther (by omega) (by omega)) (putOther_good hG) ((But2.sm S12).trans ((But2.of' B23).trans (But2.of B4)))
    refine ⟨_, rfl, ?_⟩
    rcases hc with rfl | ⟨i, rfl⟩
    · refine ⟨_, rfl, rfl, _, rfl, ite_ndec (fun z => absurd rfl z) (fun _ => ?_)⟩
      refine ⟨_, rfl, _, rfl, _, rfl, _, _, rfl, rfl, p, _, _, j, rfl, rfl, hp2, hj, ?_⟩
      rw [show S (headLine (n + 1) t) = S x from congrArg S hx, hset]
      have B23 : But p H2 (upd H2 p (.lst (vs2 (putOther l0 l1 x).1 (putOther l0 l1 x).2))) := but_upd
      have hp3 : ListAt (upd H2 p (.lst (vs2 (putOther l0 l1 x).1 (putOther l0 l1 x).2))) p (putOther l0 l1 x).1 (putOther l0 l1 x).2 := upd_same
      revert B23 hp3
      generalize upd H2 p (.lst (vs2 (putOther l0 l1 x).1 (putOther l0 l1 x).2)) = H3
      intro B23 hp3
      have hd3 := (hd.same S12).but B23 hp2
      obtain ⟨dx, u, h31, h32⟩ := id hd3
      refine ⟨_, rfl, rfl, _, rfl, ite_dec (fun _ => ?_) (fun z => absurd rfl z)⟩
      refine ⟨_, rfl, _, rfl, smallS (by omega), _, _, rfl, rfl, (by show (0 : Int) < 2; decide), rfl, _, rfl, ite_dec (fun _ => ?_) (fun _ => ?_)⟩
      · refine ⟨_, rfl, d, dx, _, rfl, h31, pf_no u (by decide +kernel), _, rfl, d, l0, l1, t, .non, rfl, .inl rfl, hd3, hL9, hG, ht, fun H4 D4 B4 => ?_⟩
        rw [en, hx] at D4
        exact .inl ⟨.bl true, congrArg (fun z => [V.bl z, V.bl true]) (decide_eq_true rfl), trivial, fin _ _ B23 hp3 D4 B4⟩
      · refine ⟨_, rfl, d, dx, _, rfl, h31, pf_no u (by decide +kernel), _, rfl, _, rfl, rfl, rfl, d, l0, l1, t, .non, rfl, .inl rfl, hd3, hL9, hG, ht, fun H4 D4 B4 => ?_⟩
        refine ⟨_, rfl, _, rfl, rfl, ?_⟩
        rw [dec_S, en, ← hx]
        rw [en, hx] at D4
        exact .inl ⟨_, rfl, trivial, fin _ _ B23 hp3 D4 B4⟩
    · refine ⟨_, rfl, rfl, _, rfl, ite_ndec (fun _ => ?_) (fun z => by cases z)⟩
      refine ⟨_, rfl, _, rfl, _, rfl, _, rfl, smallS (by omega), ?_⟩
      rw [← partS_int]
      refine ⟨_, rfl, _, rfl, _, rfl, _, _, rfl, rfl, p, _, _, j, rfl, rfl, hp2, hj, ?_⟩
      rw [show S (partS (headLine (n + 1) t) (.int i)) = S x from congrArg S hx, hset]
      have B23 : But p H2 (upd H2 p (.lst (vs2 (putOther l0 l1 x).1 (putOther l0 l1 x).2))) := but_upd
      have hp3 : ListAt (upd H2 p (.lst (vs2 (putOther l0 l1 x).1 (putOther l0 l1 x).2))) p (putOther l0 l1 x).1 (putOther l0 l1 x).2 := upd_same
      revert B23 hp3
      generalize upd H2 p (.lst (vs2 (putOther l0 l1 x).1 (putOther l0 l1 x).2)) = H3
      intro B23 hp3
      have hd3 := (hd.same S12).but B23 hp2
      obtain ⟨dx, u, h31, h32⟩ := id hd3
      refine ⟨_, rfl, rfl, _, rfl, ite_dec (fun z => by cases z) (fun _ => ?_)⟩
      refine ⟨_, rfl, d, dx, _, rfl, h31, pf_no u (by decide +kernel), _, rfl, _, rfl, rfl, rfl, d, l0, l1, t, .int i, rfl, .inr ⟨_, rfl⟩, hd3, hL9, hG, ht, fun H4 D4 B4 => ?_⟩
      refine ⟨_, rfl, _, rfl, rfl, ?_⟩
      rw [dec_S, en, ← hx]
      rw [en, hx] at D4
      exact .inl ⟨_, rfl, trivial, fin _ _ B23 hp3 D4 B4⟩
end
end Wd
/-! What is caught. -/
namespace Wd
open PySem PySem.Spec PyProof.Rows L2
/-- the error classes -/
structure Cs where
  (BadBook Busy InvalidDeed InvalidNumber InvalidText InvalidValue NoActor NoKey NoLetter NoOrder NotGranted Torn Twice ShopError : Addr)
structure Tc (mg : Str → Option Value) (c : Cs) : Prop where
  g_BadBook : mg "BadBook" = some (.ref c.BadBook)
  g_Busy : mg "Busy" = some (.ref c.Busy)
  g_InvalidDeed : mg "InvalidDeed" = some (.ref c.InvalidDeed)
  g_InvalidNumber : mg "InvalidNumber" = some (.ref c.InvalidNumber)
  g_InvalidText : mg "InvalidText" = some (.ref c.InvalidText)
  g_InvalidValue : mg "InvalidValue" = some (.ref c.InvalidValue)
  g_NoActor : mg "NoActor" = some (.ref c.NoActor)
  g_NoKey : mg "NoKey" = some (.ref c.NoKey)
  g_NoLetter : mg "NoLetter" = some (.ref c.NoLetter)
  g_NoOrder : mg "NoOrder" = some (.ref c.NoOrder)
  g_NotGranted : mg "NotGranted" = some (.ref c.NotGranted)
  g_Torn : mg "Torn" = some (.ref c.Torn)
  g_Twice : mg "Twice" = some (.ref c.Twice)
  g_ShopError : mg "ShopError" = some (.ref c.ShopError)
/-- the class that is caught: D, its field, the other classes -/
structure Ek (K : PySem.W.Frag) (D SE : Addr) (fld : Str) (l1 l2 : List Addr) : Prop where
  er : ErrC K D
  xf : XfC K D
  no : PySem.W.findIn K (.ref D) fld = some none
  ex : PySem.W.exmOne K (.ref D) (.ref SE) = some true
  ve : PySem.W.kitOne K (.ref D) (.type "ValueError") = some true
  o1 : ∀ o ∈ l1, PySem.W.kitOne K (.ref D) (.ref o) = some false
  o2 : ∀ o ∈ l2, PySem.W.kitOne K (.ref D) (.ref o) = some false
theorem kit_self {K : PySem.W.Frag} {D : Addr} : PySem.W.kitOne K (.ref D) (.ref D) = some true := by
  unfold PySem.W.kitOne
  rw [if_pos (by simp)]
theorem kit_none {K : PySem.W.Frag} {D : Addr} : ∀ os : List Addr, (∀ o ∈ os, PySem.W.kitOne K (.ref D) (.ref o) = some false) → PySem.W.kitAny K (.ref D) (os.map Value.ref) = some false
  | [], _ => rfl
  | o :: r, h => kitAny_cons (h o (List.mem_cons_self ..)) (fun _ => kit_none r fun z hz => h z (List.mem_cons_of_mem _ hz)) (fun z => nomatch z)
theorem cls_own : ∀ os : List Addr, Paired ClsV (os.map V.ref) (os.map Value.ref)
  | [] => .nil
  | o :: r => .cons (.own o) (cls_own r)
section
variable {X : Cx} {a : Addr} {cls : Value} {d : Option Addr} {oe : Obj} {pn : List (Addr × Obj)} {x : Str} {pos : Pos}
theorem pe_gcls {C : Addr} (hg : L2.Gl X x) (h : X.mg x = some (.ref C)) (hd : (x == ("__debug__" : Str)) = false := by decide) : PE X (.Name x pos) (tC (.ref C)) := pe_glob hg h rfl hd
theorem pe_isiT {e : Expr} {es : List Expr} {t : TA} {p : Pos} (hg : L2.Gl (X.suite a ((a, oe) :: pn)) "isinstance") (hm : X.mg "isinstance" = none) (ha : PA (X.suite a ((a, oe) :: pn)) (e :: es) t)
    (he : starEach (e :: es) X.env = (false, eval e X.env) :: starEach es X.env := by rfl) (hpl : (backTo pos (starEach es X.env)).any (·.1) = false := by rfl) : PE (X.suite a ((a, oe) :: pn)) (.Call (.Name "isinstance" p) (e :: es) [] pos) (tCB (rIsiT X.K) t) :=
  pe_callB call_isiT hg hm (by decide +kernel) ha (by decide) (by decide) he hpl
def rTupOf (K : PySem.W.Frag) : List V → Hp → VK → Prop := fun xs H Q => ∃ p ys, xs = [.ref p] ∧ ((SqL K H p ys ∧ ∀ l, H l = none → Q (.ref l) (upd H l (.tup ys))) ∨ (SqT K H p ys ∧ Q (.ref p) H))
theorem pe_tupof {e : Expr} {es : List Expr} {t : TA} {p : Pos} (hg : L2.Gl (X.suite a ((a, oe) :: pn)) "tuple") (hm : X.mg "tuple" = none) (ha : PA (X.suite a ((a, oe) :: pn)) (e :: es) t)
    (he : starEach (e :: es) X.env = (false, eval e X.env) :: starEach es X.env := by rfl) (hpl : (backTo pos (starEach es X.env)).any (·.1) = false := by rfl) : PE (X.suite a ((a, oe) :: pn)) (.Call (.Name "tuple" p) (e :: es) [] pos) (tCB (rTupOf X.K) t) :=
  pe_callTy call_tuple_of hg hm (by decide +kernel) ha (by decide) (by decide) he hpl
/-- isinstance(e, c), e what was caught -/
def rIsY (K : PySem.W.Frag) (cls : Value) (d : Option Addr) (a : Addr) : List V → Hp → VK → Prop := fun xs H Q => ∃ D dd : Addr, cls = .ref D ∧ d = some dd ∧ ErrC K D ∧ rIsX K D a dd xs H Q
theorem call_isY (hz : Zc cls d oe) (hf : ∃ vs, oe.data = .fields vs) : CallR (X.suite a ((a, oe) :: pn)) (.builtin "isinstance") (rIsY X.K cls d a) := by
  intro pins s σ H xs us Q I r h
  obtain ⟨D, dd, rfl, rfl, T, h⟩ := h
  exact call_isX T hz hf pins s σ H xs us Q I r h
def rIsYT (K : PySem.W.Frag) (cls : Value) (d : Option Addr) (a : Addr) : List V → Hp → VK → Prop := fun xs H Q => ∃ D dd : Addr, cls = .ref D ∧ d = some dd ∧ ErrC K D ∧ rIsXT K D a dd xs H Q
theorem call_isYT (hz : Zc cls d oe) (hf : ∃ vs, oe.data = .fields vs) : CallR (X.suite a ((a, oe) :: pn)) (.builtin "isinstance") (rIsYT X.K cls d a) := by
  intro pins s σ H xs us Q I r h
  obtain ⟨D, dd, rfl, rfl, T, h⟩ := h
  exact call_isXT T hz hf pins s σ H xs us Q I r h
theorem hot_suite (hz : L2N.Zn cls d oe) (hf : ∃ vs, oe.data = .fields vs) : L2H.HotC (X.suite a ((a, oe) :: pn)) := by
  obtain ⟨vs, hv⟩ := hf
  exact ⟨(a, oe), ⟨rfl, vs, hv, hz.2.2 vs hv⟩, List.mem_cons_self⟩
theorem takesN0 : L2N.Takes X (fun _ _ _ _ => False) := fun u s' h => by
  obtain ⟨a, B, sI, pins, σ, H, cls, d, h1, h2, h3, h4, h5, h6, h7, h8, z⟩ := h
  exact z.elim
end
section
variable {P : Program} {w : World} {K : PySem.W.Frag} {mg : Str → Option Value} {base : Heap} {C : Addr} {c0 : Cs}
theorem scLTorn : FnScope ["_law_disk", "_law_text_here", "_law_cut_here", "e"] ["_law_disk", "_law_text_here", "_law_cut_here"] (defScope sLTorn) := ⟨rfl, rfl, rfl, by decide +kernel, rfl, by decide +kernel, by decide +kernel⟩
theorem ok_LTorn (T : Tx mg) (Tg : Tc mg c0) (Te : Ek K c0.Torn c0.ShopError "text" [c0.BadBook, c0.Busy, c0.InvalidDeed, c0.InvalidNumber, c0.InvalidText, c0.InvalidValue, c0.NoActor, c0.NoKey] [c0.NoLetter, c0.NoOrder, c0.NotGranted, c0.Twice]) (Dkk : Dk K C)
    (gLSameH : Gh P w K mg base CX0 "_law_same" 2 spSame) (gWrite : Gk P w K mg base (L2N.CX P w) C "write" 3 1 "cut" (spWrite C c0.Torn)) (D : Df K mg "_law_torn" sLTorn) : Gd P w K mg base CX0 "_law_torn" 5 (spTorn C) := by
  refine gd_mk (ps := ["_law_disk", "_law_text_here", "_law_cut_here"]) D (fun _ _ _ _ _ _ us hl => match us, hl with | [_, _, _], _ => rfl) fun f fd F => F.ok scLTorn (fun vs H Q E h => ?_) (fun cdv A outer s H vs Q E hr h => ?_)
  · obtain ⟨d, l0, l1, t, c, rfl, _⟩ := h
    rfl
  · obtain ⟨d, l0, l1, t, c, rfl, hc, hd, hL, ht, hne, k⟩ := h
    have D := Dkk
    refine ⟨_, (pss_cons (L2N.ps_try_as (i := 3) rfl rfl scLTorn.nd rfl rfl ⟨rfl, by decide, Or.inl Tg.g_ShopError⟩ takesN0 (fun W pn xe tk _ => (pss_one (ps_expr (pe_gk D.cl gWrite (hr.mono (by decide)) (E := WE W) (fun σ => L2N.passAt tk σ) (pv 0) (pa_cons (pv 1) pa_nil) (pk_cons (pv 2) pk_nil))))) (fun a oe cls d pn hz hf =>
        (pss_cons (ps_if (pt_val (pe_callB (call_isYT hz.zc hf) (by rfl) T.n_isinstance (by decide +kernel) (pa_cons (pv 3) (pa_cons (pe_tup (pa_cons (pe_gcls rfl Tg.g_BadBook) (pa_cons (pe_gcls rfl Tg.g_Busy) (pa_cons (pe_gcls rfl Tg.g_InvalidDeed) (pa_cons (pe_gcls rfl Tg.g_InvalidNumber) (pa_cons (pe_gcls rfl Tg.g_InvalidText) (pa_cons (pe_gcls rfl Tg.g_InvalidValue) (pa_cons (pe_gcls rfl Tg.g_NoActor) (pa_cons (pe_gcls rfl Tg.g_NoKey) pa_nil))))))))) pa_nil))))
          (pss_one (ps_ret pe_bl))
          pss_nil)
        (pss_cons (ps_if (PW.pt (pw_or (pt_val (pe_callB (call_isYT hz.zc hf) (by rfl) T.n_isinstance (by decide +kernel) (pa_cons (pv 3) (pa_cons (pe_tup (pa_cons (pe_gcls rfl Tg.g_NoLetter) (pa_cons (pe_gcls rfl Tg.g_NoOrder) (pa_cons (pe_gcls rfl Tg.g_NotGranted) (pa_cons (pe_gcls rfl Tg.g_Twice) pa_nil))))) pa_nil)))) (pw_or1 (pt_not (pt_val (pe_callB (call_isY hz.zc hf) (by rfl) T.n_isinstance (by decide +kernel) (pa_cons (pv 3) (pa_cons (pe_bltn (v := .ty "ValueError") (u := .type "ValueError") rfl T.n_ValueError (by decide +kernel) rfl) pa_nil))))))))
          (pss_one (ps_ret pe_bl))
          pss_nil)
        (pss_one (ps_ret (pe_and (pe_callB (call_isY hz.zc hf) (by rfl) T.n_isinstance (by decide +kernel) (pa_cons (pv 3) (pa_cons (pe_gcls rfl Tg.g_Torn) pa_nil))) (pe_one (pe_gh gLSameH (L2H.roomH_mark (hr.mono (by decide)) _) (hot_suite hz hf) rfl (pa_cons (pe_xf Te.xf Te.no hz.zc hf (pv 3)) (pa_cons (pv 1) pa_nil)))))))))))
      (pss_one (ps_ret pe_bl))), ?_⟩
    obtain ⟨dx, u, h1, h2⟩ := id hd
    refine ⟨_, rfl, d, dx, _, rfl, h1, pf_no u (by decide +kernel), _, rfl, _, rfl, rfl, rfl, d, l0, l1, t, c, rfl, hc, hd, hL, ht, fun e => absurd e hne, fun _ dd H1 S1 hdd => ?_⟩
    refine ⟨true, Te.ex, fun _ a ha => ?_, fun z => nomatch z⟩
    refine ⟨_, rfl, (by show 8 ≤ sizeLine; decide), fun tp h1p => ⟨_, dd, rfl, rfl, Te.er, tp, _, _, false, _, rfl, (same_upd h1p) _ _ hdd, upd_same, cls_own [c0.BadBook, c0.Busy, c0.InvalidDeed, c0.InvalidNumber, c0.InvalidText, c0.InvalidValue, c0.NoActor, c0.NoKey], kit_none _ Te.o1, _, rfl, ite_f ?_⟩⟩
    refine ⟨_, rfl, (by show 4 ≤ sizeLine; decide), fun tp2 h2p => ⟨_, dd, rfl, rfl, Te.er, tp2, _, _, false, _, rfl, (same_upd h2p) _ _ ((same_upd h1p) _ _ hdd), upd_same, cls_own [c0.NoLetter, c0.NoOrder, c0.NotGranted, c0.Twice], kit_none _ Te.o2, _, rfl, ite_f ?_⟩⟩
    refine ⟨_, rfl, _, dd, rfl, rfl, Te.er, .ty "ValueError", .type "ValueError", true, _, rfl, (same_upd h2p) _ _ ((same_upd h1p) _ _ hdd), .ty _, Te.ve, _, rfl, ite_f ?_⟩
    refine ⟨_, rfl, _, dd, rfl, rfl, Te.er, .ref c0.Torn, .ref c0.Torn, true, _, rfl, (same_upd h2p) _ _ ((same_upd h1p) _ _ hdd), .own _, kit_self, _, rfl, ite_t ?_⟩
    refine ⟨_, rfl, rfl, rfl, dd, _, .str (S t), rfl, (same_upd h2p) _ _ ((same_upd h1p) _ _ hdd), (by rw [List.lookup_cons, beq_self_eq_true]), _, rfl, .inl ⟨.str (S t), rfl, trivial, ?_⟩⟩
    exact k _ ((S1.trans (same_upd h1p)).trans (same_upd h2p))
theorem scLBad : FnScope ["_law_places_here", "e"] ["_law_places_here"] (defScope sLBad) := ⟨rfl, rfl, rfl, by decide +kernel, rfl, by decide +kernel, by decide +kernel⟩
theorem ok_LBad (T : Tx mg) (Tg : Tc mg c0) (Te : Ek K c0.BadBook c0.ShopError "texts" [c0.Torn, c0.Busy, c0.InvalidDeed, c0.InvalidNumber, c0.InvalidText, c0.InvalidValue, c0.NoActor, c0.NoKey] [c0.NoLetter, c0.NoOrder, c0.NotGranted, c0.Twice]) (gDisk : mg "Disk" = some (.ref C))
    (gLSameH : Gh P w K mg base CX0 "_law_same" 2 spSame) (gOfPlaces : Gc P w K mg base (L2N.CX P w) C "of_places" 3 (spOf C c0.BadBook)) (D : Df K mg "_law_bad" sLBad) : Gd P w K mg base CX0 "_law_bad" 5 spBad := by
  refine gd_mk (ps := ["_law_places_here"]) D (fun _ _ _ _ _ _ us hl => match us, hl with | [_], _ => rfl) fun f fd F => F.ok scLBad (fun vs H Q E h => ?_) (fun cdv A outer s H vs Q E hr h => ?_)
  · obtain ⟨t, l0, l1, rfl, _⟩ := h
    rfl
  · obtain ⟨t, l0, l1, rfl, ht, hL, n0, n1, k⟩ := h
    refine ⟨_, (pss_cons (L2N.ps_try_as (i := 1) rfl rfl scLBad.nd rfl rfl ⟨rfl, by decide, Or.inl Tg.g_ShopError⟩ takesN0 (fun W pn xe tk _ => (pss_one (ps_expr (pe_gc gOfPlaces (hr.mono (by decide)) (E := WE W) (fun σ => L2N.passAt tk σ) (pe_gcls rfl gDisk) (pa_cons (pv 0) pa_nil))))) (fun a oe cls d pn hz hf =>
        (pss_cons (ps_if (pt_val (pe_callB (call_isYT hz.zc hf) (by rfl) T.n_isinstance (by decide +kernel) (pa_cons (pv 1) (pa_cons (pe_tup (pa_cons (pe_gcls rfl Tg.g_Torn) (pa_cons (pe_gcls rfl Tg.g_Busy) (pa_cons (pe_gcls rfl Tg.g_InvalidDeed) (pa_cons (pe_gcls rfl Tg.g_InvalidNumber) (pa_cons (pe_gcls rfl Tg.g_InvalidText) (pa_cons (pe_gcls rfl Tg.g_InvalidValue) (pa_cons (pe_gcls rfl Tg.g_NoActor) (pa_cons (pe_gcls rfl Tg.g_NoKey) pa_nil))))))))) pa_nil))))
          (pss_one (ps_ret pe_bl))
          pss_nil)
        (pss_cons (ps_if (PW.pt (pw_or (pt_val (pe_callB (call_isYT hz.zc hf) (by rfl) T.n_isinstance (by decide +kernel) (pa_cons (pv 1) (pa_cons (pe_tup (pa_cons (pe_gcls rfl Tg.g_NoLetter) (pa_cons (pe_gcls rfl Tg.g_NoOrder) (pa_cons (pe_gcls rfl Tg.g_NotGranted) (pa_cons (pe_gcls rfl Tg.g_Twice) pa_nil))))) pa_nil)))) (pw_or1 (pt_not (pt_val (pe_callB (call_isY hz.zc hf) (by rfl) T.n_isinstance (by decide +kernel) (pa_cons (pv 1) (pa_cons (pe_bltn (v := .ty "ValueError") (u := .type "ValueError") rfl T.n_ValueError (by decide +kernel) rfl) pa_nil))))))))
          (pss_one (ps_ret pe_bl))
          pss_nil)
        (pss_one (ps_ret (pe_and (pe_callB (call_isY hz.zc hf) (by rfl) T.n_isinstance (by decide +kernel) (pa_cons (pv 1) (pa_cons (pe_gcls rfl Tg.g_BadBook) pa_nil))) (pe_and (pe_isiT rfl T.n_isinstance (pa_cons (pe_xf Te.xf Te.no hz.zc hf (pv 1)) (pa_cons (pe_tup (pa_cons (pe_bltn (v := .ty "tuple") (u := .type "tuple") rfl T.n_tuple (by decide +kernel) rfl) (pa_cons (pe_bltn (v := .ty "list") (u := .type "list") rfl T.n_list (by decide +kernel) rfl) pa_nil))) pa_nil))) (pe_one (pe_gh gLSameH (L2H.roomH_mark (hr.mono (by decide)) _) (hot_suite hz hf) rfl (pa_cons (pe_tupof rfl T.n_tuple (pa_cons (pe_xf Te.xf Te.no hz.zc hf (pv 1)) pa_nil)) (pa_cons (pv 0) pa_nil))))))))))))
      (pss_one (ps_ret pe_bl))), ?_⟩
    refine ⟨rfl, _, rfl, t, l0, l1, rfl, ht, hL, fun g => ?_, fun _ _ dd t2 H1 S1 hdd ht2 => ?_⟩
    · rcases g with g | g
      · rw [n0] at g; cases g
      · rw [n1] at g; cases g
    refine ⟨true, Te.ex, fun _ a ha => ?_, fun z => nomatch z⟩
    refine ⟨_, rfl, (by show 8 ≤ sizeLine; decide), fun tp h1p => ⟨_, dd, rfl, rfl, Te.er, tp, _, _, false, _, rfl, (same_upd h1p) _ _ hdd, upd_same, cls_own [c0.Torn, c0.Busy, c0.InvalidDeed, c0.InvalidNumber, c0.InvalidText, c0.InvalidValue, c0.NoActor, c0.NoKey], kit_none _ Te.o1, _, rfl, ite_f ?_⟩⟩
    refine ⟨_, rfl, (by show 4 ≤ sizeLine; decide), fun tp2 h2p => ⟨_, dd, rfl, rfl, Te.er, tp2, _, _, false, _, rfl, (same_upd h2p) _ _ ((same_upd h1p) _ _ hdd), upd_same, cls_own [c0.NoLetter, c0.NoOrder, c0.NotGranted, c0.Twice], kit_none _ Te.o2, _, rfl, ite_f ?_⟩⟩
    refine ⟨_, rfl, _, dd, rfl, rfl, Te.er, .ty "ValueError", .type "ValueError", true, _, rfl, (same_upd h2p) _ _ ((same_upd h1p) _ _ hdd), .ty _, Te.ve, _, rfl, ite_f ?_⟩
    refine ⟨_, rfl, _, dd, rfl, rfl, Te.er, .ref c0.BadBook, .ref c0.BadBook, true, _, rfl, (same_upd h2p) _ _ ((same_upd h1p) _ _ hdd), .own _, kit_self, _, rfl, ite_t ?_⟩
    refine ⟨_, rfl, rfl, rfl, dd, _, .ref t2, rfl, (same_upd h2p) _ _ ((same_upd h1p) _ _ hdd), (by rw [List.lookup_cons, beq_self_eq_true]), (by show 2 ≤ sizeLine; decide), fun tp3 h3p => ?_⟩
    refine ⟨.ref t2, tp3, _, .type "tuple", [.type "tuple", .type "list"], true, rfl, upd_same, .cons (.ty _) (.cons (.ty _) .nil), .base (.tup ((same_upd h3p) _ _ ((same_upd h2p) _ _ ((same_upd h1p) _ _ ht2)))), kitAny_cons (b := true) (kit_ty (by decide +kernel)) (fun z => nomatch z) (fun _ => rfl), _, rfl, ite_t ?_⟩
    refine ⟨_, rfl, rfl, rfl, dd, _, .ref t2, rfl, (same_upd h3p) _ _ ((same_upd h2p) _ _ ((same_upd h1p) _ _ hdd)), (by rw [List.lookup_cons, beq_self_eq_true]), t2, vs2 l0 l1, rfl, ?_⟩
    refine .inr ⟨SqT.of ((same_upd h3p) _ _ ((same_upd h2p) _ _ ((same_upd h1p) _ _ ht2))), _, rfl, .inr ⟨t2, t, [l0, l1], rfl, (same_upd h3p) _ _ ((same_upd h2p) _ _ ((same_upd h1p) _ _ ht2)), (same_upd h3p) _ _ ((same_upd h2p) _ _ ((same_upd h1p) _ _ (S1 _ _ ht))), (by show 2 ≤ 1000001; decide), ?_⟩⟩
    exact k _ (((S1.trans (same_upd h1p)).trans (same_upd h2p)).trans (same_upd h3p))
end
end Wd
/-! The places that the law draws. -/
namespace Wd
open PySem PySem.Spec PyProof.Rows L2
theorem num_head0 : ∀ n : Nat, 1 ≤ n → (TL.numL n)[0]? ≠ some 48 := by
  intro n
  induction n using Nat.strongRecOn with
  | _ n ih =>
    intro h
    by_cases hn : n < 10
    · rw [TL.numL_lt hn]
      intro z
      have z2 : 48 + n = 48 := Option.some.inj z
      omega
    · rw [TL.numL_step (by omega)]
      have q := ih (n / 10) (by omega) (by omega)
      have ne := TL.numL_ne (n / 10)
      cases e : TL.numL (n / 10) with
      | nil => exact absurd e ne
      | cons c r =>
        rw [e] at q
        exact q
theorem fig_num {m : Nat} (h : m < 10 ^ 9) : figOk (TL.numL m) = true := by
  refine figOk_iff.mpr ⟨?_, TL.numL_len (by decide) h, fun c hc => TL.numL_digits m c hc, fun z => ?_⟩
  · cases e : TL.numL m with
    | nil => exact absurd e (TL.numL_ne m)
    | cons c r => simp
  · by_cases h0 : 1 ≤ m
    · exact num_head0 m h0 z.2
    · have e : m = 0 := by omega
      rw [e, TL.numL_lt (by decide)] at z
      exact absurd z.1 (by decide)
theorem sgn_num {n : Int} (h : 0 ≤ n) (h2 : n ≤ 900000000) : ∃ m : Nat, m < 10 ^ 9 ∧ sgn n = TL.numL m := by
  obtain ⟨m, rfl⟩ := Int.eq_ofNat_of_zero_le h
  exact ⟨m, by omega, TL.tl_num m⟩
theorem headL_num {n : Int} (h : 0 ≤ n) (h2 : n ≤ 900000000) {t : List Nat} (b : List Nat) (ht : 10 ∉ t) : (headL (sgn n ++ 32 :: (t ++ 10 :: b))).isSome = true := by
  obtain ⟨m, hm, e⟩ := sgn_num h h2
  rw [e, headL_app b (TL.numL_free (.inl (by decide))) (TL.numL_free (.inl (by decide))) ht, if_pos (fig_num hm)]
  rfl
theorem headL_nobl {a : List Nat} (b : List Nat) (h1 : 10 ∉ a) (h2 : 32 ∉ a) : headL (a ++ 10 :: b) = none := by
  unfold headL
  rw [cut1_app b h1]
  show (match cut1 32 a with | none => none | some (f, t) => if figOk f = true then some (val f, t) else none) = none
  rw [cut1_free h2]
theorem str_spa : (" a\n" : Str) = S [32, 97, 10] := by decide +kernel
theorem str_n0a : ("\n0 a\n" : Str) = S [10, 48, 32, 97, 10] := by decide +kernel
theorem pool_ne {H : Hp} {p q : Addr} {o : HO} (P : Pool H p) (h : q ≠ p) : Pool (upd H q o) p := by
  obtain ⟨ns, h1, h2⟩ := P
  exact ⟨ns, h1, by rw [upd_ne h.symm]; exact h2⟩
section
variable {P : Program} {w : World} {K : PySem.W.Frag} {mg : Str → Option Value} {base : Heap}
theorem scLNumber : FnScope ["_law_pool_here", "_law_one", "_law_two", "_law_three"] ["_law_pool_here"] (defScope sLNumber) := ⟨rfl, rfl, rfl, by decide +kernel, rfl, by decide +kernel, by decide +kernel⟩
theorem ok_LNumber (T : Tx mg) (gLDraw : Gd P w K mg base CX0 "_law_draw" 1 spDraw) (D : Df K mg "_law_number" sLNumber) : Gd P w K mg base CX0 "_law_number" 2 spNumber := by
  refine gd_mk (ps := ["_law_pool_here"]) D (fun _ _ _ _ _ _ us hl => match us, hl with | [_], _ => rfl) fun f fd F => F.ok scLNumber (fun vs H Q E h => ?_) (fun cdv A outer s H vs Q E hr h => ?_)
  · obtain ⟨p, rfl, _⟩ := h
    rfl
  · obtain ⟨p, rfl, hP, k⟩ := h
    refine ⟨_, (pss_cons (ps_set (i := 1) scLNumber.nd rfl (Or.inl rfl) (pe_gd gLDraw (hr.mono (by decide)) rfl (pa_cons (pv 0) (pa_cons pe_int pa_nil))))
      (pss_cons (ps_set (i := 2) scLNumber.nd rfl (Or.inl rfl) (pe_callTy call_int1 (by rfl) T.n_int (by decide +kernel) (pa_cons (pe_op op_add (pe_op op_mul (pv 1) pe_int) (pe_gd gLDraw (hr.mono (by decide)) rfl (pa_cons (pv 0) (pa_cons pe_int pa_nil)))) pa_nil)))
      (pss_cons (ps_set (i := 3) scLNumber.nd rfl (Or.inl rfl) (pe_callTy call_int1 (by rfl) T.n_int (by decide +kernel) (pa_cons (pe_op op_add (pe_op op_mul (pv 2) pe_int) (pe_gd gLDraw (hr.mono (by decide)) rfl (pa_cons (pv 0) (pa_cons pe_int pa_nil)))) pa_nil)))
      (pss_one (ps_ret (pe_ix ix_list (pe_lst (pa_cons (pe_op op_mod (pe_callTy call_int1 (by rfl) T.n_int (by decide +kernel) (pa_cons (pv 1) pa_nil)) pe_int) (pa_cons (pe_callTy call_int1 (by rfl) T.n_int (by decide +kernel) (pa_cons (pv 1) pa_nil)) (pa_cons (pe_op op_mod (pe_callTy call_int1 (by rfl) T.n_int (by decide +kernel) (pa_cons (pv 3) pa_nil)) pe_int) (pa_cons (pe_op op_sub pe_int (pe_op op_mod (pe_callTy call_int1 (by rfl) T.n_int (by decide +kernel) (pa_cons (pv 2) pa_nil)) pe_int)) pa_nil))))) (pe_op op_mod (pe_callTy call_int1 (by rfl) T.n_int (by decide +kernel) (pa_cons (pv 2) pa_nil)) pe_int) (fun _ _ => rfl))))))), ?_⟩
    refine ⟨_, rfl, p, 2520, rfl, hP, by decide, fun one H1 o1 o2 P1 B1 => ?_⟩
    refine ⟨_, rfl, _, _, rfl, rfl, .inl ⟨by omega, by omega⟩, _, rfl, p, 2520, rfl, P1, by decide, fun x H2 x1 x2 P2 B2 => ⟨_, _, rfl, rfl, .inl ⟨_, rfl, ?_⟩⟩⟩
    obtain ⟨two, htwo⟩ : ∃ two, one * 2520 + x = two := ⟨_, rfl⟩
    have t1 : 0 ≤ two := by omega
    have t2 : two < 6350400 := by omega
    refine ⟨_, rfl, _, _, rfl, rfl, .inl ⟨by omega, by omega⟩, _, rfl, p, 2520, rfl, P2, by decide, fun y H3 y1 y2 P3 B3 => ⟨_, _, rfl, rfl, .inl ⟨_, rfl, ?_⟩⟩⟩
    obtain ⟨thr, hthr⟩ : ∃ thr, (one * 2520 + x) * 2520 + y = thr := ⟨_, rfl⟩
    have r1 := Int.emod_nonneg thr (b := 900000001) (by decide)
    have r2 := Int.emod_lt_of_pos thr (b := 900000001) (by decide)
    obtain ⟨v, hat, hv⟩ := atI_mem (xs := [V.int (one % 3), V.int one, V.int (((one * 2520 + x) * 2520 + y) % 900000001), V.int (900000000 - (one * 2520 + x) % 2520)]) (i := (one * 2520 + x) % 4) (Int.emod_nonneg _ (by decide)) (Int.emod_lt_of_pos _ (by decide))
    have hn : ∃ n : Int, v = .int n ∧ 0 ≤ n ∧ n ≤ 900000000 := by
      rw [htwo] at hv
      rw [htwo] at hthr
      rw [hthr] at hv
      simp only [List.mem_cons, List.not_mem_nil, or_false] at hv
      rcases hv with rfl | rfl | rfl | rfl
      · exact ⟨_, rfl, by omega, by omega⟩
      · exact ⟨_, rfl, by omega, by omega⟩
      · exact ⟨_, rfl, by omega, by omega⟩
      · exact ⟨_, rfl, by omega, by omega⟩
    obtain ⟨n, rfl, n1, n2⟩ := hn
    refine ⟨_, rfl, .inl ⟨_, rfl, _, _, rfl, rfl, (by show (0 : Int) < 3; decide), _, rfl, .inl ⟨_, rfl, _, rfl, .inl ⟨_, rfl, _, _, rfl, rfl, (by show (0 : Int) < 900000001; decide), _, rfl, .inl ⟨_, rfl, _, _, rfl, rfl, (by show (0 : Int) < 2520; decide), _, _, rfl, rfl, (by show 4 ≤ sizeLine; decide), fun q hq => ?_⟩⟩⟩⟩⟩
    refine ⟨_, rfl, .inl ⟨_, rfl, _, _, rfl, rfl, (by show (0 : Int) < 4; decide), q, _, _, _, rfl, rfl, SqL.of upd_same, hat, ?_⟩⟩
    exact k n _ n1 n2 (P3.same (same_upd hq)) (((B1.trans B2).trans B3).same (same_upd hq))
theorem scLPlace : FnScope ["_law_pool_here", "_law_number_here", "_law_place_here", "_law_k"] ["_law_pool_here", "_law_number_here"] (defScope sLPlace) := ⟨rfl, rfl, rfl, by decide +kernel, rfl, by decide +kernel, by decide +kernel⟩
theorem ok_LPlace (T : Tx mg) (gLDraw : Gd P w K mg base CX0 "_law_draw" 1 spDraw) (gLText : Gd P w K mg base CX0 "_law_text" 2 spText) (D : Df K mg "_law_place" sLPlace) : Gd P w K mg base CX0 "_law_place" 3 spPlace := by
  refine gd_mk (ps := ["_law_pool_here", "_law_number_here"]) D (fun _ _ _ _ _ _ us hl => match us, hl with | [_, _], _ => rfl) fun f fd F => F.ok scLPlace (fun vs H Q E h => ?_) (fun cdv A outer s H vs Q E hr h => ?_)
  · obtain ⟨p, n, rfl, _⟩ := h
    rfl
  · obtain ⟨p, n, rfl, hP, n1, n2, k⟩ := h
    have hs := sgn_len (n := n) n1 (by omega)
    refine ⟨_, (pss_cons (ps_set (i := 2) scLPlace.nd rfl (Or.inl rfl) (pe_op op_add_str (pe_op op_add_str (pe_op op_add_str (pe_callTy call_str_int (by rfl) T.n_str (by decide +kernel) (pa_cons (pv 1) pa_nil)) pe_str) (pe_gd gLText (hr.mono (by decide)) rfl (pa_cons (pv 0) pa_nil))) pe_str))
      (pss_cons (ps_for PassesOwn.never rfl (pi_range1 rfl T.n_range (pa_cons (pe_gd gLDraw (hr.mono (by decide)) rfl (pa_cons (pv 0) (pa_cons pe_int pa_nil))) pa_nil)) (pg_name (i := 3) scLPlace.nd rfl (Or.inl rfl))
        (pss_one (ps_set (i := 2) scLPlace.nd rfl (Or.inl rfl) (pe_op op_add_str (pe_op op_add_str (pv 2) (pe_gd gLText (hr.mono (by decide)) rfl (pa_cons (pv 0) pa_nil))) pe_str))))
      (pss_cons (ps_if (pt_cmpR op_eq (pe_gd gLDraw (hr.mono (by decide)) rfl (pa_cons (pv 0) (pa_cons pe_int pa_nil))) pe_int (nomark _))
        (pss_one (ps_set (i := 2) scLPlace.nd rfl (Or.inl rfl) (pe_op op_add_str (pv 2) (pe_gd gLText (hr.mono (by decide)) rfl (pa_cons (pv 0) pa_nil)))))
        pss_nil)
      (pss_one (ps_ret (pv 2)))))), ?_⟩
    refine ⟨_, rfl, _, rfl, log_small (by omega), _, _, rfl, rfl, lenS (sgn_S _) str_sp (by simp; omega), _, rfl, p, rfl, hP, fun t H1 t10 tl P1 B1 => ?_⟩
    refine ⟨_, _, rfl, rfl, lenS (appS (sgn_S _) str_sp) rfl (by simp; omega), _, _, rfl, rfl, lenS (appS (appS (sgn_S _) str_sp) rfl) str_nl (by simp; omega), ?_⟩
    rw [show (toString n : Str) ++ (" " : Str) ++ S t ++ ("\n" : Str) = S (sgn n ++ 32 :: (t ++ 10 :: [])) from (appS (appS (appS (sgn_S _) str_sp) rfl) str_nl).trans (congrArg S (by simp))]
    refine ⟨_, rfl, p, 4, rfl, P1, by decide, fun m H2 m1 m2 P2 B2 => ⟨m, rfl, by omega, by omega, for_range (fun i σ H' => ∃ (l : List Nat) (z : Option V), σ = [some (.ref p), some (.int n), some (.str (S l)), z] ∧ (headL l).isSome = true ∧ l.length ≤ 330 + 310 * i ∧ Pool H' p ∧ But p H H') ?_ ?_ ?_⟩⟩
    · exact ⟨_, none, rfl, headL_num n1 n2 [] t10, by simp; omega, P2, B1.trans B2⟩
    · rintro i σ H' hi ⟨l, z, rfl, lh, ll, Pl, Bl⟩
      refine ⟨_, rfl, _, rfl, p, rfl, Pl, fun t2 H3 u10 ul P3 B3 => ?_⟩
      refine ⟨_, _, rfl, rfl, lenS rfl rfl (by omega), _, _, rfl, rfl, lenS (appS rfl rfl) str_nl (by simp; omega), ?_⟩
      rw [show S l ++ S t2 ++ ("\n" : Str) = S (l ++ (t2 ++ [10])) from (appS (appS rfl rfl) str_nl).trans (congrArg S (by simp))]
      obtain ⟨pr, hpr⟩ := Option.isSome_iff_exists.mp lh
      exact ⟨_, _, rfl, by rw [headL_more _ hpr]; rfl, by simp; omega, P3, Bl.trans B3⟩
    · rintro σ H' ⟨l, z, rfl, lh, ll, Pl, Bl⟩
      refine ⟨_, rfl, p, 3, rfl, Pl, by decide, fun v H4 v1 v2 P4 B4 => ⟨rfl, _, rfl, ite_dec (fun _ => ?_) (fun _ => ?_)⟩⟩
      · refine ⟨_, rfl, _, rfl, p, rfl, P4, fun t3 H5 w10 wl P5 B5 => ?_⟩
        refine ⟨_, _, rfl, rfl, lenS rfl rfl (by omega), ?_⟩
        rw [show S l ++ S t3 = S (l ++ t3) from appS rfl rfl]
        obtain ⟨pr, hpr⟩ := Option.isSome_iff_exists.mp lh
        exact ⟨_, rfl, k _ _ (by rw [headL_more _ hpr]; rfl) (by simp; omega) P5 ((Bl.trans B4).trans B5)⟩
      · exact ⟨_, rfl, k _ _ lh (by omega) P4 (Bl.trans B4)⟩
theorem scLMayPass : FnScope ["_law_places_here", "_law_place_here", "_law_head_here"] ["_law_places_here"] (defScope sLMayPass) := ⟨rfl, rfl, rfl, by decide +kernel, rfl, by decide +kernel, by decide +kernel⟩
theorem ok_LMayPass (gLHead : Gd P w K mg base CX0 "_law_head" 1 spLHead) (D : Df K mg "_law_may_pass" sLMayPass) : Gd P w K mg base CX0 "_law_may_pass" 2 spMayPass := by
  refine gd_mk (ps := ["_law_places_here"]) D (fun _ _ _ _ _ _ us hl => match us, hl with | [_], _ => rfl) fun f fd F => F.ok scLMayPass (fun vs H Q E h => ?_) (fun cdv A outer s H vs Q E hr h => ?_)
  · obtain ⟨p, l0, l1, rfl, _⟩ := h
    rfl
  · obtain ⟨p, l0, l1, rfl, hp, hL, k⟩ := h
    refine ⟨_, (pss_cons (ps_for PassesOwn.never rfl (pi_list (pv 0)) (pg_name (i := 1) scLMayPass.nd rfl (Or.inl rfl))
        (pss_cons (ps_set (i := 2) scLMayPass.nd rfl (Or.inl rfl) (pe_gd gLHead (hr.mono (by decide)) rfl (pa_cons (pv 1) pa_nil)))
        (pss_one (ps_if (PW.pt (pw_and (pt_cmpR op_notN (pv 2) pe_non (nomark _)) (pw_and1 (pt_cmpR op_gt (pe_ix ix_tup (pv 2) pe_int (fun _ _ => rfl)) pe_int (nomark _)))))
          (pss_one (ps_ret pe_bl))
          pss_nil))))
      (pss_one (ps_ret pe_bl))), ?_⟩
    refine ⟨_, rfl, p, rfl, ⟨_, SqL.of hp⟩, for_list (xs := vs2 l0 l1) (fun i σ H' => (∃ z1 z2 : Option V, σ = [some (.ref p), z1, z2]) ∧ Same H H') ⟨⟨_, _, rfl⟩, fun _ _ e => e⟩ (fun i σ H' _ ⟨_, sm⟩ => SqL.of (sm _ _ hp)) ?_ ?_⟩
    · rintro i x σ H' hx ⟨⟨z1, z2, rfl⟩, sm⟩
      obtain ⟨l, rfl, hl⟩ : ∃ l, x = .str (S l) ∧ l.length ≤ 1000000 := by
        have hm := List.mem_of_getElem? hx
        simp only [List.mem_cons, List.not_mem_nil, or_false] at hm
        rcases hm with rfl | rfl
        · exact ⟨_, rfl, hL.1⟩
        · exact ⟨_, rfl, hL.2⟩
      refine ⟨_, rfl, l, rfl, hl, fun v H2 S2 hv => ?_⟩
      have sm2 := sm.trans S2
      refine ⟨_, rfl, rfl, _, rfl, ?_⟩
      rcases headV_cases hv with ⟨_, rfl⟩ | ⟨n, t, a, _, rfl, ha⟩
      · exact ite_f ⟨⟨_, _, rfl⟩, sm2⟩
      · refine ite_t ⟨_, rfl, a, _, _, _, rfl, rfl, SqT.of ha, rfl, _, _, rfl, rfl, _, rfl, ite_dec (fun _ => ?_) (fun _ => ?_)⟩
        · exact k _ _ sm2
        · exact ⟨⟨_, _, rfl⟩, sm2⟩
    · rintro σ H' ⟨_, sm⟩
      exact k _ _ sm
end
end Wd
/-! What is no book; two places. -/
namespace Wd
open PySem PySem.Spec PyProof.Rows L2
/-- the fifteen texts -/
def oddL (t f : List Nat) : List (List Nat) := [[], t, f ++ 32 :: t, f, f ++ [10], 48 :: (f ++ [32, 97, 10]), 32 :: (f ++ [32, 97, 10]), 10 :: (f ++ [32, 97, 10]),
  [49, 50, 51, 52, 53, 54, 55, 56, 57, 48, 32, 97, 10], [45, 49, 32, 97, 10], [43, 49, 32, 97, 10], [97, 32, 49, 10], [49, 97, 32, 98, 10], [48, 48, 32, 97, 10], f ++ [10, 48, 32, 97, 10]]
theorem str_c8 : ("1234567890 a\n" : Str) = S [49, 50, 51, 52, 53, 54, 55, 56, 57, 48, 32, 97, 10] := by decide +kernel
theorem str_c9 : ("-1 a\n" : Str) = S [45, 49, 32, 97, 10] := by decide +kernel
theorem str_c10 : ("+1 a\n" : Str) = S [43, 49, 32, 97, 10] := by decide +kernel
theorem str_c11 : ("a 1\n" : Str) = S [97, 32, 49, 10] := by decide +kernel
theorem str_c12 : ("1a b\n" : Str) = S [49, 97, 32, 98, 10] := by decide +kernel
theorem str_c13 : ("00 a\n" : Str) = S [48, 48, 32, 97, 10] := by decide +kernel
theorem odd_none {t f : List Nat} (ht : 10 ∉ t) (h10 : 10 ∉ f) (h32 : 32 ∉ f) (hne : f ≠ []) (tl : t.length ≤ 300) (fl : f.length ≤ 10) : ∀ l ∈ oddL t f, headL l = none ∧ l.length ≤ 3000 := by
  intro l hl
  unfold oddL at hl
  simp only [List.mem_cons, List.not_mem_nil, or_false] at hl
  rcases hl with rfl | rfl | rfl | rfl | rfl | rfl | rfl | rfl | rfl | rfl | rfl | rfl | rfl | rfl | rfl
  · exact ⟨rfl, by decide⟩
  · exact ⟨headL_noline ht, by omega⟩
  · exact ⟨headL_noline (by simp [h10, ht]), by simp; omega⟩
  · exact ⟨headL_noline h10, by omega⟩
  · exact ⟨headL_nobl [] h10 h32, by simp; omega⟩
  · refine ⟨?_, by simp; omega⟩
    have e := headL_app (f := 48 :: f) (t := [97]) [] (by simp [h32]) (by simp [h10]) (by decide)
    rw [if_neg (fun z => (figOk_iff.mp z).2.2.2 ⟨by have : f.length ≠ 0 := fun q => hne (List.length_eq_zero_iff.mp q); rw [List.length_cons]; omega, rfl⟩)] at e
    exact e
  · refine ⟨?_, by simp; omega⟩
    have e := headL_app (f := []) (t := f ++ [32, 97]) [] (by simp) (by simp) (by simp [h10])
    rw [if_neg (by decide)] at e
    rw [← e]
    exact congrArg headL (by simp)
  · refine ⟨?_, by simp; omega⟩
    exact headL_nobl (a := []) (f ++ [32, 97, 10]) (by simp) (by simp)
  · exact ⟨by decide, by decide⟩
  · exact ⟨by decide, by decide⟩
  · exact ⟨by decide, by decide⟩
  · exact ⟨by decide, by decide⟩
  · exact ⟨by decide, by decide⟩
  · exact ⟨by decide, by decide⟩
  · refine ⟨?_, by simp; omega⟩
    exact headL_nobl [48, 32, 97, 10] h10 h32
theorem odd_vals (t f : List Nat) : [V.str ("" : Str), V.str (S t), V.str (S f ++ (" " : Str) ++ S t), V.str (S f), V.str (S f ++ ("\n" : Str)), V.str (("0" : Str) ++ S f ++ (" a\n" : Str)), V.str ((" " : Str) ++ S f ++ (" a\n" : Str))] ++
    [V.str (("\n" : Str) ++ S f ++ (" a\n" : Str)), V.str ("1234567890 a\n" : Str), V.str ("-1 a\n" : Str), V.str ("+1 a\n" : Str), V.str ("a 1\n" : Str), V.str ("1a b\n" : Str), V.str ("00 a\n" : Str)] ++ [V.str (S f ++ ("\n0 a\n" : Str))] = (oddL t f).map fun z => V.str (S z) := by
  rw [str_c8, str_c9, str_c10, str_c11, str_c12, str_c13, str_n0a, str_spa, str_nil, str_sp, str_nl, str_zero]
  unfold oddL
  simp [S_app]
section
variable {P : Program} {w : World} {K : PySem.W.Frag} {mg : Str → Option Value} {base : Heap}
theorem scLNoBook : FnScope ["_law_pool_here", "_law_text_here", "_law_number_here", "_law_odd"] ["_law_pool_here"] (defScope sLNoBook) := ⟨rfl, rfl, rfl, by decide +kernel, rfl, by decide +kernel, by decide +kernel⟩
theorem ok_LNoBook (T : Tx mg) (gLDraw : Gd P w K mg base CX0 "_law_draw" 1 spDraw) (gLText : Gd P w K mg base CX0 "_law_text" 2 spText) (gLNumber : Gd P w K mg base CX0 "_law_number" 2 spNumber) (D : Df K mg "_law_no_book" sLNoBook) : Gd P w K mg base CX0 "_law_no_book" 3 spNoBook := by
  refine gd_mk (ps := ["_law_pool_here"]) D (fun _ _ _ _ _ _ us hl => match us, hl with | [_], _ => rfl) fun f fd F => F.ok scLNoBook (fun vs H Q E h => ?_) (fun cdv A outer s H vs Q E hr h => ?_)
  · obtain ⟨p, rfl, _⟩ := h
    rfl
  · obtain ⟨p, rfl, hP, k⟩ := h
    refine ⟨_, (pss_cons (ps_set (i := 1) scLNoBook.nd rfl (Or.inl rfl) (pe_gd gLText (hr.mono (by decide)) rfl (pa_cons (pv 0) pa_nil)))
      (pss_cons (ps_set (i := 2) scLNoBook.nd rfl (Or.inl rfl) (pe_callTy call_str_int (by rfl) T.n_str (by decide +kernel) (pa_cons (pe_gd gLNumber (hr.mono (by decide)) rfl (pa_cons (pv 0) pa_nil)) pa_nil)))
      (pss_cons (ps_set (i := 3) scLNoBook.nd rfl (Or.inl rfl) (pe_lst (pa_cons pe_str (pa_cons (pv 1) (pa_cons (pe_op op_add_str (pe_op op_add_str (pv 2) pe_str) (pv 1)) (pa_cons (pv 2) (pa_cons (pe_op op_add_str (pv 2) pe_str) (pa_cons (pe_op op_add_str (pe_op op_add_str pe_str (pv 2)) pe_str) (pa_cons (pe_op op_add_str (pe_op op_add_str pe_str (pv 2)) pe_str) pa_nil)))))))))
      (pss_cons (ps_set (i := 3) scLNoBook.nd rfl (Or.inl rfl) (pe_op op_cat (pv 3) (pe_lst (pa_cons (pe_op op_add_str (pe_op op_add_str pe_str (pv 2)) pe_str) (pa_cons pe_str (pa_cons pe_str (pa_cons pe_str (pa_cons pe_str (pa_cons pe_str (pa_cons pe_str pa_nil))))))))))
      (pss_cons (ps_expr (pe_bm PySem.F.plainAttrs_list PySem.F.slot_list_append PySem.F.type_list_append mt_append (pv 3) (pa_cons (pe_op op_add_str (pv 2) pe_str) pa_nil)))
      (pss_one (ps_ret (pe_ix ix_list (pv 3) (pe_gd gLDraw (hr.mono (by decide)) rfl (pa_cons (pv 0) (pa_cons pe_int pa_nil))) (fun _ _ => rfl))))))))), ?_⟩
    refine ⟨_, rfl, p, rfl, hP, fun t H1 t10 tl P1 B1 => ?_⟩
    refine ⟨_, rfl, p, rfl, P1, fun n H2 n1 n2 P2 B2 => ⟨_, rfl, log_small (by omega), ?_⟩⟩
    have hs := sgn_len (n := n) n1 (by omega)
    have h10 : 10 ∉ sgn n := sgn_no n1
    have h32 : 32 ∉ sgn n := by
      obtain ⟨m, _, e⟩ := sgn_num n1 n2
      rw [e]
      exact TL.numL_free (.inl (by decide))
    have hne : sgn n ≠ [] := by
      obtain ⟨m, _, e⟩ := sgn_num n1 n2
      rw [e]
      exact TL.numL_ne m
    rw [sgn_S n]
    obtain ⟨fl, hfl⟩ : ∃ fl, sgn n = fl := ⟨_, rfl⟩
    rw [hfl] at hs h10 h32 hne ⊢
    have odd := odd_none t10 h10 h32 hne tl hs
    refine ⟨_, rfl, _, rfl, _, _, rfl, rfl, lenS rfl str_sp (by simp; omega), _, rfl, _, _, rfl, rfl, lenS (appS rfl str_sp) rfl (by simp; omega), _, rfl, _, rfl, _, _, rfl, rfl, lenS rfl str_nl (by simp; omega),
      _, rfl, _, _, rfl, rfl, lenS str_zero rfl (by simp; omega), _, _, rfl, rfl, lenS (appS str_zero rfl) str_spa (by simp; omega), _, rfl, _, _, rfl, rfl, lenS str_sp rfl (by simp; omega), _, _, rfl, rfl, lenS (appS str_sp rfl) str_spa (by simp; omega), (by show 7 ≤ sizeLine; decide), fun q hq => ?_⟩
    refine ⟨_, rfl, _, rfl, _, _, rfl, rfl, lenS str_nl rfl (by simp; omega), _, _, rfl, rfl, lenS (appS str_nl rfl) str_spa (by simp; omega), (by show 7 ≤ sizeLine; decide), fun q2 hq2 => ?_⟩
    refine ⟨q, q2, _, _, rfl, rfl, (same_upd hq2) _ _ upd_same, upd_same, (by show 7 + 7 ≤ sizeLine; decide), fun p3 hp3 => ?_⟩
    refine ⟨_, rfl, .inl ⟨rfl, _, SqL.of upd_same⟩, _, rfl, _, _, rfl, rfl, lenS rfl str_n0a (by simp; omega), p3, _, _, rfl, rfl, upd_same, (by show 14 < sizeLine; decide), ?_⟩
    have np : p3 ≠ p := by
      obtain ⟨ns, _, hns⟩ := (P2.same (same_upd hq)).same (same_upd hq2)
      exact (ne_of_none hns hp3).symm
    rw [odd_vals, upd_upd]
    refine ⟨_, rfl, _, rfl, p, 15, rfl, P2.same (((same_upd hq).trans (same_upd hq2)).trans (same_upd hp3)), by decide, fun v H5 v1 v2 P5 B5 => ?_⟩
    obtain ⟨x, hat, hx⟩ := atI_mem (xs := (oddL t fl).map fun z => V.str (S z)) (i := v) v1 v2
    obtain ⟨l, hl, rfl⟩ := List.mem_map.mp hx
    refine ⟨p3, _, _, _, rfl, rfl, SqL.of (B5 _ _ upd_same np), hat, ?_⟩
    exact k l _ (odd l hl).1 (odd l hl).2 P5 (((B1.trans B2).same (((same_upd hq).trans (same_upd hq2)).trans (same_upd hp3))).trans B5)
theorem but_put {p q : Addr} {H H' : Hp} {o : HO} (B : But p H H') (hq : H q = none) : But p H (upd H' q o) := fun b u e hb => by
  rw [upd_ne (ne_of_none e hq)]
  exact B b u e hb
theorem scLPlaces : FnScope ["_law_pool_here", "_law_number_here", "_law_now", "_law_way", "_law_places_here"] ["_law_pool_here"] (defScope sLPlaces) := ⟨rfl, rfl, rfl, by decide +kernel, rfl, by decide +kernel, by decide +kernel⟩
theorem ok_LPlaces (T : Tx mg) (gLDraw : Gd P w K mg base CX0 "_law_draw" 1 spDraw) (gLNumber : Gd P w K mg base CX0 "_law_number" 2 spNumber) (gLPlace : Gd P w K mg base CX0 "_law_place" 3 spPlace) (gLNoBook : Gd P w K mg base CX0 "_law_no_book" 3 spNoBook)
    (D : Df K mg "_law_places" sLPlaces) : Gd P w K mg base CX0 "_law_places" 4 spLPlaces := by
  refine gd_mk (ps := ["_law_pool_here"]) D (fun _ _ _ _ _ _ us hl => match us, hl with | [_], _ => rfl) fun f fd F => F.ok scLPlaces (fun vs H Q E h => ?_) (fun cdv A outer s H vs Q E hr h => ?_)
  · obtain ⟨p, rfl, _⟩ := h
    rfl
  · obtain ⟨p, rfl, hP, k⟩ := h
    refine ⟨_, (pss_cons (ps_set (i := 1) scLPlaces.nd rfl (Or.inl rfl) (pe_gd gLNumber (hr.mono (by decide)) rfl (pa_cons (pv 0) pa_nil)))
      (pss_cons (ps_set (i := 2) scLPlaces.nd rfl (Or.inl rfl) (pe_gd gLDraw (hr.mono (by decide)) rfl (pa_cons (pv 0) (pa_cons pe_int pa_nil))))
      (pss_cons (ps_set (i := 3) scLPlaces.nd rfl (Or.inl rfl) (pe_gd gLDraw (hr.mono (by decide)) rfl (pa_cons (pv 0) (pa_cons pe_int pa_nil))))
      (pss_cons (ps_set (i := 4) scLPlaces.nd rfl (Or.inl rfl) (pe_lst (pa_cons pe_str (pa_cons pe_str pa_nil))))
      (pss_cons (ps_asg (pe_gd gLPlace (hr.mono (by decide)) rfl (pa_cons (pv 0) (pa_cons (pv 1) pa_nil))) (pg_sub (pv 4) (pv 2) set_list))
      (pss_cons (ps_asg (pe_gd gLNoBook (hr.mono (by decide)) rfl (pa_cons (pv 0) pa_nil)) (pg_sub (pv 4) (pe_op op_sub pe_int (pv 2)) set_list))
      (pss_cons (ps_if (pt_cmpR op_gt (pv 3) pe_int (nomark _))
        (pss_one (ps_asg (pe_gd gLPlace (hr.mono (by decide)) rfl (pa_cons (pv 0) (pa_cons (pe_ix ix_list (pe_lst (pa_cons (pv 1) (pa_cons (pe_gd gLNumber (hr.mono (by decide)) rfl (pa_cons (pv 0) pa_nil)) pa_nil))) (pe_op op_sub (pv 3) pe_int) (fun _ _ => rfl)) pa_nil))) (pg_sub (pv 4) (pe_op op_sub pe_int (pv 2)) set_list)))
        pss_nil)
      (pss_one (ps_ret (pv 4)))))))))), ?_⟩
    refine ⟨_, rfl, p, rfl, hP, fun n H1 n1 n2 P1 B1 => ?_⟩
    refine ⟨_, rfl, p, 2, rfl, P1, by decide, fun now H2 w1 w2 P2 B2 => ?_⟩
    refine ⟨_, rfl, p, 4, rfl, P2, by decide, fun way H3 y1 y2 P3 B3 => ?_⟩
    refine ⟨two_ok _ _, fun q hq => ?_⟩
    have B03 := (B1.trans B2).trans B3
    have nqp : q ≠ p := by
      obtain ⟨ns, _, hns⟩ := P3
      exact (ne_of_none hns hq).symm
    have hq0 : H q = none := B03.free nqp hq
    have hnow : now = 0 ∨ now = 1 := by omega
    rcases hnow with rfl | rfl
    · refine ⟨_, rfl, _, rfl, p, n, rfl, P3.same (same_upd hq), n1, n2, fun l H5 lh ll P5 B5 => ?_⟩
      have Q5 := (B03.same (same_upd hq)).trans B5
      refine ⟨_, rfl, _, rfl, q, _, _, 0, rfl, rfl, B5 _ _ upd_same nqp, rfl, ?_⟩
      refine ⟨_, rfl, p, rfl, pool_ne P5 nqp, fun x H6 xh xl P6 B6 => ?_⟩
      have Q6 := (but_put Q5 hq0).trans B6
      refine ⟨_, rfl, _, rfl, _, _, rfl, rfl, q, _, _, 1, rfl, rfl, B6 _ _ upd_same nqp, rfl, ?_⟩
      refine ⟨_, rfl, _, _, rfl, rfl, _, rfl, ite_dec (fun c => ?_) (fun c => ?_)⟩
      · refine ⟨_, rfl, _, rfl, _, rfl, p, rfl, pool_ne P6 nqp, fun n' H8 n1' n2' P8 B8 => ⟨two_ok _ _, fun q2 hq2 => ?_⟩⟩
        obtain ⟨v, hat, hv⟩ := atI_mem (xs := [V.int n, V.int n']) (i := way - 2) (by omega) (by show way - 2 < ((2 : Nat) : Int); omega)
        obtain ⟨m, rfl, m1, m2⟩ : ∃ m : Int, v = .int m ∧ 0 ≤ m ∧ m ≤ 900000000 := by
          simp only [List.mem_cons, List.not_mem_nil, or_false] at hv
          rcases hv with rfl | rfl
          · exact ⟨_, rfl, n1, n2⟩
          · exact ⟨_, rfl, n1', n2'⟩
        refine ⟨_, rfl, _, _, rfl, rfl, q2, _, _, _, rfl, rfl, SqL.of upd_same, hat, p, m, rfl, P8.same (same_upd hq2), m1, m2, fun y H10 yh yl P10 B10 => ?_⟩
        have Q10 := (((but_put Q6 hq0).trans B8).same (same_upd hq2)).trans B10
        refine ⟨_, rfl, _, rfl, _, _, rfl, rfl, q, _, _, 1, rfl, rfl, (B8.same (same_upd hq2)).trans B10 _ _ upd_same nqp, rfl, ?_⟩
        exact ⟨_, rfl, k q l y _ hq0 upd_same ⟨ll, yl⟩ (.inl lh) (pool_ne P10 nqp) (but_put Q10 hq0)⟩
      · exact ⟨_, rfl, k q l x _ hq0 upd_same ⟨ll, xl⟩ (.inl lh) (pool_ne P6 nqp) (but_put Q6 hq0)⟩
    · refine ⟨_, rfl, _, rfl, p, n, rfl, P3.same (same_upd hq), n1, n2, fun l H5 lh ll P5 B5 => ?_⟩
      have Q5 := (B03.same (same_upd hq)).trans B5
      refine ⟨_, rfl, _, rfl, q, _, _, 1, rfl, rfl, B5 _ _ upd_same nqp, rfl, ?_⟩
      refine ⟨_, rfl, p, rfl, pool_ne P5 nqp, fun x H6 xh xl P6 B6 => ?_⟩
      have Q6 := (but_put Q5 hq0).trans B6
      refine ⟨_, rfl, _, rfl, _, _, rfl, rfl, q, _, _, 0, rfl, rfl, B6 _ _ upd_same nqp, rfl, ?_⟩
      refine ⟨_, rfl, _, _, rfl, rfl, _, rfl, ite_dec (fun c => ?_) (fun c => ?_)⟩
      · refine ⟨_, rfl, _, rfl, _, rfl, p, rfl, pool_ne P6 nqp, fun n' H8 n1' n2' P8 B8 => ⟨two_ok _ _, fun q2 hq2 => ?_⟩⟩
        obtain ⟨v, hat, hv⟩ := atI_mem (xs := [V.int n, V.int n']) (i := way - 2) (by omega) (by show way - 2 < ((2 : Nat) : Int); omega)
        obtain ⟨m, rfl, m1, m2⟩ : ∃ m : Int, v = .int m ∧ 0 ≤ m ∧ m ≤ 900000000 := by
          simp only [List.mem_cons, List.not_mem_nil, or_false] at hv
          rcases hv with rfl | rfl
          · exact ⟨_, rfl, n1, n2⟩
          · exact ⟨_, rfl, n1', n2'⟩
        refine ⟨_, rfl, _, _, rfl, rfl, q2, _, _, _, rfl, rfl, SqL.of upd_same, hat, p, m, rfl, P8.same (same_upd hq2), m1, m2, fun y H10 yh yl P10 B10 => ?_⟩
        have Q10 := (((but_put Q6 hq0).trans B8).same (same_upd hq2)).trans B10
        refine ⟨_, rfl, _, rfl, _, _, rfl, rfl, q, _, _, 0, rfl, rfl, (B8.same (same_upd hq2)).trans B10 _ _ upd_same nqp, rfl, ?_⟩
        exact ⟨_, rfl, k q y l _ hq0 upd_same ⟨yl, ll⟩ (.inr lh) (pool_ne P10 nqp) (but_put Q10 hq0)⟩
      · exact ⟨_, rfl, k q x l _ hq0 upd_same ⟨xl, ll⟩ (.inr lh) (pool_ne P6 nqp) (but_put Q6 hq0)⟩
end
end Wd
/-! The law's pool of ints. -/
namespace Wd
open PySem PySem.Spec PyProof.Rows L2
theorem sql_same {K : PySem.W.Frag} {H H' : Hp} {a : Addr} {xs : List V} (s : Same H H') (h : SqL K H a xs) : SqL K H' a xs := by
  rcases h with h | h
  · rcases h with h | ⟨o, h⟩
    · exact .inl (.inl (s _ _ h))
    · exact .inl (.inr ⟨o, s _ _ h⟩)
  · exact .inr h
theorem ints_push (ms : List Int) (e : Int) : ms.map V.int ++ [V.int e] = (ms ++ [e]).map V.int := by
  rw [List.map_append]
  rfl
theorem cut_pool (ns : List Int) : ∃ ms : List Int, cutV (ns.map V.int) none (some 700) = ms.map V.int ∧ ms.length ≤ 700 := by
  refine ⟨ns.take (min 700 ns.length), ?_, by rw [List.length_take]; omega⟩
  unfold cutV
  have e : HT.sIx (ns.map V.int).length (ns.map V.int).length (some 700) = min 700 ns.length := by
    rw [List.length_map]
    exact HT.sIx_nat _ _ 700
  rw [HT.sIx_none, e, List.drop_zero, Nat.sub_zero, List.map_take]
section
variable {P : Program} {w : World} {K : PySem.W.Frag} {mg : Str → Option Value} {base : Heap}
/-- a list of ints -/
abbrev intsO (ns : List Int) : HO := .lst (ns.map V.int)
theorem scLPool : FnScope ["_law_script", "_law_many", "_law_pool_here", "_law_total", "_law_cell", "_law_rest", "_law_k", "_law_first", "_law_second"] ["_law_script", "_law_many"] (defScope sLPool) := ⟨rfl, rfl, rfl, by decide +kernel, rfl, by decide +kernel, by decide +kernel⟩
theorem ok_LPool (T : Tx mg) (D : Df K mg "_law_pool" sLPool) : Gd P w K mg base CX0 "_law_pool" 1 (spPool K) := by
  refine gd_mk (ps := ["_law_script", "_law_many"]) D (fun _ _ _ _ _ _ us hl => match us, hl with | [_, _], _ => rfl) fun f fd F => F.ok scLPool (fun vs H Q E h => ?_) (fun cdv A outer s H vs Q E hr h => ?_)
  · obtain ⟨a, ns, rfl, _⟩ := h
    rfl
  · obtain ⟨a, ns, rfl, ha, hn, k⟩ := h
    refine ⟨_, (pss_cons (ps_set (i := 2) scLPool.nd rfl (Or.inl rfl) (pe_lst pa_nil))
      (pss_cons (ps_set (i := 3) scLPool.nd rfl (Or.inl rfl) pe_int)
      (pss_cons (ps_for PassesOwn.never rfl (pi_list (pv 0)) (pg_name (i := 4) scLPool.nd rfl (Or.inl rfl))
        (pss_cons (ps_set (i := 5) scLPool.nd rfl (Or.inl rfl) (pe_callTy call_int1 (by rfl) T.n_int (by decide +kernel) (pa_cons (pe_callB call_abs (by rfl) T.n_abs (by decide +kernel) (pa_cons (pv 4) pa_nil)) pa_nil)))
        (pss_cons (ps_if (pt_cmpR op_ge (pv 5) (pe_op op_pow pe_int pe_int) (nomark _))
          (pss_one (ps_for PassesOwn.never rfl (pi_range1 rfl T.n_range (pa_cons (pe_callB (call_min2 rfl) (by rfl) T.n_min (by decide +kernel) (pa_cons pe_int (pa_cons (pe_op op_sub (pv 1) (pe_callB call_len_seq (by rfl) T.n_len boot_len (pa_cons (pv 2) pa_nil))) pa_nil))) pa_nil)) (pg_name (i := 6) scLPool.nd rfl (Or.inl rfl))
            (pss_cons (ps_expr (pe_bm PySem.F.plainAttrs_list PySem.F.slot_list_append PySem.F.type_list_append mt_append (pv 2) (pa_cons (pe_op op_mod (pe_callTy call_int1 (by rfl) T.n_int (by decide +kernel) (pa_cons (pv 5) pa_nil)) pe_int) pa_nil)))
            (pss_cons (ps_set (i := 5) scLPool.nd rfl (Or.inl rfl) (pe_op op_fdiv (pv 5) pe_int))
            (pss_one (ps_if (pt_cmpR op_eq (pv 5) pe_int (nomark _))
              (pss_one ps_break)
              pss_nil))))))
          (pss_cons (ps_set (i := 7) scLPool.nd rfl (Or.inl rfl) (pe_op op_mod (pe_callTy call_int1 (by rfl) T.n_int (by decide +kernel) (pa_cons (pe_op op_add (pe_op op_add (pe_op op_mul (pv 4) pe_int) (pe_op op_mul (pe_callB call_len_seq (by rfl) T.n_len boot_len (pa_cons (pv 2) pa_nil)) pe_int)) pe_int) pa_nil)) pe_int))
          (pss_cons (ps_set (i := 8) scLPool.nd rfl (Or.inl rfl) (pe_op op_mod (pe_callTy call_int1 (by rfl) T.n_int (by decide +kernel) (pa_cons (pe_op op_add (pe_op op_mul (pv 7) (pv 7)) pe_int) pa_nil)) pe_int))
          (pss_cons (ps_expr (pe_bm PySem.F.plainAttrs_list PySem.F.slot_list_append PySem.F.type_list_append mt_append (pv 2) (pa_cons (pe_op op_mod (pe_callTy call_int1 (by rfl) T.n_int (by decide +kernel) (pa_cons (pe_op op_fdiv (pv 8) pe_int) pa_nil)) pe_int) pa_nil)))
          (pss_one (ps_expr (pe_bm PySem.F.plainAttrs_list PySem.F.slot_list_append PySem.F.type_list_append mt_append (pv 2) (pa_cons (pe_op op_mod (pe_op op_mod (pe_callTy call_int1 (by rfl) T.n_int (by decide +kernel) (pa_cons (pe_op op_add (pe_op op_mul (pv 8) pe_int) (pv 7)) pa_nil)) pe_int) pe_int) pa_nil))))))))
        (pss_one (ps_set (i := 3) scLPool.nd rfl (Or.inl rfl) (pe_op op_mod (pe_callTy call_int1 (by rfl) T.n_int (by decide +kernel) (pa_cons (pe_op op_add (pe_op op_mul (pv 3) pe_int) (pv 4)) pa_nil)) pe_int))))))
      (pss_cons (ps_for PassesOwn.never rfl (pi_range1 rfl T.n_range (pa_cons (pv 1) pa_nil)) (pg_name (i := 6) scLPool.nd rfl (Or.inl rfl))
        (pss_cons (ps_set (i := 3) scLPool.nd rfl (Or.inl rfl) (pe_op op_mod (pe_callTy call_int1 (by rfl) T.n_int (by decide +kernel) (pa_cons (pe_op op_add (pe_op op_add (pe_op op_mul (pv 3) pe_int) (pe_op op_mul (pv 6) pe_int)) pe_int) pa_nil)) pe_int))
        (pss_one (ps_expr (pe_bm PySem.F.plainAttrs_list PySem.F.slot_list_append PySem.F.type_list_append mt_append (pv 2) (pa_cons (pe_op op_mod (pe_callTy call_int1 (by rfl) T.n_int (by decide +kernel) (pa_cons (pe_op op_fdiv (pv 3) pe_int) pa_nil)) pe_int) pa_nil))))))
      (pss_cons (ps_set (i := 2) scLPool.nd rfl (Or.inl rfl) (pe_slice sl_list (pv 2) po_none (po_some (pv 1))))
      (pss_cons (ps_expr (pe_bm0 PySem.F.plainAttrs_list PySem.F.slot_list_reverse PySem.F.type_list_reverse mt_reverse (pv 2)))
      (pss_one (ps_ret (pv 2))))))))), ?_⟩
    refine ⟨Nat.zero_le _, fun p hp => ?_⟩
    have hsm : ∀ o, Same H (upd H p o) := fun o => same_upd hp
    refine ⟨_, rfl, a, rfl, ⟨_, sql_same (hsm _) ha⟩, for_list (xs := ns.map V.int) (fun i σ H' => ∃ (t : Int) (z4 z5 z6 z7 z8 : Option V) (ms : List Int), σ = [some (.ref a), some (.int 700), some (.ref p), some (.int t), z4, z5, z6, z7, z8] ∧ 0 ≤ t ∧ t < 1000003 ∧ ms.length ≤ 60 * i ∧ H' = upd H p (intsO ms)) ?_ ?_ ?_ ?_⟩
    · exact ⟨1, none, none, none, none, none, [], rfl, by decide, by decide, Nat.le_refl _, rfl⟩
    · rintro i σ H' _ ⟨t, _, _, _, _, _, ms, rfl, _, _, _, rfl⟩
      exact sql_same (hsm _) ha
    · rintro i x σ H' hx ⟨t, z4, z5, z6, z7, z8, ms, rfl, t0, t1, hm, rfl⟩
      obtain ⟨c, rfl⟩ : ∃ c : Int, x = .int c := by
        obtain ⟨c, _, rfl⟩ := List.mem_map.mp (List.mem_of_getElem? hx)
        exact ⟨c, rfl⟩
      have hi : i < 63 := by
        rcases Nat.lt_or_ge i (ns.map V.int).length with q | q
        · rw [List.length_map] at q; omega
        · rw [List.getElem?_eq_none q] at hx; cases hx
      refine ⟨_, rfl, c, rfl, .inl ⟨_, rfl, ?_⟩⟩
      obtain ⟨rs, hrs⟩ : ∃ rs : Int, (if c < 0 then -c else c) = rs := ⟨_, rfl⟩
      rw [hrs]
      refine ⟨_, rfl, _, _, rfl, rfl, ⟨by decide, by decide, by decide⟩, _, _, rfl, rfl, _, rfl, ite_dec (fun c1 => ?_) (fun c1 => ?_)⟩
      · refine ⟨_, rfl, _, rfl, p, _, rfl, .inl (SqL.of upd_same), _, _, rfl, rfl, _, _, rfl, _, rfl, (by rw [List.length_map]; split <;> omega), (by rw [List.length_map]; split <;> omega), for_range (fun j σ H' => ∃ (r : Int) (z6 : Option V) (ms' : List Int), σ = [some (.ref a), some (.int 700), some (.ref p), some (.int t), some (.int c), some (.int r), z6, z7, z8] ∧ ms'.length = ms.length + j ∧ H' = upd H p (intsO ms')) ⟨rs, z6, ms, rfl, rfl, rfl⟩ ?_ ?_⟩
        · rintro j σ H' hj ⟨r, z6', ms', rfl, hl, rfl⟩
          have hj60 : j < 60 := by
            rw [List.length_map] at hj
            split at hj <;> omega
          refine ⟨_, rfl, .inl ⟨rfl, _, SqL.of upd_same⟩, _, rfl, .inl ⟨_, rfl, _, _, rfl, rfl, (by show (0 : Int) < 2520; decide), p, _, _, rfl, rfl, upd_same, Nat.lt_of_lt_of_le (show _ < 10000 by rw [List.length_map]; omega) (by decide), ?_⟩⟩
          rw [upd_upd, show ms'.map V.int ++ [V.int (r % 2520)] = (ms' ++ [r % 2520]).map V.int from ints_push _ _]
          refine ⟨_, rfl, _, _, rfl, rfl, ⟨by decide, by decide⟩, ?_⟩
          refine ⟨_, rfl, rfl, _, rfl, ite_dec (fun _ => ?_) (fun _ => ?_)⟩
          · refine ⟨_, rfl, _, _, rfl, rfl, .inl ⟨by omega, by omega⟩, _, rfl, _, _, rfl, rfl, .inl ⟨_, rfl, _, _, rfl, rfl, (by show (0 : Int) < 1000003; decide), ?_⟩⟩
            exact ⟨_, _, _, _, _, _, _, rfl, Int.emod_nonneg _ (by decide), Int.emod_lt_of_pos _ (by decide), by rw [List.length_append, List.length_singleton]; omega, rfl⟩
          · exact ⟨_, _, _, rfl, by rw [List.length_append, List.length_singleton]; omega, rfl⟩
        · rintro σ H' ⟨r, z6', ms', rfl, hl, rfl⟩
          refine ⟨_, rfl, _, _, rfl, rfl, .inl ⟨by omega, by omega⟩, _, rfl, _, _, rfl, rfl, .inl ⟨_, rfl, _, _, rfl, rfl, (by show (0 : Int) < 1000003; decide), ?_⟩⟩
          refine ⟨_, _, _, _, _, _, ms', rfl, Int.emod_nonneg _ (by decide), Int.emod_lt_of_pos _ (by decide), ?_, rfl⟩
          rw [hl, List.length_map]
          split <;> omega
      · have f0 : 0 ≤ (c * 48271 + ((ms.map V.int).length : Int) * 69621 + 11) % 2147483647 := Int.emod_nonneg _ (by decide)
        have f1 : (c * 48271 + ((ms.map V.int).length : Int) * 69621 + 11) % 2147483647 < 2147483647 := Int.emod_lt_of_pos _ (by decide)
        refine ⟨_, rfl, _, _, rfl, rfl, .inr ⟨by decide, by decide⟩, _, rfl, p, _, rfl, .inl (SqL.of upd_same), _, _, rfl, rfl, .inr ⟨by decide, by decide⟩, _, _, rfl, rfl, _, _, rfl, rfl, .inl ⟨_, rfl, _, _, rfl, rfl, (by show (0 : Int) < 2147483647; decide), ?_⟩⟩
        obtain ⟨fs, hfs⟩ : ∃ fs : Int, (c * 48271 + ((ms.map V.int).length : Int) * 69621 + 11) % 2147483647 = fs := ⟨_, rfl⟩
        rw [hfs] at f0 f1
        refine ⟨_, rfl, _, rfl, _, _, rfl, rfl, .inl ⟨Int.lt_of_lt_of_le (by decide) (hfs ▸ f0), Int.lt_trans (hfs ▸ f1) (by decide)⟩, _, _, rfl, rfl, .inl ⟨_, rfl, _, _, rfl, rfl, (by show (0 : Int) < 2147483629; decide), ?_⟩⟩
        obtain ⟨sc, hsc⟩ : ∃ sc : Int, (((c * 48271 + ((ms.map V.int).length : Int) * 69621 + 11) % 2147483647) * ((c * 48271 + ((ms.map V.int).length : Int) * 69621 + 11) % 2147483647) + 5) % 2147483629 = sc := ⟨_, rfl⟩
        refine ⟨_, rfl, .inl ⟨rfl, _, SqL.of upd_same⟩, _, rfl, _, _, rfl, rfl, ⟨by decide, by decide⟩, .inl ⟨_, rfl, _, _, rfl, rfl, (by show (0 : Int) < 2520; decide), p, _, .int (sc / 7 % 2520), rfl, congrArg (fun z => [V.int (z / 7 % 2520)]) hsc, upd_same, Nat.lt_of_lt_of_le (show _ < 10000 by rw [List.length_map]; omega) (by decide), ?_⟩⟩
        rw [upd_upd, show ms.map V.int ++ [V.int (sc / 7 % 2520)] = (ms ++ [sc / 7 % 2520]).map V.int from ints_push _ _]
        refine ⟨_, rfl, .inl ⟨rfl, _, SqL.of upd_same⟩, _, rfl, _, _, rfl, rfl, .inr ⟨by decide, by decide⟩, _, rfl, _, _, rfl, rfl, .inl ⟨_, rfl, _, _, rfl, rfl, (by show (0 : Int) < 2147483587; decide), _, _, rfl, rfl, (by show (0 : Int) < 2520; decide), p, _, .int ((sc * 16807 + fs) % 2147483587 % 2520), rfl, (by subst hsc; subst hfs; rfl), upd_same, Nat.lt_of_lt_of_le (show _ < 10000 by rw [List.length_map, List.length_append, List.length_singleton]; omega) (by decide), ?_⟩⟩
        rw [upd_upd, show (ms ++ [sc / 7 % 2520]).map V.int ++ [V.int ((sc * 16807 + fs) % 2147483587 % 2520)] = ((ms ++ [sc / 7 % 2520]) ++ [(sc * 16807 + fs) % 2147483587 % 2520]).map V.int from ints_push _ _]
        refine ⟨_, rfl, _, _, rfl, rfl, .inl ⟨by omega, by omega⟩, _, rfl, _, _, rfl, rfl, .inl ⟨_, rfl, _, _, rfl, rfl, (by show (0 : Int) < 1000003; decide), ?_⟩⟩
        exact ⟨_, _, _, _, _, _, _, rfl, Int.emod_nonneg _ (by decide), Int.emod_lt_of_pos _ (by decide), by rw [List.length_append, List.length_append, List.length_singleton, List.length_singleton]; omega, rfl⟩
    · rintro σ H' ⟨t, z4, z5, z6, z7, z8, ms, rfl, t0, t1, hm, rfl⟩
      rw [List.length_map] at hm
      refine ⟨_, rfl, _, rfl, by decide, by decide, for_range (fun j σ H' => ∃ (t : Int) (z6 : Option V) (ms' : List Int), σ = [some (.ref a), some (.int 700), some (.ref p), some (.int t), z4, z5, z6, z7, z8] ∧ 0 ≤ t ∧ t < 2147483647 ∧ ms'.length ≤ 3780 + j ∧ H' = upd H p (intsO ms')) ⟨t, z6, ms, rfl, t0, by omega, by omega, rfl⟩ ?_ ?_⟩
      · rintro j σ H' hj ⟨t', z6', ms', rfl, u0, u1, hl, rfl⟩
        have hj7 : j < 700 := hj
        obtain ⟨tt, htt⟩ : ∃ tt : Int, (t' * 48271 + (0 + (j : Int)) * 69621 + 17) % 2147483647 = tt := ⟨_, rfl⟩
        have v0 : 0 ≤ tt := by rw [← htt]; exact Int.emod_nonneg _ (by decide)
        have v1 : tt < 2147483647 := by rw [← htt]; exact Int.emod_lt_of_pos _ (by decide)
        refine ⟨_, rfl, _, _, rfl, rfl, .inr ⟨by decide, by decide⟩, _, rfl, _, _, rfl, rfl, .inr ⟨by decide, by decide⟩, _, _, rfl, rfl, _, _, rfl, rfl, .inl ⟨_, rfl, _, _, rfl, rfl, (by show (0 : Int) < 2147483647; decide), ?_⟩⟩
        refine ⟨_, rfl, .inl ⟨rfl, _, SqL.of upd_same⟩, _, rfl, _, _, rfl, rfl, ⟨by decide, by decide⟩, .inl ⟨_, rfl, _, _, rfl, rfl, (by show (0 : Int) < 2520; decide), p, _, .int (tt / 5 % 2520), rfl, congrArg (fun z => [V.int (z / 5 % 2520)]) htt, upd_same, Nat.lt_of_lt_of_le (show _ < 10000 by rw [List.length_map]; omega) (by decide), ?_⟩⟩
        rw [upd_upd, show ms'.map V.int ++ [V.int (tt / 5 % 2520)] = (ms' ++ [tt / 5 % 2520]).map V.int from ints_push _ _]
        exact ⟨tt, _, _, congrArg (fun z => [some (V.ref a), some (V.int 700), some (V.ref p), some (V.int z), z4, z5, some (V.int (0 + (j : Int))), z7, z8]) htt, v0, v1, by rw [List.length_append, List.length_singleton]; omega, rfl⟩
      · rintro σ H' ⟨t', z6', ms', rfl, u0, u1, hl, rfl⟩
        obtain ⟨cs, hcs, hcl⟩ := cut_pool ms'
        refine ⟨_, rfl, _, rfl, _, rfl, p, _, rfl, SqL.of upd_same, fun p2 hp2 => ?_⟩
        refine ⟨_, rfl, .inl ⟨rfl, _, SqL.of upd_same⟩, p2, _, rfl, rfl, upd_same, ?_⟩
        rw [upd_upd, hcs, ← List.map_reverse]
        have n2 : p2 ≠ p := fun z => by
          rw [z, upd_same] at hp2
          cases hp2
        have hp20 : H p2 = none := by rw [upd_ne n2] at hp2; exact hp2
        exact ⟨_, rfl, k p2 _ hp20 ⟨cs.reverse, by rw [List.length_reverse]; exact hcl, upd_same⟩ ((hsm _).trans (same_upd hp2))⟩
end
end Wd
/-! The law. -/
namespace Wd
open PySem PySem.Spec PyProof.Rows L2
/-- what stands before a turn -/
def TurnP (C a p : Addr) (i : Nat) (σ : L2.St) (H : Hp) : Prop := ∃ (d q : Addr) (l0 l1 : List Nat) (z2 z5 z6 z7 z8 : Option V), σ = [some (.ref a), some (.ref p), z2, some (.ref d), some (.ref q), z5, z6, z7, z8] ∧
  DiskAt C H d l0 l1 ∧ ListAt H q l0 l1 ∧ Len (3000 + 2000 * i) l0 l1 ∧ Good l0 l1 ∧ Pool H p ∧ p ≠ q
theorem not_both {l0 l1 : List Nat} (g : Good l0 l1) (h0 : headL l0 = none) (h1 : headL l1 = none) : False := by
  rcases g with g | g
  · rw [h0] at g; cases g
  · rw [h1] at g; cases g
section
variable {P : Program} {w : World} {K : PySem.W.Frag} {mg : Str → Option Value} {base : Heap} {C : Addr} {c0 : Cs}
theorem scLaw : FnScope ["_law_script", "_law_pool_here", "_law_text_here", "_law_disk", "_law_places_here", "_law_k", "_law_way", "_law_held", "_law_number_here"] ["_law_script"] (defScope sLaw) := ⟨rfl, rfl, rfl, by decide +kernel, rfl, by decide +kernel, by decide +kernel⟩
theorem ok_Law (T : Tx mg) (Dkk : Dk K C) (gDisk : mg "Disk" = some (.ref C)) (gInit : Gi P w K mg base CX0 C 1 (spInit C)) (gPlaces : Gm P w K mg base CX0 C "places" 1 (spPlacesM C)) (gOfPlaces : Gc P w K mg base (L2N.CX P w) C "of_places" 3 (spOf C c0.BadBook))
    (gLPool : Gd P w K mg base CX0 "_law_pool" 1 (spPool K)) (gLDraw : Gd P w K mg base CX0 "_law_draw" 1 spDraw) (gLText : Gd P w K mg base CX0 "_law_text" 2 spText) (gLCut : Gd P w K mg base CX0 "_law_cut" 2 spCut)
    (gLHead : Gd P w K mg base CX0 "_law_head" 1 spLHead) (gLPresent : Gd P w K mg base CX0 "_law_present" 2 spPresent) (gLAlike : Gd P w K mg base CX0 "_law_alike" 6 (spAlike C)) (gLWritten : Gd P w K mg base CX0 "_law_written" 6 (spWritten C))
    (gLClosed : Gd P w K mg base CX0 "_law_closed" 6 (spClosed C)) (gLMended : Gd P w K mg base CX0 "_law_mended" 4 (spMended C)) (gLNoBook : Gd P w K mg base CX0 "_law_no_book" 3 spNoBook) (gLBad : Gd P w K mg base CX0 "_law_bad" 5 spBad)
    (gLMayPass : Gd P w K mg base CX0 "_law_may_pass" 2 spMayPass) (gLPlaces : Gd P w K mg base CX0 "_law_places" 4 spLPlaces) {f : Addr} {fd : FuncData} (F : Fun K "law" "law" sLaw f fd) : FnOk P w K mg base CX0 7 f fd ["_law_script"] (spLaw K) := by
  refine F.ok scLaw (fun vs H Q E h => ?_) (fun cdv A outer s H vs Q E hr h => ?_)
  · obtain ⟨a, ns, rfl, _⟩ := h
    rfl
  · obtain ⟨a, ns, rfl, ha, hn, k⟩ := h
    have D := Dkk
    refine ⟨_, (pss_cons (ps_set (i := 1) scLaw.nd rfl (Or.inl rfl) (pe_gd gLPool (hr.mono (by decide)) rfl (pa_cons (pv 0) (pa_cons pe_int pa_nil))))
      (pss_cons (ps_set (i := 2) scLaw.nd rfl (Or.inl rfl) (pe_gd gLText (hr.mono (by decide)) rfl (pa_cons (pv 1) pa_nil)))
      (pss_cons (ps_set (i := 3) scLaw.nd rfl (Or.inl rfl) (pe_gi gInit (hr.mono (by decide)) rfl gDisk (pa_cons (pv 2) pa_nil)))
      (pss_cons (ps_set (i := 4) scLaw.nd rfl (Or.inl rfl) (pe_lst (pa_cons (pe_op op_add_str (pe_op op_add_str pe_str (pv 2)) pe_str) (pa_cons pe_str pa_nil))))
      (pss_cons (ps_if (pt_cmpR op_gt (pe_gd gLDraw (hr.mono (by decide)) rfl (pa_cons (pv 1) (pa_cons pe_int pa_nil))) pe_int (nomark _))
        (pss_cons (ps_set (i := 4) scLaw.nd rfl (Or.inl rfl) (pe_gd gLPlaces (hr.mono (by decide)) rfl (pa_cons (pv 1) pa_nil)))
        (pss_one (ps_set (i := 3) scLaw.nd rfl (Or.inl rfl) (pe_gc gOfPlaces (hr.mono (by decide)) (fun σ => passAt0 passN σ) (pe_gcls rfl gDisk) (pa_cons (pe_callTy call_tuple_of (by rfl) T.n_tuple (by decide +kernel) (pa_cons (pv 4) pa_nil)) pa_nil)))))
        pss_nil)
      (pss_cons (ps_if (pt_not (pt_val (pe_gd gLAlike (hr.mono (by decide)) rfl (pa_cons (pv 3) (pa_cons (pv 4) pa_nil)))))
        (pss_one (ps_ret pe_bl))
        pss_nil)
      (pss_cons (ps_for PassesOwn.never rfl (pi_range1 rfl T.n_range (pa_cons (pe_gd gLDraw (hr.mono (by decide)) rfl (pa_cons (pv 1) (pa_cons pe_int pa_nil))) pa_nil)) (pg_name (i := 5) scLaw.nd rfl (Or.inl rfl))
        (pss_cons (ps_set (i := 6) scLaw.nd rfl (Or.inl rfl) (pe_gd gLDraw (hr.mono (by decide)) rfl (pa_cons (pv 1) (pa_cons pe_int pa_nil))))
        (pss_cons (ps_set (i := 2) scLaw.nd rfl (Or.inl rfl) (pe_gd gLText (hr.mono (by decide)) rfl (pa_cons (pv 1) pa_nil)))
        (pss_cons (ps_if (pt_cmpR op_lt (pv 6) pe_int (nomark _))
          (pss_one (ps_set (i := 7) scLaw.nd rfl (Or.inl rfl) (pe_gd gLWritten (hr.mono (by decide)) rfl (pa_cons (pv 3) (pa_cons (pv 4) (pa_cons (pv 2) (pa_cons (pe_gd gLCut (hr.mono (by decide)) rfl (pa_cons (pv 1) (pa_cons (pe_op op_add (pe_callB call_len_str (by rfl) T.n_len boot_len (pa_cons (pv 2) pa_nil)) pe_int) pa_nil))) pa_nil)))))))
          (pss_one (ps_if (pt_cmpR op_lt (pv 6) pe_int (nomark _))
            (pss_cons (ps_set (i := 8) scLaw.nd rfl (Or.inl rfl) (pe_op op_add (pe_ix ix_tup (pe_gd gLHead (hr.mono (by decide)) rfl (pa_cons (pe_ix ix_list (pv 4) (pe_gd gLPresent (hr.mono (by decide)) rfl (pa_cons (pv 4) pa_nil)) (fun _ _ => rfl)) pa_nil)) pe_int (fun _ _ => rfl)) pe_int))
            (pss_one (ps_set (i := 7) scLaw.nd rfl (Or.inl rfl) (pe_gd gLClosed (hr.mono (by decide)) rfl (pa_cons (pv 3) (pa_cons (pv 4) (pa_cons (pv 2) (pa_cons (pe_gd gLCut (hr.mono (by decide)) rfl (pa_cons (pv 1) (pa_cons (pe_op op_add (pe_op op_add (pe_callB call_len_str (by rfl) T.n_len boot_len (pa_cons (pe_callTy call_str_int (by rfl) T.n_str (by decide +kernel) (pa_cons (pv 8) pa_nil)) pa_nil)) (pe_callB call_len_str (by rfl) T.n_len boot_len (pa_cons (pv 2) pa_nil))) pe_int) pa_nil))) pa_nil))))))))
            (pss_one (ps_if (pt_cmpR op_lt (pv 6) pe_int (nomark _))
              (pss_one (ps_set (i := 7) scLaw.nd rfl (Or.inl rfl) (pe_gd gLMended (hr.mono (by decide)) rfl (pa_cons (pv 3) (pa_cons (pv 4) pa_nil)))))
              (pss_one (ps_set (i := 7) scLaw.nd rfl (Or.inl rfl) (pe_gd gLBad (hr.mono (by decide)) rfl (pa_cons (pe_tup (pa_cons (pe_gd gLNoBook (hr.mono (by decide)) rfl (pa_cons (pv 1) pa_nil)) (pa_cons (pe_gd gLNoBook (hr.mono (by decide)) rfl (pa_cons (pv 1) pa_nil)) pa_nil))) pa_nil)))))))))
        (pss_cons (ps_if (PW.pt (pw_or (pt_not (pt_val (pv 7))) (pw_or1 (pt_not (pt_val (pe_gd gLAlike (hr.mono (by decide)) rfl (pa_cons (pv 3) (pa_cons (pv 4) pa_nil))))))))
          (pss_one (ps_ret pe_bl))
          pss_nil)
        (pss_one (ps_if (PW.pt (pw_and (pt_cmpR op_eq (pe_gd gLDraw (hr.mono (by decide)) rfl (pa_cons (pv 1) (pa_cons pe_int pa_nil))) pe_int (nomark _)) (pw_and1 (pt_val (pe_gd gLMayPass (hr.mono (by decide)) rfl (pa_cons (pv 4) pa_nil))))))
          (pss_cons (ps_set (i := 3) scLaw.nd rfl (Or.inl rfl) (pe_gc gOfPlaces (hr.mono (by decide)) (fun σ => passAt0 passN σ) (pe_gcls rfl gDisk) (pa_cons (pe_gm0 D.cl gPlaces (hr.mono (by decide)) (pv 3)) pa_nil)))
          (pss_one (ps_if (pt_not (pt_val (pe_gd gLAlike (hr.mono (by decide)) rfl (pa_cons (pv 3) (pa_cons (pv 4) pa_nil)))))
            (pss_one (ps_ret pe_bl))
            pss_nil)))
          pss_nil)))))))
      (pss_one (ps_ret pe_bl))))))))), ?_⟩
    refine ⟨_, rfl, a, ns, rfl, ha, hn, fun p H1 hp P1 S1 => ?_⟩
    refine ⟨_, rfl, p, rfl, P1, fun t H2 t10 tl P2 B2 => ?_⟩
    refine ⟨_, rfl, fun x dx nx ndx nex => ⟨x, dx, t, rfl, by omega, upd_same, fun H3 D3 B3 => ⟨rfl, ?_⟩⟩⟩
    have npx : p ≠ x := by
      obtain ⟨ms, _, hms⟩ := P2
      exact ne_of_none hms nx
    have npd : p ≠ dx := by
      obtain ⟨ms, _, hms⟩ := P2
      exact ne_of_none hms ndx
    have P3 : Pool H3 p := by
      obtain ⟨ms, m1, hms⟩ := P2
      exact ⟨ms, m1, B3 _ _ (by rw [upd_ne npx, upd_ne npd]; exact hms) npx⟩
    refine ⟨_, rfl, _, _, rfl, rfl, lenS str_zsp rfl (by simp; omega), _, _, rfl, rfl, lenS (appS str_zsp rfl) str_nl (by simp; omega), two_ok _ _, fun q hq => ?_⟩
    rw [show ("0 " : Str) ++ S t ++ ("\n" : Str) = S (48 :: 32 :: (t ++ [10])) from (appS (appS str_zsp rfl) str_nl).trans (congrArg S (by simp)), str_nil]
    have npq : p ≠ q := by
      obtain ⟨ms, _, hms⟩ := P3
      exact ne_of_none hms hq
    have hl4 : ListAt (upd H3 q (.lst [.str (S (48 :: 32 :: (t ++ [10]))), .str (S [])])) q (48 :: 32 :: (t ++ [10])) [] := upd_same
    have D4 := D3.same (same_upd (o := .lst [.str (S (48 :: 32 :: (t ++ [10]))), .str (S [])]) hq)
    have P4 := P3.same (same_upd (o := .lst [.str (S (48 :: 32 :: (t ++ [10]))), .str (S [])]) hq)
    revert hl4 D4 P4
    generalize upd H3 q (.lst [.str (S (48 :: 32 :: (t ++ [10]))), .str (S [])]) = H4
    intro hl4 D4 P4
    have hL4 : Len 3000 (48 :: 32 :: (t ++ [10])) [] := ⟨by simp; omega, by decide⟩
    have hG4 : Good (48 :: 32 :: (t ++ [10])) [] := .inl (by
      rw [show 48 :: 32 :: (t ++ [10]) = [48] ++ 32 :: (t ++ 10 :: []) from rfl, headL_app [] (by decide) (by decide) t10, if_pos (by decide)]
      rfl)
    refine ⟨_, rfl, p, 3, rfl, P4, by decide, fun v H5 v0 v1 P5 B5 => ⟨_, _, rfl, rfl, _, rfl, ite_dec (fun cv => ?_) (fun cv => ?_)⟩⟩
    · refine ⟨_, rfl, p, rfl, P5, fun q2 l0 l1 H6 hq2 hl6 hL6 hG6 P6 B6 => ?_⟩
      have npq2 : p ≠ q2 := by
        obtain ⟨ms, _, hms⟩ := P5
        exact ne_of_none hms hq2
      refine ⟨rfl, _, rfl, q2, _, rfl, .inl ⟨SqL.of hl6, fun t2 ht2 => ⟨t2, l0, l1, rfl, upd_same, hL6.mono (by decide), fun _ d' H7 nd' D7 S7 => ?_, fun n0 n1 => (not_both hG6 n0 n1).elim⟩⟩⟩
      have S67 := (same_upd (o := .tup (vs2 l0 l1)) ht2).trans S7
      have hl7 : ListAt H7 q2 l0 l1 := S67 _ _ hl6
      have P7 := P6.same S67
      refine ⟨_, rfl, _, rfl, d', q2, l0, l1, rfl, D7, hl7, (hL6).mono (by decide), hG6, fun H8 S8 => ⟨_, rfl, ite_f ?_⟩⟩
      refine ⟨_, rfl, p, 41, rfl, (P7).same S8, by decide, fun m H9 mm0 mm1 P9 B9 => ⟨m, rfl, by omega, by omega, for_range (TurnP C a p) ?_ ?_ ?_⟩⟩
      · exact ⟨d', q2, l0, l1, _, _, _, _, _, rfl, ((D7).same S8).but B9 (Classical.choose_spec ((P7).same S8)).2, B9 _ _ (S8 _ _ hl7) (npq2).symm, hL6, hG6, P9, npq2⟩
      · rintro i σ H' hi ⟨d, q, l0, l1, z2, z5, z6, z7, z8, rfl, Dd, hl, hL, hG, Pp, npq⟩
        have hi41 : i < 41 := by omega
        refine ⟨_, rfl, p, 9, rfl, Pp, by decide, fun way H10 w0 w1 P10 B10 => ?_⟩
        refine ⟨_, rfl, p, rfl, P10, fun t H11 t10 tl P11 B11 => ?_⟩
        have B2 := B10.trans B11
        have D11 := Dd.but B2 (Classical.choose_spec Pp).2
        have hl11 : ListAt H11 q l0 l1 := B2 _ _ hl npq.symm
        refine ⟨_, rfl, _, _, rfl, rfl, _, rfl, ite_dec (fun c1 => ?_) (fun c1 => ?_)⟩
        · refine ⟨_, rfl, _, rfl, _, rfl, _, rfl, _, rfl, _, rfl, smallS (by omega), _, _, rfl, rfl, p, _, rfl, P11, (by show (0 : Int) < ((S t).length : Int) + 1; omega), (by show ((S t).length : Int) + 1 < 1000000; rw [S_len]; omega), fun c H12 hc P12 B12 => ?_⟩
          refine ⟨d, q, l0, l1, t, c, 3000 + 2000 * i, rfl, hc, D11.but B12 (Classical.choose_spec P11).2, B12 _ _ hl11 npq.symm, hL, by omega, hG, by omega, fun m0 m1 H13 Dm hlm hLm hGm B13 => ?_⟩
          have Pm := P12.but2 B13 (DiskAt.ne (D11.but B12 (Classical.choose_spec P11).2) (Classical.choose_spec P12).2) npq
          refine ⟨_, rfl, _, rfl, ite_f ?_⟩
          refine ⟨_, rfl, _, rfl, d, q, m0, m1, rfl, Dm, hlm, hLm.mono (by omega), hGm, fun H20 S20 => ⟨_, rfl, ite_f ?_⟩⟩
          have Dn := Dm.same S20
          have hln : ListAt H20 q m0 m1 := S20 _ _ hlm
          have Pn := Pm.same S20
          refine ⟨_, rfl, p, 6, rfl, Pn, by decide, fun vv H21 vv0 vv1 P21 B21 => ⟨rfl, _, rfl, ite_dec (fun _ => ?_) (fun _ => ?_)⟩⟩
          · have D21 := Dn.but B21 (Classical.choose_spec Pn).2
            have hl21 : ListAt H21 q m0 m1 := B21 _ _ hln npq.symm
            refine ⟨_, rfl, q, m0, m1, rfl, hl21, hLm.mono (by omega), fun b H22 S22 => ⟨_, rfl, ?_⟩⟩
            have D22 := D21.same S22
            have hl22 : ListAt H22 q m0 m1 := S22 _ _ hl21
            cases b with
            | false => exact ite_f ⟨d, q, m0, m1, _, _, _, _, _, rfl, D22, hl22, hLm.mono (by omega), hGm, P21.same S22, npq⟩
            | true =>
              refine ite_t ?_
              obtain ⟨dx22, u22, h221, h222⟩ := id D22
              refine ⟨rfl, _, rfl, d, dx22, _, rfl, h221, pf_no u22 (by decide +kernel), d, m0, m1, rfl, D22, fun t2 ht2 => ⟨t2, m0, m1, rfl, ht2, hLm.mono (by omega), fun _ d2 H23 nd2 D23 S23 => ?_, fun n0 n1 => (not_both hGm n0 n1).elim⟩⟩
              refine ⟨_, rfl, _, rfl, d2, q, m0, m1, rfl, D23, S23 _ _ hl22, hLm.mono (by omega), hGm, fun H24 S24 => ⟨_, rfl, ite_f ?_⟩⟩
              exact ⟨d2, q, m0, m1, _, _, _, _, _, rfl, D23.same S24, S24 _ _ (S23 _ _ hl22), hLm.mono (by omega), hGm, ((P21.same S22).same S23).same S24, npq⟩
          · exact ⟨d, q, m0, m1, _, _, _, _, _, rfl, Dn.but B21 (Classical.choose_spec Pn).2, B21 _ _ hln npq.symm, hLm.mono (by omega), hGm, P21, npq⟩
        · refine ⟨_, rfl, _, _, rfl, rfl, _, rfl, ite_dec (fun c2 => ?_) (fun c2 => ?_)⟩
          · refine ⟨_, rfl, _, rfl, q, l0, l1, rfl, hl11, hL.mono (by omega), hG, fun H12 S12 => ⟨q, _, _, _, rfl, rfl, SqL.of (S12 _ _ hl11), at_now, nowL l0 l1, rfl, (hL.mono (by omega) : Len 1000000 l0 l1).now, fun v H13 S13 hv => ?_⟩⟩
            obtain ⟨⟨n, y⟩, hh⟩ := Option.isSome_iff_exists.mp (now_good hG)
            obtain ⟨b1, b2⟩ := numL_bound (nowL l0 l1)
            rw [numL_some hh] at b1 b2
            rcases headV_cases hv with ⟨e, _⟩ | ⟨n', y', ad, e, rfl, had⟩
            · rw [hh] at e; cases e
            rw [hh] at e
            cases e
            have hs := sgn_len (n := n + 1) (by omega) (by omega)
            have S23 := S12.trans S13
            have P13 := P11.same S23
            have D13 := D11.same S23
            have hl13 : ListAt H13 q l0 l1 := S23 _ _ hl11
            refine ⟨ad, _, _, _, rfl, rfl, SqT.of had, rfl, _, _, rfl, rfl, ?_⟩
            refine ⟨_, rfl, _, rfl, _, rfl, _, rfl, _, rfl, _, rfl, log_small (by omega), _, rfl, (by rw [sgn_S, S_len]; exact small (by omega)), _, rfl, _, rfl, smallS (by omega), _, _, rfl, rfl, _, _, rfl, rfl, p, _, rfl, P13, ?_, ?_, fun c H14 hc P14 B14 => ?_⟩
            · show (0 : Int) < ((toString (n + 1) : Str).length : Int) + ((S t).length : Int) + 2
              omega
            · show ((toString (n + 1) : Str).length : Int) + ((S t).length : Int) + 2 < 1000000
              rw [sgn_S, S_len, S_len]
              omega
            refine ⟨d, q, l0, l1, t, c, 3000 + 2000 * i, rfl, hc, D13.but B14 (Classical.choose_spec P13).2, B14 _ _ hl13 npq.symm, hL, by omega, hG, by omega, fun m0 m1 H15 Dm hlm hLm hGm B15 => ?_⟩
            have Pm := P14.but2 B15 (DiskAt.ne (D13.but B14 (Classical.choose_spec P13).2) (Classical.choose_spec P14).2) npq
            refine ⟨_, rfl, _, rfl, ite_f ?_⟩
            refine ⟨_, rfl, _, rfl, d, q, m0, m1, rfl, Dm, hlm, hLm.mono (by omega), hGm, fun H20 S20 => ⟨_, rfl, ite_f ?_⟩⟩
            have Dn := Dm.same S20
            have hln : ListAt H20 q m0 m1 := S20 _ _ hlm
            have Pn := Pm.same S20
            refine ⟨_, rfl, p, 6, rfl, Pn, by decide, fun vv H21 vv0 vv1 P21 B21 => ⟨rfl, _, rfl, ite_dec (fun _ => ?_) (fun _ => ?_)⟩⟩
            · have D21 := Dn.but B21 (Classical.choose_spec Pn).2
              have hl21 : ListAt H21 q m0 m1 := B21 _ _ hln npq.symm
              refine ⟨_, rfl, q, m0, m1, rfl, hl21, hLm.mono (by omega), fun b H22 S22 => ⟨_, rfl, ?_⟩⟩
              have D22 := D21.same S22
              have hl22 : ListAt H22 q m0 m1 := S22 _ _ hl21
              cases b with
              | false => exact ite_f ⟨d, q, m0, m1, _, _, _, _, _, rfl, D22, hl22, hLm.mono (by omega), hGm, P21.same S22, npq⟩
              | true =>
                refine ite_t ?_
                obtain ⟨dx22, u22, h221, h222⟩ := id D22
                refine ⟨rfl, _, rfl, d, dx22, _, rfl, h221, pf_no u22 (by decide +kernel), d, m0, m1, rfl, D22, fun t2 ht2 => ⟨t2, m0, m1, rfl, ht2, hLm.mono (by omega), fun _ d2 H23 nd2 D23 S23 => ?_, fun n0 n1 => (not_both hGm n0 n1).elim⟩⟩
                refine ⟨_, rfl, _, rfl, d2, q, m0, m1, rfl, D23, S23 _ _ hl22, hLm.mono (by omega), hGm, fun H24 S24 => ⟨_, rfl, ite_f ?_⟩⟩
                exact ⟨d2, q, m0, m1, _, _, _, _, _, rfl, D23.same S24, S24 _ _ (S23 _ _ hl22), hLm.mono (by omega), hGm, ((P21.same S22).same S23).same S24, npq⟩
            · exact ⟨d, q, m0, m1, _, _, _, _, _, rfl, Dn.but B21 (Classical.choose_spec Pn).2, B21 _ _ hln npq.symm, hLm.mono (by omega), hGm, P21, npq⟩
          · refine ⟨_, rfl, _, _, rfl, rfl, _, rfl, ite_dec (fun c3 => ?_) (fun c3 => ?_)⟩
            · refine ⟨_, rfl, _, rfl, d, q, l0, l1, 3000 + 2000 * i, rfl, D11, hl11, hL, by omega, hG, fun m0 m1 H15 Dm hlm hLm hGm B15 => ?_⟩
              have Pm := P11.but2 B15 (DiskAt.ne D11 (Classical.choose_spec P11).2) npq
              refine ⟨_, rfl, _, rfl, ite_f ?_⟩
              refine ⟨_, rfl, _, rfl, d, q, m0, m1, rfl, Dm, hlm, hLm.mono (by omega), hGm, fun H20 S20 => ⟨_, rfl, ite_f ?_⟩⟩
              have Dn := Dm.same S20
              have hln : ListAt H20 q m0 m1 := S20 _ _ hlm
              have Pn := Pm.same S20
              refine ⟨_, rfl, p, 6, rfl, Pn, by decide, fun vv H21 vv0 vv1 P21 B21 => ⟨rfl, _, rfl, ite_dec (fun _ => ?_) (fun _ => ?_)⟩⟩
              · have D21 := Dn.but B21 (Classical.choose_spec Pn).2
                have hl21 : ListAt H21 q m0 m1 := B21 _ _ hln npq.symm
                refine ⟨_, rfl, q, m0, m1, rfl, hl21, hLm.mono (by omega), fun b H22 S22 => ⟨_, rfl, ?_⟩⟩
                have D22 := D21.same S22
                have hl22 : ListAt H22 q m0 m1 := S22 _ _ hl21
                cases b with
                | false => exact ite_f ⟨d, q, m0, m1, _, _, _, _, _, rfl, D22, hl22, hLm.mono (by omega), hGm, P21.same S22, npq⟩
                | true =>
                  refine ite_t ?_
                  obtain ⟨dx22, u22, h221, h222⟩ := id D22
                  refine ⟨rfl, _, rfl, d, dx22, _, rfl, h221, pf_no u22 (by decide +kernel), d, m0, m1, rfl, D22, fun t2 ht2 => ⟨t2, m0, m1, rfl, ht2, hLm.mono (by omega), fun _ d2 H23 nd2 D23 S23 => ?_, fun n0 n1 => (not_both hGm n0 n1).elim⟩⟩
                  refine ⟨_, rfl, _, rfl, d2, q, m0, m1, rfl, D23, S23 _ _ hl22, hLm.mono (by omega), hGm, fun H24 S24 => ⟨_, rfl, ite_f ?_⟩⟩
                  exact ⟨d2, q, m0, m1, _, _, _, _, _, rfl, D23.same S24, S24 _ _ (S23 _ _ hl22), hLm.mono (by omega), hGm, ((P21.same S22).same S23).same S24, npq⟩
              · exact ⟨d, q, m0, m1, _, _, _, _, _, rfl, Dn.but B21 (Classical.choose_spec Pn).2, B21 _ _ hln npq.symm, hLm.mono (by omega), hGm, P21, npq⟩
            · refine ⟨_, rfl, p, rfl, P11, fun o0 H12 oh0 ol0 P12 B12 => ⟨_, rfl, p, rfl, P12, fun o1 H13 oh1 ol1 P13 B13 => ⟨two_ok _ _, fun t2 ht2 => ⟨t2, o0, o1, rfl, upd_same, ⟨by omega, by omega⟩, oh0, oh1, fun H15 S15 => ?_⟩⟩⟩⟩
              have S35 := (same_upd (o := .tup (vs2 o0 o1)) ht2).trans S15
              have B35 := B12.trans B13
              have Dm := (D11.but B35 (Classical.choose_spec P11).2).same S35
              have hlm : ListAt H15 q l0 l1 := S35 _ _ (B35 _ _ hl11 npq.symm)
              have hLm : Len (3000 + 2000 * i + 2000) l0 l1 := hL.mono (by omega)
              have hGm := hG
              have Pm := P13.same S35
              refine ⟨_, rfl, _, rfl, ite_f ?_⟩
              refine ⟨_, rfl, _, rfl, d, q, l0, l1, rfl, Dm, hlm, hLm.mono (by omega), hGm, fun H20 S20 => ⟨_, rfl, ite_f ?_⟩⟩
              have Dn := Dm.same S20
              have hln : ListAt H20 q l0 l1 := S20 _ _ hlm
              have Pn := Pm.same S20
              refine ⟨_, rfl, p, 6, rfl, Pn, by decide, fun vv H21 vv0 vv1 P21 B21 => ⟨rfl, _, rfl, ite_dec (fun _ => ?_) (fun _ => ?_)⟩⟩
              · have D21 := Dn.but B21 (Classical.choose_spec Pn).2
                have hl21 : ListAt H21 q l0 l1 := B21 _ _ hln npq.symm
                refine ⟨_, rfl, q, l0, l1, rfl, hl21, hLm.mono (by omega), fun b H22 S22 => ⟨_, rfl, ?_⟩⟩
                have D22 := D21.same S22
                have hl22 : ListAt H22 q l0 l1 := S22 _ _ hl21
                cases b with
                | false => exact ite_f ⟨d, q, l0, l1, _, _, _, _, _, rfl, D22, hl22, hLm.mono (by omega), hGm, P21.same S22, npq⟩
                | true =>
                  refine ite_t ?_
                  obtain ⟨dx22, u22, h221, h222⟩ := id D22
                  refine ⟨rfl, _, rfl, d, dx22, _, rfl, h221, pf_no u22 (by decide +kernel), d, l0, l1, rfl, D22, fun t2 ht2 => ⟨t2, l0, l1, rfl, ht2, hLm.mono (by omega), fun _ d2 H23 nd2 D23 S23 => ?_, fun n0 n1 => (not_both hGm n0 n1).elim⟩⟩
                  refine ⟨_, rfl, _, rfl, d2, q, l0, l1, rfl, D23, S23 _ _ hl22, hLm.mono (by omega), hGm, fun H24 S24 => ⟨_, rfl, ite_f ?_⟩⟩
                  exact ⟨d2, q, l0, l1, _, _, _, _, _, rfl, D23.same S24, S24 _ _ (S23 _ _ hl22), hLm.mono (by omega), hGm, ((P21.same S22).same S23).same S24, npq⟩
              · exact ⟨d, q, l0, l1, _, _, _, _, _, rfl, Dn.but B21 (Classical.choose_spec Pn).2, B21 _ _ hln npq.symm, hLm.mono (by omega), hGm, P21, npq⟩
      · rintro σ H' _
        exact k H'
    · have hl5 : ListAt H5 q _ _ := B5 _ _ hl4 npq.symm
      have D5 := D4.but B5 (Classical.choose_spec P4).2
      refine ⟨_, rfl, _, rfl, x, q, (48 :: 32 :: (t ++ [10])), [], rfl, D5, hl5, (hL4).mono (by decide), hG4, fun H8 S8 => ⟨_, rfl, ite_f ?_⟩⟩
      refine ⟨_, rfl, p, 41, rfl, (P5).same S8, by decide, fun m H9 mm0 mm1 P9 B9 => ⟨m, rfl, by omega, by omega, for_range (TurnP C a p) ?_ ?_ ?_⟩⟩
      · exact ⟨x, q, (48 :: 32 :: (t ++ [10])), [], _, _, _, _, _, rfl, ((D5).same S8).but B9 (Classical.choose_spec ((P5).same S8)).2, B9 _ _ (S8 _ _ hl5) (npq).symm, hL4, hG4, P9, npq⟩
      · rintro i σ H' hi ⟨d, q, l0, l1, z2, z5, z6, z7, z8, rfl, Dd, hl, hL, hG, Pp, npq⟩
        have hi41 : i < 41 := by omega
        refine ⟨_, rfl, p, 9, rfl, Pp, by decide, fun way H10 w0 w1 P10 B10 => ?_⟩
        refine ⟨_, rfl, p, rfl, P10, fun t H11 t10 tl P11 B11 => ?_⟩
        have B2 := B10.trans B11
        have D11 := Dd.but B2 (Classical.choose_spec Pp).2
        have hl11 : ListAt H11 q l0 l1 := B2 _ _ hl npq.symm
        refine ⟨_, rfl, _, _, rfl, rfl, _, rfl, ite_dec (fun c1 => ?_) (fun c1 => ?_)⟩
        · refine ⟨_, rfl, _, rfl, _, rfl, _, rfl, _, rfl, _, rfl, smallS (by omega), _, _, rfl, rfl, p, _, rfl, P11, (by show (0 : Int) < ((S t).length : Int) + 1; omega), (by show ((S t).length : Int) + 1 < 1000000; rw [S_len]; omega), fun c H12 hc P12 B12 => ?_⟩
          refine ⟨d, q, l0, l1, t, c, 3000 + 2000 * i, rfl, hc, D11.but B12 (Classical.choose_spec P11).2, B12 _ _ hl11 npq.symm, hL, by omega, hG, by omega, fun m0 m1 H13 Dm hlm hLm hGm B13 => ?_⟩
          have Pm := P12.but2 B13 (DiskAt.ne (D11.but B12 (Classical.choose_spec P11).2) (Classical.choose_spec P12).2) npq
          refine ⟨_, rfl, _, rfl, ite_f ?_⟩
          refine ⟨_, rfl, _, rfl, d, q, m0, m1, rfl, Dm, hlm, hLm.mono (by omega), hGm, fun H20 S20 => ⟨_, rfl, ite_f ?_⟩⟩
          have Dn := Dm.same S20
          have hln : ListAt H20 q m0 m1 := S20 _ _ hlm
          have Pn := Pm.same S20
          refine ⟨_, rfl, p, 6, rfl, Pn, by decide, fun vv H21 vv0 vv1 P21 B21 => ⟨rfl, _, rfl, ite_dec (fun _ => ?_) (fun _ => ?_)⟩⟩
          · have D21 := Dn.but B21 (Classical.choose_spec Pn).2
            have hl21 : ListAt H21 q m0 m1 := B21 _ _ hln npq.symm
            refine ⟨_, rfl, q, m0, m1, rfl, hl21, hLm.mono (by omega), fun b H22 S22 => ⟨_, rfl, ?_⟩⟩
            have D22 := D21.same S22
            have hl22 : ListAt H22 q m0 m1 := S22 _ _ hl21
            cases b with
            | false => exact ite_f ⟨d, q, m0, m1, _, _, _, _, _, rfl, D22, hl22, hLm.mono (by omega), hGm, P21.same S22, npq⟩
            | true =>
              refine ite_t ?_
              obtain ⟨dx22, u22, h221, h222⟩ := id D22
              refine ⟨rfl, _, rfl, d, dx22, _, rfl, h221, pf_no u22 (by decide +kernel), d, m0, m1, rfl, D22, fun t2 ht2 => ⟨t2, m0, m1, rfl, ht2, hLm.mono (by omega), fun _ d2 H23 nd2 D23 S23 => ?_, fun n0 n1 => (not_both hGm n0 n1).elim⟩⟩
              refine ⟨_, rfl, _, rfl, d2, q, m0, m1, rfl, D23, S23 _ _ hl22, hLm.mono (by omega), hGm, fun H24 S24 => ⟨_, rfl, ite_f ?_⟩⟩
              exact ⟨d2, q, m0, m1, _, _, _, _, _, rfl, D23.same S24, S24 _ _ (S23 _ _ hl22), hLm.mono (by omega), hGm, ((P21.same S22).same S23).same S24, npq⟩
          · exact ⟨d, q, m0, m1, _, _, _, _, _, rfl, Dn.but B21 (Classical.choose_spec Pn).2, B21 _ _ hln npq.symm, hLm.mono (by omega), hGm, P21, npq⟩
        · refine ⟨_, rfl, _, _, rfl, rfl, _, rfl, ite_dec (fun c2 => ?_) (fun c2 => ?_)⟩
          · refine ⟨_, rfl, _, rfl, q, l0, l1, rfl, hl11, hL.mono (by omega), hG, fun H12 S12 => ⟨q, _, _, _, rfl, rfl, SqL.of (S12 _ _ hl11), at_now, nowL l0 l1, rfl, (hL.mono (by omega) : Len 1000000 l0 l1).now, fun v H13 S13 hv => ?_⟩⟩
            obtain ⟨⟨n, y⟩, hh⟩ := Option.isSome_iff_exists.mp (now_good hG)
            obtain ⟨b1, b2⟩ := numL_bound (nowL l0 l1)
            rw [numL_some hh] at b1 b2
            rcases headV_cases hv with ⟨e, _⟩ | ⟨n', y', ad, e, rfl, had⟩
            · rw [hh] at e; cases e
            rw [hh] at e
            cases e
            have hs := sgn_len (n := n + 1) (by omega) (by omega)
            have S23 := S12.trans S13
            have P13 := P11.same S23
            have D13 := D11.same S23
            have hl13 : ListAt H13 q l0 l1 := S23 _ _ hl11
            refine ⟨ad, _, _, _, rfl, rfl, SqT.of had, rfl, _, _, rfl, rfl, ?_⟩
            refine ⟨_, rfl, _, rfl, _, rfl, _, rfl, _, rfl, _, rfl, log_small (by omega), _, rfl, (by rw [sgn_S, S_len]; exact small (by omega)), _, rfl, _, rfl, smallS (by omega), _, _, rfl, rfl, _, _, rfl, rfl, p, _, rfl, P13, ?_, ?_, fun c H14 hc P14 B14 => ?_⟩
            · show (0 : Int) < ((toString (n + 1) : Str).length : Int) + ((S t).length : Int) + 2
              omega
            · show ((toString (n + 1) : Str).length : Int) + ((S t).length : Int) + 2 < 1000000
              rw [sgn_S, S_len, S_len]
              omega
            refine ⟨d, q, l0, l1, t, c, 3000 + 2000 * i, rfl, hc, D13.but B14 (Classical.choose_spec P13).2, B14 _ _ hl13 npq.symm, hL, by omega, hG, by omega, fun m0 m1 H15 Dm hlm hLm hGm B15 => ?_⟩
            have Pm := P14.but2 B15 (DiskAt.ne (D13.but B14 (Classical.choose_spec P13).2) (Classical.choose_spec P14).2) npq
            refine ⟨_, rfl, _, rfl, ite_f ?_⟩
            refine ⟨_, rfl, _, rfl, d, q, m0, m1, rfl, Dm, hlm, hLm.mono (by omega), hGm, fun H20 S20 => ⟨_, rfl, ite_f ?_⟩⟩
            have Dn := Dm.same S20
            have hln : ListAt H20 q m0 m1 := S20 _ _ hlm
            have Pn := Pm.same S20
            refine ⟨_, rfl, p, 6, rfl, Pn, by decide, fun vv H21 vv0 vv1 P21 B21 => ⟨rfl, _, rfl, ite_dec (fun _ => ?_) (fun _ => ?_)⟩⟩
            · have D21 := Dn.but B21 (Classical.choose_spec Pn).2
              have hl21 : ListAt H21 q m0 m1 := B21 _ _ hln npq.symm
              refine ⟨_, rfl, q, m0, m1, rfl, hl21, hLm.mono (by omega), fun b H22 S22 => ⟨_, rfl, ?_⟩⟩
              have D22 := D21.same S22
              have hl22 : ListAt H22 q m0 m1 := S22 _ _ hl21
              cases b with
              | false => exact ite_f ⟨d, q, m0, m1, _, _, _, _, _, rfl, D22, hl22, hLm.mono (by omega), hGm, P21.same S22, npq⟩
              | true =>
                refine ite_t ?_
                obtain ⟨dx22, u22, h221, h222⟩ := id D22
                refine ⟨rfl, _, rfl, d, dx22, _, rfl, h221, pf_no u22 (by decide +kernel), d, m0, m1, rfl, D22, fun t2 ht2 => ⟨t2, m0, m1, rfl, ht2, hLm.mono (by omega), fun _ d2 H23 nd2 D23 S23 => ?_, fun n0 n1 => (not_both hGm n0 n1).elim⟩⟩
                refine ⟨_, rfl, _, rfl, d2, q, m0, m1, rfl, D23, S23 _ _ hl22, hLm.mono (by omega), hGm, fun H24 S24 => ⟨_, rfl, ite_f ?_⟩⟩
                exact ⟨d2, q, m0, m1, _, _, _, _, _, rfl, D23.same S24, S24 _ _ (S23 _ _ hl22), hLm.mono (by omega), hGm, ((P21.same S22).same S23).same S24, npq⟩
            · exact ⟨d, q, m0, m1, _, _, _, _, _, rfl, Dn.but B21 (Classical.choose_spec Pn).2, B21 _ _ hln npq.symm, hLm.mono (by omega), hGm, P21, npq⟩
          · refine ⟨_, rfl, _, _, rfl, rfl, _, rfl, ite_dec (fun c3 => ?_) (fun c3 => ?_)⟩
            · refine ⟨_, rfl, _, rfl, d, q, l0, l1, 3000 + 2000 * i, rfl, D11, hl11, hL, by omega, hG, fun m0 m1 H15 Dm hlm hLm hGm B15 => ?_⟩
              have Pm := P11.but2 B15 (DiskAt.ne D11 (Classical.choose_spec P11).2) npq
              refine ⟨_, rfl, _, rfl, ite_f ?_⟩
              refine ⟨_, rfl, _, rfl, d, q, m0, m1, rfl, Dm, hlm, hLm.mono (by omega), hGm, fun H20 S20 => ⟨_, rfl, ite_f ?_⟩⟩
              have Dn := Dm.same S20
              have hln : ListAt H20 q m0 m1 := S20 _ _ hlm
              have Pn := Pm.same S20
              refine ⟨_, rfl, p, 6, rfl, Pn, by decide, fun vv H21 vv0 vv1 P21 B21 => ⟨rfl, _, rfl, ite_dec (fun _ => ?_) (fun _ => ?_)⟩⟩
              · have D21 := Dn.but B21 (Classical.choose_spec Pn).2
                have hl21 : ListAt H21 q m0 m1 := B21 _ _ hln npq.symm
                refine ⟨_, rfl, q, m0, m1, rfl, hl21, hLm.mono (by omega), fun b H22 S22 => ⟨_, rfl, ?_⟩⟩
                have D22 := D21.same S22
                have hl22 : ListAt H22 q m0 m1 := S22 _ _ hl21
                cases b with
                | false => exact ite_f ⟨d, q, m0, m1, _, _, _, _, _, rfl, D22, hl22, hLm.mono (by omega), hGm, P21.same S22, npq⟩
                | true =>
                  refine ite_t ?_
                  obtain ⟨dx22, u22, h221, h222⟩ := id D22
                  refine ⟨rfl, _, rfl, d, dx22, _, rfl, h221, pf_no u22 (by decide +kernel), d, m0, m1, rfl, D22, fun t2 ht2 => ⟨t2, m0, m1, rfl, ht2, hLm.mono (by omega), fun _ d2 H23 nd2 D23 S23 => ?_, fun n0 n1 => (not_both hGm n0 n1).elim⟩⟩
                  refine ⟨_, rfl, _, rfl, d2, q, m0, m1, rfl, D23, S23 _ _ hl22, hLm.mono (by omega), hGm, fun H24 S24 => ⟨_, rfl, ite_f ?_⟩⟩
                  exact ⟨d2, q, m0, m1, _, _, _, _, _, rfl, D23.same S24, S24 _ _ (S23 _ _ hl22), hLm.mono (by omega), hGm, ((P21.same S22).same S23).same S24, npq⟩
              · exact ⟨d, q, m0, m1, _, _, _, _, _, rfl, Dn.but B21 (Classical.choose_spec Pn).2, B21 _ _ hln npq.symm, hLm.mono (by omega), hGm, P21, npq⟩
            · refine ⟨_, rfl, p, rfl, P11, fun o0 H12 oh0 ol0 P12 B12 => ⟨_, rfl, p, rfl, P12, fun o1 H13 oh1 ol1 P13 B13 => ⟨two_ok _ _, fun t2 ht2 => ⟨t2, o0, o1, rfl, upd_same, ⟨by omega, by omega⟩, oh0, oh1, fun H15 S15 => ?_⟩⟩⟩⟩
              have S35 := (same_upd (o := .tup (vs2 o0 o1)) ht2).trans S15
              have B35 := B12.trans B13
              have Dm := (D11.but B35 (Classical.choose_spec P11).2).same S35
              have hlm : ListAt H15 q l0 l1 := S35 _ _ (B35 _ _ hl11 npq.symm)
              have hLm : Len (3000 + 2000 * i + 2000) l0 l1 := hL.mono (by omega)
              have hGm := hG
              have Pm := P13.same S35
              refine ⟨_, rfl, _, rfl, ite_f ?_⟩
              refine ⟨_, rfl, _, rfl, d, q, l0, l1, rfl, Dm, hlm, hLm.mono (by omega), hGm, fun H20 S20 => ⟨_, rfl, ite_f ?_⟩⟩
              have Dn := Dm.same S20
              have hln : ListAt H20 q l0 l1 := S20 _ _ hlm
              have Pn := Pm.same S20
              refine ⟨_, rfl, p, 6, rfl, Pn, by decide, fun vv H21 vv0 vv1 P21 B21 => ⟨rfl, _, rfl, ite_dec (fun _ => ?_) (fun _ => ?_)⟩⟩
              · have D21 := Dn.but B21 (Classical.choose_spec Pn).2
                have hl21 : ListAt H21 q l0 l1 := B21 _ _ hln npq.symm
                refine ⟨_, rfl, q, l0, l1, rfl, hl21, hLm.mono (by omega), fun b H22 S22 => ⟨_, rfl, ?_⟩⟩
                have D22 := D21.same S22
                have hl22 : ListAt H22 q l0 l1 := S22 _ _ hl21
                cases b with
                | false => exact ite_f ⟨d, q, l0, l1, _, _, _, _, _, rfl, D22, hl22, hLm.mono (by omega), hGm, P21.same S22, npq⟩
                | true =>
                  refine ite_t ?_
                  obtain ⟨dx22, u22, h221, h222⟩ := id D22
                  refine ⟨rfl, _, rfl, d, dx22, _, rfl, h221, pf_no u22 (by decide +kernel), d, l0, l1, rfl, D22, fun t2 ht2 => ⟨t2, l0, l1, rfl, ht2, hLm.mono (by omega), fun _ d2 H23 nd2 D23 S23 => ?_, fun n0 n1 => (not_both hGm n0 n1).elim⟩⟩
                  refine ⟨_, rfl, _, rfl, d2, q, l0, l1, rfl, D23, S23 _ _ hl22, hLm.mono (by omega), hGm, fun H24 S24 => ⟨_, rfl, ite_f ?_⟩⟩
                  exact ⟨d2, q, l0, l1, _, _, _, _, _, rfl, D23.same S24, S24 _ _ (S23 _ _ hl22), hLm.mono (by omega), hGm, ((P21.same S22).same S23).same S24, npq⟩
              · exact ⟨d, q, l0, l1, _, _, _, _, _, rfl, Dn.but B21 (Classical.choose_spec Pn).2, B21 _ _ hln npq.symm, hLm.mono (by omega), hGm, P21, npq⟩
      · rintro σ H' _
        exact k H'
end
end Wd
/-! What the top has written, in packages; the law's own head. -/
namespace Wd
open PySem PySem.Spec PyProof.Rows L2
section
variable {P : Program} {w : World} {K : PySem.W.Frag} {mg : Str → Option Value} {base : Heap} {h : Heap}
theorem scTornI : FnScope ["self", "text"] ["self", "text"] (defScope sTornI) := ⟨rfl, rfl, rfl, by decide +kernel, rfl, by decide +kernel, by decide +kernel⟩
theorem scBadI : FnScope ["self", "texts"] ["self", "texts"] (defScope sBadI) := ⟨rfl, rfl, rfl, by decide +kernel, rfl, by decide +kernel, by decide +kernel⟩

theorem ok_TornI {CE fI : Addr} {fd : FuncData} (T : OexC K CE) (hno : PySem.W.findIn K (.ref CE) "text" = some none) (F : Fun K "__init__" "Torn.__init__" sTornI fI fd) : FnOk P w K mg base CX0 1 fI fd ["self", "text"] (spErr CE "text") := by
  refine F.ok scTornI (fun vs H Q E h => ?_) (fun cdv A outer s H vs Q E hr h => ?_)
  · obtain ⟨a, v, rfl, _⟩ := h
    rfl
  · obtain ⟨a, v, rfl, ha, k⟩ := h
    refine ⟨_, pss_one (ps_ost (pv 0) (pv 1)), ?_⟩
    exact ⟨_, rfl, _, rfl, a, CE, rfl, T, hno, .inl ⟨ha, k⟩⟩

theorem ok_BadI {CE fI : Addr} {fd : FuncData} (T : OexC K CE) (hno : PySem.W.findIn K (.ref CE) "texts" = some none) (F : Fun K "__init__" "BadBook.__init__" sBadI fI fd) : FnOk P w K mg base CX0 1 fI fd ["self", "texts"] (spErr CE "texts") := by
  refine F.ok scBadI (fun vs H Q E h => ?_) (fun cdv A outer s H vs Q E hr h => ?_)
  · obtain ⟨a, v, rfl, _⟩ := h
    rfl
  · obtain ⟨a, v, rfl, ha, k⟩ := h
    refine ⟨_, pss_one (ps_ost (pv 0) (pv 1)), ?_⟩
    exact ⟨_, rfl, _, rfl, a, CE, rfl, T, hno, .inl ⟨ha, k⟩⟩

/-- an error class that is made -/
def De (K : PySem.W.Frag) (CE : Addr) (fld qual : Str) (st : Stmt) : Prop := OexC K CE ∧ PySem.W.findIn K (.ref CE) fld = some none ∧ ∃ (fI : Addr) (fd : FuncData), PySem.W.findIn K (.ref CE) "__init__" = some (some (.ref fI)) ∧ PySem.W.typeIn K (.ref fI) = some (.type "function") ∧ Fun K "__init__" qual st fI fd
theorem ge_torn {CE : Addr} (hm : mg "Torn" = some (.ref CE)) (d : De K CE "text" "Torn.__init__" sTornI) : Ge P w K mg base "Torn" CE "text" 1 := by
  obtain ⟨T, hno, fI, fd, a, t, F⟩ := d
  exact ⟨T, hm, fI, fd, ["self", "text"], a, t, ok_TornI T hno F, F.binds fun _ _ _ _ _ _ us hl => match us, hl with | [_, _], _ => rfl⟩
theorem ge_bad {CE : Addr} (hm : mg "BadBook" = some (.ref CE)) (d : De K CE "texts" "BadBook.__init__" sBadI) : Ge P w K mg base "BadBook" CE "texts" 1 := by
  obtain ⟨T, hno, fI, fd, a, t, F⟩ := d
  exact ⟨T, hm, fI, fd, ["self", "texts"], a, t, ok_BadI T hno F, F.binds fun _ _ _ _ _ _ us hl => match us, hl with | [_, _], _ => rfl⟩
/-! ### packages from facts -/
section
variable {x qual : Str} {st : Stmt} {f C : Addr} {oc : Value} {od an : Option Addr} {osl : Array (Option Value)} {kV doc pm cdv ct : Value}
theorem df_mk (X : K.In h) (G : h.Ns mainGlobals mg) (n : PySem.W.nsIn K mainGlobals x = some (some (.ref f))) (l : K.lookup f = some ⟨oc, od, .func (PySem.W.fnOf x x (defArgs st) (defBody st) (defScope st) .none kV doc pm an cdv ct), osl⟩)
    (c : PySem.W.codeIn K cdv x = true) (k : PySem.W.keepIn K (.ref f) = true) : Df K mg x st := ⟨f, _, PySem.W.mg_of X G n, fun_mk l c k⟩
theorem dm_mk (a : PySem.W.findIn K (.ref C) x = some (some (.ref f))) (i : PySem.W.isFn K (.ref f) = true) (l : K.lookup f = some ⟨oc, od, .func (PySem.W.fnOf x qual (defArgs st) (defBody st) (defScope st) .none kV doc pm an cdv ct), osl⟩)
    (c : PySem.W.codeIn K cdv qual = true) (k : PySem.W.keepIn K (.ref f) = true) : Dm K C x qual st := ⟨f, _, ⟨a, i, k⟩, fun_mk l c k⟩
theorem di_mk (m : PySem.W.makesIn K C = true) (a : PySem.W.findIn K (.ref C) "__init__" = some (some (.ref f))) (i : PySem.W.isFn K (.ref f) = true) (kc : PySem.W.keepIn K (.ref C) = true)
    (l : K.lookup f = some ⟨oc, od, .func (PySem.W.fnOf "__init__" "Disk.__init__" (defArgs sInit) (defBody sInit) (defScope sInit) .none kV doc pm an cdv ct), osl⟩) (c : PySem.W.codeIn K cdv "Disk.__init__" = true) (k : PySem.W.keepIn K (.ref f) = true) : Di K C := ⟨f, _, ⟨m, a, i, kc⟩, fun_mk l c k⟩
theorem dl_mk (a : PySem.W.findIn K (.ref C) "__len__" = some (some (.ref f))) (i : PySem.W.isFn K (.ref f) = true)
    (l : K.lookup f = some ⟨oc, od, .func (PySem.W.fnOf "__len__" "Disk.__len__" (defArgs sLen) (defBody sLen) (defScope sLen) .none kV doc pm an cdv ct), osl⟩) (c : PySem.W.codeIn K cdv "Disk.__len__" = true) (k : PySem.W.keepIn K (.ref f) = true) : Dl K C := ⟨f, _, a, i, fun_mk l c k⟩
theorem dp_mk {p : Addr} {rest : List Value} (a : PySem.W.findIn K (.ref C) "book" = some (some (.ref p))) (g : PySem.W.specialIn K (.ref p) "__get__" = some (some (.builtin "property.__get__"))) (t : PySem.W.takesIn K (.ref p) = some true)
    (r : PySem.W.recIn K p "property" = some (.ref f :: rest)) (l : K.lookup f = some ⟨oc, od, .func (PySem.W.fnOf "book" "Disk.book" (defArgs sBook) (defBody sBook) (defScope sBook) .none kV doc pm an cdv ct), osl⟩) (c : PySem.W.codeIn K cdv "Disk.book" = true)
    (k : PySem.W.keepIn K (.ref f) = true) : Dp K C := ⟨p, f, _, ⟨a, g, t, rest, r⟩, fun_mk l c k⟩
theorem dc_mk {p : Addr} {rest : List Value} (rd : PySem.W.readsIn K C (.type "type") = true) (g : PySem.W.specialIn K (.ref C) "__getattribute__" = some (some (.builtin "type.__getattribute__")))
    (a : PySem.W.findCls K (.ref C) (.type "type") "of_places" = some (.get (.builtin "classmethod.__get__") (.ref p) .none (.ref C))) (r : PySem.W.recIn K p "classmethod" = some (.ref f :: rest)) (fi : PySem.W.fnIn K f = true)
    (l : K.lookup f = some ⟨oc, od, .func (PySem.W.fnOf "of_places" "Disk.of_places" (defArgs sOfPlaces) (defBody sOfPlaces) (defScope sOfPlaces) .none kV doc pm an cdv ct), osl⟩) (c : PySem.W.codeIn K cdv "Disk.of_places" = true)
    (k : PySem.W.keepIn K (.ref f) = true) : Dc K C := ⟨.type "type", p, f, _, ⟨rd, g⟩, ⟨a, ⟨rest, r⟩, fi⟩, fun_mk l c k⟩
theorem dw_mk {D : Addr} (a : PySem.W.findIn K (.ref C) x = some (some (.ref f))) (i : PySem.W.isFn K (.ref f) = true) (l : K.lookup f = some ⟨oc, od, .func (PySem.W.fnOf x qual (defArgs st) (defBody st) (defScope st) .none (.ref D) doc pm an cdv ct), osl⟩)
    (c : PySem.W.codeIn K cdv qual = true) (k : PySem.W.keepIn K (.ref f) = true) (n : PySem.W.nsIn K D "cut" = some (some .none)) : Dw K C x qual st := by
  refine ⟨f, _, ⟨a, i, k⟩, ⟨oc, od, .none, .ref D, doc, pm, an, cdv, ct, osl, rfl, l, c, .inl ⟨rfl, rfl⟩, .inr ⟨D, rfl, fun q hq => ?_⟩⟩, k⟩
  rw [List.mem_singleton.mp hq]
  exact ⟨.none, n, rfl⟩
theorem dk_mk (a : PySem.W.plainGet K C Str.empty = true) (b : PySem.W.hasDictIn K C = true) (c : PySem.W.plainOver K C = true) (d : PySem.W.findIn K (.ref C) "__setattr__" = some (some (.builtin "object.__setattr__"))) (e : PySem.W.findIn K (.ref C) "pair" = some none) : Dk K C := ⟨⟨a, b, c, d⟩, e⟩
theorem de_mk {fld : Str} {nm q : Str} {N : Addr} {bs bm : List Value} {sn : List Str} {sub : List Value} {ab : Bool} {col : Option Bool} {dd : Option Addr} {m0 m1 m2 m3 m5 : Option Value}
    (xL : K.lookup C = some (excClassObj nm q C N bs bm true sn sub ab col dd m0 m1 m2 m3 m5 "ValueError.__new__")) (xr : PySem.HandSPX.refsVE bm = true) (sa : PySem.W.findIn K (.ref C) "__setattr__" = some (some (.builtin "object.__setattr__")))
    (eC : PySem.W.subIn K (.ref C) (.type "BaseException") = some true) (tC : PySem.W.typeIn K (.ref C) = some (.type "type")) (kC : PySem.W.keepIn K (.ref C) = true) (no : PySem.W.findIn K (.ref C) fld = some none)
    (a : PySem.W.findIn K (.ref C) "__init__" = some (some (.ref f))) (t : PySem.W.typeIn K (.ref f) = some (.type "function")) (l : K.lookup f = some ⟨oc, od, .func (PySem.W.fnOf "__init__" qual (defArgs st) (defBody st) (defScope st) .none kV doc pm an cdv ct), osl⟩)
    (c : PySem.W.codeIn K cdv qual = true) (k : PySem.W.keepIn K (.ref f) = true) : De K C fld qual st :=
  ⟨⟨⟨nm, q, N, bs, bm, sn, sub, ab, col, dd, m0, m1, m2, m3, m5, xL, xr⟩, sa, eC, tC, kC⟩, no, f, _, a, t, fun_mk l c k⟩
end
theorem al_nil {Q : Addr → Prop} : ∀ o ∈ ([] : List Addr), Q o := fun _ h => by cases h
theorem al_cons {Q : Addr → Prop} {a : Addr} {r : List Addr} (h : Q a) (t : ∀ o ∈ r, Q o) : ∀ o ∈ a :: r, Q o := fun o ho => by
  rcases List.mem_cons.mp ho with rfl | q
  · exact h
  · exact t o q
theorem kit_no {D o : Addr} (s : PySem.W.subIn K (.ref D) (.ref D) = some true) (i : PySem.W.isClsIn K o = true) (t : PySem.W.typeIn K (.ref o) = some (.type "type")) (n : PySem.W.subIn K (.ref D) (.ref o) = some false) : PySem.W.kitOne K (.ref D) (.ref o) = some false := by
  have ne : ¬ ((Value.ref D == Value.ref o) = true) := fun z => by
    have e : Value.ref D = Value.ref o := by simpa using z
    rw [e] at s n
    rw [s] at n
    cases n
  have e2 : ((PySem.W.clsIn K o).isSome && PySem.W.typeIn K (.ref o) == some (.type "type")) = true := by
    have h2 : (PySem.W.clsIn K o).isSome = true := i
    rw [h2, t] <;> rfl
  unfold PySem.W.kitOne
  rw [if_neg ne]
  show (if ((PySem.W.clsIn K o).isSome && PySem.W.typeIn K (.ref o) == some (.type "type")) = true then PySem.W.subIn K (.ref D) (.ref o) else none) = some false
  rw [if_pos e2]
  exact n
theorem kit_ve {D : Addr} (n : PySem.W.subIn K (.ref D) (.type "ValueError") = some true) : PySem.W.kitOne K (.ref D) (.type "ValueError") = some true := by
  unfold PySem.W.kitOne
  by_cases z : (Value.ref D == Value.type "ValueError") = true
  · rw [if_pos z]
  · rw [if_neg z]
    show (if PySem.W.kitMeta "ValueError" = true then PySem.W.subIn K (.ref D) (.type "ValueError") else none) = some true
    rw [if_pos (by decide +kernel)]
    exact n
theorem ek_mk {D SE : Addr} {fld : Str} {l1 l2 : List Addr} (ic : PySem.W.isClsIn K D = true) (ga : PySem.W.findIn K (.ref D) "__getattribute__" = some (some (.builtin "BaseException.__getattribute__"))) (gt : PySem.W.findIn K (.ref D) "__getattr__" = some none)
    (sb : PySem.W.subIn K (.ref D) (.type "BaseException") = some true) (ca : PySem.W.findIn K (.ref D) "__class__" = some (some (.builtin "object.__class__"))) (sg : PySem.W.specialIn K (.builtin "object.__class__") "__get__" = some (some (.builtin "getset_descriptor.__get__")))
    (tk : PySem.W.takesIn K (.builtin "object.__class__") = some true) (mo : PySem.W.mroIn K D (.type "object") = some true) (hd : PySem.W.hasDictIn K D = true) (no : PySem.W.findIn K (.ref D) fld = some none)
    (s1 : PySem.W.subIn K (.ref SE) (.type "BaseException") = some true) (s2 : PySem.W.hasDictIn K SE = true) (s3 : PySem.W.typeIn K (.ref SE) = some (.type "type")) (s4 : PySem.W.subIn K (.ref D) (.ref SE) = some true) (ve : PySem.W.subIn K (.ref D) (.type "ValueError") = some true)
    (o1 : ∀ o ∈ l1, PySem.W.kitOne K (.ref D) (.ref o) = some false) (o2 : ∀ o ∈ l2, PySem.W.kitOne K (.ref D) (.ref o) = some false) : Ek K D SE fld l1 l2 :=
  ⟨⟨ic, ga, gt, sb, ca, sg, tk, mo⟩, ⟨ga, gt, sb, hd⟩, no, PySem.W.exm_ref s1 s2 s3 s4, kit_ve ve, o1, o2⟩
end

theorem all_mk {l : PySem.W.OpenLaw} {w : World} {K : PySem.W.Frag} {h : Heap} {mg : Str → Option Value} {fa C cBadBook cBusy cInvalidDeed cInvalidNumber cInvalidText cInvalidValue cNoActor cNoKey cNoLetter cNoOrder cNotGranted cTorn cTwice cShopError : Addr} {tF tM : Tok} (X : K.In h) (G : h.Ns mainGlobals mg) (hfa : mg "law" = some (.ref fa))
    (aDisk : PySem.W.nsIn K mainGlobals "Disk" = some (some (.ref C)))
    (aBadBook : PySem.W.nsIn K mainGlobals "BadBook" = some (some (.ref cBadBook)))
    (aBusy : PySem.W.nsIn K mainGlobals "Busy" = some (some (.ref cBusy)))
    (aInvalidDeed : PySem.W.nsIn K mainGlobals "InvalidDeed" = some (some (.ref cInvalidDeed)))
    (aInvalidNumber : PySem.W.nsIn K mainGlobals "InvalidNumber" = some (some (.ref cInvalidNumber)))
    (aInvalidText : PySem.W.nsIn K mainGlobals "InvalidText" = some (some (.ref cInvalidText)))
    (aInvalidValue : PySem.W.nsIn K mainGlobals "InvalidValue" = some (some (.ref cInvalidValue)))
    (aNoActor : PySem.W.nsIn K mainGlobals "NoActor" = some (some (.ref cNoActor)))
    (aNoKey : PySem.W.nsIn K mainGlobals "NoKey" = some (some (.ref cNoKey)))
    (aNoLetter : PySem.W.nsIn K mainGlobals "NoLetter" = some (some (.ref cNoLetter)))
    (aNoOrder : PySem.W.nsIn K mainGlobals "NoOrder" = some (some (.ref cNoOrder)))
    (aNotGranted : PySem.W.nsIn K mainGlobals "NotGranted" = some (some (.ref cNotGranted)))
    (aTorn : PySem.W.nsIn K mainGlobals "Torn" = some (some (.ref cTorn)))
    (aTwice : PySem.W.nsIn K mainGlobals "Twice" = some (some (.ref cTwice)))
    (aShopError : PySem.W.nsIn K mainGlobals "ShopError" = some (some (.ref cShopError)))
    (bint : PySem.W.nsIn K mainGlobals "int" = some none)
    (bstr : PySem.W.nsIn K mainGlobals "str" = some none)
    (blen : PySem.W.nsIn K mainGlobals "len" = some none)
    (babs : PySem.W.nsIn K mainGlobals "abs" = some none)
    (bmin : PySem.W.nsIn K mainGlobals "min" = some none)
    (brange : PySem.W.nsIn K mainGlobals "range" = some none)
    (btuple : PySem.W.nsIn K mainGlobals "tuple" = some none)
    (blist : PySem.W.nsIn K mainGlobals "list" = some none)
    (bbool : PySem.W.nsIn K mainGlobals "bool" = some none)
    (bisinstance : PySem.W.nsIn K mainGlobals "isinstance" = some none)
    (bValueError : PySem.W.nsIn K mainGlobals "ValueError" = some none)
    (aF : PySem.W.nsIn K mainGlobals "FIGURES" = some (some (.str "0123456789" tF))) (aM : PySem.W.nsIn K mainGlobals "MOST_FIGURES" = some (some (.int 9 tM)))
    (dk : Dk K C)
    (dHeadNumber : Df K mg "head_number" sHeadNumber)
    (dWholeLines : Df K mg "whole_lines" sWholeLines)
    (dTornEnd : Df K mg "torn_end" sTornEnd)
    (dFirstSigns : Df K mg "first_signs" sFirstSigns)
    (dLPool : Df K mg "_law_pool" sLPool)
    (dLDraw : Df K mg "_law_draw" sLDraw)
    (dLText : Df K mg "_law_text" sLText)
    (dLCut : Df K mg "_law_cut" sLCut)
    (dLSame : Df K mg "_law_same" sLSame)
    (dLHead : Df K mg "_law_head" sLHead)
    (dLPresent : Df K mg "_law_present" sLPresent)
    (dLRests : Df K mg "_law_rests" sLRests)
    (dLAlike : Df K mg "_law_alike" sLAlike)
    (dLTorn : Df K mg "_law_torn" sLTorn)
    (dLWritten : Df K mg "_law_written" sLWritten)
    (dLMended : Df K mg "_law_mended" sLMended)
    (dLClosed : Df K mg "_law_closed" sLClosed)
    (dLNumber : Df K mg "_law_number" sLNumber)
    (dLPlace : Df K mg "_law_place" sLPlace)
    (dLNoBook : Df K mg "_law_no_book" sLNoBook)
    (dLBad : Df K mg "_law_bad" sLBad)
    (dLMayPass : Df K mg "_law_may_pass" sLMayPass)
    (dLPlaces : Df K mg "_law_places" sLPlaces)
    (dLaw : Df K mg "law" sLaw)
    (mPlaces : Dm K C "places" "Disk.places" sPlaces)
    (mPresentAt : Dm K C "present_at" "Disk.present_at" sPresentAt)
    (mPut : Dm K C "put" "Disk.put" sPut)
    (mHead : Dm K C "head" "Disk.head" sHead)
    (mRecords : Dm K C "records" "Disk.records" sRecords)
    (mMend : Dm K C "mend" "Disk.mend" sMend)
    (mInit : Di K C) (mLen : Dl K C) (mBook : Dp K C) (mOfPlaces : Dc K C) (mWrite : Dw K C "write" "Disk.write" sWrite) (mClose : Dw K C "close" "Disk.close" sClose)
    (eTorn : De K cTorn "text" "Torn.__init__" sTornI) (eBad : De K cBadBook "texts" "BadBook.__init__" sBadI)
    (kTorn : Ek K cTorn cShopError "text" [cBadBook, cBusy, cInvalidDeed, cInvalidNumber, cInvalidText, cInvalidValue, cNoActor, cNoKey] [cNoLetter, cNoOrder, cNotGranted, cTwice]) (kBad : Ek K cBadBook cShopError "texts" [cTorn, cBusy, cInvalidDeed, cInvalidNumber, cInvalidText, cInvalidValue, cNoActor, cNoKey] [cNoLetter, cNoOrder, cNotGranted, cTwice]) :
    ∃ fd : FuncData, (∀ (s : Shared) (v : Value), BindsTo s fd ⟨[v], []⟩ [("_law_script", v)]) ∧ ∀ base : Heap, K.In base → base.Ns mainGlobals mg → FnOk l.prog w K mg base CX0 7 fa fd ["_law_script"] (spLaw K) := by
  obtain ⟨f, fd, hm, F⟩ := dLaw
  have e := hfa.symm.trans hm
  cases e
  have T : Tx mg := ⟨PySem.W.mg_none_of X G bint, PySem.W.mg_none_of X G bstr, PySem.W.mg_none_of X G blen, PySem.W.mg_none_of X G babs, PySem.W.mg_none_of X G bmin, PySem.W.mg_none_of X G brange, PySem.W.mg_none_of X G btuple, PySem.W.mg_none_of X G blist, PySem.W.mg_none_of X G bbool, PySem.W.mg_none_of X G bisinstance, PySem.W.mg_none_of X G bValueError, ⟨tF, PySem.W.mg_of X G aF⟩, ⟨tM, PySem.W.mg_of X G aM⟩⟩
  have Tg : Tc mg ⟨cBadBook, cBusy, cInvalidDeed, cInvalidNumber, cInvalidText, cInvalidValue, cNoActor, cNoKey, cNoLetter, cNoOrder, cNotGranted, cTorn, cTwice, cShopError⟩ := ⟨PySem.W.mg_of X G aBadBook, PySem.W.mg_of X G aBusy, PySem.W.mg_of X G aInvalidDeed, PySem.W.mg_of X G aInvalidNumber, PySem.W.mg_of X G aInvalidText, PySem.W.mg_of X G aInvalidValue, PySem.W.mg_of X G aNoActor, PySem.W.mg_of X G aNoKey, PySem.W.mg_of X G aNoLetter, PySem.W.mg_of X G aNoOrder, PySem.W.mg_of X G aNotGranted, PySem.W.mg_of X G aTorn, PySem.W.mg_of X G aTwice, PySem.W.mg_of X G aShopError⟩
  have gDisk := PySem.W.mg_of X G aDisk
  refine ⟨fd, fun s v => ?_, fun base _ _ => ?_⟩
  · obtain ⟨oc, od, kV, doc, pm, an, cdv, ct, osl, rfl, lk, hcd⟩ := F.ex
    exact .of_eq rfl
  · have gHN := ok_HeadNumber (P := l.prog) (w := w) (base := base) T dHeadNumber
    have gWL := ok_WholeLines (P := l.prog) (w := w) (base := base) dWholeLines
    have gTE := ok_TornEnd (P := l.prog) (w := w) (base := base) dTornEnd
    have gFS := ok_FirstSigns (P := l.prog) (w := w) (base := base) dFirstSigns
    have gInit := ok_Init (P := l.prog) (w := w) (mg := mg) (base := base) dk mInit
    have gPl := ok_Places (P := l.prog) (w := w) (mg := mg) (base := base) dk mPlaces
    have gPA := ok_PresentAt dk gHN mPresentAt
    have gPut := ok_Put (P := l.prog) (w := w) (mg := mg) (base := base) dk mPut
    have gTorn := ge_torn (P := l.prog) (w := w) (base := base) Tg.g_Torn eTorn
    have gBad := ge_bad (P := l.prog) (w := w) (base := base) Tg.g_BadBook eBad
    have gOf := ok_OfPlaces dk gHN gInit gBad mOfPlaces
    have gBook := ok_Book dk gHN gPA mBook
    have gHead := ok_Head dk gWL gPA mHead
    have gRec := ok_Records T dk gWL gPA mRecords
    have gLen := ok_Len T dk gRec mLen
    have gWr := ok_Write T dk gTE gFS gPA gPut gTorn mWrite
    have gCl := ok_Close T dk gFS gPA gPut gBook mClose
    have gMe := ok_Mend T dk gTE gPA gPut mMend
    have lDraw := ok_LDraw (P := l.prog) (w := w) (base := base) T dLDraw
    have lText := ok_LText T lDraw dLText
    have lCut := ok_LCut T lDraw dLCut
    have lSame := ok_LSame T (ok_LSame1 (P := l.prog) (w := w) (base := base) T dLSame) dLSame
    have lSameH := ok_LSameH T (ok_LSameH1 (P := l.prog) (w := w) (base := base) T dLSame) dLSame
    have lHead := ok_LHead (P := l.prog) (w := w) (base := base) T dLHead
    have lPres := ok_LPresent T lHead dLPresent
    have lRests := ok_LRests lPres dLRests
    have lAlike := ok_LAlike T dk lHead lPres lSame gPl gBook gHead gRec gLen dLAlike
    have lMended := ok_LMended T dk lPres lRests lSame gMe dLMended
    have lTorn := ok_LTorn T Tg kTorn dk lSameH gWr dLTorn
    have lWritten := ok_LWritten T dk lPres lRests lSame lTorn gWr dLWritten
    have lClosed := ok_LClosed T dk lHead lPres lSame gCl dLClosed
    have lBad := ok_LBad T Tg kBad gDisk lSameH gOf dLBad
    have lNumber := ok_LNumber T lDraw dLNumber
    have lPlace := ok_LPlace T lDraw lText dLPlace
    have lMay := ok_LMayPass lHead dLMayPass
    have lNoBook := ok_LNoBook T lDraw lText lNumber dLNoBook
    have lPlaces := ok_LPlaces T lDraw lNumber lPlace lNoBook dLPlaces
    have lPool := ok_LPool (P := l.prog) (w := w) (base := base) T dLPool
    exact ok_Law (c0 := ⟨cBadBook, cBusy, cInvalidDeed, cInvalidNumber, cInvalidText, cInvalidValue, cNoActor, cNoKey, cNoLetter, cNoOrder, cNotGranted, cTorn, cTwice, cShopError⟩) T dk gDisk gInit gPl gOf lPool lDraw lText lCut lHead lPres lAlike lWritten lClosed lMended lNoBook lBad lMay lPlaces F
theorem walk {l : PySem.W.OpenLaw} {q : Program} {loose : List Str} {XP : (Str → Option Value) → Heap → Prop} {YP : World → Heap → Prop} {d : DefRec} {K : Params → PySem.W.Frag} (hn : l.most = some 63) (hdf : d.params.defaults = [])
    (hY : ∀ (w : World) (h : Heap), YP w h → (K w.params).In h)
    (F : ∀ (w : World) (mg : Str → Option Value) (fa : Addr) (h : Heap), (K w.params).In h → h.Ns mainGlobals mg → mg d.name = some (.ref fa) →
      ∃ fd : FuncData, (∀ (s : Shared) (u : Value), BindsTo s fd ⟨[u], []⟩ [("_law_script", u)]) ∧ ∀ base : Heap, (K w.params).In base → base.Ns mainGlobals mg → FnOk l.prog w (K w.params) mg base CX0 7 fa fd ["_law_script"] (spLaw (K w.params))) :
    PySem.W.WalkO q loose XP YP l.row.toRowW d [] (fun f vs => PySem.call f vs) :=
  L2.walk_of (n := 63) (k := 7) (x := "_law_script") (CX := fun _ => CX0) (sp := fun w => spLaw (K w.params)) hn (by decide) hdf ⟨rfl, by decide, by decide⟩ hY F (fun _ _ a ns hl _ hS => ⟨a, ns, rfl, hS, hl, fun _ => rfl⟩) fun _ _ _ _ _ z => z
end Wd
open PySem PySem.W PyProof.Rows
set_option maxHeartbeats 0
theorem PySem.Challenge.cw_oncecoin_k43_whole_disk_holds : PySem.Challenge.rw_oncecoin_k43_whole_disk.Holds := by
  w_on; o_law; k_head; (case hw => w_witness2)
  k_fill
  refine Wd.walk (l := PySem.Challenge.rw_oncecoin_k43_whole_disk) rfl rfl (fun w h Y => PySem.W.kIn_of Y) ?F
  case F =>
    intro w mg fa h KX G hmg
    refine' Wd.all_mk KX G hmg ?aDisk ?aBadBook ?aBusy ?aInvalidDeed ?aInvalidNumber ?aInvalidText ?aInvalidValue ?aNoActor ?aNoKey ?aNoLetter ?aNoOrder ?aNotGranted ?aTorn ?aTwice ?aShopError ?bint ?bstr ?blen ?babs ?bmin ?brange ?btuple ?blist ?bbool ?bisinstance ?bValueError ?aF ?aM ?dk ?dHeadNumber ?dWholeLines ?dTornEnd ?dFirstSigns ?dLPool ?dLDraw ?dLText ?dLCut ?dLSame ?dLHead ?dLPresent ?dLRests ?dLAlike ?dLTorn ?dLWritten ?dLMended ?dLClosed ?dLNumber ?dLPlace ?dLNoBook ?dLBad ?dLMayPass ?dLPlaces ?dLaw ?mPlaces ?mPresentAt ?mPut ?mHead ?mRecords ?mMend ?mInit ?mLen ?mBook ?mOfPlaces ?mWrite ?mClose ?eTorn ?eBad ?kTorn ?kBad
    (case aDisk => k_is)
    (case aBadBook => k_is)
    (case aBusy => k_is)
    (case aInvalidDeed => k_is)
    (case aInvalidNumber => k_is)
    (case aInvalidText => k_is)
    (case aInvalidValue => k_is)
    (case aNoActor => k_is)
    (case aNoKey => k_is)
    (case aNoLetter => k_is)
    (case aNoOrder => k_is)
    (case aNotGranted => k_is)
    (case aTorn => k_is)
    (case aTwice => k_is)
    (case aShopError => k_is)
    (case bint => k_is)
    (case bstr => k_is)
    (case blen => k_is)
    (case babs => k_is)
    (case bmin => k_is)
    (case brange => k_is)
    (case btuple => k_is)
    (case blist => k_is)
    (case bbool => k_is)
    (case bisinstance => k_is)
    (case bValueError => k_is)
    (case aF => k_is)
    (case aM => k_is)
    (case dk => refine' Wd.dk_mk ?a ?b ?c ?d ?e; (case a => k_is); (case b => k_is); (case c => k_is); (case d => k_is); (case e => k_is))
    (case dHeadNumber => refine' Wd.df_mk KX G ?n ?l ?c ?k; (case n => k_is); (case l => k_is); (case c => k_is); (case k => k_is))
    (case dWholeLines => refine' Wd.df_mk KX G ?n ?l ?c ?k; (case n => k_is); (case l => k_is); (case c => k_is); (case k => k_is))
    (case dTornEnd => refine' Wd.df_mk KX G ?n ?l ?c ?k; (case n => k_is); (case l => k_is); (case c => k_is); (case k => k_is))
    (case dFirstSigns => refine' Wd.df_mk KX G ?n ?l ?c ?k; (case n => k_is); (case l => k_is); (case c => k_is); (case k => k_is))
    (case dLPool => refine' Wd.df_mk KX G ?n ?l ?c ?k; (case n => k_is); (case l => k_is); (case c => k_is); (case k => k_is))
    (case dLDraw => refine' Wd.df_mk KX G ?n ?l ?c ?k; (case n => k_is); (case l => k_is); (case c => k_is); (case k => k_is))
    (case dLText => refine' Wd.df_mk KX G ?n ?l ?c ?k; (case n => k_is); (case l => k_is); (case c => k_is); (case k => k_is))
    (case dLCut => refine' Wd.df_mk KX G ?n ?l ?c ?k; (case n => k_is); (case l => k_is); (case c => k_is); (case k => k_is))
    (case dLSame => refine' Wd.df_mk KX G ?n ?l ?c ?k; (case n => k_is); (case l => k_is); (case c => k_is); (case k => k_is))
    (case dLHead => refine' Wd.df_mk KX G ?n ?l ?c ?k; (case n => k_is); (case l => k_is); (case c => k_is); (case k => k_is))
    (case dLPresent => refine' Wd.df_mk KX G ?n ?l ?c ?k; (case n => k_is); (case l => k_is); (case c => k_is); (case k => k_is))
    (case dLRests => refine' Wd.df_mk KX G ?n ?l ?c ?k; (case n => k_is); (case l => k_is); (case c => k_is); (case k => k_is))
    (case dLAlike => refine' Wd.df_mk KX G ?n ?l ?c ?k; (case n => k_is); (case l => k_is); (case c => k_is); (case k => k_is))
    (case dLTorn => refine' Wd.df_mk KX G ?n ?l ?c ?k; (case n => k_is); (case l => k_is); (case c => k_is); (case k => k_is))
    (case dLWritten => refine' Wd.df_mk KX G ?n ?l ?c ?k; (case n => k_is); (case l => k_is); (case c => k_is); (case k => k_is))
    (case dLMended => refine' Wd.df_mk KX G ?n ?l ?c ?k; (case n => k_is); (case l => k_is); (case c => k_is); (case k => k_is))
    (case dLClosed => refine' Wd.df_mk KX G ?n ?l ?c ?k; (case n => k_is); (case l => k_is); (case c => k_is); (case k => k_is))
    (case dLNumber => refine' Wd.df_mk KX G ?n ?l ?c ?k; (case n => k_is); (case l => k_is); (case c => k_is); (case k => k_is))
    (case dLPlace => refine' Wd.df_mk KX G ?n ?l ?c ?k; (case n => k_is); (case l => k_is); (case c => k_is); (case k => k_is))
    (case dLNoBook => refine' Wd.df_mk KX G ?n ?l ?c ?k; (case n => k_is); (case l => k_is); (case c => k_is); (case k => k_is))
    (case dLBad => refine' Wd.df_mk KX G ?n ?l ?c ?k; (case n => k_is); (case l => k_is); (case c => k_is); (case k => k_is))
    (case dLMayPass => refine' Wd.df_mk KX G ?n ?l ?c ?k; (case n => k_is); (case l => k_is); (case c => k_is); (case k => k_is))
    (case dLPlaces => refine' Wd.df_mk KX G ?n ?l ?c ?k; (case n => k_is); (case l => k_is); (case c => k_is); (case k => k_is))
    (case dLaw => refine' Wd.df_mk KX G ?n ?l ?c ?k; (case n => k_is); (case l => k_is); (case c => k_is); (case k => k_is))
    (case mPlaces => refine' Wd.dm_mk ?a ?i ?l ?c ?k; (case a => k_is); (case i => k_is); (case l => k_is); (case c => k_is); (case k => k_is))
    (case mPresentAt => refine' Wd.dm_mk ?a ?i ?l ?c ?k; (case a => k_is); (case i => k_is); (case l => k_is); (case c => k_is); (case k => k_is))
    (case mPut => refine' Wd.dm_mk ?a ?i ?l ?c ?k; (case a => k_is); (case i => k_is); (case l => k_is); (case c => k_is); (case k => k_is))
    (case mHead => refine' Wd.dm_mk ?a ?i ?l ?c ?k; (case a => k_is); (case i => k_is); (case l => k_is); (case c => k_is); (case k => k_is))
    (case mRecords => refine' Wd.dm_mk ?a ?i ?l ?c ?k; (case a => k_is); (case i => k_is); (case l => k_is); (case c => k_is); (case k => k_is))
    (case mMend => refine' Wd.dm_mk ?a ?i ?l ?c ?k; (case a => k_is); (case i => k_is); (case l => k_is); (case c => k_is); (case k => k_is))
    (case mInit => refine' Wd.di_mk ?m ?a ?i ?kc ?l ?c ?k; (case m => k_is); (case a => k_is); (case i => k_is); (case kc => k_is); (case l => k_is); (case c => k_is); (case k => k_is))
    (case mLen => refine' Wd.dl_mk ?a ?i ?l ?c ?k; (case a => k_is); (case i => k_is); (case l => k_is); (case c => k_is); (case k => k_is))
    (case mBook => refine' Wd.dp_mk ?a ?g ?t ?r ?l ?c ?k; (case a => k_is); (case g => k_is); (case t => k_is); (case r => k_is); (case l => k_is); (case c => k_is); (case k => k_is))
    (case mOfPlaces => refine' Wd.dc_mk ?rd ?g ?a ?r ?fi ?l ?c ?k; (case rd => k_is); (case g => k_is); (case a => k_is); (case r => k_is); (case fi => k_is); (case l => k_is); (case c => k_is); (case k => k_is))
    (case mWrite => refine' Wd.dw_mk ?a ?i ?l ?c ?k ?n; (case a => k_is); (case i => k_is); (case l => k_is); (case c => k_is); (case k => k_is); (case n => k_is))
    (case mClose => refine' Wd.dw_mk ?a ?i ?l ?c ?k ?n; (case a => k_is); (case i => k_is); (case l => k_is); (case c => k_is); (case k => k_is); (case n => k_is))
    (case eTorn => refine' Wd.de_mk ?xL ?xr ?sa ?eC ?tC ?kC ?no ?a ?t ?l ?c ?k; (case xL => k_is); (case xr => decide +kernel); (case sa => k_is); (case eC => k_is); (case tC => k_is); (case kC => k_is); (case no => k_is); (case a => k_is); (case t => k_is); (case l => k_is); (case c => k_is); (case k => k_is))
    (case eBad => refine' Wd.de_mk ?xL ?xr ?sa ?eC ?tC ?kC ?no ?a ?t ?l ?c ?k; (case xL => k_is); (case xr => decide +kernel); (case sa => k_is); (case eC => k_is); (case tC => k_is); (case kC => k_is); (case no => k_is); (case a => k_is); (case t => k_is); (case l => k_is); (case c => k_is); (case k => k_is))
    (case kTorn => refine' Wd.ek_mk ?ic ?ga ?gt ?sb ?ca ?sg ?tk ?mo ?hd ?no ?s1 ?s2 ?s3 ?s4 ?ve (Wd.al_cons (Wd.kit_no ?ps0 ?pi0 ?pt0 ?pn0) (Wd.al_cons (Wd.kit_no ?ps1 ?pi1 ?pt1 ?pn1) (Wd.al_cons (Wd.kit_no ?ps2 ?pi2 ?pt2 ?pn2) (Wd.al_cons (Wd.kit_no ?ps3 ?pi3 ?pt3 ?pn3) (Wd.al_cons (Wd.kit_no ?ps4 ?pi4 ?pt4 ?pn4) (Wd.al_cons (Wd.kit_no ?ps5 ?pi5 ?pt5 ?pn5) (Wd.al_cons (Wd.kit_no ?ps6 ?pi6 ?pt6 ?pn6) (Wd.al_cons (Wd.kit_no ?ps7 ?pi7 ?pt7 ?pn7) Wd.al_nil)))))))) (Wd.al_cons (Wd.kit_no ?qs0 ?qi0 ?qt0 ?qn0) (Wd.al_cons (Wd.kit_no ?qs1 ?qi1 ?qt1 ?qn1) (Wd.al_cons (Wd.kit_no ?qs2 ?qi2 ?qt2 ?qn2) (Wd.al_cons (Wd.kit_no ?qs3 ?qi3 ?qt3 ?qn3) Wd.al_nil)))); (case ic => k_is); (case ga => k_is); (case gt => k_is); (case sb => k_is); (case ca => k_is); (case sg => k_is); (case tk => k_is); (case mo => k_is); (case hd => k_is); (case no => k_is); (case s1 => k_is); (case s2 => k_is); (case s3 => k_is); (case s4 => k_is); (case ve => k_is); (case ps0 => k_is); (case pi0 => k_is); (case pt0 => k_is); (case pn0 => k_is); (case ps1 => k_is); (case pi1 => k_is); (case pt1 => k_is); (case pn1 => k_is); (case ps2 => k_is); (case pi2 => k_is); (case pt2 => k_is); (case pn2 => k_is); (case ps3 => k_is); (case pi3 => k_is); (case pt3 => k_is); (case pn3 => k_is); (case ps4 => k_is); (case pi4 => k_is); (case pt4 => k_is); (case pn4 => k_is); (case ps5 => k_is); (case pi5 => k_is); (case pt5 => k_is); (case pn5 => k_is); (case ps6 => k_is); (case pi6 => k_is); (case pt6 => k_is); (case pn6 => k_is); (case ps7 => k_is); (case pi7 => k_is); (case pt7 => k_is); (case pn7 => k_is); (case qs0 => k_is); (case qi0 => k_is); (case qt0 => k_is); (case qn0 => k_is); (case qs1 => k_is); (case qi1 => k_is); (case qt1 => k_is); (case qn1 => k_is); (case qs2 => k_is); (case qi2 => k_is); (case qt2 => k_is); (case qn2 => k_is); (case qs3 => k_is); (case qi3 => k_is); (case qt3 => k_is); (case qn3 => k_is))
    (case kBad => refine' Wd.ek_mk ?ic ?ga ?gt ?sb ?ca ?sg ?tk ?mo ?hd ?no ?s1 ?s2 ?s3 ?s4 ?ve (Wd.al_cons (Wd.kit_no ?ps0 ?pi0 ?pt0 ?pn0) (Wd.al_cons (Wd.kit_no ?ps1 ?pi1 ?pt1 ?pn1) (Wd.al_cons (Wd.kit_no ?ps2 ?pi2 ?pt2 ?pn2) (Wd.al_cons (Wd.kit_no ?ps3 ?pi3 ?pt3 ?pn3) (Wd.al_cons (Wd.kit_no ?ps4 ?pi4 ?pt4 ?pn4) (Wd.al_cons (Wd.kit_no ?ps5 ?pi5 ?pt5 ?pn5) (Wd.al_cons (Wd.kit_no ?ps6 ?pi6 ?pt6 ?pn6) (Wd.al_cons (Wd.kit_no ?ps7 ?pi7 ?pt7 ?pn7) Wd.al_nil)))))))) (Wd.al_cons (Wd.kit_no ?qs0 ?qi0 ?qt0 ?qn0) (Wd.al_cons (Wd.kit_no ?qs1 ?qi1 ?qt1 ?qn1) (Wd.al_cons (Wd.kit_no ?qs2 ?qi2 ?qt2 ?qn2) (Wd.al_cons (Wd.kit_no ?qs3 ?qi3 ?qt3 ?qn3) Wd.al_nil)))); (case ic => k_is); (case ga => k_is); (case gt => k_is); (case sb => k_is); (case ca => k_is); (case sg => k_is); (case tk => k_is); (case mo => k_is); (case hd => k_is); (case no => k_is); (case s1 => k_is); (case s2 => k_is); (case s3 => k_is); (case s4 => k_is); (case ve => k_is); (case ps0 => k_is); (case pi0 => k_is); (case pt0 => k_is); (case pn0 => k_is); (case ps1 => k_is); (case pi1 => k_is); (case pt1 => k_is); (case pn1 => k_is); (case ps2 => k_is); (case pi2 => k_is); (case pt2 => k_is); (case pn2 => k_is); (case ps3 => k_is); (case pi3 => k_is); (case pt3 => k_is); (case pn3 => k_is); (case ps4 => k_is); (case pi4 => k_is); (case pt4 => k_is); (case pn4 => k_is); (case ps5 => k_is); (case pi5 => k_is); (case pt5 => k_is); (case pn5 => k_is); (case ps6 => k_is); (case pi6 => k_is); (case pt6 => k_is); (case pn6 => k_is); (case ps7 => k_is); (case pi7 => k_is); (case pt7 => k_is); (case pn7 => k_is); (case qs0 => k_is); (case qi0 => k_is); (case qt0 => k_is); (case qn0 => k_is); (case qs1 => k_is); (case qi1 => k_is); (case qt1 => k_is); (case qn1 => k_is); (case qs2 => k_is); (case qi2 => k_is); (case qt2 => k_is); (case qn2 => k_is); (case qs3 => k_is); (case qi3 => k_is); (case qt3 => k_is); (case qn3 => k_is))
#print axioms PySem.Challenge.cw_oncecoin_k43_whole_disk_holds
