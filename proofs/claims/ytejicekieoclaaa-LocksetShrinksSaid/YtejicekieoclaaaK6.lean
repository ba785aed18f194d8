/- held and Eraser. -/
import Derived.Test.YtejicekieoclaaaK5
set_option linter.unusedSimpArgs false
namespace Go.Abs
open Go.Proofs Go.Sort
set_option maxRecDepth 100000
set_option maxHeartbeats 4000000
def f9c : IC := (.seq (.reg [⟨some ⟨4, [23, 28, 30, 53], []⟩, .bx 3 (.t 0), none⟩,
  ⟨some ⟨7, [17], []⟩, .bx 2 (.t 3), none⟩,
  ⟨some ⟨8, [], []⟩, .bx 3 (.c (.agg [.sc (.int .i64 0), .sc (.int .i64 0), .own false 1 []])), none⟩,
  ⟨some ⟨9, [], []⟩, .mv (.c (.sc (.bool false))), none⟩])
 (.seq (.reg [⟨some ⟨14, [], []⟩, .ld true 2 (.t 7), none⟩,
  ⟨some ⟨15, [], []⟩, .call 19 [(.t 14)] 1, none⟩,
  ⟨some ⟨10, [], []⟩, .mv (.t 15), none⟩])
 (.seq (.seq (.reg [⟨some ⟨16, [], []⟩, .cp (.t 2), none⟩])
 (.cond (.t 16) (.reg [⟨some ⟨17, [], [7]⟩, .fad 0 (.t 7), none⟩,
  ⟨some ⟨18, [], []⟩, .ld false 1 (.t 17), none⟩,
  ⟨some ⟨19, [], []⟩, .call 20 [(.t 18)] 1, none⟩,
  ⟨some ⟨10, [], []⟩, .mv (.t 19), none⟩]) .skip))
 (.seq (.reg [⟨some ⟨20, [], []⟩, .bld [.sc (.int .i64 0), .sc (.int .i64 0), .own false 1 []] [(0, 1, (.c (.sc (.int .i64 2))))], none⟩,
  ⟨some ⟨11, [27, 40, 41, 45, 60, 62, 66], []⟩, .bx 3 (.c (.agg [.sc (.int .i64 0), .sc (.int .i64 0), .own false 1 []])), none⟩,
  ⟨none, .st 3 (.t 11) (.t 20), none⟩])
 (.seq (.seq (.reg [⟨some ⟨21, [], []⟩, .cp (.t 2), none⟩,
  ⟨some ⟨22, [], []⟩, .cp (.t 21), none⟩,
  ⟨some ⟨23, [], [4]⟩, .fad 0 (.t 4), (some (22, false))⟩,
  ⟨some ⟨24, [], []⟩, .ld false 1 (.t 23), (some (22, false))⟩,
  ⟨some ⟨25, [], []⟩, .bin .eql (.t 24) (.c (.sc (.int .i64 3))), (some (22, false))⟩,
  ⟨some ⟨26, [], []⟩, .pick (.t 22) (.c (.sc (.bool true))) (.t 25), none⟩])
 (.cond (.t 26) (.reg [⟨some ⟨27, [], [11]⟩, .fad 0 (.t 11), none⟩,
  ⟨none, .st 1 (.t 27) (.c (.sc (.int .i64 3))), none⟩]) .skip))
 (.seq (.seq (.reg [⟨some ⟨28, [], [4]⟩, .fad 0 (.t 4), none⟩,
  ⟨some ⟨29, [], []⟩, .ld false 1 (.t 28), none⟩])
 (.block 0 (.seq (.reg [⟨some ⟨48, [], []⟩, .bin .eql (.t 29) (.c (.sc (.int .i64 0))), none⟩,
  ⟨some ⟨47, [], []⟩, .mv (.t 48), none⟩])
 (.cond (.t 47) (.seq (.reg [⟨some ⟨49, [], []⟩, .cp (.t 1), none⟩,
  ⟨some ⟨50, [], []⟩, .bld [.sc (.int .i64 0), .sc (.int .i64 0), .own false 1 []] [(0, 1, (.c (.sc (.int .i64 1)))), (1, 1, (.t 49))], none⟩,
  ⟨none, .st 3 (.t 8) (.t 50), none⟩,
  ⟨some ⟨9, [], []⟩, .mv (.c (.sc (.bool false))), none⟩])
 .ret) (.seq (.reg [⟨some ⟨52, [], []⟩, .bin .eql (.t 29) (.c (.sc (.int .i64 1))), none⟩,
  ⟨some ⟨51, [], []⟩, .mv (.t 52), none⟩])
 (.cond (.t 51) (.seq (.seq (.reg [⟨some ⟨53, [], [4]⟩, .fad 1 (.t 4), none⟩,
  ⟨some ⟨54, [], []⟩, .ld false 1 (.t 53), none⟩,
  ⟨some ⟨55, [], []⟩, .cp (.t 1), none⟩,
  ⟨some ⟨56, [], []⟩, .bin .eql (.t 54) (.t 55), none⟩])
 (.cond (.t 56) (.seq (.reg [⟨some ⟨57, [], []⟩, .cp (.t 1), none⟩,
  ⟨some ⟨58, [], []⟩, .bld [.sc (.int .i64 0), .sc (.int .i64 0), .own false 1 []] [(0, 1, (.c (.sc (.int .i64 1)))), (1, 1, (.t 57))], none⟩,
  ⟨none, .st 3 (.t 8) (.t 58), none⟩,
  ⟨some ⟨9, [], []⟩, .mv (.c (.sc (.bool false))), none⟩])
 .ret) .skip))
 (.reg [⟨some ⟨59, [], []⟩, .cp (.t 10), none⟩,
  ⟨some ⟨60, [], [11]⟩, .fad 2 (.t 11), none⟩,
  ⟨none, .st 1 (.t 60) (.t 59), none⟩])) (.seq (.reg [⟨some ⟨30, [], [4]⟩, .fad 2 (.t 4), none⟩,
  ⟨some ⟨31, [], []⟩, .ld false 1 (.t 30), none⟩,
  ⟨some ⟨32, [], []⟩, .len (.t 31), none⟩,
  ⟨some ⟨33, [], []⟩, .cp (.c (.sc (.int .i64 0))), none⟩])
 (.block 1 (.loop (.seq (.reg [⟨some ⟨34, [], []⟩, .bin .lss (.t 33) (.t 32), none⟩])
 (.seq (.cond (.t 34) .skip (.exit 1))
 (.seq (.block 2 (.seq (.reg [⟨some ⟨35, [], []⟩, .iad 1 (.t 31) (.t 33), none⟩,
  ⟨some ⟨36, [], []⟩, .ld false 1 (.t 35), none⟩,
  ⟨some ⟨13, [], []⟩, .mv (.t 36), none⟩])
 (.seq (.reg [⟨some ⟨37, [], []⟩, .cp (.t 10), none⟩,
  ⟨some ⟨38, [], []⟩, .cp (.t 13), none⟩,
  ⟨some ⟨39, [], []⟩, .call 13 [(.t 37), (.t 38)] 0, none⟩])
 (.cond (.t 39) (.reg [⟨some ⟨40, [], [11]⟩, .fad 2 (.t 11), none⟩,
  ⟨some ⟨41, [], [11]⟩, .ld false 1 (.t 40), none⟩,
  ⟨some ⟨42, [], []⟩, .cp (.t 13), none⟩,
  ⟨some ⟨43, [], []⟩, .bsl 1 [[.sc (.int .i64 0)]] [(0, (.t 42))], none⟩,
  ⟨some ⟨44, [], []⟩, .app 1 8 (.t 41) (.t 43), none⟩,
  ⟨some ⟨45, [], [11]⟩, .fad 2 (.t 11), none⟩,
  ⟨none, .st 1 (.t 45) (.t 44), none⟩]) .skip))))
 (.reg [⟨some ⟨46, [], []⟩, .bin .add (.t 33) (.c (.sc (.int .i64 1))), none⟩,
  ⟨some ⟨33, [], []⟩, .cp (.t 46), none⟩])))))))))))))
 (.seq (.gz 11 [(0, 2, 3)] (.reg [⟨some ⟨61, [], []⟩, .ld true 3 (.t 11), none⟩,
  ⟨some ⟨62, [], [11]⟩, .fad 0 (.t 11), none⟩,
  ⟨some ⟨63, [], []⟩, .ld false 1 (.t 62), none⟩,
  ⟨some ⟨64, [], []⟩, .bin .eql (.t 63) (.c (.sc (.int .i64 3))), none⟩,
  ⟨some ⟨65, [], []⟩, .cp (.t 64), none⟩,
  ⟨some ⟨66, [], [11]⟩, .fad 2 (.t 11), (some (65, true))⟩,
  ⟨some ⟨67, [], []⟩, .ld false 1 (.t 66), (some (65, true))⟩,
  ⟨some ⟨68, [], []⟩, .len (.t 67), (some (65, true))⟩,
  ⟨some ⟨69, [], []⟩, .bin .eql (.t 68) (.c (.sc (.int .i64 0))), (some (65, true))⟩,
  ⟨some ⟨70, [], []⟩, .pick (.t 65) (.t 69) (.c (.sc (.bool false))), none⟩,
  ⟨none, .st 3 (.t 8) (.t 61), none⟩,
  ⟨some ⟨9, [], []⟩, .mv (.t 70), none⟩]))
 .ret)))))))
def f9g : Gi := ⟨[(17, [7]), (23, [4]), (27, [11]), (28, [4]), (30, [4]), (40, [11]), (41, [11]), (45, [11]), (53, [4]), (60, [11]), (62, [11]), (66, [11])]⟩
def f9r : List RV := [.cell 8 true 3, .tmp 9]
def f9 : FI := ⟨f9c, f9g, f9r⟩

theorem chk9 : chkF Try.prog Try.f9 f9 = true := by kernel_rfl

def heldT : Nat → Int → Int × List Int × List Int
  | 0, n => (n, [], [])
  | k + 1, n => let r := heldT k n; (IntKind.u8.wrap (r.1.tdiv 3), if r.1.tmod 3 == 1 then r.2.1 ++ [(k : Int)] else r.2.1, if r.1.tmod 3 == 1 then r.2.2 else if r.1.tmod 3 == 2 then r.2.2 ++ [(k : Int)] else r.2.2)
theorem heldT_length (k : Nat) (n : Int) : (heldT k n).2.1.length ≤ k ∧ (heldT k n).2.2.length ≤ k := by
  induction k with
  | zero => simp [heldT]
  | succ k ih =>
    simp only [heldT]
    refine ⟨?_, ?_⟩
    · split
      · simp; omega
      · omega
    · split
      · omega
      · split
        · simp; omega
        · omega
def hE (n : Int) : List Int := (heldT 4 n).2.1
def hS (n : Int) : List Int := (heldT 4 n).2.2
theorem hE_length (n : Int) : (hE n).length ≤ 4 := (heldT_length 4 n).1
theorem hS_length (n : Int) : (hS n).length ≤ 4 := (heldT_length 4 n).2

theorem held_says (n : Int) : Says Try.prog 7 [.sc (.int .u8 n)] (heA (hE n) (hS n)) := by
  refine says_frz mix Try.func7 chk7 (of_decide_eq_true (by kernel_rfl)) rfl ?_
  simp only [f7, f7c, f7g, f7r, go_sem, reduceCtorEq, Nat.reduceEqDiff, reduceIte, Nat.reduceAdd, Int.reduceNeg, Nat.reduceBEq, Nat.reduceLT, Nat.reduceLeDiff, Nat.reduceSub, Nat.reduceMul, Int.reduceLT, Int.reduceLE, Int.reduceAdd, Int.reduceEq, Int.reduceBEq, Int.reduceToNat]
  refine awp_loop (fun m τ => ∃ k : Nat, k ≤ 4 ∧ m = 4 - k ∧ τ 4 = si k ∧ τ 0 = .sc (.int .u8 (heldT k n).1) ∧ τ 2 = .own true 2 [[.own false 1 [], .own false 1 []]] ∧ τ 3 = .own true 2 [[.own false 1 (ints (heldT k n).2.1), .own false 1 (ints (heldT k n).2.2)]]) 4 ⟨0, by omega, by omega, ?_⟩ ?_
  · simp only [go_sem, reduceCtorEq, Nat.reduceEqDiff, reduceIte, Nat.reduceAdd, Int.reduceNeg, Nat.reduceBEq, Nat.reduceLT, Nat.reduceLeDiff, Nat.reduceSub, Nat.reduceMul, Int.reduceLT, Int.reduceLE, Int.reduceAdd, Int.reduceEq, Int.reduceBEq, Int.reduceToNat, heldT, ints_nil]
    rfl
  · rintro m τ ⟨k, hk, rfl, h4, h0, h2, h3⟩
    by_cases hlt : k < 4
    · have hdc : decide ((k : Int) < 4) = true := by simp; omega
      have hw : IntKind.i64.wrap ((k : Int) + 1) = ((k + 1 : Nat) : Int) := by have := wrap_nat (n := k + 1) (by omega); simpa using this
      have hl := heldT_length k n
      have hr1 : roomOK ((heldT k n).2.1.length + 1) 8 = true := room8 (by omega)
      have hr2 : roomOK ((heldT k n).2.2.length + 1) 8 = true := room8 (by omega)
      have h30 : ¬ ((3 : Int) = 0) := by decide
      cases e1 : ((heldT k n).1.tmod 3 == 1) with
      | true =>
        simp only [go_sem, reduceCtorEq, Nat.reduceEqDiff, reduceIte, Nat.reduceAdd, Int.reduceNeg, Nat.reduceBEq, Nat.reduceLT, Nat.reduceLeDiff, Nat.reduceSub, Nat.reduceMul, Int.reduceLT, Int.reduceLE, Int.reduceAdd, Int.reduceEq, Int.reduceBEq, Int.reduceToNat, h4, h0, h2, h3, hdc, e1, hw, hr1, ints_length, ints_cell, h30, ints_one (k : Int), ints_append]
        refine ⟨4 - (k + 1), by omega, k + 1, by omega, rfl, rfl, ?_⟩
        simp only [heldT, e1, if_true, and_self]
      | false =>
        cases e2 : ((heldT k n).1.tmod 3 == 2) with
        | true =>
          simp only [go_sem, reduceCtorEq, Nat.reduceEqDiff, reduceIte, Nat.reduceAdd, Int.reduceNeg, Nat.reduceBEq, Nat.reduceLT, Nat.reduceLeDiff, Nat.reduceSub, Nat.reduceMul, Int.reduceLT, Int.reduceLE, Int.reduceAdd, Int.reduceEq, Int.reduceBEq, Int.reduceToNat, h4, h0, h2, h3, hdc, e1, e2, hw, hr2, ints_length, ints_cell, h30, ints_one (k : Int), ints_append]
          refine ⟨4 - (k + 1), by omega, k + 1, by omega, rfl, rfl, ?_⟩
          simp only [heldT, e1, e2, if_true, Bool.false_eq_true, if_false, and_self]
        | false =>
          simp only [go_sem, reduceCtorEq, Nat.reduceEqDiff, reduceIte, Nat.reduceAdd, Int.reduceNeg, Nat.reduceBEq, Nat.reduceLT, Nat.reduceLeDiff, Nat.reduceSub, Nat.reduceMul, Int.reduceLT, Int.reduceLE, Int.reduceAdd, Int.reduceEq, Int.reduceBEq, Int.reduceToNat, h4, h0, h2, h3, hdc, e1, e2, hw, h30]
          refine ⟨4 - (k + 1), by omega, k + 1, by omega, rfl, rfl, ?_⟩
          simp only [heldT, e1, e2, Bool.false_eq_true, if_false, and_self]
    · obtain rfl : k = 4 := by omega
      have hdc : decide (((4 : Nat) : Int) < 4) = false := by decide
      simp only [go_sem, reduceCtorEq, Nat.reduceEqDiff, reduceIte, Nat.reduceAdd, Int.reduceNeg, Nat.reduceBEq, Nat.reduceLT, Nat.reduceLeDiff, Nat.reduceSub, Nat.reduceMul, Int.reduceLT, Int.reduceLE, Int.reduceAdd, Int.reduceEq, Int.reduceBEq, Int.reduceToNat, h4, h0, h2, h3, hdc, frz_ints, hE, hS]

theorem filter_take_succ (l : List Int) (p : Int → Bool) (j : Nat) (hj : j < l.length) : (l.take (j + 1)).filter p = (l.take j).filter p ++ (if p l[j] = true then [l[j]] else []) := by
  rw [List.take_succ_eq_append_getElem hj, List.filter_append]
  congr 1
  cases h : p l[j] <;> simp [h]
def erasF (st ow : Int) (L : List Int) (th : Int) (wr : Bool) (E S : List Int) : Int × Int × List Int × Bool :=
  let have' := if wr then setOf E else setOf (E ++ S)
  let s' : Int := if wr || st == 3 then 3 else 2
  if st = 0 then (1, th, [], false)
  else if st = 1 then (if ow = th then (1, th, [], false) else (s', 0, have', s' == 3 && have'.length == 0))
  else (s', 0, L.filter (fun x => have'.contains x), s' == 3 && (L.filter (fun x => have'.contains x)).length == 0)

theorem eraser_says (st ow : Int) (L : List Int) (th : Int) (wr : Bool) (E S : List Int) (hL : L.length < 4611686018427) (hE : E.length + S.length < 4611686018427) :
    Says Try.prog 9 [erA st ow L, si th, sb wr, heA E S] (stepR (erasF st ow L th wr E S)) := by
  refine says_frz mix Try.func9 chk9 (of_decide_eq_true (by kernel_rfl)) rfl ?_
  have hu := union_says E S hE
  have hs := sorted_says E (by omega)
  rw [insAll_eq] at hs
  cases wr with
  | true =>
    have hHl : (setOf E).length < 4611686018427387904 := by have := setOf_length E; omega
    simp only [f9, f9c, f9g, f9r, go_sem, reduceCtorEq, Nat.reduceEqDiff, reduceIte, Nat.reduceAdd, Int.reduceNeg, Nat.reduceBEq, Nat.reduceLT, Nat.reduceLeDiff, Nat.reduceSub, Nat.reduceMul, Int.reduceLT, Int.reduceLE, Int.reduceAdd, Int.reduceEq, Int.reduceBEq, Int.reduceToNat]
    refine ⟨_, hu, ?_⟩
    simp only [go_sem, reduceCtorEq, Nat.reduceEqDiff, reduceIte, Nat.reduceAdd, Int.reduceNeg, Nat.reduceBEq, Nat.reduceLT, Nat.reduceLeDiff, Nat.reduceSub, Nat.reduceMul, Int.reduceLT, Int.reduceLE, Int.reduceAdd, Int.reduceEq, Int.reduceBEq, Int.reduceToNat]
    refine ⟨_, hs, ?_⟩
    simp only [go_sem, reduceCtorEq, Nat.reduceEqDiff, reduceIte, Nat.reduceAdd, Int.reduceNeg, Nat.reduceBEq, Nat.reduceLT, Nat.reduceLeDiff, Nat.reduceSub, Nat.reduceMul, Int.reduceLT, Int.reduceLE, Int.reduceAdd, Int.reduceEq, Int.reduceBEq, Int.reduceToNat, frz_ints]
    cases e0 : (st == 0) with
    | true =>
      have e0' := beq_iff_eq.1 e0
      simp only [go_sem, reduceCtorEq, Nat.reduceEqDiff, reduceIte, Nat.reduceAdd, Int.reduceNeg, Nat.reduceBEq, Nat.reduceLT, Nat.reduceLeDiff, Nat.reduceSub, Nat.reduceMul, Int.reduceLT, Int.reduceLE, Int.reduceAdd, Int.reduceEq, Int.reduceBEq, Int.reduceToNat, e0, erasF, stepR, e0', ints_nil]
    | false =>
      have e0' : ¬ st = 0 := by simpa using e0
      simp only [go_sem, reduceCtorEq, Nat.reduceEqDiff, reduceIte, Nat.reduceAdd, Int.reduceNeg, Nat.reduceBEq, Nat.reduceLT, Nat.reduceLeDiff, Nat.reduceSub, Nat.reduceMul, Int.reduceLT, Int.reduceLE, Int.reduceAdd, Int.reduceEq, Int.reduceBEq, Int.reduceToNat, e0]
      cases e1 : (st == 1) with
      | true =>
        have e1' := beq_iff_eq.1 e1
        simp only [go_sem, reduceCtorEq, Nat.reduceEqDiff, reduceIte, Nat.reduceAdd, Int.reduceNeg, Nat.reduceBEq, Nat.reduceLT, Nat.reduceLeDiff, Nat.reduceSub, Nat.reduceMul, Int.reduceLT, Int.reduceLE, Int.reduceAdd, Int.reduceEq, Int.reduceBEq, Int.reduceToNat, e1]
        cases e2 : (ow == th) with
        | true =>
          have e2' := beq_iff_eq.1 e2
          simp only [go_sem, reduceCtorEq, Nat.reduceEqDiff, reduceIte, Nat.reduceAdd, Int.reduceNeg, Nat.reduceBEq, Nat.reduceLT, Nat.reduceLeDiff, Nat.reduceSub, Nat.reduceMul, Int.reduceLT, Int.reduceLE, Int.reduceAdd, Int.reduceEq, Int.reduceBEq, Int.reduceToNat, e2, erasF, stepR, e1', e2', ints_nil]
        | false =>
          have e2' : ¬ ow = th := by simpa using e2
          simp only [go_sem, reduceCtorEq, Nat.reduceEqDiff, reduceIte, Nat.reduceAdd, Int.reduceNeg, Nat.reduceBEq, Nat.reduceLT, Nat.reduceLeDiff, Nat.reduceSub, Nat.reduceMul, Int.reduceLT, Int.reduceLE, Int.reduceAdd, Int.reduceEq, Int.reduceBEq, Int.reduceToNat, e2, erasF, stepR, e1', e2', ints_length, nbz]
      | false =>
        have e1' : ¬ st = 1 := by simpa using e1
        simp only [go_sem, reduceCtorEq, Nat.reduceEqDiff, reduceIte, Nat.reduceAdd, Int.reduceNeg, Nat.reduceBEq, Nat.reduceLT, Nat.reduceLeDiff, Nat.reduceSub, Nat.reduceMul, Int.reduceLT, Int.reduceLE, Int.reduceAdd, Int.reduceEq, Int.reduceBEq, Int.reduceToNat, e1, ints_length]
        refine awp_range L.length (fun j τ => τ 10 = isl (setOf E) ∧ τ 31 = isl L ∧ τ 8 = .own true 3 [[si 0, si 0, .own false 1 []]] ∧ τ 9 = sb false ∧ τ 11 = .own true 3 [[si 3, si 0, .own false 1 (ints ((L.take j).filter fun x => (setOf E).contains x))]]) (by omega) ?_ ?_ ?_ ?_ ?_ (by decide)
        · simp only [go_sem, reduceCtorEq, Nat.reduceEqDiff, reduceIte, Nat.reduceAdd, Int.reduceNeg, Nat.reduceBEq, Nat.reduceLT, Nat.reduceLeDiff, Nat.reduceSub, Nat.reduceMul, Int.reduceLT, Int.reduceLE, Int.reduceAdd, Int.reduceEq, Int.reduceBEq, Int.reduceToNat]
        · simp only [go_sem, reduceCtorEq, Nat.reduceEqDiff, reduceIte, Nat.reduceAdd, Int.reduceNeg, Nat.reduceBEq, Nat.reduceLT, Nat.reduceLeDiff, Nat.reduceSub, Nat.reduceMul, Int.reduceLT, Int.reduceLE, Int.reduceAdd, Int.reduceEq, Int.reduceBEq, Int.reduceToNat]
        · simp only [go_sem, reduceCtorEq, Nat.reduceEqDiff, reduceIte, Nat.reduceAdd, Int.reduceNeg, Nat.reduceBEq, Nat.reduceLT, Nat.reduceLeDiff, Nat.reduceSub, Nat.reduceMul, Int.reduceLT, Int.reduceLE, Int.reduceAdd, Int.reduceEq, Int.reduceBEq, Int.reduceToNat, ints_nil]
        · rintro j τ hj hi hn ⟨t10, t31, t8, t9, t11⟩
          have hg : (ints L)[j]? = some [si L[j]] := by rw [ints_get]; simp [hj]
          simp only [go_sem, reduceCtorEq, Nat.reduceEqDiff, reduceIte, Nat.reduceAdd, Int.reduceNeg, Nat.reduceBEq, Nat.reduceLT, Nat.reduceLeDiff, Nat.reduceSub, Nat.reduceMul, Int.reduceLT, Int.reduceLE, Int.reduceAdd, Int.reduceEq, Int.reduceBEq, Int.reduceToNat, t10, t31, t8, t9, t11, hi, hn, hg]
          refine ⟨_, has_says (setOf E) L[j] hHl, ?_⟩
          have hft := filter_take_succ L (fun x => (setOf E).contains x) j hj
          have hfl := List.length_filter_le (fun x => (setOf E).contains x) (L.take j)
          rw [List.length_take] at hfl
          have hr : roomOK (((L.take j).filter fun x => (setOf E).contains x).length + 1) 8 = true := room8 (by omega)
          cases e3 : (setOf E).contains L[j] with
          | true =>
            rw [e3] at hft
            simp only [go_sem, reduceCtorEq, Nat.reduceEqDiff, reduceIte, Nat.reduceAdd, Int.reduceNeg, Nat.reduceBEq, Nat.reduceLT, Nat.reduceLeDiff, Nat.reduceSub, Nat.reduceMul, Int.reduceLT, Int.reduceLE, Int.reduceAdd, Int.reduceEq, Int.reduceBEq, Int.reduceToNat, t10, t31, t8, t9, t11, hi, hn, hft, ints_length, ints_cell, hr, ints_one L[j], ints_append]
          | false =>
            rw [e3] at hft
            simp only [go_sem, reduceCtorEq, Nat.reduceEqDiff, reduceIte, Nat.reduceAdd, Int.reduceNeg, Nat.reduceBEq, Nat.reduceLT, Nat.reduceLeDiff, Nat.reduceSub, Nat.reduceMul, Int.reduceLT, Int.reduceLE, Int.reduceAdd, Int.reduceEq, Int.reduceBEq, Int.reduceToNat, t10, t31, t8, t9, t11, hi, hn, hft]
        · rintro τ hi hn ⟨t10, t31, t8, t9, t11⟩
          rw [List.take_length] at t11
          simp only [go_sem, reduceCtorEq, Nat.reduceEqDiff, reduceIte, Nat.reduceAdd, Int.reduceNeg, Nat.reduceBEq, Nat.reduceLT, Nat.reduceLeDiff, Nat.reduceSub, Nat.reduceMul, Int.reduceLT, Int.reduceLE, Int.reduceAdd, Int.reduceEq, Int.reduceBEq, Int.reduceToNat, t10, t31, t8, t9, t11, frz_ints, ints_length, nbz, erasF, stepR, e0', e1']
  | false =>
    have hHl : (setOf (E ++ S)).length < 4611686018427387904 := by have := setOf_length (E ++ S); rw [List.length_append] at this; omega
    simp only [f9, f9c, f9g, f9r, go_sem, reduceCtorEq, Nat.reduceEqDiff, reduceIte, Nat.reduceAdd, Int.reduceNeg, Nat.reduceBEq, Nat.reduceLT, Nat.reduceLeDiff, Nat.reduceSub, Nat.reduceMul, Int.reduceLT, Int.reduceLE, Int.reduceAdd, Int.reduceEq, Int.reduceBEq, Int.reduceToNat]
    refine ⟨_, hu, ?_⟩
    cases e3 : (st == 3) with
    | true =>
      simp only [go_sem, reduceCtorEq, Nat.reduceEqDiff, reduceIte, Nat.reduceAdd, Int.reduceNeg, Nat.reduceBEq, Nat.reduceLT, Nat.reduceLeDiff, Nat.reduceSub, Nat.reduceMul, Int.reduceLT, Int.reduceLE, Int.reduceAdd, Int.reduceEq, Int.reduceBEq, Int.reduceToNat, frz_ints, e3]
      cases e0 : (st == 0) with
      | true =>
        have e0' := beq_iff_eq.1 e0
        simp only [go_sem, reduceCtorEq, Nat.reduceEqDiff, reduceIte, Nat.reduceAdd, Int.reduceNeg, Nat.reduceBEq, Nat.reduceLT, Nat.reduceLeDiff, Nat.reduceSub, Nat.reduceMul, Int.reduceLT, Int.reduceLE, Int.reduceAdd, Int.reduceEq, Int.reduceBEq, Int.reduceToNat, e0, erasF, stepR, e0', ints_nil]
      | false =>
        have e0' : ¬ st = 0 := by simpa using e0
        simp only [go_sem, reduceCtorEq, Nat.reduceEqDiff, reduceIte, Nat.reduceAdd, Int.reduceNeg, Nat.reduceBEq, Nat.reduceLT, Nat.reduceLeDiff, Nat.reduceSub, Nat.reduceMul, Int.reduceLT, Int.reduceLE, Int.reduceAdd, Int.reduceEq, Int.reduceBEq, Int.reduceToNat, e0]
        cases e1 : (st == 1) with
        | true =>
          have e1' := beq_iff_eq.1 e1
          simp only [go_sem, reduceCtorEq, Nat.reduceEqDiff, reduceIte, Nat.reduceAdd, Int.reduceNeg, Nat.reduceBEq, Nat.reduceLT, Nat.reduceLeDiff, Nat.reduceSub, Nat.reduceMul, Int.reduceLT, Int.reduceLE, Int.reduceAdd, Int.reduceEq, Int.reduceBEq, Int.reduceToNat, e1]
          cases e2 : (ow == th) with
          | true =>
            have e2' := beq_iff_eq.1 e2
            simp only [go_sem, reduceCtorEq, Nat.reduceEqDiff, reduceIte, Nat.reduceAdd, Int.reduceNeg, Nat.reduceBEq, Nat.reduceLT, Nat.reduceLeDiff, Nat.reduceSub, Nat.reduceMul, Int.reduceLT, Int.reduceLE, Int.reduceAdd, Int.reduceEq, Int.reduceBEq, Int.reduceToNat, e2, erasF, stepR, e1', e2', ints_nil]
          | false =>
            have e2' : ¬ ow = th := by simpa using e2
            exact absurd e3 (by rw [e1']; decide)
        | false =>
          have e1' : ¬ st = 1 := by simpa using e1
          simp only [go_sem, reduceCtorEq, Nat.reduceEqDiff, reduceIte, Nat.reduceAdd, Int.reduceNeg, Nat.reduceBEq, Nat.reduceLT, Nat.reduceLeDiff, Nat.reduceSub, Nat.reduceMul, Int.reduceLT, Int.reduceLE, Int.reduceAdd, Int.reduceEq, Int.reduceBEq, Int.reduceToNat, e1, ints_length]
          refine awp_range L.length (fun j τ => τ 10 = isl (setOf (E ++ S)) ∧ τ 31 = isl L ∧ τ 8 = .own true 3 [[si 0, si 0, .own false 1 []]] ∧ τ 9 = sb false ∧ τ 11 = .own true 3 [[si 3, si 0, .own false 1 (ints ((L.take j).filter fun x => (setOf (E ++ S)).contains x))]]) (by omega) ?_ ?_ ?_ ?_ ?_ (by decide)
          · simp only [go_sem, reduceCtorEq, Nat.reduceEqDiff, reduceIte, Nat.reduceAdd, Int.reduceNeg, Nat.reduceBEq, Nat.reduceLT, Nat.reduceLeDiff, Nat.reduceSub, Nat.reduceMul, Int.reduceLT, Int.reduceLE, Int.reduceAdd, Int.reduceEq, Int.reduceBEq, Int.reduceToNat]
          · simp only [go_sem, reduceCtorEq, Nat.reduceEqDiff, reduceIte, Nat.reduceAdd, Int.reduceNeg, Nat.reduceBEq, Nat.reduceLT, Nat.reduceLeDiff, Nat.reduceSub, Nat.reduceMul, Int.reduceLT, Int.reduceLE, Int.reduceAdd, Int.reduceEq, Int.reduceBEq, Int.reduceToNat]
          · simp only [go_sem, reduceCtorEq, Nat.reduceEqDiff, reduceIte, Nat.reduceAdd, Int.reduceNeg, Nat.reduceBEq, Nat.reduceLT, Nat.reduceLeDiff, Nat.reduceSub, Nat.reduceMul, Int.reduceLT, Int.reduceLE, Int.reduceAdd, Int.reduceEq, Int.reduceBEq, Int.reduceToNat, ints_nil]
          · rintro j τ hj hi hn ⟨t10, t31, t8, t9, t11⟩
            have hg : (ints L)[j]? = some [si L[j]] := by rw [ints_get]; simp [hj]
            simp only [go_sem, reduceCtorEq, Nat.reduceEqDiff, reduceIte, Nat.reduceAdd, Int.reduceNeg, Nat.reduceBEq, Nat.reduceLT, Nat.reduceLeDiff, Nat.reduceSub, Nat.reduceMul, Int.reduceLT, Int.reduceLE, Int.reduceAdd, Int.reduceEq, Int.reduceBEq, Int.reduceToNat, t10, t31, t8, t9, t11, hi, hn, hg]
            refine ⟨_, has_says (setOf (E ++ S)) L[j] hHl, ?_⟩
            have hft := filter_take_succ L (fun x => (setOf (E ++ S)).contains x) j hj
            have hfl := List.length_filter_le (fun x => (setOf (E ++ S)).contains x) (L.take j)
            rw [List.length_take] at hfl
            have hr : roomOK (((L.take j).filter fun x => (setOf (E ++ S)).contains x).length + 1) 8 = true := room8 (by omega)
            cases e4 : (setOf (E ++ S)).contains L[j] with
            | true =>
              rw [e4] at hft
              simp only [go_sem, reduceCtorEq, Nat.reduceEqDiff, reduceIte, Nat.reduceAdd, Int.reduceNeg, Nat.reduceBEq, Nat.reduceLT, Nat.reduceLeDiff, Nat.reduceSub, Nat.reduceMul, Int.reduceLT, Int.reduceLE, Int.reduceAdd, Int.reduceEq, Int.reduceBEq, Int.reduceToNat, t10, t31, t8, t9, t11, hi, hn, hft, ints_length, ints_cell, hr, ints_one L[j], ints_append]
            | false =>
              rw [e4] at hft
              simp only [go_sem, reduceCtorEq, Nat.reduceEqDiff, reduceIte, Nat.reduceAdd, Int.reduceNeg, Nat.reduceBEq, Nat.reduceLT, Nat.reduceLeDiff, Nat.reduceSub, Nat.reduceMul, Int.reduceLT, Int.reduceLE, Int.reduceAdd, Int.reduceEq, Int.reduceBEq, Int.reduceToNat, t10, t31, t8, t9, t11, hi, hn, hft]
          · rintro τ hi hn ⟨t10, t31, t8, t9, t11⟩
            rw [List.take_length] at t11
            simp only [go_sem, reduceCtorEq, Nat.reduceEqDiff, reduceIte, Nat.reduceAdd, Int.reduceNeg, Nat.reduceBEq, Nat.reduceLT, Nat.reduceLeDiff, Nat.reduceSub, Nat.reduceMul, Int.reduceLT, Int.reduceLE, Int.reduceAdd, Int.reduceEq, Int.reduceBEq, Int.reduceToNat, t10, t31, t8, t9, t11, frz_ints, ints_length, nbz, erasF, stepR, e0', e1', e3]
    | false =>
      simp only [go_sem, reduceCtorEq, Nat.reduceEqDiff, reduceIte, Nat.reduceAdd, Int.reduceNeg, Nat.reduceBEq, Nat.reduceLT, Nat.reduceLeDiff, Nat.reduceSub, Nat.reduceMul, Int.reduceLT, Int.reduceLE, Int.reduceAdd, Int.reduceEq, Int.reduceBEq, Int.reduceToNat, frz_ints, e3]
      cases e0 : (st == 0) with
      | true =>
        have e0' := beq_iff_eq.1 e0
        simp only [go_sem, reduceCtorEq, Nat.reduceEqDiff, reduceIte, Nat.reduceAdd, Int.reduceNeg, Nat.reduceBEq, Nat.reduceLT, Nat.reduceLeDiff, Nat.reduceSub, Nat.reduceMul, Int.reduceLT, Int.reduceLE, Int.reduceAdd, Int.reduceEq, Int.reduceBEq, Int.reduceToNat, e0, erasF, stepR, e0', ints_nil]
      | false =>
        have e0' : ¬ st = 0 := by simpa using e0
        simp only [go_sem, reduceCtorEq, Nat.reduceEqDiff, reduceIte, Nat.reduceAdd, Int.reduceNeg, Nat.reduceBEq, Nat.reduceLT, Nat.reduceLeDiff, Nat.reduceSub, Nat.reduceMul, Int.reduceLT, Int.reduceLE, Int.reduceAdd, Int.reduceEq, Int.reduceBEq, Int.reduceToNat, e0]
        cases e1 : (st == 1) with
        | true =>
          have e1' := beq_iff_eq.1 e1
          simp only [go_sem, reduceCtorEq, Nat.reduceEqDiff, reduceIte, Nat.reduceAdd, Int.reduceNeg, Nat.reduceBEq, Nat.reduceLT, Nat.reduceLeDiff, Nat.reduceSub, Nat.reduceMul, Int.reduceLT, Int.reduceLE, Int.reduceAdd, Int.reduceEq, Int.reduceBEq, Int.reduceToNat, e1]
          cases e2 : (ow == th) with
          | true =>
            have e2' := beq_iff_eq.1 e2
            simp only [go_sem, reduceCtorEq, Nat.reduceEqDiff, reduceIte, Nat.reduceAdd, Int.reduceNeg, Nat.reduceBEq, Nat.reduceLT, Nat.reduceLeDiff, Nat.reduceSub, Nat.reduceMul, Int.reduceLT, Int.reduceLE, Int.reduceAdd, Int.reduceEq, Int.reduceBEq, Int.reduceToNat, e2, erasF, stepR, e1', e2', ints_nil]
          | false =>
            have e2' : ¬ ow = th := by simpa using e2
            simp only [go_sem, reduceCtorEq, Nat.reduceEqDiff, reduceIte, Nat.reduceAdd, Int.reduceNeg, Nat.reduceBEq, Nat.reduceLT, Nat.reduceLeDiff, Nat.reduceSub, Nat.reduceMul, Int.reduceLT, Int.reduceLE, Int.reduceAdd, Int.reduceEq, Int.reduceBEq, Int.reduceToNat, e2, erasF, stepR, e1', e2', ints_length, nbz]
        | false =>
          have e1' : ¬ st = 1 := by simpa using e1
          simp only [go_sem, reduceCtorEq, Nat.reduceEqDiff, reduceIte, Nat.reduceAdd, Int.reduceNeg, Nat.reduceBEq, Nat.reduceLT, Nat.reduceLeDiff, Nat.reduceSub, Nat.reduceMul, Int.reduceLT, Int.reduceLE, Int.reduceAdd, Int.reduceEq, Int.reduceBEq, Int.reduceToNat, e1, ints_length]
          refine awp_range L.length (fun j τ => τ 10 = isl (setOf (E ++ S)) ∧ τ 31 = isl L ∧ τ 8 = .own true 3 [[si 0, si 0, .own false 1 []]] ∧ τ 9 = sb false ∧ τ 11 = .own true 3 [[si 2, si 0, .own false 1 (ints ((L.take j).filter fun x => (setOf (E ++ S)).contains x))]]) (by omega) ?_ ?_ ?_ ?_ ?_ (by decide)
          · simp only [go_sem, reduceCtorEq, Nat.reduceEqDiff, reduceIte, Nat.reduceAdd, Int.reduceNeg, Nat.reduceBEq, Nat.reduceLT, Nat.reduceLeDiff, Nat.reduceSub, Nat.reduceMul, Int.reduceLT, Int.reduceLE, Int.reduceAdd, Int.reduceEq, Int.reduceBEq, Int.reduceToNat]
          · simp only [go_sem, reduceCtorEq, Nat.reduceEqDiff, reduceIte, Nat.reduceAdd, Int.reduceNeg, Nat.reduceBEq, Nat.reduceLT, Nat.reduceLeDiff, Nat.reduceSub, Nat.reduceMul, Int.reduceLT, Int.reduceLE, Int.reduceAdd, Int.reduceEq, Int.reduceBEq, Int.reduceToNat]
          · simp only [go_sem, reduceCtorEq, Nat.reduceEqDiff, reduceIte, Nat.reduceAdd, Int.reduceNeg, Nat.reduceBEq, Nat.reduceLT, Nat.reduceLeDiff, Nat.reduceSub, Nat.reduceMul, Int.reduceLT, Int.reduceLE, Int.reduceAdd, Int.reduceEq, Int.reduceBEq, Int.reduceToNat, ints_nil]
          · rintro j τ hj hi hn ⟨t10, t31, t8, t9, t11⟩
            have hg : (ints L)[j]? = some [si L[j]] := by rw [ints_get]; simp [hj]
            simp only [go_sem, reduceCtorEq, Nat.reduceEqDiff, reduceIte, Nat.reduceAdd, Int.reduceNeg, Nat.reduceBEq, Nat.reduceLT, Nat.reduceLeDiff, Nat.reduceSub, Nat.reduceMul, Int.reduceLT, Int.reduceLE, Int.reduceAdd, Int.reduceEq, Int.reduceBEq, Int.reduceToNat, t10, t31, t8, t9, t11, hi, hn, hg]
            refine ⟨_, has_says (setOf (E ++ S)) L[j] hHl, ?_⟩
            have hft := filter_take_succ L (fun x => (setOf (E ++ S)).contains x) j hj
            have hfl := List.length_filter_le (fun x => (setOf (E ++ S)).contains x) (L.take j)
            rw [List.length_take] at hfl
            have hr : roomOK (((L.take j).filter fun x => (setOf (E ++ S)).contains x).length + 1) 8 = true := room8 (by omega)
            cases e4 : (setOf (E ++ S)).contains L[j] with
            | true =>
              rw [e4] at hft
              simp only [go_sem, reduceCtorEq, Nat.reduceEqDiff, reduceIte, Nat.reduceAdd, Int.reduceNeg, Nat.reduceBEq, Nat.reduceLT, Nat.reduceLeDiff, Nat.reduceSub, Nat.reduceMul, Int.reduceLT, Int.reduceLE, Int.reduceAdd, Int.reduceEq, Int.reduceBEq, Int.reduceToNat, t10, t31, t8, t9, t11, hi, hn, hft, ints_length, ints_cell, hr, ints_one L[j], ints_append]
            | false =>
              rw [e4] at hft
              simp only [go_sem, reduceCtorEq, Nat.reduceEqDiff, reduceIte, Nat.reduceAdd, Int.reduceNeg, Nat.reduceBEq, Nat.reduceLT, Nat.reduceLeDiff, Nat.reduceSub, Nat.reduceMul, Int.reduceLT, Int.reduceLE, Int.reduceAdd, Int.reduceEq, Int.reduceBEq, Int.reduceToNat, t10, t31, t8, t9, t11, hi, hn, hft]
          · rintro τ hi hn ⟨t10, t31, t8, t9, t11⟩
            rw [List.take_length] at t11
            simp only [go_sem, reduceCtorEq, Nat.reduceEqDiff, reduceIte, Nat.reduceAdd, Int.reduceNeg, Nat.reduceBEq, Nat.reduceLT, Nat.reduceLeDiff, Nat.reduceSub, Nat.reduceMul, Int.reduceLT, Int.reduceLE, Int.reduceAdd, Int.reduceEq, Int.reduceBEq, Int.reduceToNat, t10, t31, t8, t9, t11, frz_ints, ints_length, nbz, erasF, stepR, e0', e1', e3]
end Go.Abs
