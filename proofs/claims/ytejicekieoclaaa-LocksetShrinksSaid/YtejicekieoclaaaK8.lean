/- The law LocksetSteps. -/
import Derived.Test.YtejicekieoclaaaK7
set_option linter.unusedSimpArgs false
namespace Go.Abs
open Go.Proofs Go.Sort
set_option maxRecDepth 100000
set_option maxHeartbeats 4000000
def f3c : IC := (.seq (.reg [⟨some ⟨2, [], []⟩, .mv (.c (.sc (.bool false))), none⟩])
 (.seq (.reg [⟨some ⟨12, [], []⟩, .bld [.sc (.int .i64 0), .sc (.int .i64 0), .sl true 1 []] [], none⟩,
  ⟨some ⟨13, [], []⟩, .bld [.sc (.int .i64 0), .sc (.int .i64 0), .sl true 1 []] [], none⟩,
  ⟨some ⟨3, [], []⟩, .bx 3 (.c (.agg [.sc (.int .i64 0), .sc (.int .i64 0), .sl true 1 []])), none⟩,
  ⟨some ⟨4, [], []⟩, .bx 3 (.c (.agg [.sc (.int .i64 0), .sc (.int .i64 0), .sl true 1 []])), none⟩,
  ⟨none, .st 3 (.t 3) (.t 12), none⟩,
  ⟨none, .st 3 (.t 4) (.t 13), none⟩])
 (.seq (.seq (.reg [⟨some ⟨14, [], []⟩, .cp (.t 0), none⟩,
  ⟨some ⟨15, [], []⟩, .len (.t 14), none⟩,
  ⟨some ⟨16, [], []⟩, .cp (.c (.sc (.int .i64 0))), none⟩])
 (.block 0 (.loop (.seq (.reg [⟨some ⟨17, [], []⟩, .bin .lss (.t 16) (.t 15), none⟩])
 (.seq (.cond (.t 17) .skip (.exit 0))
 (.seq (.block 1 (.seq (.reg [⟨some ⟨18, [], []⟩, .cp (.t 16), none⟩,
  ⟨some ⟨19, [], []⟩, .iad 3 (.t 14) (.t 16), none⟩,
  ⟨some ⟨20, [], []⟩, .ld true 3 (.t 19), none⟩,
  ⟨some ⟨6, [23, 28, 32, 42, 46, 72], []⟩, .bx 3 (.c (.agg [.sc (.int .u8 0), .sc (.int .u8 0), .sc (.int .u8 0)])), none⟩,
  ⟨some ⟨5, [], []⟩, .mv (.t 18), none⟩,
  ⟨none, .st 3 (.t 6) (.t 20), none⟩])
 (.seq (.seq (.reg [⟨some ⟨21, [], []⟩, .cp (.t 5), none⟩,
  ⟨some ⟨22, [], []⟩, .bin .geq (.t 21) (.c (.sc (.int .i64 60))), none⟩])
 (.cond (.t 22) (.exit 0) .skip))
 (.seq (.reg [⟨some ⟨23, [], [6]⟩, .aad 3 1 (.t 6) (.c (.sc (.int .i64 2))), none⟩,
  ⟨some ⟨24, [], []⟩, .ld false 1 (.t 23), none⟩,
  ⟨some ⟨25, [], []⟩, .call 7 [(.t 24)] 1, none⟩,
  ⟨some ⟨7, [], []⟩, .bx 2 (.c (.agg [.sl true 1 [], .sl true 1 []])), none⟩,
  ⟨none, .st 2 (.t 7) (.t 25), none⟩])
 (.seq (.reg [⟨some ⟨27, [], []⟩, .ld true 3 (.t 3), none⟩,
  ⟨some ⟨28, [], [6]⟩, .aad 3 1 (.t 6) (.c (.sc (.int .i64 0))), none⟩,
  ⟨some ⟨29, [], []⟩, .ld false 1 (.t 28), none⟩,
  ⟨some ⟨30, [], []⟩, .cvt .i64 (.t 29), none⟩,
  ⟨some ⟨31, [], []⟩, .bin .rem (.t 30) (.c (.sc (.int .i64 3))), none⟩,
  ⟨some ⟨32, [], [6]⟩, .aad 3 1 (.t 6) (.c (.sc (.int .i64 1))), none⟩,
  ⟨some ⟨33, [], []⟩, .ld false 1 (.t 32), none⟩,
  ⟨some ⟨34, [], []⟩, .bin .rem (.t 33) (.c (.sc (.int .u8 2))), none⟩,
  ⟨some ⟨35, [], []⟩, .bin .eql (.t 34) (.c (.sc (.int .u8 1))), none⟩,
  ⟨some ⟨36, [], []⟩, .ld true 2 (.t 7), none⟩,
  ⟨some ⟨37, [], []⟩, .call 8 [(.t 27), (.t 31), (.t 35), (.t 36)] 1, none⟩,
  ⟨some ⟨26, [], []⟩, .cp (.t 37), none⟩,
  ⟨some ⟨38, [], []⟩, .ext (.t 26) 0, none⟩,
  ⟨some ⟨39, [], []⟩, .ext (.t 26) 1, none⟩,
  ⟨some ⟨8, [], []⟩, .bx 3 (.c (.agg [.sc (.int .i64 0), .sc (.int .i64 0), .sl true 1 []])), none⟩,
  ⟨none, .st 3 (.t 8) (.t 38), none⟩,
  ⟨some ⟨9, [], []⟩, .mv (.t 39), none⟩])
 (.seq (.reg [⟨some ⟨41, [], []⟩, .ld true 3 (.t 4), none⟩,
  ⟨some ⟨42, [], [6]⟩, .aad 3 1 (.t 6) (.c (.sc (.int .i64 0))), none⟩,
  ⟨some ⟨43, [], []⟩, .ld false 1 (.t 42), none⟩,
  ⟨some ⟨44, [], []⟩, .cvt .i64 (.t 43), none⟩,
  ⟨some ⟨45, [], []⟩, .bin .rem (.t 44) (.c (.sc (.int .i64 3))), none⟩,
  ⟨some ⟨46, [], [6]⟩, .aad 3 1 (.t 6) (.c (.sc (.int .i64 1))), none⟩,
  ⟨some ⟨47, [], []⟩, .ld false 1 (.t 46), none⟩,
  ⟨some ⟨48, [], []⟩, .bin .rem (.t 47) (.c (.sc (.int .u8 2))), none⟩,
  ⟨some ⟨49, [], []⟩, .bin .eql (.t 48) (.c (.sc (.int .u8 1))), none⟩,
  ⟨some ⟨50, [], []⟩, .ld true 2 (.t 7), none⟩,
  ⟨some ⟨51, [], []⟩, .call 9 [(.t 41), (.t 45), (.t 49), (.t 50)] 1, none⟩,
  ⟨some ⟨40, [], []⟩, .cp (.t 51), none⟩,
  ⟨some ⟨52, [], []⟩, .ext (.t 40) 0, none⟩,
  ⟨some ⟨53, [], []⟩, .ext (.t 40) 1, none⟩,
  ⟨some ⟨10, [], []⟩, .bx 3 (.c (.agg [.sc (.int .i64 0), .sc (.int .i64 0), .sl true 1 []])), none⟩,
  ⟨none, .st 3 (.t 10) (.t 52), none⟩,
  ⟨some ⟨11, [], []⟩, .mv (.t 53), none⟩])
 (.seq (.seq (.reg [⟨some ⟨54, [], []⟩, .cp (.t 9), none⟩,
  ⟨some ⟨55, [], []⟩, .cp (.t 11), none⟩,
  ⟨some ⟨56, [], []⟩, .beq true (.t 54) (.t 55), none⟩,
  ⟨some ⟨57, [], []⟩, .cp (.t 56), none⟩,
  ⟨some ⟨58, [], []⟩, .ld true 3 (.t 8), (some (57, false))⟩,
  ⟨some ⟨59, [], []⟩, .ld true 3 (.t 10), (some (57, false))⟩,
  ⟨some ⟨60, [], []⟩, .call 10 [(.t 58), (.t 59)] 0, (some (57, false))⟩,
  ⟨some ⟨61, [], []⟩, .un .not (.t 60), (some (57, false))⟩,
  ⟨some ⟨62, [], []⟩, .pick (.t 57) (.c (.sc (.bool true))) (.t 61), none⟩,
  ⟨some ⟨63, [], []⟩, .cp (.t 62), none⟩,
  ⟨some ⟨64, [], []⟩, .ld true 3 (.t 3), (some (63, false))⟩,
  ⟨some ⟨65, [], []⟩, .ld true 3 (.t 4), (some (63, false))⟩,
  ⟨some ⟨66, [], []⟩, .call 10 [(.t 64), (.t 65)] 0, (some (63, false))⟩,
  ⟨some ⟨67, [], []⟩, .un .not (.t 66), (some (63, false))⟩,
  ⟨some ⟨68, [], []⟩, .pick (.t 63) (.c (.sc (.bool true))) (.t 67), none⟩,
  ⟨some ⟨69, [], []⟩, .cp (.t 68), none⟩,
  ⟨some ⟨70, [], []⟩, .ld true 2 (.t 7), (some (69, false))⟩,
  ⟨some ⟨71, [], []⟩, .bsl 2 [[.sl true 1 [], .sl true 1 []]] [(0, (.t 70))], (some (69, false))⟩,
  ⟨some ⟨72, [], [6]⟩, .aad 3 1 (.t 6) (.c (.sc (.int .i64 2))), (some (69, false))⟩,
  ⟨some ⟨73, [], []⟩, .ld false 1 (.t 72), (some (69, false))⟩,
  ⟨some ⟨74, [], []⟩, .call 7 [(.t 73)] 1, (some (69, false))⟩,
  ⟨some ⟨75, [], []⟩, .bsl 2 [[.sl true 1 [], .sl true 1 []]] [(0, (.t 74))], (some (69, false))⟩,
  ⟨some ⟨76, [], []⟩, .call 11 [(.t 71), (.t 75)] 0, (some (69, false))⟩,
  ⟨some ⟨77, [], []⟩, .un .not (.t 76), (some (69, false))⟩,
  ⟨some ⟨78, [], []⟩, .pick (.t 69) (.c (.sc (.bool true))) (.t 77), none⟩])
 (.cond (.t 78) (.seq (.reg [⟨some ⟨2, [], []⟩, .mv (.c (.sc (.bool false))), none⟩])
 .ret) .skip))
 (.reg [⟨some ⟨79, [], []⟩, .ld true 3 (.t 8), none⟩,
  ⟨some ⟨80, [], []⟩, .ld true 3 (.t 10), none⟩,
  ⟨none, .st 3 (.t 3) (.t 79), none⟩,
  ⟨none, .st 3 (.t 4) (.t 80), none⟩]))))))))
 (.reg [⟨some ⟨81, [], []⟩, .bin .add (.t 16) (.c (.sc (.int .i64 1))), none⟩,
  ⟨some ⟨16, [], []⟩, .cp (.t 81), none⟩])))))))
 (.seq (.reg [⟨some ⟨82, [], []⟩, .call 12 [] 0, none⟩,
  ⟨some ⟨2, [], []⟩, .mv (.t 82), none⟩])
 .ret))))
def f3g : Gi := ⟨[(23, [6]), (28, [6]), (32, [6]), (42, [6]), (46, [6]), (72, [6])]⟩
def f3r : List RV := [.tmp 2]
def f3 : FI := ⟨f3c, f3g, f3r⟩

theorem chk3 : chkF Try.prog Try.f3 f3 = true := by kernel_rfl
abbrev u8 (n : Int) : AV := .sc (.int .u8 n)
def trip (l : List (Int × Int × Int)) : List (List AV) := l.map fun p => [u8 p.1, u8 p.2.1, u8 p.2.2]
theorem trip_length (l : List (Int × Int × Int)) : (trip l).length = l.length := by simp [trip]
theorem trip_get (l : List (Int × Int × Int)) (i : Nat) : (trip l)[i]? = (l[i]?).map fun p => [u8 p.1, u8 p.2.1, u8 p.2.2] := by simp [trip]
theorem beq_refl_l (l : List Int) : (l == l) = true := by simp


theorem lawSteps (l : List (Int × Int × Int)) (hl : l.length < 1000000000000000) : Says Try.prog 3 [.sl false 3 (trip l)] (sb true) := by
  refine says_of mix Try.func3 chk3 (of_decide_eq_true (by kernel_rfl)) rfl ?_
  simp only [f3, f3c, f3g, f3r, go_sem, reduceCtorEq, Nat.reduceEqDiff, reduceIte, Nat.reduceAdd, Int.reduceNeg, Nat.reduceBEq, Nat.reduceLT, Nat.reduceLeDiff, Nat.reduceSub, Nat.reduceMul, Int.reduceLT, Int.reduceLE, Int.reduceAdd, Int.reduceEq, Int.reduceBEq, Int.reduceToNat, trip_length]
  refine awp_range l.length (fun j τ => τ 14 = .sl false 3 (trip l) ∧ ∃ (st ow : Int) (L : List Int) (x y : Bool), τ 3 = .own true 3 [[si st, si ow, .sl x 1 (ints L)]] ∧ τ 4 = .own true 3 [[si st, si ow, .sl y 1 (ints L)]] ∧ (st = 0 ∨ st = 1 ∨ st = 2 ∨ st = 3) ∧ L.Pairwise (· < ·) ∧ L.length ≤ 8 * j) (by omega) ?_ ?_ ?_ ?_ ?_ (by decide)
  · simp only [go_sem, reduceCtorEq, Nat.reduceEqDiff, reduceIte, Nat.reduceAdd, Int.reduceNeg, Nat.reduceBEq, Nat.reduceLT, Nat.reduceLeDiff, Nat.reduceSub, Nat.reduceMul, Int.reduceLT, Int.reduceLE, Int.reduceAdd, Int.reduceEq, Int.reduceBEq, Int.reduceToNat]
  · simp only [go_sem, reduceCtorEq, Nat.reduceEqDiff, reduceIte, Nat.reduceAdd, Int.reduceNeg, Nat.reduceBEq, Nat.reduceLT, Nat.reduceLeDiff, Nat.reduceSub, Nat.reduceMul, Int.reduceLT, Int.reduceLE, Int.reduceAdd, Int.reduceEq, Int.reduceBEq, Int.reduceToNat]
  · refine ⟨by simp only [go_sem, reduceCtorEq, Nat.reduceEqDiff, reduceIte, Nat.reduceAdd, Int.reduceNeg, Nat.reduceBEq, Nat.reduceLT, Nat.reduceLeDiff, Nat.reduceSub, Nat.reduceMul, Int.reduceLT, Int.reduceLE, Int.reduceAdd, Int.reduceEq, Int.reduceBEq, Int.reduceToNat], 0, 0, [], true, true, by simp only [go_sem, reduceCtorEq, Nat.reduceEqDiff, reduceIte, Nat.reduceAdd, Int.reduceNeg, Nat.reduceBEq, Nat.reduceLT, Nat.reduceLeDiff, Nat.reduceSub, Nat.reduceMul, Int.reduceLT, Int.reduceLE, Int.reduceAdd, Int.reduceEq, Int.reduceBEq, Int.reduceToNat, ints_nil], by simp only [go_sem, reduceCtorEq, Nat.reduceEqDiff, reduceIte, Nat.reduceAdd, Int.reduceNeg, Nat.reduceBEq, Nat.reduceLT, Nat.reduceLeDiff, Nat.reduceSub, Nat.reduceMul, Int.reduceLT, Int.reduceLE, Int.reduceAdd, Int.reduceEq, Int.reduceBEq, Int.reduceToNat, ints_nil], by simp, by simp, by simp⟩
  · rintro j τ hj hi hn ⟨h14, st, ow, L, x, y, h3, h4, hst, hL, hLl⟩
    have hg : (trip l)[j]? = some [u8 l[j].1, u8 l[j].2.1, u8 l[j].2.2] := by rw [trip_get]; simp [hj]
    generalize l[j].1 = a at hg
    generalize l[j].2.1 = b at hg
    generalize l[j].2.2 = c at hg
    by_cases h60 : 60 ≤ j
    · have hdc : decide ((j : Int) ≥ 60) = true := by simp only [decide_eq_true_eq]; omega
      simp only [go_sem, reduceCtorEq, Nat.reduceEqDiff, reduceIte, Nat.reduceAdd, Int.reduceNeg, Nat.reduceBEq, Nat.reduceLT, Nat.reduceLeDiff, Nat.reduceSub, Nat.reduceMul, Int.reduceLT, Int.reduceLE, Int.reduceAdd, Int.reduceEq, Int.reduceBEq, Int.reduceToNat, h14, h3, h4, hi, hn, hg, hdc]
      refine ⟨_, awake_says, ?_⟩
      simp only [go_sem, reduceCtorEq, Nat.reduceEqDiff, reduceIte, Nat.reduceAdd, Int.reduceNeg, Nat.reduceBEq, Nat.reduceLT, Nat.reduceLeDiff, Nat.reduceSub, Nat.reduceMul, Int.reduceLT, Int.reduceLE, Int.reduceAdd, Int.reduceEq, Int.reduceBEq, Int.reduceToNat]
    · have hdc : decide ((j : Int) ≥ 60) = false := by simp only [decide_eq_false_iff_not]; omega
      have lE := hE_length c
      have lS := hS_length c
      have hs := step_says st ow L ((IntKind.i64.wrap a).tmod 3) (b.tmod 2 == 1) (hE c) (hS c) (by omega) (by omega)
      have he := eraser_says st ow L ((IntKind.i64.wrap a).tmod 3) (b.tmod 2 == 1) (hE c) (hS c) (by omega) (by omega)
      rw [step_eq _ _ _ _ _ _ _ hst hL] at he
      obtain ⟨p1, q1, r1⟩ := step_facts st ow L ((IntKind.i64.wrap a).tmod 3) (b.tmod 2 == 1) (hE c) (hS c) hst hL
      generalize stepF st ow L ((IntKind.i64.wrap a).tmod 3) (b.tmod 2 == 1) (hE c) (hS c) = s1 at hs he p1 q1 r1
      obtain ⟨st1, ow1, L1, wn1⟩ := s1
      simp only at p1 q1 r1
      simp only [stepR] at hs he
      have h30 : ¬ ((3 : Int) = 0) := by decide
      have h20 : ¬ ((2 : Int) = 0) := by decide
      have hb3 : ((0 : Int) < ((3 : Nat) : Int)) := by decide
      have hb31 : ((1 : Int) < ((3 : Nat) : Int)) := by decide
      have hb32 : ((2 : Int) < ((3 : Nat) : Int)) := by decide
      have sh := sameHeld_says [(hE c, hS c)] [(hE c, hS c)] (by simp) (by simp; omega)
      simp only [beq_self_eq_true] at sh
      simp only [go_sem, reduceCtorEq, Nat.reduceEqDiff, reduceIte, Nat.reduceAdd, Int.reduceNeg, Nat.reduceBEq, Nat.reduceLT, Nat.reduceLeDiff, Nat.reduceSub, Nat.reduceMul, Int.reduceLT, Int.reduceLE, Int.reduceAdd, Int.reduceEq, Int.reduceBEq, Int.reduceToNat, h14, h3, h4, hi, hn, hg, hdc, hb3, hb31, hb32, h30, h20]
      refine ⟨_, held_says c, ?_⟩
      simp only [go_sem, reduceCtorEq, Nat.reduceEqDiff, reduceIte, Nat.reduceAdd, Int.reduceNeg, Nat.reduceBEq, Nat.reduceLT, Nat.reduceLeDiff, Nat.reduceSub, Nat.reduceMul, Int.reduceLT, Int.reduceLE, Int.reduceAdd, Int.reduceEq, Int.reduceBEq, Int.reduceToNat, h14, h3, h4, hi, hn, hb3, hb31, hb32, h30, h20]
      refine ⟨_, hs, ?_⟩
      simp only [go_sem, reduceCtorEq, Nat.reduceEqDiff, reduceIte, Nat.reduceAdd, Int.reduceNeg, Nat.reduceBEq, Nat.reduceLT, Nat.reduceLeDiff, Nat.reduceSub, Nat.reduceMul, Int.reduceLT, Int.reduceLE, Int.reduceAdd, Int.reduceEq, Int.reduceBEq, Int.reduceToNat, h14, h3, h4, hi, hn, hb3, hb31, hb32, h30, h20]
      refine ⟨_, he, ?_⟩
      simp only [go_sem, reduceCtorEq, Nat.reduceEqDiff, reduceIte, Nat.reduceAdd, Int.reduceNeg, Nat.reduceBEq, Nat.reduceLT, Nat.reduceLeDiff, Nat.reduceSub, Nat.reduceMul, Int.reduceLT, Int.reduceLE, Int.reduceAdd, Int.reduceEq, Int.reduceBEq, Int.reduceToNat, h14, h3, h4, hi, hn, hb3, hb31, hb32, h30, h20]
      refine ⟨_, sameEraser_says st1 ow1 L1 st1 ow1 L1 (by omega), ?_⟩
      simp only [go_sem, reduceCtorEq, Nat.reduceEqDiff, reduceIte, Nat.reduceAdd, Int.reduceNeg, Nat.reduceBEq, Nat.reduceLT, Nat.reduceLeDiff, Nat.reduceSub, Nat.reduceMul, Int.reduceLT, Int.reduceLE, Int.reduceAdd, Int.reduceEq, Int.reduceBEq, Int.reduceToNat, h14, h3, h4, hi, hn, hb3, hb31, hb32, h30, h20]
      refine ⟨_, sameEraser_says st ow L st ow L (by omega), ?_⟩
      simp only [go_sem, reduceCtorEq, Nat.reduceEqDiff, reduceIte, Nat.reduceAdd, Int.reduceNeg, Nat.reduceBEq, Nat.reduceLT, Nat.reduceLeDiff, Nat.reduceSub, Nat.reduceMul, Int.reduceLT, Int.reduceLE, Int.reduceAdd, Int.reduceEq, Int.reduceBEq, Int.reduceToNat, h14, h3, h4, hi, hn, hb3, hb31, hb32, h30, h20]
      refine ⟨_, held_says c, ?_⟩
      simp only [go_sem, reduceCtorEq, Nat.reduceEqDiff, reduceIte, Nat.reduceAdd, Int.reduceNeg, Nat.reduceBEq, Nat.reduceLT, Nat.reduceLeDiff, Nat.reduceSub, Nat.reduceMul, Int.reduceLT, Int.reduceLE, Int.reduceAdd, Int.reduceEq, Int.reduceBEq, Int.reduceToNat, h14, h3, h4, hi, hn, hb3, hb31, hb32, h30, h20]
      refine ⟨_, sh, ?_⟩
      simp only [go_sem, reduceCtorEq, Nat.reduceEqDiff, reduceIte, Nat.reduceAdd, Int.reduceNeg, Nat.reduceBEq, Nat.reduceLT, Nat.reduceLeDiff, Nat.reduceSub, Nat.reduceMul, Int.reduceLT, Int.reduceLE, Int.reduceAdd, Int.reduceEq, Int.reduceBEq, Int.reduceToNat, h14, h3, h4, hi, hn, hb3, hb31, hb32, h30, h20]
      exact ⟨st1, ow1, L1, false, ⟨rfl, rfl, rfl, rfl⟩, false, ⟨rfl, rfl, rfl, rfl⟩, p1, q1, by omega⟩
  · rintro τ hi hn ⟨h14, _⟩
    simp only [go_sem, reduceCtorEq, Nat.reduceEqDiff, reduceIte, Nat.reduceAdd, Int.reduceNeg, Nat.reduceBEq, Nat.reduceLT, Nat.reduceLeDiff, Nat.reduceSub, Nat.reduceMul, Int.reduceLT, Int.reduceLE, Int.reduceAdd, Int.reduceEq, Int.reduceBEq, Int.reduceToNat, h14, hi, hn]
    refine ⟨_, awake_says, ?_⟩
    simp only [go_sem, reduceCtorEq, Nat.reduceEqDiff, reduceIte, Nat.reduceAdd, Int.reduceNeg, Nat.reduceBEq, Nat.reduceLT, Nat.reduceLeDiff, Nat.reduceSub, Nat.reduceMul, Int.reduceLT, Int.reduceLE, Int.reduceAdd, Int.reduceEq, Int.reduceBEq, Int.reduceToNat]
end Go.Abs
