/- SameEraser, SameHeld, Excludes, held, Eraser. -/
import Derived.Test.YtejicekieoclaaaK4
set_option linter.unusedSimpArgs false
namespace Go.Abs
open Go.Proofs Go.Sort
set_option maxRecDepth 100000
set_option maxHeartbeats 4000000
def f10c : IC := (.seq (.reg [⟨some ⟨2, [5, 11, 18], []⟩, .bx 3 (.t 0), none⟩,
  ⟨some ⟨3, [7, 13, 20], []⟩, .bx 3 (.t 1), none⟩,
  ⟨some ⟨4, [], []⟩, .mv (.c (.sc (.bool false))), none⟩])
 (.seq (.reg [⟨some ⟨5, [], [2]⟩, .fad 0 (.t 2), none⟩,
  ⟨some ⟨6, [], []⟩, .ld false 1 (.t 5), none⟩,
  ⟨some ⟨7, [], [3]⟩, .fad 0 (.t 3), none⟩,
  ⟨some ⟨8, [], []⟩, .ld false 1 (.t 7), none⟩,
  ⟨some ⟨9, [], []⟩, .bin .eql (.t 6) (.t 8), none⟩,
  ⟨some ⟨10, [], []⟩, .cp (.t 9), none⟩,
  ⟨some ⟨11, [], [2]⟩, .fad 1 (.t 2), (some (10, true))⟩,
  ⟨some ⟨12, [], []⟩, .ld false 1 (.t 11), (some (10, true))⟩,
  ⟨some ⟨13, [], [3]⟩, .fad 1 (.t 3), (some (10, true))⟩,
  ⟨some ⟨14, [], []⟩, .ld false 1 (.t 13), (some (10, true))⟩,
  ⟨some ⟨15, [], []⟩, .bin .eql (.t 12) (.t 14), (some (10, true))⟩,
  ⟨some ⟨16, [], []⟩, .pick (.t 10) (.t 15) (.c (.sc (.bool false))), none⟩,
  ⟨some ⟨17, [], []⟩, .cp (.t 16), none⟩,
  ⟨some ⟨18, [], [2]⟩, .fad 2 (.t 2), (some (17, true))⟩,
  ⟨some ⟨19, [], []⟩, .ld false 1 (.t 18), (some (17, true))⟩,
  ⟨some ⟨20, [], [3]⟩, .fad 2 (.t 3), (some (17, true))⟩,
  ⟨some ⟨21, [], []⟩, .ld false 1 (.t 20), (some (17, true))⟩,
  ⟨some ⟨22, [], []⟩, .call 21 [(.t 19), (.t 21)] 0, (some (17, true))⟩,
  ⟨some ⟨23, [], []⟩, .pick (.t 17) (.t 22) (.c (.sc (.bool false))), none⟩,
  ⟨some ⟨4, [], []⟩, .mv (.t 23), none⟩])
 .ret))
def f10g : Gi := ⟨[(5, [2]), (7, [3]), (11, [2]), (13, [3]), (18, [2]), (20, [3])]⟩
def f10r : List RV := [.tmp 4]
def f10 : FI := ⟨f10c, f10g, f10r⟩

theorem chk10 : chkF Try.prog Try.f10 f10 = true := by kernel_rfl
def f11c : IC := (.seq (.reg [⟨some ⟨4, [], []⟩, .mv (.c (.sc (.bool false))), none⟩])
 (.seq (.seq (.reg [⟨some ⟨6, [], []⟩, .cp (.t 0), none⟩,
  ⟨some ⟨7, [], []⟩, .len (.t 6), none⟩,
  ⟨some ⟨8, [], []⟩, .cp (.t 1), none⟩,
  ⟨some ⟨9, [], []⟩, .len (.t 8), none⟩,
  ⟨some ⟨10, [], []⟩, .bin .neq (.t 7) (.t 9), none⟩])
 (.cond (.t 10) (.seq (.reg [⟨some ⟨4, [], []⟩, .mv (.c (.sc (.bool false))), none⟩])
 .ret) .skip))
 (.seq (.seq (.reg [⟨some ⟨11, [], []⟩, .cp (.t 0), none⟩,
  ⟨some ⟨12, [], []⟩, .len (.t 11), none⟩,
  ⟨some ⟨13, [], []⟩, .cp (.c (.sc (.int .i64 0))), none⟩])
 (.block 0 (.loop (.seq (.reg [⟨some ⟨14, [], []⟩, .bin .lss (.t 13) (.t 12), none⟩])
 (.seq (.cond (.t 14) .skip (.exit 0))
 (.seq (.block 1 (.seq (.reg [⟨some ⟨15, [], []⟩, .cp (.t 13), none⟩,
  ⟨some ⟨5, [], []⟩, .mv (.t 15), none⟩])
 (.seq (.reg [⟨some ⟨16, [], []⟩, .cp (.t 0), none⟩,
  ⟨some ⟨17, [], []⟩, .cp (.t 5), none⟩,
  ⟨some ⟨18, [], []⟩, .iad 2 (.t 16) (.t 17), none⟩,
  ⟨some ⟨19, [], []⟩, .fad 0 (.t 18), none⟩,
  ⟨some ⟨20, [], []⟩, .ld false 1 (.t 19), none⟩,
  ⟨some ⟨21, [], []⟩, .cp (.t 1), none⟩,
  ⟨some ⟨22, [], []⟩, .cp (.t 5), none⟩,
  ⟨some ⟨23, [], []⟩, .iad 2 (.t 21) (.t 22), none⟩,
  ⟨some ⟨24, [], []⟩, .fad 0 (.t 23), none⟩,
  ⟨some ⟨25, [], []⟩, .ld false 1 (.t 24), none⟩,
  ⟨some ⟨26, [], []⟩, .call 21 [(.t 20), (.t 25)] 0, none⟩,
  ⟨some ⟨27, [], []⟩, .un .not (.t 26), none⟩,
  ⟨some ⟨28, [], []⟩, .cp (.t 27), none⟩,
  ⟨some ⟨29, [], []⟩, .cp (.t 0), (some (28, false))⟩,
  ⟨some ⟨30, [], []⟩, .cp (.t 5), (some (28, false))⟩,
  ⟨some ⟨31, [], []⟩, .iad 2 (.t 29) (.t 30), (some (28, false))⟩,
  ⟨some ⟨32, [], []⟩, .fad 1 (.t 31), (some (28, false))⟩,
  ⟨some ⟨33, [], []⟩, .ld false 1 (.t 32), (some (28, false))⟩,
  ⟨some ⟨34, [], []⟩, .cp (.t 1), (some (28, false))⟩,
  ⟨some ⟨35, [], []⟩, .cp (.t 5), (some (28, false))⟩,
  ⟨some ⟨36, [], []⟩, .iad 2 (.t 34) (.t 35), (some (28, false))⟩,
  ⟨some ⟨37, [], []⟩, .fad 1 (.t 36), (some (28, false))⟩,
  ⟨some ⟨38, [], []⟩, .ld false 1 (.t 37), (some (28, false))⟩,
  ⟨some ⟨39, [], []⟩, .call 21 [(.t 33), (.t 38)] 0, (some (28, false))⟩,
  ⟨some ⟨40, [], []⟩, .un .not (.t 39), (some (28, false))⟩,
  ⟨some ⟨41, [], []⟩, .pick (.t 28) (.c (.sc (.bool true))) (.t 40), none⟩])
 (.cond (.t 41) (.seq (.reg [⟨some ⟨4, [], []⟩, .mv (.c (.sc (.bool false))), none⟩])
 .ret) .skip))))
 (.reg [⟨some ⟨42, [], []⟩, .bin .add (.t 13) (.c (.sc (.int .i64 1))), none⟩,
  ⟨some ⟨13, [], []⟩, .cp (.t 42), none⟩])))))))
 (.seq (.reg [⟨some ⟨4, [], []⟩, .mv (.c (.sc (.bool true))), none⟩])
 .ret))))
def f11g : Gi := ⟨[]⟩
def f11r : List RV := [.tmp 4]
def f11 : FI := ⟨f11c, f11g, f11r⟩

theorem chk11 : chkF Try.prog Try.f11 f11 = true := by kernel_rfl
def f14c : IC := (.seq (.reg [⟨some ⟨2, [9, 34], []⟩, .bx 2 (.t 0), none⟩,
  ⟨some ⟨3, [16, 21, 27], []⟩, .bx 2 (.t 1), none⟩,
  ⟨some ⟨4, [], []⟩, .mv (.c (.sc (.bool false))), none⟩])
 (.seq (.seq (.reg [⟨some ⟨9, [], [2]⟩, .fad 0 (.t 2), none⟩,
  ⟨some ⟨10, [], []⟩, .ld false 1 (.t 9), none⟩,
  ⟨some ⟨11, [], []⟩, .len (.t 10), none⟩,
  ⟨some ⟨12, [], []⟩, .cp (.c (.sc (.int .i64 0))), none⟩])
 (.block 0 (.loop (.seq (.reg [⟨some ⟨13, [], []⟩, .bin .lss (.t 12) (.t 11), none⟩])
 (.seq (.cond (.t 13) .skip (.exit 0))
 (.seq (.block 1 (.seq (.reg [⟨some ⟨14, [], []⟩, .iad 1 (.t 10) (.t 12), none⟩,
  ⟨some ⟨15, [], []⟩, .ld false 1 (.t 14), none⟩,
  ⟨some ⟨6, [], []⟩, .mv (.t 15), none⟩])
 (.seq (.reg [⟨some ⟨16, [], [3]⟩, .fad 0 (.t 3), none⟩,
  ⟨some ⟨17, [], []⟩, .ld false 1 (.t 16), none⟩,
  ⟨some ⟨18, [], []⟩, .cp (.t 6), none⟩,
  ⟨some ⟨19, [], []⟩, .call 13 [(.t 17), (.t 18)] 0, none⟩,
  ⟨some ⟨20, [], []⟩, .cp (.t 19), none⟩,
  ⟨some ⟨21, [], [3]⟩, .fad 1 (.t 3), (some (20, false))⟩,
  ⟨some ⟨22, [], []⟩, .ld false 1 (.t 21), (some (20, false))⟩,
  ⟨some ⟨23, [], []⟩, .cp (.t 6), (some (20, false))⟩,
  ⟨some ⟨24, [], []⟩, .call 13 [(.t 22), (.t 23)] 0, (some (20, false))⟩,
  ⟨some ⟨25, [], []⟩, .pick (.t 20) (.c (.sc (.bool true))) (.t 24), none⟩])
 (.cond (.t 25) (.seq (.reg [⟨some ⟨4, [], []⟩, .mv (.c (.sc (.bool true))), none⟩])
 .ret) .skip))))
 (.reg [⟨some ⟨26, [], []⟩, .bin .add (.t 12) (.c (.sc (.int .i64 1))), none⟩,
  ⟨some ⟨12, [], []⟩, .cp (.t 26), none⟩])))))))
 (.seq (.seq (.reg [⟨some ⟨27, [], [3]⟩, .fad 0 (.t 3), none⟩,
  ⟨some ⟨28, [], []⟩, .ld false 1 (.t 27), none⟩,
  ⟨some ⟨29, [], []⟩, .len (.t 28), none⟩,
  ⟨some ⟨30, [], []⟩, .cp (.c (.sc (.int .i64 0))), none⟩])
 (.block 2 (.loop (.seq (.reg [⟨some ⟨31, [], []⟩, .bin .lss (.t 30) (.t 29), none⟩])
 (.seq (.cond (.t 31) .skip (.exit 2))
 (.seq (.block 3 (.seq (.reg [⟨some ⟨32, [], []⟩, .iad 1 (.t 28) (.t 30), none⟩,
  ⟨some ⟨33, [], []⟩, .ld false 1 (.t 32), none⟩,
  ⟨some ⟨8, [], []⟩, .mv (.t 33), none⟩])
 (.seq (.reg [⟨some ⟨34, [], [2]⟩, .fad 1 (.t 2), none⟩,
  ⟨some ⟨35, [], []⟩, .ld false 1 (.t 34), none⟩,
  ⟨some ⟨36, [], []⟩, .cp (.t 8), none⟩,
  ⟨some ⟨37, [], []⟩, .call 13 [(.t 35), (.t 36)] 0, none⟩])
 (.cond (.t 37) (.seq (.reg [⟨some ⟨4, [], []⟩, .mv (.c (.sc (.bool true))), none⟩])
 .ret) .skip))))
 (.reg [⟨some ⟨38, [], []⟩, .bin .add (.t 30) (.c (.sc (.int .i64 1))), none⟩,
  ⟨some ⟨30, [], []⟩, .cp (.t 38), none⟩])))))))
 (.seq (.reg [⟨some ⟨4, [], []⟩, .mv (.c (.sc (.bool false))), none⟩])
 .ret))))
def f14g : Gi := ⟨[(9, [2]), (16, [3]), (21, [3]), (27, [3]), (34, [2])]⟩
def f14r : List RV := [.tmp 4]
def f14 : FI := ⟨f14c, f14g, f14r⟩

theorem chk14 : chkF Try.prog Try.f14 f14 = true := by kernel_rfl
def f15c : IC := (.seq (.reg [⟨some ⟨2, [5, 11, 18], []⟩, .bx 2 (.t 0), none⟩,
  ⟨some ⟨3, [7, 13, 20], []⟩, .bx 2 (.t 1), none⟩,
  ⟨some ⟨4, [], []⟩, .mv (.c (.sc (.bool false))), none⟩])
 (.seq (.reg [⟨some ⟨5, [], [2]⟩, .fad 0 (.t 2), none⟩,
  ⟨some ⟨6, [], []⟩, .ld false 1 (.t 5), none⟩,
  ⟨some ⟨7, [], [3]⟩, .fad 0 (.t 3), none⟩,
  ⟨some ⟨8, [], []⟩, .ld false 1 (.t 7), none⟩,
  ⟨some ⟨9, [], []⟩, .call 22 [(.t 6), (.t 8)] 0, none⟩,
  ⟨some ⟨10, [], []⟩, .cp (.t 9), none⟩,
  ⟨some ⟨11, [], [2]⟩, .fad 0 (.t 2), (some (10, false))⟩,
  ⟨some ⟨12, [], []⟩, .ld false 1 (.t 11), (some (10, false))⟩,
  ⟨some ⟨13, [], [3]⟩, .fad 1 (.t 3), (some (10, false))⟩,
  ⟨some ⟨14, [], []⟩, .ld false 1 (.t 13), (some (10, false))⟩,
  ⟨some ⟨15, [], []⟩, .call 22 [(.t 12), (.t 14)] 0, (some (10, false))⟩,
  ⟨some ⟨16, [], []⟩, .pick (.t 10) (.c (.sc (.bool true))) (.t 15), none⟩,
  ⟨some ⟨17, [], []⟩, .cp (.t 16), none⟩,
  ⟨some ⟨18, [], [2]⟩, .fad 1 (.t 2), (some (17, false))⟩,
  ⟨some ⟨19, [], []⟩, .ld false 1 (.t 18), (some (17, false))⟩,
  ⟨some ⟨20, [], [3]⟩, .fad 0 (.t 3), (some (17, false))⟩,
  ⟨some ⟨21, [], []⟩, .ld false 1 (.t 20), (some (17, false))⟩,
  ⟨some ⟨22, [], []⟩, .call 22 [(.t 19), (.t 21)] 0, (some (17, false))⟩,
  ⟨some ⟨23, [], []⟩, .pick (.t 17) (.c (.sc (.bool true))) (.t 22), none⟩,
  ⟨some ⟨4, [], []⟩, .mv (.t 23), none⟩])
 .ret))
def f15g : Gi := ⟨[(5, [2]), (7, [3]), (11, [2]), (13, [3]), (18, [2]), (20, [3])]⟩
def f15r : List RV := [.tmp 4]
def f15 : FI := ⟨f15c, f15g, f15r⟩

theorem chk15 : chkF Try.prog Try.f15 f15 = true := by kernel_rfl
def f7c : IC := (.seq (.reg [⟨some ⟨2, [], []⟩, .bx 2 (.c (.agg [.own false 1 [], .own false 1 []])), none⟩])
 (.seq (.reg [⟨some ⟨3, [13, 14, 18, 21, 22, 26, 29], []⟩, .bx 2 (.c (.agg [.own false 1 [], .own false 1 []])), none⟩])
 (.seq (.seq (.reg [⟨some ⟨4, [], []⟩, .mv (.c (.sc (.int .i64 0))), none⟩])
 (.block 0 (.loop (.seq (.seq (.reg [⟨some ⟨5, [], []⟩, .cp (.t 4), none⟩,
  ⟨some ⟨6, [], []⟩, .bin .lss (.t 5) (.c (.sc (.int .i64 4))), none⟩])
 (.cond (.t 6) .skip (.exit 0)))
 (.seq (.block 1 (.seq (.seq (.reg [⟨some ⟨9, [], []⟩, .cp (.t 0), none⟩,
  ⟨some ⟨10, [], []⟩, .bin .rem (.t 9) (.c (.sc (.int .u8 3))), none⟩])
 (.block 2 (.seq (.reg [⟨some ⟨12, [], []⟩, .bin .eql (.t 10) (.c (.sc (.int .u8 1))), none⟩,
  ⟨some ⟨11, [], []⟩, .mv (.t 12), none⟩])
 (.cond (.t 11) (.reg [⟨some ⟨13, [], [3]⟩, .fad 0 (.t 3), none⟩,
  ⟨some ⟨14, [], [3]⟩, .ld false 1 (.t 13), none⟩,
  ⟨some ⟨15, [], []⟩, .cp (.t 4), none⟩,
  ⟨some ⟨16, [], []⟩, .bsl 1 [[.sc (.int .i64 0)]] [(0, (.t 15))], none⟩,
  ⟨some ⟨17, [], []⟩, .app 1 8 (.t 14) (.t 16), none⟩,
  ⟨some ⟨18, [], [3]⟩, .fad 0 (.t 3), none⟩,
  ⟨none, .st 1 (.t 18) (.t 17), none⟩]) (.seq (.reg [⟨some ⟨20, [], []⟩, .bin .eql (.t 10) (.c (.sc (.int .u8 2))), none⟩,
  ⟨some ⟨19, [], []⟩, .mv (.t 20), none⟩])
 (.cond (.t 19) (.reg [⟨some ⟨21, [], [3]⟩, .fad 1 (.t 3), none⟩,
  ⟨some ⟨22, [], [3]⟩, .ld false 1 (.t 21), none⟩,
  ⟨some ⟨23, [], []⟩, .cp (.t 4), none⟩,
  ⟨some ⟨24, [], []⟩, .bsl 1 [[.sc (.int .i64 0)]] [(0, (.t 23))], none⟩,
  ⟨some ⟨25, [], []⟩, .app 1 8 (.t 22) (.t 24), none⟩,
  ⟨some ⟨26, [], [3]⟩, .fad 1 (.t 3), none⟩,
  ⟨none, .st 1 (.t 26) (.t 25), none⟩]) .skip))))))
 (.reg [⟨some ⟨27, [], []⟩, .cp (.t 0), none⟩,
  ⟨some ⟨28, [], []⟩, .bin .quo (.t 27) (.c (.sc (.int .u8 3))), none⟩,
  ⟨some ⟨0, [], []⟩, .mv (.t 28), none⟩])))
 (.reg [⟨some ⟨7, [], []⟩, .cp (.t 4), none⟩,
  ⟨some ⟨8, [], []⟩, .bin .add (.t 7) (.c (.sc (.int .i64 1))), none⟩,
  ⟨some ⟨4, [], []⟩, .mv (.t 8), none⟩]))))))
 (.seq (.reg [⟨some ⟨29, [], [3]⟩, .ld true 2 (.t 3), none⟩,
  ⟨none, .st 2 (.t 2) (.t 29), none⟩])
 .ret))))
def f7g : Gi := ⟨[(13, [3]), (14, [3]), (18, [3]), (21, [3]), (22, [3]), (26, [3]), (29, [3])]⟩
def f7r : List RV := [.cell 2 true 2]
def f7 : FI := ⟨f7c, f7g, f7r⟩

theorem chk7 : chkF Try.prog Try.f7 f7 = true := by kernel_rfl

theorem sameEraser_says (s o : Int) (L : List Int) (s' o' : Int) (L' : List Int) (hl : L.length < 4611686018427) : Says Try.prog 10 [erA s o L, erA s' o' L'] (sb (s == s' && o == o' && L == L')) := by
  refine says_of mix Try.func10 chk10 (of_decide_eq_true (by kernel_rfl)) rfl ?_
  cases e1 : (s == s') with
  | false => simp only [f10, f10c, f10g, f10r, go_sem, reduceCtorEq, Nat.reduceEqDiff, reduceIte, Nat.reduceAdd, Int.reduceNeg, Nat.reduceBEq, Nat.reduceLT, Nat.reduceLeDiff, Nat.reduceSub, Nat.reduceMul, Int.reduceLT, Int.reduceLE, Int.reduceAdd, Int.reduceEq, Int.reduceBEq, Int.reduceToNat, e1]
  | true =>
    cases e2 : (o == o') with
    | false => simp only [f10, f10c, f10g, f10r, go_sem, reduceCtorEq, Nat.reduceEqDiff, reduceIte, Nat.reduceAdd, Int.reduceNeg, Nat.reduceBEq, Nat.reduceLT, Nat.reduceLeDiff, Nat.reduceSub, Nat.reduceMul, Int.reduceLT, Int.reduceLE, Int.reduceAdd, Int.reduceEq, Int.reduceBEq, Int.reduceToNat, e1, e2]
    | true =>
      simp only [f10, f10c, f10g, f10r, go_sem, reduceCtorEq, Nat.reduceEqDiff, reduceIte, Nat.reduceAdd, Int.reduceNeg, Nat.reduceBEq, Nat.reduceLT, Nat.reduceLeDiff, Nat.reduceSub, Nat.reduceMul, Int.reduceLT, Int.reduceLE, Int.reduceAdd, Int.reduceEq, Int.reduceBEq, Int.reduceToNat, e1, e2]
      refine ⟨_, equal_says L L' (by omega), ?_⟩
      simp only [go_sem, reduceCtorEq, Nat.reduceEqDiff, reduceIte, Nat.reduceAdd, Int.reduceNeg, Nat.reduceBEq, Nat.reduceLT, Nat.reduceLeDiff, Nat.reduceSub, Nat.reduceMul, Int.reduceLT, Int.reduceLE, Int.reduceAdd, Int.reduceEq, Int.reduceBEq, Int.reduceToNat]

def helds (l : List (List Int × List Int)) : List (List AV) := l.map fun p => [isl p.1, isl p.2]
theorem helds_length (l : List (List Int × List Int)) : (helds l).length = l.length := by simp [helds]
theorem helds_get (l : List (List Int × List Int)) (i : Nat) : (helds l)[i]? = (l[i]?).map fun p => [isl p.1, isl p.2] := by simp [helds]
theorem sameHeld_says (a b : List (List Int × List Int)) (hl : a.length < 4611686018427) (hla : ∀ p ∈ a, p.1.length < 4611686018427 ∧ p.2.length < 4611686018427) : Says Try.prog 11 [.sl false 2 (helds a), .sl false 2 (helds b)] (sb (a == b)) := by
  refine says_of mix Try.func11 chk11 (of_decide_eq_true (by kernel_rfl)) rfl ?_
  by_cases hlen : a.length = b.length
  · have h2 : ((b.length : Int) != (b.length : Int)) = false := by simp
    simp only [f11, f11c, f11g, f11r, go_sem, reduceCtorEq, Nat.reduceEqDiff, reduceIte, Nat.reduceAdd, Int.reduceNeg, Nat.reduceBEq, Nat.reduceLT, Nat.reduceLeDiff, Nat.reduceSub, Nat.reduceMul, Int.reduceLT, Int.reduceLE, Int.reduceAdd, Int.reduceEq, Int.reduceBEq, Int.reduceToNat, helds_length, hlen, h2]
    refine awp_range b.length (fun j τ => τ 0 = .sl false 2 (helds a) ∧ τ 1 = .sl false 2 (helds b) ∧ a.take j = b.take j) (by omega) ?_ ?_ ?_ ?_ ?_ (by decide)
    · simp only [go_sem, reduceCtorEq, Nat.reduceEqDiff, reduceIte, Nat.reduceAdd, Int.reduceNeg, Nat.reduceBEq, Nat.reduceLT, Nat.reduceLeDiff, Nat.reduceSub, Nat.reduceMul, Int.reduceLT, Int.reduceLE, Int.reduceAdd, Int.reduceEq, Int.reduceBEq, Int.reduceToNat]
    · simp only [go_sem, reduceCtorEq, Nat.reduceEqDiff, reduceIte, Nat.reduceAdd, Int.reduceNeg, Nat.reduceBEq, Nat.reduceLT, Nat.reduceLeDiff, Nat.reduceSub, Nat.reduceMul, Int.reduceLT, Int.reduceLE, Int.reduceAdd, Int.reduceEq, Int.reduceBEq, Int.reduceToNat]
    · simp only [go_sem, reduceCtorEq, Nat.reduceEqDiff, reduceIte, Nat.reduceAdd, Int.reduceNeg, Nat.reduceBEq, Nat.reduceLT, Nat.reduceLeDiff, Nat.reduceSub, Nat.reduceMul, Int.reduceLT, Int.reduceLE, Int.reduceAdd, Int.reduceEq, Int.reduceBEq, Int.reduceToNat]
    · rintro j τ hj hi hn ⟨h0, h1, hk⟩
      have hja : j < a.length := by omega
      have hg : (helds a)[j]? = some [isl a[j].1, isl a[j].2] := by rw [helds_get]; simp [hja]
      have hg' : (helds b)[j]? = some [isl b[j].1, isl b[j].2] := by rw [helds_get]; simp [hj]
      have hb := hla a[j] (List.getElem_mem hja)
      simp only [go_sem, reduceCtorEq, Nat.reduceEqDiff, reduceIte, Nat.reduceAdd, Int.reduceNeg, Nat.reduceBEq, Nat.reduceLT, Nat.reduceLeDiff, Nat.reduceSub, Nat.reduceMul, Int.reduceLT, Int.reduceLE, Int.reduceAdd, Int.reduceEq, Int.reduceBEq, Int.reduceToNat, h0, h1, hi, hn, hg, hg']
      refine ⟨_, equal_says a[j].1 b[j].1 (by omega), ?_⟩
      cases e1 : (a[j].1 == b[j].1) with
      | false =>
        have : a ≠ b := fun h => by subst h; simp at e1
        simp only [go_sem, reduceCtorEq, Nat.reduceEqDiff, reduceIte, Nat.reduceAdd, Int.reduceNeg, Nat.reduceBEq, Nat.reduceLT, Nat.reduceLeDiff, Nat.reduceSub, Nat.reduceMul, Int.reduceLT, Int.reduceLE, Int.reduceAdd, Int.reduceEq, Int.reduceBEq, Int.reduceToNat]
        simpa using this
      | true =>
        simp only [go_sem, reduceCtorEq, Nat.reduceEqDiff, reduceIte, Nat.reduceAdd, Int.reduceNeg, Nat.reduceBEq, Nat.reduceLT, Nat.reduceLeDiff, Nat.reduceSub, Nat.reduceMul, Int.reduceLT, Int.reduceLE, Int.reduceAdd, Int.reduceEq, Int.reduceBEq, Int.reduceToNat, h0, h1, hi, hn, hg, hg']
        refine ⟨_, equal_says a[j].2 b[j].2 (by omega), ?_⟩
        cases e2 : (a[j].2 == b[j].2) with
        | false =>
          have : a ≠ b := fun h => by subst h; simp at e2
          simp only [go_sem, reduceCtorEq, Nat.reduceEqDiff, reduceIte, Nat.reduceAdd, Int.reduceNeg, Nat.reduceBEq, Nat.reduceLT, Nat.reduceLeDiff, Nat.reduceSub, Nat.reduceMul, Int.reduceLT, Int.reduceLE, Int.reduceAdd, Int.reduceEq, Int.reduceBEq, Int.reduceToNat]
          simpa using this
        | true =>
          simp only [go_sem, reduceCtorEq, Nat.reduceEqDiff, reduceIte, Nat.reduceAdd, Int.reduceNeg, Nat.reduceBEq, Nat.reduceLT, Nat.reduceLeDiff, Nat.reduceSub, Nat.reduceMul, Int.reduceLT, Int.reduceLE, Int.reduceAdd, Int.reduceEq, Int.reduceBEq, Int.reduceToNat, h0, h1, hi, hn]
          rw [List.take_succ_eq_append_getElem hja, List.take_succ_eq_append_getElem hj, hk]
          have e : a[j] = b[j] := Prod.ext (beq_iff_eq.1 e1) (beq_iff_eq.1 e2)
          rw [e]
    · rintro τ hi hn ⟨h0, h1, hk⟩
      simp only [go_sem, reduceCtorEq, Nat.reduceEqDiff, reduceIte, Nat.reduceAdd, Int.reduceNeg, Nat.reduceBEq, Nat.reduceLT, Nat.reduceLeDiff, Nat.reduceSub, Nat.reduceMul, Int.reduceLT, Int.reduceLE, Int.reduceAdd, Int.reduceEq, Int.reduceBEq, Int.reduceToNat]
      rw [List.take_of_length_le (by omega), List.take_of_length_le (by omega)] at hk
      simp [hk]
  · have h1 : ¬ ((a.length : Int) = (b.length : Int)) := by omega
    have h2 : ((a.length : Int) != (b.length : Int)) = true := by simpa using h1
    simp only [f11, f11c, f11g, f11r, go_sem, reduceCtorEq, Nat.reduceEqDiff, reduceIte, Nat.reduceAdd, Int.reduceNeg, Nat.reduceBEq, Nat.reduceLT, Nat.reduceLeDiff, Nat.reduceSub, Nat.reduceMul, Int.reduceLT, Int.reduceLE, Int.reduceAdd, Int.reduceEq, Int.reduceBEq, Int.reduceToNat, helds_length, h2]
    have : a ≠ b := fun h => hlen (by rw [h])
    simpa using this

def exclF (aE aS bE bS : List Int) : Bool := aE.any (fun x => bE.contains x || bS.contains x) || bE.any (fun x => aS.contains x)
theorem any_take_succ (l : List Int) (p : Int → Bool) (j : Nat) (hj : j < l.length) : (l.take (j + 1)).any p = ((l.take j).any p || p l[j]) := by
  rw [List.take_succ_eq_append_getElem hj, List.any_append]; simp only [List.any_cons, List.any_nil, Bool.or_false]
theorem any_of_at (l : List Int) (p : Int → Bool) (j : Nat) (hj : j < l.length) (h : p l[j] = true) : l.any p = true := List.any_eq_true.2 ⟨l[j], List.getElem_mem hj, h⟩
theorem exclR_says (aE aS bE bS : List Int) (h1 : aE.length < 4611686018427) (h2 : aS.length < 4611686018427) (h3 : bE.length < 4611686018427) (h4 : bS.length < 4611686018427) :
    Says Try.prog 14 [heA aE aS, heA bE bS] (sb (exclF aE aS bE bS)) := by
  refine says_of mix Try.func14 chk14 (of_decide_eq_true (by kernel_rfl)) rfl ?_
  simp only [f14, f14c, f14g, f14r, go_sem, reduceCtorEq, Nat.reduceEqDiff, reduceIte, Nat.reduceAdd, Int.reduceNeg, Nat.reduceBEq, Nat.reduceLT, Nat.reduceLeDiff, Nat.reduceSub, Nat.reduceMul, Int.reduceLT, Int.reduceLE, Int.reduceAdd, Int.reduceEq, Int.reduceBEq, Int.reduceToNat, ints_length]
  refine awp_range aE.length (fun j τ => τ 2 = .own true 2 [[isl aE, isl aS]] ∧ τ 3 = .own true 2 [[isl bE, isl bS]] ∧ τ 10 = isl aE ∧ (aE.take j).any (fun x => bE.contains x || bS.contains x) = false) (by omega) ?_ ?_ ?_ ?_ ?_ (by decide)
  · simp only [go_sem, reduceCtorEq, Nat.reduceEqDiff, reduceIte, Nat.reduceAdd, Int.reduceNeg, Nat.reduceBEq, Nat.reduceLT, Nat.reduceLeDiff, Nat.reduceSub, Nat.reduceMul, Int.reduceLT, Int.reduceLE, Int.reduceAdd, Int.reduceEq, Int.reduceBEq, Int.reduceToNat]
  · simp only [go_sem, reduceCtorEq, Nat.reduceEqDiff, reduceIte, Nat.reduceAdd, Int.reduceNeg, Nat.reduceBEq, Nat.reduceLT, Nat.reduceLeDiff, Nat.reduceSub, Nat.reduceMul, Int.reduceLT, Int.reduceLE, Int.reduceAdd, Int.reduceEq, Int.reduceBEq, Int.reduceToNat]
  · simp only [go_sem, reduceCtorEq, Nat.reduceEqDiff, reduceIte, Nat.reduceAdd, Int.reduceNeg, Nat.reduceBEq, Nat.reduceLT, Nat.reduceLeDiff, Nat.reduceSub, Nat.reduceMul, Int.reduceLT, Int.reduceLE, Int.reduceAdd, Int.reduceEq, Int.reduceBEq, Int.reduceToNat]
  · rintro j τ hj hi hn ⟨t2, t3, t10, hk⟩
    have hg : (ints aE)[j]? = some [si aE[j]] := by rw [ints_get]; simp [hj]
    simp only [go_sem, reduceCtorEq, Nat.reduceEqDiff, reduceIte, Nat.reduceAdd, Int.reduceNeg, Nat.reduceBEq, Nat.reduceLT, Nat.reduceLeDiff, Nat.reduceSub, Nat.reduceMul, Int.reduceLT, Int.reduceLE, Int.reduceAdd, Int.reduceEq, Int.reduceBEq, Int.reduceToNat, t2, t3, t10, hi, hn, hg]
    refine ⟨_, has_says bE aE[j] (by omega), ?_⟩
    cases e1 : bE.contains aE[j] with
    | true =>
      have ha := any_of_at aE (fun x => bE.contains x || bS.contains x) j hj (by simp only [e1, Bool.true_or])
      simp only [go_sem, reduceCtorEq, Nat.reduceEqDiff, reduceIte, Nat.reduceAdd, Int.reduceNeg, Nat.reduceBEq, Nat.reduceLT, Nat.reduceLeDiff, Nat.reduceSub, Nat.reduceMul, Int.reduceLT, Int.reduceLE, Int.reduceAdd, Int.reduceEq, Int.reduceBEq, Int.reduceToNat, exclF, ha]
    | false =>
      simp only [go_sem, reduceCtorEq, Nat.reduceEqDiff, reduceIte, Nat.reduceAdd, Int.reduceNeg, Nat.reduceBEq, Nat.reduceLT, Nat.reduceLeDiff, Nat.reduceSub, Nat.reduceMul, Int.reduceLT, Int.reduceLE, Int.reduceAdd, Int.reduceEq, Int.reduceBEq, Int.reduceToNat, t2, t3, t10, hi, hn, hg]
      refine ⟨_, has_says bS aE[j] (by omega), ?_⟩
      cases e2 : bS.contains aE[j] with
      | true =>
        have ha := any_of_at aE (fun x => bE.contains x || bS.contains x) j hj (by simp only [e2, Bool.or_true])
        simp only [go_sem, reduceCtorEq, Nat.reduceEqDiff, reduceIte, Nat.reduceAdd, Int.reduceNeg, Nat.reduceBEq, Nat.reduceLT, Nat.reduceLeDiff, Nat.reduceSub, Nat.reduceMul, Int.reduceLT, Int.reduceLE, Int.reduceAdd, Int.reduceEq, Int.reduceBEq, Int.reduceToNat, exclF, ha]
      | false =>
        simp only [go_sem, reduceCtorEq, Nat.reduceEqDiff, reduceIte, Nat.reduceAdd, Int.reduceNeg, Nat.reduceBEq, Nat.reduceLT, Nat.reduceLeDiff, Nat.reduceSub, Nat.reduceMul, Int.reduceLT, Int.reduceLE, Int.reduceAdd, Int.reduceEq, Int.reduceBEq, Int.reduceToNat, t2, t3, t10, hi, hn]
        rw [any_take_succ _ _ j hj, hk]
        simp only [e1, e2, Bool.or_self]
  · rintro τ hi hn ⟨t2, t3, t10, hk⟩
    rw [List.take_length] at hk
    simp only [go_sem, reduceCtorEq, Nat.reduceEqDiff, reduceIte, Nat.reduceAdd, Int.reduceNeg, Nat.reduceBEq, Nat.reduceLT, Nat.reduceLeDiff, Nat.reduceSub, Nat.reduceMul, Int.reduceLT, Int.reduceLE, Int.reduceAdd, Int.reduceEq, Int.reduceBEq, Int.reduceToNat, t2, t3, t10, ints_length]
    refine awp_range bE.length (fun j τ => τ 2 = .own true 2 [[isl aE, isl aS]] ∧ τ 28 = isl bE ∧ (bE.take j).any (fun x => aS.contains x) = false) (by omega) ?_ ?_ ?_ ?_ ?_ (by decide)
    · simp only [go_sem, reduceCtorEq, Nat.reduceEqDiff, reduceIte, Nat.reduceAdd, Int.reduceNeg, Nat.reduceBEq, Nat.reduceLT, Nat.reduceLeDiff, Nat.reduceSub, Nat.reduceMul, Int.reduceLT, Int.reduceLE, Int.reduceAdd, Int.reduceEq, Int.reduceBEq, Int.reduceToNat]
    · simp only [go_sem, reduceCtorEq, Nat.reduceEqDiff, reduceIte, Nat.reduceAdd, Int.reduceNeg, Nat.reduceBEq, Nat.reduceLT, Nat.reduceLeDiff, Nat.reduceSub, Nat.reduceMul, Int.reduceLT, Int.reduceLE, Int.reduceAdd, Int.reduceEq, Int.reduceBEq, Int.reduceToNat]
    · simp only [go_sem, reduceCtorEq, Nat.reduceEqDiff, reduceIte, Nat.reduceAdd, Int.reduceNeg, Nat.reduceBEq, Nat.reduceLT, Nat.reduceLeDiff, Nat.reduceSub, Nat.reduceMul, Int.reduceLT, Int.reduceLE, Int.reduceAdd, Int.reduceEq, Int.reduceBEq, Int.reduceToNat, t2]
    · rintro j τ hj hi hn ⟨t2, t28, hk2⟩
      have hg : (ints bE)[j]? = some [si bE[j]] := by rw [ints_get]; simp [hj]
      simp only [go_sem, reduceCtorEq, Nat.reduceEqDiff, reduceIte, Nat.reduceAdd, Int.reduceNeg, Nat.reduceBEq, Nat.reduceLT, Nat.reduceLeDiff, Nat.reduceSub, Nat.reduceMul, Int.reduceLT, Int.reduceLE, Int.reduceAdd, Int.reduceEq, Int.reduceBEq, Int.reduceToNat, t2, t28, hi, hn, hg]
      refine ⟨_, has_says aS bE[j] (by omega), ?_⟩
      cases e1 : aS.contains bE[j] with
      | true =>
        have ha := any_of_at bE (fun x => aS.contains x) j hj e1
        simp only [go_sem, reduceCtorEq, Nat.reduceEqDiff, reduceIte, Nat.reduceAdd, Int.reduceNeg, Nat.reduceBEq, Nat.reduceLT, Nat.reduceLeDiff, Nat.reduceSub, Nat.reduceMul, Int.reduceLT, Int.reduceLE, Int.reduceAdd, Int.reduceEq, Int.reduceBEq, Int.reduceToNat, exclF, ha]
      | false =>
        simp only [go_sem, reduceCtorEq, Nat.reduceEqDiff, reduceIte, Nat.reduceAdd, Int.reduceNeg, Nat.reduceBEq, Nat.reduceLT, Nat.reduceLeDiff, Nat.reduceSub, Nat.reduceMul, Int.reduceLT, Int.reduceLE, Int.reduceAdd, Int.reduceEq, Int.reduceBEq, Int.reduceToNat, t2, t28, hi, hn]
        rw [any_take_succ _ _ j hj, hk2, e1]
        rfl
    · rintro τ hi hn ⟨t2, t28, hk2⟩
      rw [List.take_length] at hk2
      simp only [go_sem, reduceCtorEq, Nat.reduceEqDiff, reduceIte, Nat.reduceAdd, Int.reduceNeg, Nat.reduceBEq, Nat.reduceLT, Nat.reduceLeDiff, Nat.reduceSub, Nat.reduceMul, Int.reduceLT, Int.reduceLE, Int.reduceAdd, Int.reduceEq, Int.reduceBEq, Int.reduceToNat, exclF, hk, hk2]

def exclM (aE aS bE bS : List Int) : Bool := decide (0 < (commonOf aE bE).length) || decide (0 < (commonOf aE bS).length) || decide (0 < (commonOf aS bE).length)
theorem exclI_says (aE aS bE bS : List Int) (h1 : aE.length < 4611686018427) (h2 : aS.length < 4611686018427) (h3 : bE.length < 4611686018427) (h4 : bS.length < 4611686018427) :
    Says Try.prog 15 [heA aE aS, heA bE bS] (sb (exclM aE aS bE bS)) := by
  refine says_of mix Try.func15 chk15 (of_decide_eq_true (by kernel_rfl)) rfl ?_
  simp only [f15, f15c, f15g, f15r, go_sem, reduceCtorEq, Nat.reduceEqDiff, reduceIte, Nat.reduceAdd, Int.reduceNeg, Nat.reduceBEq, Nat.reduceLT, Nat.reduceLeDiff, Nat.reduceSub, Nat.reduceMul, Int.reduceLT, Int.reduceLE, Int.reduceAdd, Int.reduceEq, Int.reduceBEq, Int.reduceToNat]
  refine ⟨_, meet_says aE bE h1 h3, ?_⟩
  cases e1 : decide (0 < (commonOf aE bE).length) with
  | true => simp only [go_sem, reduceCtorEq, Nat.reduceEqDiff, reduceIte, Nat.reduceAdd, Int.reduceNeg, Nat.reduceBEq, Nat.reduceLT, Nat.reduceLeDiff, Nat.reduceSub, Nat.reduceMul, Int.reduceLT, Int.reduceLE, Int.reduceAdd, Int.reduceEq, Int.reduceBEq, Int.reduceToNat, exclM, e1]
  | false =>
    simp only [go_sem, reduceCtorEq, Nat.reduceEqDiff, reduceIte, Nat.reduceAdd, Int.reduceNeg, Nat.reduceBEq, Nat.reduceLT, Nat.reduceLeDiff, Nat.reduceSub, Nat.reduceMul, Int.reduceLT, Int.reduceLE, Int.reduceAdd, Int.reduceEq, Int.reduceBEq, Int.reduceToNat]
    refine ⟨_, meet_says aE bS h1 h4, ?_⟩
    cases e2 : decide (0 < (commonOf aE bS).length) with
    | true => simp only [go_sem, reduceCtorEq, Nat.reduceEqDiff, reduceIte, Nat.reduceAdd, Int.reduceNeg, Nat.reduceBEq, Nat.reduceLT, Nat.reduceLeDiff, Nat.reduceSub, Nat.reduceMul, Int.reduceLT, Int.reduceLE, Int.reduceAdd, Int.reduceEq, Int.reduceBEq, Int.reduceToNat, exclM, e1, e2]
    | false =>
      simp only [go_sem, reduceCtorEq, Nat.reduceEqDiff, reduceIte, Nat.reduceAdd, Int.reduceNeg, Nat.reduceBEq, Nat.reduceLT, Nat.reduceLeDiff, Nat.reduceSub, Nat.reduceMul, Int.reduceLT, Int.reduceLE, Int.reduceAdd, Int.reduceEq, Int.reduceBEq, Int.reduceToNat]
      refine ⟨_, meet_says aS bE h2 h3, ?_⟩
      simp only [go_sem, reduceCtorEq, Nat.reduceEqDiff, reduceIte, Nat.reduceAdd, Int.reduceNeg, Nat.reduceBEq, Nat.reduceLT, Nat.reduceLeDiff, Nat.reduceSub, Nat.reduceMul, Int.reduceLT, Int.reduceLE, Int.reduceAdd, Int.reduceEq, Int.reduceBEq, Int.reduceToNat, exclM, e1, e2]

theorem common_pos (a b : List Int) : decide (0 < (commonOf a b).length) = a.any (fun x => b.contains x) := by
  rw [Bool.eq_iff_iff]
  simp only [decide_eq_true_eq, List.length_pos_iff_exists_mem, List.any_eq_true, commonOf, List.mem_filter, mem_setOf, List.contains_eq_mem]
theorem excl_eq (aE aS bE bS : List Int) : exclM aE aS bE bS = exclF aE aS bE bS := by
  unfold exclM exclF
  rw [common_pos, common_pos, common_pos, Bool.eq_iff_iff]
  simp only [Bool.or_eq_true, List.any_eq_true, List.contains_eq_mem, decide_eq_true_eq]
  constructor
  · rintro ((⟨x, h1, h2⟩ | ⟨x, h1, h2⟩) | ⟨x, h1, h2⟩)
    · exact .inl ⟨x, h1, .inl h2⟩
    · exact .inl ⟨x, h1, .inr h2⟩
    · exact .inr ⟨x, h2, h1⟩
  · rintro (⟨x, h1, h2 | h2⟩ | ⟨x, h1, h2⟩)
    · exact .inl (.inl ⟨x, h1, h2⟩)
    · exact .inl (.inr ⟨x, h1, h2⟩)
    · exact .inr ⟨x, h2, h1⟩
theorem exclF_comm (aE aS bE bS : List Int) : exclF bE bS aE aS = exclF aE aS bE bS := by
  unfold exclF
  rw [Bool.eq_iff_iff]
  simp only [Bool.or_eq_true, List.any_eq_true, List.contains_eq_mem, decide_eq_true_eq]
  constructor
  · rintro (⟨x, h1, h2 | h2⟩ | ⟨x, h1, h2⟩)
    · exact .inl ⟨x, h2, .inl h1⟩
    · exact .inr ⟨x, h1, h2⟩
    · exact .inl ⟨x, h1, .inr h2⟩
  · rintro (⟨x, h1, h2 | h2⟩ | ⟨x, h1, h2⟩)
    · exact .inl ⟨x, h2, .inl h1⟩
    · exact .inr ⟨x, h1, h2⟩
    · exact .inl ⟨x, h1, .inr h2⟩
end Go.Abs
