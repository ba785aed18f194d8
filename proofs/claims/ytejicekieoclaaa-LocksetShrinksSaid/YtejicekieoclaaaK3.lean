/- The state of a cell: lockset.Step. -/
import Derived.Test.YtejicekieoclaaaK2
set_option linter.unusedSimpArgs false
namespace Go.Abs
open Go.Proofs Go.Sort
set_option maxRecDepth 100000
set_option maxHeartbeats 4000000
def f8c : IC := (.seq (.reg [⟨some ⟨4, [22, 32, 43, 45], []⟩, .bx 3 (.t 0), none⟩,
  ⟨some ⟨7, [12, 16, 18], []⟩, .bx 2 (.t 3), none⟩,
  ⟨some ⟨8, [], []⟩, .bx 3 (.c (.agg [.sc (.int .i64 0), .sc (.int .i64 0), .sl true 1 []])), none⟩,
  ⟨some ⟨9, [], []⟩, .mv (.c (.sc (.bool false))), none⟩])
 (.seq (.reg [⟨some ⟨12, [], [7]⟩, .fad 0 (.t 7), none⟩,
  ⟨some ⟨13, [], []⟩, .ld false 1 (.t 12), none⟩,
  ⟨some ⟨10, [], []⟩, .mv (.t 13), none⟩])
 (.seq (.seq (.reg [⟨some ⟨14, [], []⟩, .cp (.t 2), none⟩,
  ⟨some ⟨15, [], []⟩, .un .not (.t 14), none⟩])
 (.cond (.t 15) (.reg [⟨some ⟨16, [], [7]⟩, .fad 0 (.t 7), none⟩,
  ⟨some ⟨17, [], []⟩, .ld false 1 (.t 16), none⟩,
  ⟨some ⟨18, [], [7]⟩, .fad 1 (.t 7), none⟩,
  ⟨some ⟨19, [], []⟩, .ld false 1 (.t 18), none⟩,
  ⟨some ⟨20, [], []⟩, .bsl 1 [[.sl true 1 []], [.sl true 1 []]] [(0, (.t 17)), (1, (.t 19))], none⟩,
  ⟨some ⟨21, [], []⟩, .call 16 [(.t 20)] 1, none⟩,
  ⟨some ⟨10, [], []⟩, .mv (.t 21), none⟩]) .skip))
 (.seq (.reg [⟨some ⟨11, [51, 53, 57], []⟩, .bx 3 (.c (.agg [.sc (.int .i64 0), .sc (.int .i64 0), .sl true 1 []])), none⟩])
 (.seq (.seq (.reg [⟨some ⟨22, [], [4]⟩, .fad 0 (.t 4), none⟩,
  ⟨some ⟨23, [], []⟩, .ld false 1 (.t 22), none⟩])
 (.block 0 (.seq (.reg [⟨some ⟨26, [], []⟩, .bin .eql (.t 23) (.c (.sc (.int .i64 0))), none⟩,
  ⟨some ⟨25, [], []⟩, .mv (.t 26), none⟩])
 (.cond (.t 25) (.seq (.reg [⟨some ⟨27, [], []⟩, .cp (.t 1), none⟩,
  ⟨some ⟨28, [], []⟩, .bld [.sc (.int .i64 0), .sc (.int .i64 0), .sl true 1 []] [(0, 1, (.c (.sc (.int .i64 1)))), (1, 1, (.t 27))], none⟩,
  ⟨none, .st 3 (.t 8) (.t 28), none⟩,
  ⟨some ⟨9, [], []⟩, .mv (.c (.sc (.bool false))), none⟩])
 .ret) (.seq (.reg [⟨some ⟨30, [], []⟩, .bin .eql (.t 23) (.c (.sc (.int .i64 1))), none⟩,
  ⟨some ⟨29, [], []⟩, .mv (.t 30), none⟩])
 (.cond (.t 29) (.seq (.seq (.reg [⟨some ⟨31, [], []⟩, .cp (.t 1), none⟩,
  ⟨some ⟨32, [], [4]⟩, .fad 1 (.t 4), none⟩,
  ⟨some ⟨33, [], []⟩, .ld false 1 (.t 32), none⟩,
  ⟨some ⟨34, [], []⟩, .bin .eql (.t 31) (.t 33), none⟩])
 (.cond (.t 34) (.seq (.reg [⟨some ⟨35, [], []⟩, .cp (.t 1), none⟩,
  ⟨some ⟨36, [], []⟩, .bld [.sc (.int .i64 0), .sc (.int .i64 0), .sl true 1 []] [(0, 1, (.c (.sc (.int .i64 1)))), (1, 1, (.t 35))], none⟩,
  ⟨none, .st 3 (.t 8) (.t 36), none⟩,
  ⟨some ⟨9, [], []⟩, .mv (.c (.sc (.bool false))), none⟩])
 .ret) .skip))
 (.reg [⟨some ⟨37, [], []⟩, .cp (.t 10), none⟩,
  ⟨some ⟨38, [], []⟩, .call 17 [(.t 37)] 1, none⟩,
  ⟨some ⟨39, [], []⟩, .bld [.sc (.int .i64 0), .sc (.int .i64 0), .sl true 1 []] [(0, 1, (.c (.sc (.int .i64 2)))), (2, 1, (.t 38))], none⟩,
  ⟨none, .st 3 (.t 11) (.t 39), none⟩])) (.seq (.seq (.reg [⟨some ⟨41, [], []⟩, .bin .eql (.t 23) (.c (.sc (.int .i64 2))), none⟩,
  ⟨some ⟨40, [], []⟩, .mv (.t 41), none⟩])
 (.cond (.t 40) .skip (.reg [⟨some ⟨42, [], []⟩, .bin .eql (.t 23) (.c (.sc (.int .i64 3))), none⟩,
  ⟨some ⟨40, [], []⟩, .mv (.t 42), none⟩])))
 (.cond (.t 40) (.reg [⟨some ⟨43, [], [4]⟩, .fad 0 (.t 4), none⟩,
  ⟨some ⟨44, [], []⟩, .ld false 1 (.t 43), none⟩,
  ⟨some ⟨45, [], [4]⟩, .fad 2 (.t 4), none⟩,
  ⟨some ⟨46, [], []⟩, .ld false 1 (.t 45), none⟩,
  ⟨some ⟨47, [], []⟩, .cp (.t 10), none⟩,
  ⟨some ⟨48, [], []⟩, .call 18 [(.t 46), (.t 47)] 1, none⟩,
  ⟨some ⟨49, [], []⟩, .bld [.sc (.int .i64 0), .sc (.int .i64 0), .sl true 1 []] [(0, 1, (.t 44)), (2, 1, (.t 48))], none⟩,
  ⟨none, .st 3 (.t 11) (.t 49), none⟩]) (.seq (.reg [⟨some ⟨24, [], []⟩, .bld [.sc (.int .i64 0), .sc (.int .i64 0), .sl true 1 []] [], none⟩,
  ⟨none, .st 3 (.t 8) (.t 24), none⟩,
  ⟨some ⟨9, [], []⟩, .mv (.c (.sc (.bool false))), none⟩])
 .ret)))))))))
 (.seq (.seq (.reg [⟨some ⟨50, [], []⟩, .cp (.t 2), none⟩])
 (.cond (.t 50) (.reg [⟨some ⟨51, [], [11]⟩, .fad 0 (.t 11), none⟩,
  ⟨none, .st 1 (.t 51) (.c (.sc (.int .i64 3))), none⟩]) .skip))
 (.seq (.reg [⟨some ⟨52, [], []⟩, .ld true 3 (.t 11), none⟩,
  ⟨some ⟨53, [], [11]⟩, .fad 0 (.t 11), none⟩,
  ⟨some ⟨54, [], []⟩, .ld false 1 (.t 53), none⟩,
  ⟨some ⟨55, [], []⟩, .bin .eql (.t 54) (.c (.sc (.int .i64 3))), none⟩,
  ⟨some ⟨56, [], []⟩, .cp (.t 55), none⟩,
  ⟨some ⟨57, [], [11]⟩, .fad 2 (.t 11), (some (56, true))⟩,
  ⟨some ⟨58, [], []⟩, .ld false 1 (.t 57), (some (56, true))⟩,
  ⟨some ⟨59, [], []⟩, .len (.t 58), (some (56, true))⟩,
  ⟨some ⟨60, [], []⟩, .bin .eql (.t 59) (.c (.sc (.int .i64 0))), (some (56, true))⟩,
  ⟨some ⟨61, [], []⟩, .pick (.t 56) (.t 60) (.c (.sc (.bool false))), none⟩,
  ⟨none, .st 3 (.t 8) (.t 52), none⟩,
  ⟨some ⟨9, [], []⟩, .mv (.t 61), none⟩])
 .ret)))))))
def f8g : Gi := ⟨[(12, [7]), (16, [7]), (18, [7]), (22, [4]), (32, [4]), (43, [4]), (45, [4]), (51, [11]), (53, [11]), (57, [11])]⟩
def f8r : List RV := [.cell 8 true 3, .tmp 9]
def f8 : FI := ⟨f8c, f8g, f8r⟩

theorem chk8 : chkF Try.prog Try.f8 f8 = true := by kernel_rfl
abbrev isl (l : List Int) : AV := .sl false 1 (ints l)
abbrev erA (st ow : Int) (L : List Int) : AV := .agg [si st, si ow, isl L]
abbrev heA (E S : List Int) : AV := .agg [isl E, isl S]
def lks (wr : Bool) (E S : List Int) : List Int := if wr then E else E ++ S
def stepF (st ow : Int) (L : List Int) (th : Int) (wr : Bool) (E S : List Int) : Int × Int × List Int × Bool :=
  if st = 0 then (1, th, [], false)
  else if st = 1 then (if th = ow then (1, th, [], false) else (if wr then 3 else 2, 0, setOf (lks wr E S), wr && (setOf (lks wr E S)).length == 0))
  else if st = 2 ∨ st = 3 then (if wr then 3 else st, 0, commonOf L (lks wr E S), (wr || st == 3) && (commonOf L (lks wr E S)).length == 0)
  else (0, 0, [], false)
def stepR (r : Int × Int × List Int × Bool) : AV := .tup [erA r.1 r.2.1 r.2.2.1, sb r.2.2.2]

theorem nbz (n : Nat) : ((n : Int) == 0) = (n == 0) := by
  rw [Bool.eq_iff_iff]; simp
theorem step_says (st ow : Int) (L : List Int) (th : Int) (wr : Bool) (E S : List Int) (hL : L.length < 4611686018427) (hE : E.length + S.length < 4611686018427) :
    Says Try.prog 8 [erA st ow L, si th, sb wr, heA E S] (stepR (stepF st ow L th wr E S)) := by
  refine says_frz mix Try.func8 chk8 (of_decide_eq_true (by kernel_rfl)) rfl ?_
  have hcc := concat_says [E, S] (by simp; omega) (by simp)
  simp only [ilists, List.map_cons, List.map_nil, List.flatten_cons, List.flatten_nil, List.append_nil] at hcc
  have hlk : (lks wr E S).length < 4611686018427 := by
    unfold lks
    split
    · omega
    · rw [List.length_append]; exact hE
  have hset := set_says (lks wr E S) hlk
  have hcom := common_says L (lks wr E S) hL hlk
  by_cases h0 : st = 0
  · subst h0
    cases wr with
    | true =>
      simp only [f8, f8c, f8g, f8r, go_sem, reduceCtorEq, Nat.reduceEqDiff, reduceIte, Nat.reduceAdd, Int.reduceNeg, Nat.reduceBEq, Nat.reduceLT, Nat.reduceLeDiff, Nat.reduceSub, Nat.reduceMul, Int.reduceLT, Int.reduceLE, Int.reduceAdd, Int.reduceEq, Int.reduceBEq, Int.reduceToNat, stepF, stepR, ints_nil]
    | false =>
      simp only [f8, f8c, f8g, f8r, go_sem, reduceCtorEq, Nat.reduceEqDiff, reduceIte, Nat.reduceAdd, Int.reduceNeg, Nat.reduceBEq, Nat.reduceLT, Nat.reduceLeDiff, Nat.reduceSub, Nat.reduceMul, Int.reduceLT, Int.reduceLE, Int.reduceAdd, Int.reduceEq, Int.reduceBEq, Int.reduceToNat]
      refine ⟨_, hcc, ?_⟩
      simp only [go_sem, reduceCtorEq, Nat.reduceEqDiff, reduceIte, Nat.reduceAdd, Int.reduceNeg, Nat.reduceBEq, Nat.reduceLT, Nat.reduceLeDiff, Nat.reduceSub, Nat.reduceMul, Int.reduceLT, Int.reduceLE, Int.reduceAdd, Int.reduceEq, Int.reduceBEq, Int.reduceToNat, stepF, stepR, ints_nil]
  · have b0 : (st == 0) = false := by simpa using h0
    by_cases h1 : st = 1
    · subst h1
      cases e : (th == ow) with
      | true =>
        have e' := beq_iff_eq.1 e
        cases wr with
        | true =>
          simp only [f8, f8c, f8g, f8r, go_sem, reduceCtorEq, Nat.reduceEqDiff, reduceIte, Nat.reduceAdd, Int.reduceNeg, Nat.reduceBEq, Nat.reduceLT, Nat.reduceLeDiff, Nat.reduceSub, Nat.reduceMul, Int.reduceLT, Int.reduceLE, Int.reduceAdd, Int.reduceEq, Int.reduceBEq, Int.reduceToNat, e, stepF, stepR, ints_nil, e']
        | false =>
          simp only [f8, f8c, f8g, f8r, go_sem, reduceCtorEq, Nat.reduceEqDiff, reduceIte, Nat.reduceAdd, Int.reduceNeg, Nat.reduceBEq, Nat.reduceLT, Nat.reduceLeDiff, Nat.reduceSub, Nat.reduceMul, Int.reduceLT, Int.reduceLE, Int.reduceAdd, Int.reduceEq, Int.reduceBEq, Int.reduceToNat]
          refine ⟨_, hcc, ?_⟩
          simp only [go_sem, reduceCtorEq, Nat.reduceEqDiff, reduceIte, Nat.reduceAdd, Int.reduceNeg, Nat.reduceBEq, Nat.reduceLT, Nat.reduceLeDiff, Nat.reduceSub, Nat.reduceMul, Int.reduceLT, Int.reduceLE, Int.reduceAdd, Int.reduceEq, Int.reduceBEq, Int.reduceToNat, e, stepF, stepR, ints_nil, e']
      | false =>
        have e' : ¬ th = ow := by simpa using e
        cases wr with
        | true =>
          simp only [lks, if_true] at hset
          simp only [f8, f8c, f8g, f8r, go_sem, reduceCtorEq, Nat.reduceEqDiff, reduceIte, Nat.reduceAdd, Int.reduceNeg, Nat.reduceBEq, Nat.reduceLT, Nat.reduceLeDiff, Nat.reduceSub, Nat.reduceMul, Int.reduceLT, Int.reduceLE, Int.reduceAdd, Int.reduceEq, Int.reduceBEq, Int.reduceToNat, e]
          refine ⟨_, hset, ?_⟩
          simp only [go_sem, reduceCtorEq, Nat.reduceEqDiff, reduceIte, Nat.reduceAdd, Int.reduceNeg, Nat.reduceBEq, Nat.reduceLT, Nat.reduceLeDiff, Nat.reduceSub, Nat.reduceMul, Int.reduceLT, Int.reduceLE, Int.reduceAdd, Int.reduceEq, Int.reduceBEq, Int.reduceToNat, frz_ints, e, stepF, stepR, e', lks, ints_length, nbz]
        | false =>
          simp only [lks, Bool.false_eq_true, if_false] at hset
          simp only [f8, f8c, f8g, f8r, go_sem, reduceCtorEq, Nat.reduceEqDiff, reduceIte, Nat.reduceAdd, Int.reduceNeg, Nat.reduceBEq, Nat.reduceLT, Nat.reduceLeDiff, Nat.reduceSub, Nat.reduceMul, Int.reduceLT, Int.reduceLE, Int.reduceAdd, Int.reduceEq, Int.reduceBEq, Int.reduceToNat]
          refine ⟨_, hcc, ?_⟩
          simp only [go_sem, reduceCtorEq, Nat.reduceEqDiff, reduceIte, Nat.reduceAdd, Int.reduceNeg, Nat.reduceBEq, Nat.reduceLT, Nat.reduceLeDiff, Nat.reduceSub, Nat.reduceMul, Int.reduceLT, Int.reduceLE, Int.reduceAdd, Int.reduceEq, Int.reduceBEq, Int.reduceToNat, e, frz_ints]
          refine ⟨_, hset, ?_⟩
          simp only [go_sem, reduceCtorEq, Nat.reduceEqDiff, reduceIte, Nat.reduceAdd, Int.reduceNeg, Nat.reduceBEq, Nat.reduceLT, Nat.reduceLeDiff, Nat.reduceSub, Nat.reduceMul, Int.reduceLT, Int.reduceLE, Int.reduceAdd, Int.reduceEq, Int.reduceBEq, Int.reduceToNat, frz_ints, e, stepF, stepR, e', lks, ints_length]
    · have b1 : (st == 1) = false := by simpa using h1
      by_cases h2 : st = 2
      · subst h2
        cases wr with
        | true =>
          simp only [lks, if_true] at hcom
          simp only [f8, f8c, f8g, f8r, go_sem, reduceCtorEq, Nat.reduceEqDiff, reduceIte, Nat.reduceAdd, Int.reduceNeg, Nat.reduceBEq, Nat.reduceLT, Nat.reduceLeDiff, Nat.reduceSub, Nat.reduceMul, Int.reduceLT, Int.reduceLE, Int.reduceAdd, Int.reduceEq, Int.reduceBEq, Int.reduceToNat]
          refine ⟨_, hcom, ?_⟩
          simp only [go_sem, reduceCtorEq, Nat.reduceEqDiff, reduceIte, Nat.reduceAdd, Int.reduceNeg, Nat.reduceBEq, Nat.reduceLT, Nat.reduceLeDiff, Nat.reduceSub, Nat.reduceMul, Int.reduceLT, Int.reduceLE, Int.reduceAdd, Int.reduceEq, Int.reduceBEq, Int.reduceToNat, frz_ints, stepF, stepR, lks, ints_length, nbz]
        | false =>
          simp only [lks, Bool.false_eq_true, if_false] at hcom
          simp only [f8, f8c, f8g, f8r, go_sem, reduceCtorEq, Nat.reduceEqDiff, reduceIte, Nat.reduceAdd, Int.reduceNeg, Nat.reduceBEq, Nat.reduceLT, Nat.reduceLeDiff, Nat.reduceSub, Nat.reduceMul, Int.reduceLT, Int.reduceLE, Int.reduceAdd, Int.reduceEq, Int.reduceBEq, Int.reduceToNat]
          refine ⟨_, hcc, ?_⟩
          simp only [go_sem, reduceCtorEq, Nat.reduceEqDiff, reduceIte, Nat.reduceAdd, Int.reduceNeg, Nat.reduceBEq, Nat.reduceLT, Nat.reduceLeDiff, Nat.reduceSub, Nat.reduceMul, Int.reduceLT, Int.reduceLE, Int.reduceAdd, Int.reduceEq, Int.reduceBEq, Int.reduceToNat, frz_ints]
          refine ⟨_, hcom, ?_⟩
          simp only [go_sem, reduceCtorEq, Nat.reduceEqDiff, reduceIte, Nat.reduceAdd, Int.reduceNeg, Nat.reduceBEq, Nat.reduceLT, Nat.reduceLeDiff, Nat.reduceSub, Nat.reduceMul, Int.reduceLT, Int.reduceLE, Int.reduceAdd, Int.reduceEq, Int.reduceBEq, Int.reduceToNat, frz_ints, stepF, stepR, lks, ints_length, nbz]
      · have b2 : (st == 2) = false := by simpa using h2
        by_cases h3 : st = 3
        · subst h3
          cases wr with
          | true =>
            simp only [lks, if_true] at hcom
            simp only [f8, f8c, f8g, f8r, go_sem, reduceCtorEq, Nat.reduceEqDiff, reduceIte, Nat.reduceAdd, Int.reduceNeg, Nat.reduceBEq, Nat.reduceLT, Nat.reduceLeDiff, Nat.reduceSub, Nat.reduceMul, Int.reduceLT, Int.reduceLE, Int.reduceAdd, Int.reduceEq, Int.reduceBEq, Int.reduceToNat]
            refine ⟨_, hcom, ?_⟩
            simp only [go_sem, reduceCtorEq, Nat.reduceEqDiff, reduceIte, Nat.reduceAdd, Int.reduceNeg, Nat.reduceBEq, Nat.reduceLT, Nat.reduceLeDiff, Nat.reduceSub, Nat.reduceMul, Int.reduceLT, Int.reduceLE, Int.reduceAdd, Int.reduceEq, Int.reduceBEq, Int.reduceToNat, frz_ints, stepF, stepR, lks, ints_length, nbz]
          | false =>
            simp only [lks, Bool.false_eq_true, if_false] at hcom
            simp only [f8, f8c, f8g, f8r, go_sem, reduceCtorEq, Nat.reduceEqDiff, reduceIte, Nat.reduceAdd, Int.reduceNeg, Nat.reduceBEq, Nat.reduceLT, Nat.reduceLeDiff, Nat.reduceSub, Nat.reduceMul, Int.reduceLT, Int.reduceLE, Int.reduceAdd, Int.reduceEq, Int.reduceBEq, Int.reduceToNat]
            refine ⟨_, hcc, ?_⟩
            simp only [go_sem, reduceCtorEq, Nat.reduceEqDiff, reduceIte, Nat.reduceAdd, Int.reduceNeg, Nat.reduceBEq, Nat.reduceLT, Nat.reduceLeDiff, Nat.reduceSub, Nat.reduceMul, Int.reduceLT, Int.reduceLE, Int.reduceAdd, Int.reduceEq, Int.reduceBEq, Int.reduceToNat, frz_ints]
            refine ⟨_, hcom, ?_⟩
            simp only [go_sem, reduceCtorEq, Nat.reduceEqDiff, reduceIte, Nat.reduceAdd, Int.reduceNeg, Nat.reduceBEq, Nat.reduceLT, Nat.reduceLeDiff, Nat.reduceSub, Nat.reduceMul, Int.reduceLT, Int.reduceLE, Int.reduceAdd, Int.reduceEq, Int.reduceBEq, Int.reduceToNat, frz_ints, stepF, stepR, lks, ints_length, nbz]
        · have b3 : (st == 3) = false := by simpa using h3
          cases wr with
          | true =>
            simp only [f8, f8c, f8g, f8r, go_sem, reduceCtorEq, Nat.reduceEqDiff, reduceIte, Nat.reduceAdd, Int.reduceNeg, Nat.reduceBEq, Nat.reduceLT, Nat.reduceLeDiff, Nat.reduceSub, Nat.reduceMul, Int.reduceLT, Int.reduceLE, Int.reduceAdd, Int.reduceEq, Int.reduceBEq, Int.reduceToNat, b0, b1, b2, b3, stepF, stepR, h0, h1, h2, h3, ints_nil]
          | false =>
            simp only [f8, f8c, f8g, f8r, go_sem, reduceCtorEq, Nat.reduceEqDiff, reduceIte, Nat.reduceAdd, Int.reduceNeg, Nat.reduceBEq, Nat.reduceLT, Nat.reduceLeDiff, Nat.reduceSub, Nat.reduceMul, Int.reduceLT, Int.reduceLE, Int.reduceAdd, Int.reduceEq, Int.reduceBEq, Int.reduceToNat]
            refine ⟨_, hcc, ?_⟩
            simp only [go_sem, reduceCtorEq, Nat.reduceEqDiff, reduceIte, Nat.reduceAdd, Int.reduceNeg, Nat.reduceBEq, Nat.reduceLT, Nat.reduceLeDiff, Nat.reduceSub, Nat.reduceMul, Int.reduceLT, Int.reduceLE, Int.reduceAdd, Int.reduceEq, Int.reduceBEq, Int.reduceToNat, frz_ints, b0, b1, b2, b3, stepF, stepR, h0, h1, h2, h3, ints_nil]
end Go.Abs
