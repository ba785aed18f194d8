/- The law LocksetShrinks. -/
import Derived.Test.YtejicekieoclaaaK8
set_option linter.unusedSimpArgs false
namespace Go.Abs
open Go.Proofs Go.Sort
set_option maxRecDepth 100000
set_option maxHeartbeats 4000000
def f5c : IC := (.seq (.reg [⟨some ⟨2, [], []⟩, .mv (.c (.sc (.bool false))), none⟩])
 (.seq (.reg [⟨some ⟨10, [], []⟩, .bld [.sc (.int .i64 0), .sc (.int .i64 0), .sl true 1 []] [], none⟩,
  ⟨some ⟨3, [38, 74, 80, 108, 112], []⟩, .bx 3 (.c (.agg [.sc (.int .i64 0), .sc (.int .i64 0), .sl true 1 []])), none⟩,
  ⟨none, .st 3 (.t 3) (.t 10), none⟩])
 (.seq (.seq (.reg [⟨some ⟨11, [], []⟩, .cp (.t 0), none⟩,
  ⟨some ⟨12, [], []⟩, .len (.t 11), none⟩,
  ⟨some ⟨13, [], []⟩, .cp (.c (.sc (.int .i64 0))), none⟩])
 (.block 0 (.loop (.seq (.reg [⟨some ⟨14, [], []⟩, .bin .lss (.t 13) (.t 12), none⟩])
 (.seq (.cond (.t 14) .skip (.exit 0))
 (.seq (.block 1 (.seq (.reg [⟨some ⟨15, [], []⟩, .cp (.t 13), none⟩,
  ⟨some ⟨16, [], []⟩, .iad 3 (.t 11) (.t 13), none⟩,
  ⟨some ⟨17, [], []⟩, .ld true 3 (.t 16), none⟩,
  ⟨some ⟨5, [22, 26, 30], []⟩, .bx 3 (.c (.agg [.sc (.int .u8 0), .sc (.int .u8 0), .sc (.int .u8 0)])), none⟩,
  ⟨some ⟨4, [], []⟩, .mv (.t 15), none⟩,
  ⟨none, .st 3 (.t 5) (.t 17), none⟩])
 (.seq (.seq (.reg [⟨some ⟨18, [], []⟩, .cp (.t 4), none⟩,
  ⟨some ⟨19, [], []⟩, .bin .geq (.t 18) (.c (.sc (.int .i64 60))), none⟩])
 (.cond (.t 19) (.exit 0) .skip))
 (.seq (.reg [⟨some ⟨21, [], []⟩, .ld true 3 (.t 3), none⟩,
  ⟨some ⟨22, [], [5]⟩, .aad 3 1 (.t 5) (.c (.sc (.int .i64 0))), none⟩,
  ⟨some ⟨23, [], []⟩, .ld false 1 (.t 22), none⟩,
  ⟨some ⟨24, [], []⟩, .cvt .i64 (.t 23), none⟩,
  ⟨some ⟨25, [], []⟩, .bin .rem (.t 24) (.c (.sc (.int .i64 3))), none⟩,
  ⟨some ⟨26, [], [5]⟩, .aad 3 1 (.t 5) (.c (.sc (.int .i64 1))), none⟩,
  ⟨some ⟨27, [], []⟩, .ld false 1 (.t 26), none⟩,
  ⟨some ⟨28, [], []⟩, .bin .rem (.t 27) (.c (.sc (.int .u8 2))), none⟩,
  ⟨some ⟨29, [], []⟩, .bin .eql (.t 28) (.c (.sc (.int .u8 1))), none⟩,
  ⟨some ⟨30, [], [5]⟩, .aad 3 1 (.t 5) (.c (.sc (.int .i64 2))), none⟩,
  ⟨some ⟨31, [], []⟩, .ld false 1 (.t 30), none⟩,
  ⟨some ⟨32, [], []⟩, .call 7 [(.t 31)] 1, none⟩,
  ⟨some ⟨33, [], []⟩, .call 8 [(.t 21), (.t 25), (.t 29), (.t 32)] 1, none⟩,
  ⟨some ⟨20, [], []⟩, .cp (.t 33), none⟩,
  ⟨some ⟨34, [], []⟩, .ext (.t 20) 0, none⟩,
  ⟨some ⟨35, [], []⟩, .ext (.t 20) 1, none⟩,
  ⟨some ⟨6, [36, 42, 47, 53, 57, 65, 69, 78, 87, 98], []⟩, .bx 3 (.c (.agg [.sc (.int .i64 0), .sc (.int .i64 0), .sl true 1 []])), none⟩,
  ⟨none, .st 3 (.t 6) (.t 34), none⟩,
  ⟨some ⟨7, [], []⟩, .mv (.t 35), none⟩])
 (.seq (.seq (.reg [⟨some ⟨36, [], [6]⟩, .fad 0 (.t 6), none⟩,
  ⟨some ⟨37, [], []⟩, .ld false 1 (.t 36), none⟩,
  ⟨some ⟨38, [], [3]⟩, .fad 0 (.t 3), none⟩,
  ⟨some ⟨39, [], []⟩, .ld false 1 (.t 38), none⟩,
  ⟨some ⟨40, [], []⟩, .bin .lss (.t 37) (.t 39), none⟩,
  ⟨some ⟨41, [], []⟩, .cp (.t 40), none⟩,
  ⟨some ⟨42, [], [6]⟩, .fad 0 (.t 6), (some (41, false))⟩,
  ⟨some ⟨43, [], []⟩, .ld false 1 (.t 42), (some (41, false))⟩,
  ⟨some ⟨44, [], []⟩, .bin .lss (.t 43) (.c (.sc (.int .i64 1))), (some (41, false))⟩,
  ⟨some ⟨45, [], []⟩, .pick (.t 41) (.c (.sc (.bool true))) (.t 44), none⟩,
  ⟨some ⟨46, [], []⟩, .cp (.t 45), none⟩,
  ⟨some ⟨47, [], [6]⟩, .fad 0 (.t 6), (some (46, false))⟩,
  ⟨some ⟨48, [], []⟩, .ld false 1 (.t 47), (some (46, false))⟩,
  ⟨some ⟨49, [], []⟩, .bin .gtr (.t 48) (.c (.sc (.int .i64 3))), (some (46, false))⟩,
  ⟨some ⟨50, [], []⟩, .pick (.t 46) (.c (.sc (.bool true))) (.t 49), none⟩,
  ⟨some ⟨51, [], []⟩, .cp (.t 50), none⟩,
  ⟨some ⟨52, [], []⟩, .cp (.t 7), (some (51, false))⟩,
  ⟨some ⟨53, [], [6]⟩, .fad 0 (.t 6), (some (51, false))⟩,
  ⟨some ⟨54, [], []⟩, .ld false 1 (.t 53), (some (51, false))⟩,
  ⟨some ⟨55, [], []⟩, .bin .eql (.t 54) (.c (.sc (.int .i64 3))), (some (51, false))⟩,
  ⟨some ⟨56, [], []⟩, .cp (.t 55), (some (51, false))⟩,
  ⟨some ⟨57, [], [6]⟩, .fad 2 (.t 6), (some (56, true))⟩,
  ⟨some ⟨58, [], []⟩, .ld false 1 (.t 57), (some (56, true))⟩,
  ⟨some ⟨59, [], []⟩, .len (.t 58), (some (56, true))⟩,
  ⟨some ⟨60, [], []⟩, .bin .eql (.t 59) (.c (.sc (.int .i64 0))), (some (56, true))⟩,
  ⟨some ⟨61, [], []⟩, .pick (.t 56) (.t 60) (.c (.sc (.bool false))), (some (51, false))⟩,
  ⟨some ⟨62, [], []⟩, .beq true (.t 52) (.t 61), (some (51, false))⟩,
  ⟨some ⟨63, [], []⟩, .pick (.t 51) (.c (.sc (.bool true))) (.t 62), none⟩,
  ⟨some ⟨64, [], []⟩, .cp (.t 63), none⟩,
  ⟨some ⟨65, [], [6]⟩, .fad 0 (.t 6), (some (64, false))⟩,
  ⟨some ⟨66, [], []⟩, .ld false 1 (.t 65), (some (64, false))⟩,
  ⟨some ⟨67, [], []⟩, .bin .eql (.t 66) (.c (.sc (.int .i64 1))), (some (64, false))⟩,
  ⟨some ⟨68, [], []⟩, .cp (.t 67), (some (64, false))⟩,
  ⟨some ⟨69, [], [6]⟩, .fad 2 (.t 6), (some (68, true))⟩,
  ⟨some ⟨70, [], []⟩, .ld false 1 (.t 69), (some (68, true))⟩,
  ⟨some ⟨71, [], []⟩, .len (.t 70), (some (68, true))⟩,
  ⟨some ⟨72, [], []⟩, .bin .gtr (.t 71) (.c (.sc (.int .i64 0))), (some (68, true))⟩,
  ⟨some ⟨73, [], []⟩, .cp (.t 72), (some (68, true))⟩,
  ⟨some ⟨74, [], [3]⟩, .fad 0 (.t 3), (some (73, false))⟩,
  ⟨some ⟨75, [], []⟩, .ld false 1 (.t 74), (some (73, false))⟩,
  ⟨some ⟨76, [], []⟩, .bin .eql (.t 75) (.c (.sc (.int .i64 1))), (some (73, false))⟩,
  ⟨some ⟨77, [], []⟩, .cp (.t 76), (some (73, false))⟩,
  ⟨some ⟨78, [], [6]⟩, .fad 1 (.t 6), (some (77, true))⟩,
  ⟨some ⟨79, [], []⟩, .ld false 1 (.t 78), (some (77, true))⟩,
  ⟨some ⟨80, [], [3]⟩, .fad 1 (.t 3), (some (77, true))⟩,
  ⟨some ⟨81, [], []⟩, .ld false 1 (.t 80), (some (77, true))⟩,
  ⟨some ⟨82, [], []⟩, .bin .neq (.t 79) (.t 81), (some (77, true))⟩,
  ⟨some ⟨83, [], []⟩, .pick (.t 77) (.t 82) (.c (.sc (.bool false))), (some (73, false))⟩,
  ⟨some ⟨84, [], []⟩, .pick (.t 73) (.c (.sc (.bool true))) (.t 83), (some (68, true))⟩,
  ⟨some ⟨85, [], []⟩, .pick (.t 68) (.t 84) (.c (.sc (.bool false))), (some (64, false))⟩,
  ⟨some ⟨86, [], []⟩, .pick (.t 64) (.c (.sc (.bool true))) (.t 85), none⟩])
 (.cond (.t 86) (.seq (.reg [⟨some ⟨2, [], []⟩, .mv (.c (.sc (.bool false))), none⟩])
 .ret) .skip))
 (.seq (.seq (.reg [⟨some ⟨87, [], [6]⟩, .fad 2 (.t 6), none⟩,
  ⟨some ⟨88, [], []⟩, .ld false 1 (.t 87), none⟩,
  ⟨some ⟨89, [], []⟩, .len (.t 88), none⟩,
  ⟨some ⟨90, [], []⟩, .cp (.c (.sc (.int .i64 0))), none⟩])
 (.block 2 (.loop (.seq (.reg [⟨some ⟨91, [], []⟩, .bin .lss (.t 90) (.t 89), none⟩])
 (.seq (.cond (.t 91) .skip (.exit 2))
 (.seq (.block 3 (.seq (.reg [⟨some ⟨92, [], []⟩, .cp (.t 90), none⟩,
  ⟨some ⟨93, [], []⟩, .iad 1 (.t 88) (.t 90), none⟩,
  ⟨some ⟨94, [], []⟩, .ld false 1 (.t 93), none⟩,
  ⟨some ⟨8, [], []⟩, .mv (.t 92), none⟩,
  ⟨some ⟨9, [], []⟩, .mv (.t 94), none⟩])
 (.seq (.reg [⟨some ⟨95, [], []⟩, .cp (.t 8), none⟩,
  ⟨some ⟨96, [], []⟩, .bin .gtr (.t 95) (.c (.sc (.int .i64 0))), none⟩,
  ⟨some ⟨97, [], []⟩, .cp (.t 96), none⟩,
  ⟨some ⟨98, [], [6]⟩, .fad 2 (.t 6), (some (97, true))⟩,
  ⟨some ⟨99, [], []⟩, .ld false 1 (.t 98), (some (97, true))⟩,
  ⟨some ⟨100, [], []⟩, .cp (.t 8), (some (97, true))⟩,
  ⟨some ⟨101, [], []⟩, .bin .sub (.t 100) (.c (.sc (.int .i64 1))), (some (97, true))⟩,
  ⟨some ⟨102, [], []⟩, .iad 1 (.t 99) (.t 101), (some (97, true))⟩,
  ⟨some ⟨103, [], []⟩, .ld false 1 (.t 102), (some (97, true))⟩,
  ⟨some ⟨104, [], []⟩, .cp (.t 9), (some (97, true))⟩,
  ⟨some ⟨105, [], []⟩, .bin .geq (.t 103) (.t 104), (some (97, true))⟩,
  ⟨some ⟨106, [], []⟩, .pick (.t 97) (.t 105) (.c (.sc (.bool false))), none⟩,
  ⟨some ⟨107, [], []⟩, .cp (.t 106), none⟩,
  ⟨some ⟨108, [], [3]⟩, .fad 0 (.t 3), (some (107, false))⟩,
  ⟨some ⟨109, [], []⟩, .ld false 1 (.t 108), (some (107, false))⟩,
  ⟨some ⟨110, [], []⟩, .bin .geq (.t 109) (.c (.sc (.int .i64 2))), (some (107, false))⟩,
  ⟨some ⟨111, [], []⟩, .cp (.t 110), (some (107, false))⟩,
  ⟨some ⟨112, [], [3]⟩, .fad 2 (.t 3), (some (111, true))⟩,
  ⟨some ⟨113, [], []⟩, .ld false 1 (.t 112), (some (111, true))⟩,
  ⟨some ⟨114, [], []⟩, .cp (.t 9), (some (111, true))⟩,
  ⟨some ⟨115, [], []⟩, .call 13 [(.t 113), (.t 114)] 0, (some (111, true))⟩,
  ⟨some ⟨116, [], []⟩, .un .not (.t 115), (some (111, true))⟩,
  ⟨some ⟨117, [], []⟩, .pick (.t 111) (.t 116) (.c (.sc (.bool false))), (some (107, false))⟩,
  ⟨some ⟨118, [], []⟩, .pick (.t 107) (.c (.sc (.bool true))) (.t 117), none⟩])
 (.cond (.t 118) (.seq (.reg [⟨some ⟨2, [], []⟩, .mv (.c (.sc (.bool false))), none⟩])
 .ret) .skip))))
 (.reg [⟨some ⟨119, [], []⟩, .bin .add (.t 90) (.c (.sc (.int .i64 1))), none⟩,
  ⟨some ⟨90, [], []⟩, .cp (.t 119), none⟩])))))))
 (.reg [⟨some ⟨120, [], []⟩, .ld true 3 (.t 6), none⟩,
  ⟨none, .st 3 (.t 3) (.t 120), none⟩])))))))
 (.reg [⟨some ⟨121, [], []⟩, .bin .add (.t 13) (.c (.sc (.int .i64 1))), none⟩,
  ⟨some ⟨13, [], []⟩, .cp (.t 121), none⟩])))))))
 (.seq (.reg [⟨some ⟨122, [], []⟩, .call 12 [] 0, none⟩,
  ⟨some ⟨2, [], []⟩, .mv (.t 122), none⟩])
 .ret))))
def f5g : Gi := ⟨[(22, [5]), (26, [5]), (30, [5]), (36, [6]), (38, [3]), (42, [6]), (47, [6]), (53, [6]), (57, [6]), (65, [6]), (69, [6]), (74, [3]), (78, [6]), (80, [3]), (87, [6]), (98, [6]), (108, [3]), (112, [3])]⟩
def f5r : List RV := [.tmp 2]
def f5 : FI := ⟨f5c, f5g, f5r⟩

theorem chk5 : chkF Try.prog Try.f5 f5 = true := by kernel_rfl
theorem shrink_facts (st ow : Int) (L : List Int) (th : Int) (wt : Bool) (E S : List Int) (hst : st = 0 ∨ st = 1 ∨ st = 2 ∨ st = 3) (hL : L.Pairwise (· < ·)) :
    let r := stepF st ow L th wt E S
    ¬ r.1 < st ∧ ¬ r.1 < 1 ∧ ¬ r.1 > 3 ∧ r.2.2.2 = (r.1 == 3 && r.2.2.1.length == 0) ∧ (r.1 = 1 → r.2.2.1 = [] ∧ (st = 1 → r.2.1 = ow)) ∧ (2 ≤ st → ∀ x ∈ r.2.2.1, x ∈ L) := by
  have hc : ∀ X, ∀ x ∈ commonOf L X, x ∈ L := fun X x hx => by rw [common_sorted hL] at hx; exact (List.mem_filter.1 hx).1
  rcases hst with rfl | rfl | rfl | rfl
  · simp [stepF]
  · by_cases h : th = ow
    · simp [stepF, h]
    · cases wt
      · simp [stepF, h]
      · simp [stepF, h]
  · cases wt
    · simp [stepF]; exact fun x hx => hc _ x hx
    · simp [stepF]; exact fun x hx => hc _ x hx
  · cases wt
    · simp [stepF]; exact fun x hx => hc _ x hx
    · simp [stepF]; exact fun x hx => hc _ x hx


theorem lawShrinks (l : List (Int × Int × Int)) (hl : l.length < 1000000000000000) : Says Try.prog 5 [.sl false 3 (trip l)] (sb true) := by
  refine says_of mix Try.func5 chk5 (of_decide_eq_true (by kernel_rfl)) rfl ?_
  simp only [f5, f5c, f5g, f5r, go_sem, reduceCtorEq, Nat.reduceEqDiff, reduceIte, Nat.reduceAdd, Int.reduceNeg, Nat.reduceBEq, Nat.reduceLT, Nat.reduceLeDiff, Nat.reduceSub, Nat.reduceMul, Int.reduceLT, Int.reduceLE, Int.reduceAdd, Int.reduceEq, Int.reduceBEq, Int.reduceToNat, trip_length]
  refine awp_range l.length (fun j τ => τ 11 = .sl false 3 (trip l) ∧ ∃ (st ow : Int) (L : List Int) (x : Bool), τ 3 = .own true 3 [[si st, si ow, .sl x 1 (ints L)]] ∧ (st = 0 ∨ st = 1 ∨ st = 2 ∨ st = 3) ∧ L.Pairwise (· < ·) ∧ L.length ≤ 8 * j) (by omega) ?_ ?_ ?_ ?_ ?_ (by decide)
  · simp only [go_sem, reduceCtorEq, Nat.reduceEqDiff, reduceIte, Nat.reduceAdd, Int.reduceNeg, Nat.reduceBEq, Nat.reduceLT, Nat.reduceLeDiff, Nat.reduceSub, Nat.reduceMul, Int.reduceLT, Int.reduceLE, Int.reduceAdd, Int.reduceEq, Int.reduceBEq, Int.reduceToNat]
  · simp only [go_sem, reduceCtorEq, Nat.reduceEqDiff, reduceIte, Nat.reduceAdd, Int.reduceNeg, Nat.reduceBEq, Nat.reduceLT, Nat.reduceLeDiff, Nat.reduceSub, Nat.reduceMul, Int.reduceLT, Int.reduceLE, Int.reduceAdd, Int.reduceEq, Int.reduceBEq, Int.reduceToNat]
  · refine ⟨by simp only [go_sem, reduceCtorEq, Nat.reduceEqDiff, reduceIte, Nat.reduceAdd, Int.reduceNeg, Nat.reduceBEq, Nat.reduceLT, Nat.reduceLeDiff, Nat.reduceSub, Nat.reduceMul, Int.reduceLT, Int.reduceLE, Int.reduceAdd, Int.reduceEq, Int.reduceBEq, Int.reduceToNat], 0, 0, [], true, by simp only [go_sem, reduceCtorEq, Nat.reduceEqDiff, reduceIte, Nat.reduceAdd, Int.reduceNeg, Nat.reduceBEq, Nat.reduceLT, Nat.reduceLeDiff, Nat.reduceSub, Nat.reduceMul, Int.reduceLT, Int.reduceLE, Int.reduceAdd, Int.reduceEq, Int.reduceBEq, Int.reduceToNat, ints_nil], by simp, by simp, by simp⟩
  · rintro j τ hj hi hn ⟨h11, st, ow, L, x, h3, hst, hL, hLl⟩
    have hg : (trip l)[j]? = some [u8 l[j].1, u8 l[j].2.1, u8 l[j].2.2] := by rw [trip_get]; simp [hj]
    generalize l[j].1 = a at hg
    generalize l[j].2.1 = b at hg
    generalize l[j].2.2 = c at hg
    by_cases h60 : 60 ≤ j
    · have hdc : decide ((j : Int) ≥ 60) = true := by simp only [decide_eq_true_eq]; omega
      simp only [go_sem, reduceCtorEq, Nat.reduceEqDiff, reduceIte, Nat.reduceAdd, Int.reduceNeg, Nat.reduceBEq, Nat.reduceLT, Nat.reduceLeDiff, Nat.reduceSub, Nat.reduceMul, Int.reduceLT, Int.reduceLE, Int.reduceAdd, Int.reduceEq, Int.reduceBEq, Int.reduceToNat, h11, h3, hi, hn, hg, hdc]
      refine ⟨_, awake_says, ?_⟩
      simp only [go_sem, reduceCtorEq, Nat.reduceEqDiff, reduceIte, Nat.reduceAdd, Int.reduceNeg, Nat.reduceBEq, Nat.reduceLT, Nat.reduceLeDiff, Nat.reduceSub, Nat.reduceMul, Int.reduceLT, Int.reduceLE, Int.reduceAdd, Int.reduceEq, Int.reduceBEq, Int.reduceToNat]
    · have hdc : decide ((j : Int) ≥ 60) = false := by simp only [decide_eq_false_iff_not]; omega
      have lE := hE_length c
      have lS := hS_length c
      have hs := step_says st ow L ((IntKind.i64.wrap a).tmod 3) (b.tmod 2 == 1) (hE c) (hS c) (by omega) (by omega)
      obtain ⟨p1, q1, r1⟩ := step_facts st ow L ((IntKind.i64.wrap a).tmod 3) (b.tmod 2 == 1) (hE c) (hS c) hst hL
      obtain ⟨g1, g2, g3, g4, g5, g6⟩ := shrink_facts st ow L ((IntKind.i64.wrap a).tmod 3) (b.tmod 2 == 1) (hE c) (hS c) hst hL
      generalize stepF st ow L ((IntKind.i64.wrap a).tmod 3) (b.tmod 2 == 1) (hE c) (hS c) = s1 at hs p1 q1 r1 g1 g2 g3 g4 g5 g6
      obtain ⟨st1, ow1, L1, wn1⟩ := s1
      simp only at p1 q1 r1 g1 g2 g3 g4 g5 g6
      simp only [stepR] at hs
      have h30 : ¬ ((3 : Int) = 0) := by decide
      have h20 : ¬ ((2 : Int) = 0) := by decide
      have hb3 : ((0 : Int) < ((3 : Nat) : Int)) := by decide
      have hb31 : ((1 : Int) < ((3 : Nat) : Int)) := by decide
      have hb32 : ((2 : Int) < ((3 : Nat) : Int)) := by decide
      have d1 : decide (st1 < st) = false := by simpa using g1
      have d2 : decide (st1 < 1) = false := by simpa using g2
      have d3 : decide (st1 > 3) = false := by simpa using g3
      have hcase : ((st1 == 3) = true ∧ (st1 == 1) = false ∧ (wn1 == ((L1.length : Int) == 0)) = true) ∨ ((st1 == 3) = false ∧ (st1 == 1) = true ∧ wn1 = false ∧ decide ((L1.length : Int) > 0) = false ∧ (st == 1) = true ∧ (ow1 != ow) = false) ∨
          ((st1 == 3) = false ∧ (st1 == 1) = true ∧ wn1 = false ∧ decide ((L1.length : Int) > 0) = false ∧ (st == 1) = false) ∨ ((st1 == 3) = false ∧ (st1 == 1) = false ∧ wn1 = false) := by
        cases e3 : (st1 == 3) with
        | true =>
          left
          have := beq_iff_eq.1 e3
          subst this
          refine ⟨rfl, by decide, ?_⟩
          rw [g4, nbz]; simp
        | false =>
          right
          rw [e3, Bool.false_and] at g4
          cases e1 : (st1 == 1) with
          | false => right; right; exact ⟨rfl, rfl, g4⟩
          | true =>
            obtain ⟨hz, ho⟩ := g5 (beq_iff_eq.1 e1)
            cases es : (st == 1) with
            | true => left; exact ⟨rfl, rfl, g4, by rw [hz]; decide, rfl, by rw [ho (beq_iff_eq.1 es)]; simp⟩
            | false => right; left; exact ⟨rfl, rfl, g4, by rw [hz]; decide, rfl⟩
      have hL1 : L1.length < 4611686018427 := by omega
      simp only [go_sem, reduceCtorEq, Nat.reduceEqDiff, reduceIte, Nat.reduceAdd, Int.reduceNeg, Nat.reduceBEq, Nat.reduceLT, Nat.reduceLeDiff, Nat.reduceSub, Nat.reduceMul, Int.reduceLT, Int.reduceLE, Int.reduceAdd, Int.reduceEq, Int.reduceBEq, Int.reduceToNat, h11, h3, hi, hn, hg, hdc, hb3, hb31, hb32, h30, h20]
      refine ⟨_, held_says c, ?_⟩
      simp only [go_sem, reduceCtorEq, Nat.reduceEqDiff, reduceIte, Nat.reduceAdd, Int.reduceNeg, Nat.reduceBEq, Nat.reduceLT, Nat.reduceLeDiff, Nat.reduceSub, Nat.reduceMul, Int.reduceLT, Int.reduceLE, Int.reduceAdd, Int.reduceEq, Int.reduceBEq, Int.reduceToNat, h11, h3, hi, hn, hb3, hb31, hb32, h30, h20]
      refine ⟨_, hs, ?_⟩
      rcases hcase with ⟨e3, e1, e4⟩ | ⟨e3, e1, e4, e5, e6, e7⟩ | ⟨e3, e1, e4, e5, e6⟩ | ⟨e3, e1, e4⟩
      · simp only [go_sem, reduceCtorEq, Nat.reduceEqDiff, reduceIte, Nat.reduceAdd, Int.reduceNeg, Nat.reduceBEq, Nat.reduceLT, Nat.reduceLeDiff, Nat.reduceSub, Nat.reduceMul, Int.reduceLT, Int.reduceLE, Int.reduceAdd, Int.reduceEq, Int.reduceBEq, Int.reduceToNat, h11, h3, hi, hn, hb3, hb31, hb32, h30, h20, d1, d2, d3, e3, e1, e4, ints_length]
        refine awp_range L1.length (fun i τ => τ 3 = .own true 3 [[si st, si ow, .sl x 1 (ints L)]] ∧ τ 6 = .own true 3 [[si st1, si ow1, isl L1]] ∧ τ 11 = .sl false 3 (trip l) ∧ τ 12 = si l.length ∧ τ 13 = si j ∧ τ 88 = isl L1) (by omega) ?_ ?_ ?_ ?_ ?_ (by decide)
        · simp only [go_sem, reduceCtorEq, Nat.reduceEqDiff, reduceIte, Nat.reduceAdd, Int.reduceNeg, Nat.reduceBEq, Nat.reduceLT, Nat.reduceLeDiff, Nat.reduceSub, Nat.reduceMul, Int.reduceLT, Int.reduceLE, Int.reduceAdd, Int.reduceEq, Int.reduceBEq, Int.reduceToNat]
        · simp only [go_sem, reduceCtorEq, Nat.reduceEqDiff, reduceIte, Nat.reduceAdd, Int.reduceNeg, Nat.reduceBEq, Nat.reduceLT, Nat.reduceLeDiff, Nat.reduceSub, Nat.reduceMul, Int.reduceLT, Int.reduceLE, Int.reduceAdd, Int.reduceEq, Int.reduceBEq, Int.reduceToNat]
        · simp only [go_sem, reduceCtorEq, Nat.reduceEqDiff, reduceIte, Nat.reduceAdd, Int.reduceNeg, Nat.reduceBEq, Nat.reduceLT, Nat.reduceLeDiff, Nat.reduceSub, Nat.reduceMul, Int.reduceLT, Int.reduceLE, Int.reduceAdd, Int.reduceEq, Int.reduceBEq, Int.reduceToNat, h11, h3, hi, hn]
        · rintro i τ' hi' ti tn ⟨t3, t6, t11, t12, t13, t88⟩
          have hgi : (ints L1)[i]? = some [si L1[i]] := by rw [ints_get]; simp [hi']
          cases e8 : decide ((i : Int) > 0) with
          | false =>
            cases e9 : decide (st ≥ 2) with
            | false => simp only [go_sem, reduceCtorEq, Nat.reduceEqDiff, reduceIte, Nat.reduceAdd, Int.reduceNeg, Nat.reduceBEq, Nat.reduceLT, Nat.reduceLeDiff, Nat.reduceSub, Nat.reduceMul, Int.reduceLT, Int.reduceLE, Int.reduceAdd, Int.reduceEq, Int.reduceBEq, Int.reduceToNat, t3, t6, t11, t12, t13, t88, ti, tn, hgi, e8, e9]
            | true =>
              simp only [go_sem, reduceCtorEq, Nat.reduceEqDiff, reduceIte, Nat.reduceAdd, Int.reduceNeg, Nat.reduceBEq, Nat.reduceLT, Nat.reduceLeDiff, Nat.reduceSub, Nat.reduceMul, Int.reduceLT, Int.reduceLE, Int.reduceAdd, Int.reduceEq, Int.reduceBEq, Int.reduceToNat, t3, t6, t11, t12, t13, t88, ti, tn, hgi, e8, e9]
              refine ⟨_, has_says L L1[i] (by omega), ?_⟩
              have hm : L.contains L1[i] = true := by simpa using g6 (by simpa using e9) _ (List.getElem_mem hi')
              simp only [go_sem, reduceCtorEq, Nat.reduceEqDiff, reduceIte, Nat.reduceAdd, Int.reduceNeg, Nat.reduceBEq, Nat.reduceLT, Nat.reduceLeDiff, Nat.reduceSub, Nat.reduceMul, Int.reduceLT, Int.reduceLE, Int.reduceAdd, Int.reduceEq, Int.reduceBEq, Int.reduceToNat, t3, t6, t11, t12, t13, t88, ti, tn, hm]
          | true =>
            have i0 : 0 < i := by simp only [decide_eq_true_eq] at e8; omega
            have hw : IntKind.i64.wrap ((i : Int) - 1) = ((i - 1 : Nat) : Int) := by have := wrap_nat (n := i - 1) (by omega); rw [show (i : Int) - 1 = ((i - 1 : Nat) : Int) from by omega]; exact this
            have hi1 : i - 1 < L1.length := by omega
            have hg1 : (ints L1)[i - 1]? = some [si L1[i - 1]] := by rw [ints_get]; simp [hi1]
            have hlt := List.pairwise_iff_getElem.1 q1 (i - 1) i hi1 hi' (by omega)
            have hge : decide (L1[i - 1] ≥ L1[i]) = false := by simp only [decide_eq_false_iff_not]; omega
            cases e9 : decide (st ≥ 2) with
            | false => simp only [go_sem, reduceCtorEq, Nat.reduceEqDiff, reduceIte, Nat.reduceAdd, Int.reduceNeg, Nat.reduceBEq, Nat.reduceLT, Nat.reduceLeDiff, Nat.reduceSub, Nat.reduceMul, Int.reduceLT, Int.reduceLE, Int.reduceAdd, Int.reduceEq, Int.reduceBEq, Int.reduceToNat, t3, t6, t11, t12, t13, t88, ti, tn, hgi, e8, e9, hw, hg1, hge]
            | true =>
              simp only [go_sem, reduceCtorEq, Nat.reduceEqDiff, reduceIte, Nat.reduceAdd, Int.reduceNeg, Nat.reduceBEq, Nat.reduceLT, Nat.reduceLeDiff, Nat.reduceSub, Nat.reduceMul, Int.reduceLT, Int.reduceLE, Int.reduceAdd, Int.reduceEq, Int.reduceBEq, Int.reduceToNat, t3, t6, t11, t12, t13, t88, ti, tn, hgi, e8, e9, hw, hg1, hge]
              refine ⟨_, has_says L L1[i] (by omega), ?_⟩
              have hm : L.contains L1[i] = true := by simpa using g6 (by simpa using e9) _ (List.getElem_mem hi')
              simp only [go_sem, reduceCtorEq, Nat.reduceEqDiff, reduceIte, Nat.reduceAdd, Int.reduceNeg, Nat.reduceBEq, Nat.reduceLT, Nat.reduceLeDiff, Nat.reduceSub, Nat.reduceMul, Int.reduceLT, Int.reduceLE, Int.reduceAdd, Int.reduceEq, Int.reduceBEq, Int.reduceToNat, t3, t6, t11, t12, t13, t88, ti, tn, hm]
        · rintro τ' ti tn ⟨t3, t6, t11, t12, t13, t88⟩
          simp only [go_sem, reduceCtorEq, Nat.reduceEqDiff, reduceIte, Nat.reduceAdd, Int.reduceNeg, Nat.reduceBEq, Nat.reduceLT, Nat.reduceLeDiff, Nat.reduceSub, Nat.reduceMul, Int.reduceLT, Int.reduceLE, Int.reduceAdd, Int.reduceEq, Int.reduceBEq, Int.reduceToNat, t3, t6, t11, t12, t13, t88]
          exact ⟨st1, ow1, L1, false, ⟨rfl, rfl, rfl, rfl⟩, p1, q1, by omega⟩
      · simp only [go_sem, reduceCtorEq, Nat.reduceEqDiff, reduceIte, Nat.reduceAdd, Int.reduceNeg, Nat.reduceBEq, Nat.reduceLT, Nat.reduceLeDiff, Nat.reduceSub, Nat.reduceMul, Int.reduceLT, Int.reduceLE, Int.reduceAdd, Int.reduceEq, Int.reduceBEq, Int.reduceToNat, h11, h3, hi, hn, hb3, hb31, hb32, h30, h20, d1, d2, d3, e3, e1, e4, e5, e6, e7, ints_length]
        refine awp_range L1.length (fun i τ => τ 3 = .own true 3 [[si st, si ow, .sl x 1 (ints L)]] ∧ τ 6 = .own true 3 [[si st1, si ow1, isl L1]] ∧ τ 11 = .sl false 3 (trip l) ∧ τ 12 = si l.length ∧ τ 13 = si j ∧ τ 88 = isl L1) (by omega) ?_ ?_ ?_ ?_ ?_ (by decide)
        · simp only [go_sem, reduceCtorEq, Nat.reduceEqDiff, reduceIte, Nat.reduceAdd, Int.reduceNeg, Nat.reduceBEq, Nat.reduceLT, Nat.reduceLeDiff, Nat.reduceSub, Nat.reduceMul, Int.reduceLT, Int.reduceLE, Int.reduceAdd, Int.reduceEq, Int.reduceBEq, Int.reduceToNat]
        · simp only [go_sem, reduceCtorEq, Nat.reduceEqDiff, reduceIte, Nat.reduceAdd, Int.reduceNeg, Nat.reduceBEq, Nat.reduceLT, Nat.reduceLeDiff, Nat.reduceSub, Nat.reduceMul, Int.reduceLT, Int.reduceLE, Int.reduceAdd, Int.reduceEq, Int.reduceBEq, Int.reduceToNat]
        · simp only [go_sem, reduceCtorEq, Nat.reduceEqDiff, reduceIte, Nat.reduceAdd, Int.reduceNeg, Nat.reduceBEq, Nat.reduceLT, Nat.reduceLeDiff, Nat.reduceSub, Nat.reduceMul, Int.reduceLT, Int.reduceLE, Int.reduceAdd, Int.reduceEq, Int.reduceBEq, Int.reduceToNat, h11, h3, hi, hn]
        · rintro i τ' hi' ti tn ⟨t3, t6, t11, t12, t13, t88⟩
          have hgi : (ints L1)[i]? = some [si L1[i]] := by rw [ints_get]; simp [hi']
          cases e8 : decide ((i : Int) > 0) with
          | false =>
            cases e9 : decide (st ≥ 2) with
            | false => simp only [go_sem, reduceCtorEq, Nat.reduceEqDiff, reduceIte, Nat.reduceAdd, Int.reduceNeg, Nat.reduceBEq, Nat.reduceLT, Nat.reduceLeDiff, Nat.reduceSub, Nat.reduceMul, Int.reduceLT, Int.reduceLE, Int.reduceAdd, Int.reduceEq, Int.reduceBEq, Int.reduceToNat, t3, t6, t11, t12, t13, t88, ti, tn, hgi, e8, e9]
            | true =>
              simp only [go_sem, reduceCtorEq, Nat.reduceEqDiff, reduceIte, Nat.reduceAdd, Int.reduceNeg, Nat.reduceBEq, Nat.reduceLT, Nat.reduceLeDiff, Nat.reduceSub, Nat.reduceMul, Int.reduceLT, Int.reduceLE, Int.reduceAdd, Int.reduceEq, Int.reduceBEq, Int.reduceToNat, t3, t6, t11, t12, t13, t88, ti, tn, hgi, e8, e9]
              refine ⟨_, has_says L L1[i] (by omega), ?_⟩
              have hm : L.contains L1[i] = true := by simpa using g6 (by simpa using e9) _ (List.getElem_mem hi')
              simp only [go_sem, reduceCtorEq, Nat.reduceEqDiff, reduceIte, Nat.reduceAdd, Int.reduceNeg, Nat.reduceBEq, Nat.reduceLT, Nat.reduceLeDiff, Nat.reduceSub, Nat.reduceMul, Int.reduceLT, Int.reduceLE, Int.reduceAdd, Int.reduceEq, Int.reduceBEq, Int.reduceToNat, t3, t6, t11, t12, t13, t88, ti, tn, hm]
          | true =>
            have i0 : 0 < i := by simp only [decide_eq_true_eq] at e8; omega
            have hw : IntKind.i64.wrap ((i : Int) - 1) = ((i - 1 : Nat) : Int) := by have := wrap_nat (n := i - 1) (by omega); rw [show (i : Int) - 1 = ((i - 1 : Nat) : Int) from by omega]; exact this
            have hi1 : i - 1 < L1.length := by omega
            have hg1 : (ints L1)[i - 1]? = some [si L1[i - 1]] := by rw [ints_get]; simp [hi1]
            have hlt := List.pairwise_iff_getElem.1 q1 (i - 1) i hi1 hi' (by omega)
            have hge : decide (L1[i - 1] ≥ L1[i]) = false := by simp only [decide_eq_false_iff_not]; omega
            cases e9 : decide (st ≥ 2) with
            | false => simp only [go_sem, reduceCtorEq, Nat.reduceEqDiff, reduceIte, Nat.reduceAdd, Int.reduceNeg, Nat.reduceBEq, Nat.reduceLT, Nat.reduceLeDiff, Nat.reduceSub, Nat.reduceMul, Int.reduceLT, Int.reduceLE, Int.reduceAdd, Int.reduceEq, Int.reduceBEq, Int.reduceToNat, t3, t6, t11, t12, t13, t88, ti, tn, hgi, e8, e9, hw, hg1, hge]
            | true =>
              simp only [go_sem, reduceCtorEq, Nat.reduceEqDiff, reduceIte, Nat.reduceAdd, Int.reduceNeg, Nat.reduceBEq, Nat.reduceLT, Nat.reduceLeDiff, Nat.reduceSub, Nat.reduceMul, Int.reduceLT, Int.reduceLE, Int.reduceAdd, Int.reduceEq, Int.reduceBEq, Int.reduceToNat, t3, t6, t11, t12, t13, t88, ti, tn, hgi, e8, e9, hw, hg1, hge]
              refine ⟨_, has_says L L1[i] (by omega), ?_⟩
              have hm : L.contains L1[i] = true := by simpa using g6 (by simpa using e9) _ (List.getElem_mem hi')
              simp only [go_sem, reduceCtorEq, Nat.reduceEqDiff, reduceIte, Nat.reduceAdd, Int.reduceNeg, Nat.reduceBEq, Nat.reduceLT, Nat.reduceLeDiff, Nat.reduceSub, Nat.reduceMul, Int.reduceLT, Int.reduceLE, Int.reduceAdd, Int.reduceEq, Int.reduceBEq, Int.reduceToNat, t3, t6, t11, t12, t13, t88, ti, tn, hm]
        · rintro τ' ti tn ⟨t3, t6, t11, t12, t13, t88⟩
          simp only [go_sem, reduceCtorEq, Nat.reduceEqDiff, reduceIte, Nat.reduceAdd, Int.reduceNeg, Nat.reduceBEq, Nat.reduceLT, Nat.reduceLeDiff, Nat.reduceSub, Nat.reduceMul, Int.reduceLT, Int.reduceLE, Int.reduceAdd, Int.reduceEq, Int.reduceBEq, Int.reduceToNat, t3, t6, t11, t12, t13, t88]
          exact ⟨st1, ow1, L1, false, ⟨rfl, rfl, rfl, rfl⟩, p1, q1, by omega⟩
      · simp only [go_sem, reduceCtorEq, Nat.reduceEqDiff, reduceIte, Nat.reduceAdd, Int.reduceNeg, Nat.reduceBEq, Nat.reduceLT, Nat.reduceLeDiff, Nat.reduceSub, Nat.reduceMul, Int.reduceLT, Int.reduceLE, Int.reduceAdd, Int.reduceEq, Int.reduceBEq, Int.reduceToNat, h11, h3, hi, hn, hb3, hb31, hb32, h30, h20, d1, d2, d3, e3, e1, e4, e5, e6, ints_length]
        refine awp_range L1.length (fun i τ => τ 3 = .own true 3 [[si st, si ow, .sl x 1 (ints L)]] ∧ τ 6 = .own true 3 [[si st1, si ow1, isl L1]] ∧ τ 11 = .sl false 3 (trip l) ∧ τ 12 = si l.length ∧ τ 13 = si j ∧ τ 88 = isl L1) (by omega) ?_ ?_ ?_ ?_ ?_ (by decide)
        · simp only [go_sem, reduceCtorEq, Nat.reduceEqDiff, reduceIte, Nat.reduceAdd, Int.reduceNeg, Nat.reduceBEq, Nat.reduceLT, Nat.reduceLeDiff, Nat.reduceSub, Nat.reduceMul, Int.reduceLT, Int.reduceLE, Int.reduceAdd, Int.reduceEq, Int.reduceBEq, Int.reduceToNat]
        · simp only [go_sem, reduceCtorEq, Nat.reduceEqDiff, reduceIte, Nat.reduceAdd, Int.reduceNeg, Nat.reduceBEq, Nat.reduceLT, Nat.reduceLeDiff, Nat.reduceSub, Nat.reduceMul, Int.reduceLT, Int.reduceLE, Int.reduceAdd, Int.reduceEq, Int.reduceBEq, Int.reduceToNat]
        · simp only [go_sem, reduceCtorEq, Nat.reduceEqDiff, reduceIte, Nat.reduceAdd, Int.reduceNeg, Nat.reduceBEq, Nat.reduceLT, Nat.reduceLeDiff, Nat.reduceSub, Nat.reduceMul, Int.reduceLT, Int.reduceLE, Int.reduceAdd, Int.reduceEq, Int.reduceBEq, Int.reduceToNat, h11, h3, hi, hn]
        · rintro i τ' hi' ti tn ⟨t3, t6, t11, t12, t13, t88⟩
          have hgi : (ints L1)[i]? = some [si L1[i]] := by rw [ints_get]; simp [hi']
          cases e8 : decide ((i : Int) > 0) with
          | false =>
            cases e9 : decide (st ≥ 2) with
            | false => simp only [go_sem, reduceCtorEq, Nat.reduceEqDiff, reduceIte, Nat.reduceAdd, Int.reduceNeg, Nat.reduceBEq, Nat.reduceLT, Nat.reduceLeDiff, Nat.reduceSub, Nat.reduceMul, Int.reduceLT, Int.reduceLE, Int.reduceAdd, Int.reduceEq, Int.reduceBEq, Int.reduceToNat, t3, t6, t11, t12, t13, t88, ti, tn, hgi, e8, e9]
            | true =>
              simp only [go_sem, reduceCtorEq, Nat.reduceEqDiff, reduceIte, Nat.reduceAdd, Int.reduceNeg, Nat.reduceBEq, Nat.reduceLT, Nat.reduceLeDiff, Nat.reduceSub, Nat.reduceMul, Int.reduceLT, Int.reduceLE, Int.reduceAdd, Int.reduceEq, Int.reduceBEq, Int.reduceToNat, t3, t6, t11, t12, t13, t88, ti, tn, hgi, e8, e9]
              refine ⟨_, has_says L L1[i] (by omega), ?_⟩
              have hm : L.contains L1[i] = true := by simpa using g6 (by simpa using e9) _ (List.getElem_mem hi')
              simp only [go_sem, reduceCtorEq, Nat.reduceEqDiff, reduceIte, Nat.reduceAdd, Int.reduceNeg, Nat.reduceBEq, Nat.reduceLT, Nat.reduceLeDiff, Nat.reduceSub, Nat.reduceMul, Int.reduceLT, Int.reduceLE, Int.reduceAdd, Int.reduceEq, Int.reduceBEq, Int.reduceToNat, t3, t6, t11, t12, t13, t88, ti, tn, hm]
          | true =>
            have i0 : 0 < i := by simp only [decide_eq_true_eq] at e8; omega
            have hw : IntKind.i64.wrap ((i : Int) - 1) = ((i - 1 : Nat) : Int) := by have := wrap_nat (n := i - 1) (by omega); rw [show (i : Int) - 1 = ((i - 1 : Nat) : Int) from by omega]; exact this
            have hi1 : i - 1 < L1.length := by omega
            have hg1 : (ints L1)[i - 1]? = some [si L1[i - 1]] := by rw [ints_get]; simp [hi1]
            have hlt := List.pairwise_iff_getElem.1 q1 (i - 1) i hi1 hi' (by omega)
            have hge : decide (L1[i - 1] ≥ L1[i]) = false := by simp only [decide_eq_false_iff_not]; omega
            cases e9 : decide (st ≥ 2) with
            | false => simp only [go_sem, reduceCtorEq, Nat.reduceEqDiff, reduceIte, Nat.reduceAdd, Int.reduceNeg, Nat.reduceBEq, Nat.reduceLT, Nat.reduceLeDiff, Nat.reduceSub, Nat.reduceMul, Int.reduceLT, Int.reduceLE, Int.reduceAdd, Int.reduceEq, Int.reduceBEq, Int.reduceToNat, t3, t6, t11, t12, t13, t88, ti, tn, hgi, e8, e9, hw, hg1, hge]
            | true =>
              simp only [go_sem, reduceCtorEq, Nat.reduceEqDiff, reduceIte, Nat.reduceAdd, Int.reduceNeg, Nat.reduceBEq, Nat.reduceLT, Nat.reduceLeDiff, Nat.reduceSub, Nat.reduceMul, Int.reduceLT, Int.reduceLE, Int.reduceAdd, Int.reduceEq, Int.reduceBEq, Int.reduceToNat, t3, t6, t11, t12, t13, t88, ti, tn, hgi, e8, e9, hw, hg1, hge]
              refine ⟨_, has_says L L1[i] (by omega), ?_⟩
              have hm : L.contains L1[i] = true := by simpa using g6 (by simpa using e9) _ (List.getElem_mem hi')
              simp only [go_sem, reduceCtorEq, Nat.reduceEqDiff, reduceIte, Nat.reduceAdd, Int.reduceNeg, Nat.reduceBEq, Nat.reduceLT, Nat.reduceLeDiff, Nat.reduceSub, Nat.reduceMul, Int.reduceLT, Int.reduceLE, Int.reduceAdd, Int.reduceEq, Int.reduceBEq, Int.reduceToNat, t3, t6, t11, t12, t13, t88, ti, tn, hm]
        · rintro τ' ti tn ⟨t3, t6, t11, t12, t13, t88⟩
          simp only [go_sem, reduceCtorEq, Nat.reduceEqDiff, reduceIte, Nat.reduceAdd, Int.reduceNeg, Nat.reduceBEq, Nat.reduceLT, Nat.reduceLeDiff, Nat.reduceSub, Nat.reduceMul, Int.reduceLT, Int.reduceLE, Int.reduceAdd, Int.reduceEq, Int.reduceBEq, Int.reduceToNat, t3, t6, t11, t12, t13, t88]
          exact ⟨st1, ow1, L1, false, ⟨rfl, rfl, rfl, rfl⟩, p1, q1, by omega⟩
      · simp only [go_sem, reduceCtorEq, Nat.reduceEqDiff, reduceIte, Nat.reduceAdd, Int.reduceNeg, Nat.reduceBEq, Nat.reduceLT, Nat.reduceLeDiff, Nat.reduceSub, Nat.reduceMul, Int.reduceLT, Int.reduceLE, Int.reduceAdd, Int.reduceEq, Int.reduceBEq, Int.reduceToNat, h11, h3, hi, hn, hb3, hb31, hb32, h30, h20, d1, d2, d3, e3, e1, e4, ints_length]
        refine awp_range L1.length (fun i τ => τ 3 = .own true 3 [[si st, si ow, .sl x 1 (ints L)]] ∧ τ 6 = .own true 3 [[si st1, si ow1, isl L1]] ∧ τ 11 = .sl false 3 (trip l) ∧ τ 12 = si l.length ∧ τ 13 = si j ∧ τ 88 = isl L1) (by omega) ?_ ?_ ?_ ?_ ?_ (by decide)
        · simp only [go_sem, reduceCtorEq, Nat.reduceEqDiff, reduceIte, Nat.reduceAdd, Int.reduceNeg, Nat.reduceBEq, Nat.reduceLT, Nat.reduceLeDiff, Nat.reduceSub, Nat.reduceMul, Int.reduceLT, Int.reduceLE, Int.reduceAdd, Int.reduceEq, Int.reduceBEq, Int.reduceToNat]
        · simp only [go_sem, reduceCtorEq, Nat.reduceEqDiff, reduceIte, Nat.reduceAdd, Int.reduceNeg, Nat.reduceBEq, Nat.reduceLT, Nat.reduceLeDiff, Nat.reduceSub, Nat.reduceMul, Int.reduceLT, Int.reduceLE, Int.reduceAdd, Int.reduceEq, Int.reduceBEq, Int.reduceToNat]
        · simp only [go_sem, reduceCtorEq, Nat.reduceEqDiff, reduceIte, Nat.reduceAdd, Int.reduceNeg, Nat.reduceBEq, Nat.reduceLT, Nat.reduceLeDiff, Nat.reduceSub, Nat.reduceMul, Int.reduceLT, Int.reduceLE, Int.reduceAdd, Int.reduceEq, Int.reduceBEq, Int.reduceToNat, h11, h3, hi, hn]
        · rintro i τ' hi' ti tn ⟨t3, t6, t11, t12, t13, t88⟩
          have hgi : (ints L1)[i]? = some [si L1[i]] := by rw [ints_get]; simp [hi']
          cases e8 : decide ((i : Int) > 0) with
          | false =>
            cases e9 : decide (st ≥ 2) with
            | false => simp only [go_sem, reduceCtorEq, Nat.reduceEqDiff, reduceIte, Nat.reduceAdd, Int.reduceNeg, Nat.reduceBEq, Nat.reduceLT, Nat.reduceLeDiff, Nat.reduceSub, Nat.reduceMul, Int.reduceLT, Int.reduceLE, Int.reduceAdd, Int.reduceEq, Int.reduceBEq, Int.reduceToNat, t3, t6, t11, t12, t13, t88, ti, tn, hgi, e8, e9]
            | true =>
              simp only [go_sem, reduceCtorEq, Nat.reduceEqDiff, reduceIte, Nat.reduceAdd, Int.reduceNeg, Nat.reduceBEq, Nat.reduceLT, Nat.reduceLeDiff, Nat.reduceSub, Nat.reduceMul, Int.reduceLT, Int.reduceLE, Int.reduceAdd, Int.reduceEq, Int.reduceBEq, Int.reduceToNat, t3, t6, t11, t12, t13, t88, ti, tn, hgi, e8, e9]
              refine ⟨_, has_says L L1[i] (by omega), ?_⟩
              have hm : L.contains L1[i] = true := by simpa using g6 (by simpa using e9) _ (List.getElem_mem hi')
              simp only [go_sem, reduceCtorEq, Nat.reduceEqDiff, reduceIte, Nat.reduceAdd, Int.reduceNeg, Nat.reduceBEq, Nat.reduceLT, Nat.reduceLeDiff, Nat.reduceSub, Nat.reduceMul, Int.reduceLT, Int.reduceLE, Int.reduceAdd, Int.reduceEq, Int.reduceBEq, Int.reduceToNat, t3, t6, t11, t12, t13, t88, ti, tn, hm]
          | true =>
            have i0 : 0 < i := by simp only [decide_eq_true_eq] at e8; omega
            have hw : IntKind.i64.wrap ((i : Int) - 1) = ((i - 1 : Nat) : Int) := by have := wrap_nat (n := i - 1) (by omega); rw [show (i : Int) - 1 = ((i - 1 : Nat) : Int) from by omega]; exact this
            have hi1 : i - 1 < L1.length := by omega
            have hg1 : (ints L1)[i - 1]? = some [si L1[i - 1]] := by rw [ints_get]; simp [hi1]
            have hlt := List.pairwise_iff_getElem.1 q1 (i - 1) i hi1 hi' (by omega)
            have hge : decide (L1[i - 1] ≥ L1[i]) = false := by simp only [decide_eq_false_iff_not]; omega
            cases e9 : decide (st ≥ 2) with
            | false => simp only [go_sem, reduceCtorEq, Nat.reduceEqDiff, reduceIte, Nat.reduceAdd, Int.reduceNeg, Nat.reduceBEq, Nat.reduceLT, Nat.reduceLeDiff, Nat.reduceSub, Nat.reduceMul, Int.reduceLT, Int.reduceLE, Int.reduceAdd, Int.reduceEq, Int.reduceBEq, Int.reduceToNat, t3, t6, t11, t12, t13, t88, ti, tn, hgi, e8, e9, hw, hg1, hge]
            | true =>
              simp only [go_sem, reduceCtorEq, Nat.reduceEqDiff, reduceIte, Nat.reduceAdd, Int.reduceNeg, Nat.reduceBEq, Nat.reduceLT, Nat.reduceLeDiff, Nat.reduceSub, Nat.reduceMul, Int.reduceLT, Int.reduceLE, Int.reduceAdd, Int.reduceEq, Int.reduceBEq, Int.reduceToNat, t3, t6, t11, t12, t13, t88, ti, tn, hgi, e8, e9, hw, hg1, hge]
              refine ⟨_, has_says L L1[i] (by omega), ?_⟩
              have hm : L.contains L1[i] = true := by simpa using g6 (by simpa using e9) _ (List.getElem_mem hi')
              simp only [go_sem, reduceCtorEq, Nat.reduceEqDiff, reduceIte, Nat.reduceAdd, Int.reduceNeg, Nat.reduceBEq, Nat.reduceLT, Nat.reduceLeDiff, Nat.reduceSub, Nat.reduceMul, Int.reduceLT, Int.reduceLE, Int.reduceAdd, Int.reduceEq, Int.reduceBEq, Int.reduceToNat, t3, t6, t11, t12, t13, t88, ti, tn, hm]
        · rintro τ' ti tn ⟨t3, t6, t11, t12, t13, t88⟩
          simp only [go_sem, reduceCtorEq, Nat.reduceEqDiff, reduceIte, Nat.reduceAdd, Int.reduceNeg, Nat.reduceBEq, Nat.reduceLT, Nat.reduceLeDiff, Nat.reduceSub, Nat.reduceMul, Int.reduceLT, Int.reduceLE, Int.reduceAdd, Int.reduceEq, Int.reduceBEq, Int.reduceToNat, t3, t6, t11, t12, t13, t88]
          exact ⟨st1, ow1, L1, false, ⟨rfl, rfl, rfl, rfl⟩, p1, q1, by omega⟩
  · rintro τ hi hn ⟨h11, _⟩
    simp only [go_sem, reduceCtorEq, Nat.reduceEqDiff, reduceIte, Nat.reduceAdd, Int.reduceNeg, Nat.reduceBEq, Nat.reduceLT, Nat.reduceLeDiff, Nat.reduceSub, Nat.reduceMul, Int.reduceLT, Int.reduceLE, Int.reduceAdd, Int.reduceEq, Int.reduceBEq, Int.reduceToNat, h11, hi, hn]
    refine ⟨_, awake_says, ?_⟩
    simp only [go_sem, reduceCtorEq, Nat.reduceEqDiff, reduceIte, Nat.reduceAdd, Int.reduceNeg, Nat.reduceBEq, Nat.reduceLT, Nat.reduceLeDiff, Nat.reduceSub, Nat.reduceMul, Int.reduceLT, Int.reduceLE, Int.reduceAdd, Int.reduceEq, Int.reduceBEq, Int.reduceToNat]
end Go.Abs
