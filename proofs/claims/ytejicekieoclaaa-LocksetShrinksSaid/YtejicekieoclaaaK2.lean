/- Sets of ints: set, Concat, common, meet. -/
import Derived.Test.YtejicekieoclaaaK0
import Derived.Test.YtejicekieoclaaaK1
import Derived.Test.YtejicekieoclaaaKP
set_option linter.unusedSimpArgs false
namespace Go.Abs
open Go.Proofs Go.Sort
set_option maxRecDepth 100000
set_option maxHeartbeats 4000000
def f17c : IC := (.seq (.reg [⟨some ⟨2, [], []⟩, .mv (.c (.own false 1 [])), none⟩])
 (.seq (.reg [⟨some ⟨4, [], []⟩, .cp (.t 0), none⟩,
  ⟨some ⟨5, [], []⟩, .call 24 [(.t 4)] 2, none⟩,
  ⟨some ⟨3, [6, 8], []⟩, .mv (.t 5), none⟩])
 (.seq (.rex [.o ⟨some ⟨6, [], [3]⟩, .cp (.t 3), none⟩,
  .lend (some ⟨7, [], []⟩) 25 (.t 6) []])
 (.seq (.rex [.o ⟨some ⟨8, [], [3]⟩, .cp (.t 3), none⟩,
  .lend (some ⟨9, [], []⟩) 26 (.t 8) [],
  .o ⟨some ⟨2, [], []⟩, .mv (.t 9), none⟩])
 .ret))))
def f17g : Gi := ⟨[(6, [3]), (8, [3])]⟩
def f17r : List RV := [.tmp 2]
def f17 : FI := ⟨f17c, f17g, f17r⟩

theorem chk17 : chkF Try.prog Try.f17 f17 = true := by kernel_rfl
def f16c : IC := (.seq (.reg [⟨some ⟨2, [], []⟩, .mv (.c (.own false 1 [])), none⟩])
 (.seq (.reg [⟨some ⟨3, [], []⟩, .mv (.c (.sc (.int .i64 0))), none⟩])
 (.seq (.seq (.reg [⟨some ⟨9, [], []⟩, .cp (.t 0), none⟩,
  ⟨some ⟨10, [], []⟩, .len (.t 9), none⟩,
  ⟨some ⟨11, [], []⟩, .cp (.c (.sc (.int .i64 0))), none⟩])
 (.block 0 (.loop (.seq (.reg [⟨some ⟨12, [], []⟩, .bin .lss (.t 11) (.t 10), none⟩])
 (.seq (.cond (.t 12) .skip (.exit 0))
 (.seq (.block 1 (.seq (.reg [⟨some ⟨13, [], []⟩, .iad 1 (.t 9) (.t 11), none⟩,
  ⟨some ⟨14, [], []⟩, .ld false 1 (.t 13), none⟩,
  ⟨some ⟨5, [], []⟩, .mv (.t 14), none⟩])
 (.seq (.reg [⟨some ⟨15, [], []⟩, .cp (.t 3), none⟩,
  ⟨some ⟨16, [], []⟩, .cp (.t 5), none⟩,
  ⟨some ⟨17, [], []⟩, .len (.t 16), none⟩,
  ⟨some ⟨18, [], []⟩, .bin .add (.t 15) (.t 17), none⟩,
  ⟨some ⟨3, [], []⟩, .mv (.t 18), none⟩])
 (.seq (.reg [⟨some ⟨19, [], []⟩, .cp (.t 3), none⟩,
  ⟨some ⟨20, [], []⟩, .bin .lss (.t 19) (.c (.sc (.int .i64 0))), none⟩])
 (.cond (.t 20) .bad .skip)))))
 (.reg [⟨some ⟨22, [], []⟩, .bin .add (.t 11) (.c (.sc (.int .i64 1))), none⟩,
  ⟨some ⟨11, [], []⟩, .cp (.t 22), none⟩])))))))
 (.seq (.reg [⟨some ⟨23, [], []⟩, .cp (.t 3), none⟩,
  ⟨some ⟨24, [], []⟩, .call 23 [(.c (.sc (.slice none 0 0))), (.t 23)] 2, none⟩,
  ⟨some ⟨6, [31, 35], []⟩, .mv (.t 24), none⟩])
 (.seq (.seq (.reg [⟨some ⟨25, [], []⟩, .cp (.t 0), none⟩,
  ⟨some ⟨26, [], []⟩, .len (.t 25), none⟩,
  ⟨some ⟨27, [], []⟩, .cp (.c (.sc (.int .i64 0))), none⟩])
 (.block 2 (.loop (.seq (.reg [⟨some ⟨28, [], []⟩, .bin .lss (.t 27) (.t 26), none⟩])
 (.seq (.cond (.t 28) .skip (.exit 2))
 (.seq (.block 3 (.seq (.reg [⟨some ⟨29, [], []⟩, .iad 1 (.t 25) (.t 27), none⟩,
  ⟨some ⟨30, [], []⟩, .ld false 1 (.t 29), none⟩,
  ⟨some ⟨8, [], []⟩, .mv (.t 30), none⟩])
 (.reg [⟨some ⟨31, [], [6]⟩, .cp (.t 6), none⟩,
  ⟨some ⟨32, [], []⟩, .cp (.t 8), none⟩,
  ⟨some ⟨33, [], []⟩, .app 1 8 (.t 31) (.t 32), none⟩,
  ⟨some ⟨6, [31, 35], []⟩, .mv (.t 33), none⟩])))
 (.reg [⟨some ⟨34, [], []⟩, .bin .add (.t 27) (.c (.sc (.int .i64 1))), none⟩,
  ⟨some ⟨27, [], []⟩, .cp (.t 34), none⟩])))))))
 (.seq (.reg [⟨some ⟨35, [], [6]⟩, .cp (.t 6), none⟩,
  ⟨some ⟨2, [], []⟩, .mv (.t 35), none⟩])
 .ret))))))
def f16g : Gi := ⟨[(31, [6]), (35, [6])]⟩
def f16r : List RV := [.tmp 2]
def f16 : FI := ⟨f16c, f16g, f16r⟩

theorem chk16 : chkF Try.prog Try.f16 f16 = true := by kernel_rfl
def f18c : IC := (.seq (.reg [⟨some ⟨4, [], []⟩, .mv (.c (.own false 1 [])), none⟩])
 (.seq (.reg [⟨some ⟨5, [27, 32], []⟩, .mv (.c (.own false 1 [])), none⟩])
 (.seq (.reg [⟨some ⟨11, [], []⟩, .cp (.t 1), none⟩,
  ⟨some ⟨12, [], []⟩, .call 17 [(.t 11)] 1, none⟩,
  ⟨some ⟨6, [], []⟩, .mv (.t 12), none⟩])
 (.seq (.seq (.reg [⟨some ⟨13, [], []⟩, .cp (.t 0), none⟩,
  ⟨some ⟨14, [], []⟩, .call 17 [(.t 13)] 1, none⟩,
  ⟨some ⟨15, [], []⟩, .len (.t 14), none⟩,
  ⟨some ⟨16, [], []⟩, .cp (.c (.sc (.int .i64 0))), none⟩])
 (.block 0 (.loop (.seq (.reg [⟨some ⟨17, [], []⟩, .bin .lss (.t 16) (.t 15), none⟩])
 (.seq (.cond (.t 17) .skip (.exit 0))
 (.seq (.block 1 (.seq (.reg [⟨some ⟨18, [], []⟩, .iad 1 (.t 14) (.t 16), none⟩,
  ⟨some ⟨19, [], []⟩, .ld false 1 (.t 18), none⟩,
  ⟨some ⟨8, [], []⟩, .mv (.t 19), none⟩])
 (.seq (.reg [⟨some ⟨21, [], []⟩, .cp (.t 6), none⟩,
  ⟨some ⟨22, [], []⟩, .cp (.t 8), none⟩,
  ⟨some ⟨23, [], []⟩, .call 27 [(.t 21), (.t 22)] 0, none⟩,
  ⟨some ⟨20, [], []⟩, .cp (.t 23), none⟩,
  ⟨some ⟨24, [], []⟩, .ext (.t 20) 0, none⟩,
  ⟨some ⟨25, [], []⟩, .ext (.t 20) 1, none⟩,
  ⟨some ⟨9, [], []⟩, .mv (.t 24), none⟩,
  ⟨some ⟨10, [], []⟩, .mv (.t 25), none⟩])
 (.seq (.reg [⟨some ⟨26, [], []⟩, .cp (.t 10), none⟩])
 (.cond (.t 26) (.reg [⟨some ⟨27, [], [5]⟩, .cp (.t 5), none⟩,
  ⟨some ⟨28, [], []⟩, .cp (.t 8), none⟩,
  ⟨some ⟨29, [], []⟩, .bsl 1 [[.sc (.int .i64 0)]] [(0, (.t 28))], none⟩,
  ⟨some ⟨30, [], []⟩, .app 1 8 (.t 27) (.t 29), none⟩,
  ⟨some ⟨5, [27, 32], []⟩, .mv (.t 30), none⟩]) .skip)))))
 (.reg [⟨some ⟨31, [], []⟩, .bin .add (.t 16) (.c (.sc (.int .i64 1))), none⟩,
  ⟨some ⟨16, [], []⟩, .cp (.t 31), none⟩])))))))
 (.seq (.reg [⟨some ⟨32, [], [5]⟩, .cp (.t 5), none⟩,
  ⟨some ⟨4, [], []⟩, .mv (.t 32), none⟩])
 .ret)))))
def f18g : Gi := ⟨[(27, [5]), (32, [5])]⟩
def f18r : List RV := [.tmp 4]
def f18 : FI := ⟨f18c, f18g, f18r⟩

theorem chk18 : chkF Try.prog Try.f18 f18 = true := by kernel_rfl
def f22c : IC := (.seq (.reg [⟨some ⟨4, [], []⟩, .mv (.c (.sc (.bool false))), none⟩])
 (.seq (.reg [⟨some ⟨5, [], []⟩, .cp (.t 0), none⟩,
  ⟨some ⟨6, [], []⟩, .cp (.t 1), none⟩,
  ⟨some ⟨7, [], []⟩, .call 18 [(.t 5), (.t 6)] 1, none⟩,
  ⟨some ⟨8, [], []⟩, .len (.t 7), none⟩,
  ⟨some ⟨9, [], []⟩, .bin .gtr (.t 8) (.c (.sc (.int .i64 0))), none⟩,
  ⟨some ⟨4, [], []⟩, .mv (.t 9), none⟩])
 .ret))
def f22g : Gi := ⟨[]⟩
def f22r : List RV := [.tmp 4]
def f22 : FI := ⟨f22c, f22g, f22r⟩

theorem chk22 : chkF Try.prog Try.f22 f22 = true := by kernel_rfl

theorem compact_nil : Lib.compact ([] : List Int) = [] := rfl
theorem frz_ints (l : List Int) : frzR (ints l) = ints l := by rw [frzR_eq]; simp [ints, frz]
theorem fresh_ints (l : List Int) : freshR (ints l) = true := by
  rw [freshR_all]; simp [ints, fresh, freshL]
theorem sort25 (l : List Int) (hl : l.length < 4611686018427) : SoundAt Try.prog 25 [.own false 1 (ints l)] (.tup []) [.own false 1 (ints (msort l))] :=
  sort_sound Try.slices_Sort_int Try.slices_Sort_int_none l (by omega)
theorem compact26 (l : List Int) (hl : l.length < 4611686018427) : SoundAt Try.prog 26 [.own false 1 (ints l)] (.own false 1 (ints (Lib.compact l))) [.dead] :=
  compact_sound Try.slices_Compact_int Try.slices_Compact_int_empty l (by omega) (compact_length l) compact_nil

theorem set_says (l : List Int) (hl : l.length < 4611686018427) : Says Try.prog 17 [.sl false 1 (ints l)] (.own false 1 (ints (setOf l))) := by
  refine says_of mix Try.func17 chk17 (of_decide_eq_true (by kernel_rfl)) rfl ?_
  simp only [f17, f17c, f17g, f17r, go_sem, reduceCtorEq, Nat.reduceEqDiff, reduceIte, Nat.reduceAdd, Int.reduceNeg, Nat.reduceBEq, Nat.reduceLT, Nat.reduceLeDiff, Nat.reduceSub, Nat.reduceMul, Int.reduceLT, Int.reduceLE, Int.reduceAdd, Int.reduceEq, Int.reduceBEq, Int.reduceToNat]
  refine ⟨_, clone_says l hl, ?_⟩
  simp only [go_sem, reduceCtorEq, Nat.reduceEqDiff, reduceIte, Nat.reduceAdd, Int.reduceNeg, Nat.reduceBEq, Nat.reduceLT, Nat.reduceLeDiff, Nat.reduceSub, Nat.reduceMul, Int.reduceLT, Int.reduceLE, Int.reduceAdd, Int.reduceEq, Int.reduceBEq, Int.reduceToNat, fresh_ints]
  refine lendK_at _ _ rfl (sort25 l hl) rfl ?_
  simp only [go_sem, reduceCtorEq, Nat.reduceEqDiff, reduceIte, Nat.reduceAdd, Int.reduceNeg, Nat.reduceBEq, Nat.reduceLT, Nat.reduceLeDiff, Nat.reduceSub, Nat.reduceMul, Int.reduceLT, Int.reduceLE, Int.reduceAdd, Int.reduceEq, Int.reduceBEq, Int.reduceToNat, fresh_ints]
  refine lendK_at _ _ rfl (compact26 (msort l) (by rw [msort_length]; exact hl)) rfl ?_
  simp only [go_sem, reduceCtorEq, Nat.reduceEqDiff, reduceIte, Nat.reduceAdd, Int.reduceNeg, Nat.reduceBEq, Nat.reduceLT, Nat.reduceLeDiff, Nat.reduceSub, Nat.reduceMul, Int.reduceLT, Int.reduceLE, Int.reduceAdd, Int.reduceEq, Int.reduceBEq, Int.reduceToNat, fresh_ints, setOf]

def ilists (ls : List (List Int)) : List (List AV) := ls.map fun l => [AV.sl false 1 (ints l)]
theorem ilists_length (ls : List (List Int)) : (ilists ls).length = ls.length := by simp [ilists]
theorem ilists_get (ls : List (List Int)) (i : Nat) : (ilists ls)[i]? = (ls[i]?).map fun l => [AV.sl false 1 (ints l)] := by simp [ilists]
theorem flatten_take_succ (ls : List (List Int)) (j : Nat) (hj : j < ls.length) : (ls.take (j + 1)).flatten = (ls.take j).flatten ++ ls[j] := by
  rw [List.take_succ_eq_append_getElem hj, List.flatten_append]; simp
theorem flatten_take_le (ls : List (List Int)) (j : Nat) : (ls.take j).flatten.length ≤ ls.flatten.length := by
  have : ls.flatten = (ls.take j).flatten ++ (ls.drop j).flatten := by rw [← List.flatten_append, List.take_append_drop]
  rw [this, List.length_append]; omega

theorem grow23 (n : Nat) (hn : n < 4611686018427) : Says Try.prog 23 [.sc (.slice none 0 0), si n] (.own false 1 []) := by
  refine grow_says (E := 3) ?_ ?_ n (by omega)
  · intro n w h0 hn
    have hi : Try.prog.info? 3 = some ((Try.prog.info? 3).getD default) := by kernel_rfl
    have hs : ((Try.prog.info? 3).getD default).size = 1 := by kernel_rfl
    have hb : ((Try.prog.info? 3).getD default).bytes = 8 := by kernel_rfl
    have h := Any8.slices_Grow_grow Try.lays84 ((Try.prog.info? 3).getD default) (.int .i64 0) hi (by kernel_rfl) (by rw [hs]; omega) none 0 0 n [] w (Nat.le_refl _) (by omega)
      (by rw [hb]; omega) (by omega) (by simp) (by simp) (by simp)
    refine h.mono ?_
    rintro e w' ⟨rfl, rfl⟩
    refine ⟨_, _, ?_, rfl, rfl⟩
    have := grownCap_ge w (0 + n) 0 (Try.lays84_ren.t 25)
    rw [Nat.zero_add] at this
    simp only [Array.size_append, size_zeroCells, Value.cells]
    simp
    omega
  · intro w
    have h := Any8.slices_Grow_room Try.lays84 none 0 0 0 w (by omega) (by omega) (by omega) (by omega)
    exact h

theorem concat_says (ls : List (List Int)) (hl : ls.flatten.length < 4611686018427) (hls : ls.length < 4611686018427) : Says Try.prog 16 [.sl false 1 (ilists ls)] (.own false 1 (ints ls.flatten)) := by
  refine says_of mix Try.func16 chk16 (of_decide_eq_true (by kernel_rfl)) rfl ?_
  simp only [f16, f16c, f16g, f16r, go_sem, reduceCtorEq, Nat.reduceEqDiff, reduceIte, Nat.reduceAdd, Int.reduceNeg, Nat.reduceBEq, Nat.reduceLT, Nat.reduceLeDiff, Nat.reduceSub, Nat.reduceMul, Int.reduceLT, Int.reduceLE, Int.reduceAdd, Int.reduceEq, Int.reduceBEq, Int.reduceToNat, ilists_length]
  refine awp_range ls.length (fun j τ => τ 0 = .sl false 1 (ilists ls) ∧ τ 9 = .sl false 1 (ilists ls) ∧ τ 3 = si ((ls.take j).flatten.length : Nat)) (by omega) ?_ ?_ ?_ ?_ ?_ (by decide)
  · simp only [go_sem, reduceCtorEq, Nat.reduceEqDiff, reduceIte, Nat.reduceAdd, Int.reduceNeg, Nat.reduceBEq, Nat.reduceLT, Nat.reduceLeDiff, Nat.reduceSub, Nat.reduceMul, Int.reduceLT, Int.reduceLE, Int.reduceAdd, Int.reduceEq, Int.reduceBEq, Int.reduceToNat]
  · simp only [go_sem, reduceCtorEq, Nat.reduceEqDiff, reduceIte, Nat.reduceAdd, Int.reduceNeg, Nat.reduceBEq, Nat.reduceLT, Nat.reduceLeDiff, Nat.reduceSub, Nat.reduceMul, Int.reduceLT, Int.reduceLE, Int.reduceAdd, Int.reduceEq, Int.reduceBEq, Int.reduceToNat]
  · simp only [go_sem, reduceCtorEq, Nat.reduceEqDiff, reduceIte, Nat.reduceAdd, Int.reduceNeg, Nat.reduceBEq, Nat.reduceLT, Nat.reduceLeDiff, Nat.reduceSub, Nat.reduceMul, Int.reduceLT, Int.reduceLE, Int.reduceAdd, Int.reduceEq, Int.reduceBEq, Int.reduceToNat, List.flatten_nil]
    rfl
  · rintro j τ hj hi hn ⟨h0, h9, h3⟩
    have hg : (ilists ls)[j]? = some [.sl false 1 (ints ls[j])] := by rw [ilists_get]; simp [hj]
    have hb := flatten_take_le ls (j + 1)
    rw [flatten_take_succ ls j hj, List.length_append] at hb
    have hw : IntKind.i64.wrap (((ls.take j).flatten.length : Int) + (ls[j].length : Int)) = (((ls.take (j + 1)).flatten.length : Nat) : Int) := by
      rw [flatten_take_succ ls j hj, List.length_append]
      have := wrap_nat (n := (ls.take j).flatten.length + ls[j].length) (by omega)
      simpa using this
    have hneg : decide ((((ls.take (j + 1)).flatten.length : Nat) : Int) < 0) = false := by simp
    simp only [go_sem, reduceCtorEq, Nat.reduceEqDiff, reduceIte, Nat.reduceAdd, Int.reduceNeg, Nat.reduceBEq, Nat.reduceLT, Nat.reduceLeDiff, Nat.reduceSub, Nat.reduceMul, Int.reduceLT, Int.reduceLE, Int.reduceAdd, Int.reduceEq, Int.reduceBEq, Int.reduceToNat, h0, h9, h3, hi, hn, hg, ints_length, hw, hneg]
  · rintro τ hi hn ⟨h0, h9, h3⟩
    rw [List.take_length] at h3
    simp only [go_sem, reduceCtorEq, Nat.reduceEqDiff, reduceIte, Nat.reduceAdd, Int.reduceNeg, Nat.reduceBEq, Nat.reduceLT, Nat.reduceLeDiff, Nat.reduceSub, Nat.reduceMul, Int.reduceLT, Int.reduceLE, Int.reduceAdd, Int.reduceEq, Int.reduceBEq, Int.reduceToNat, h0, h9, h3]
    refine ⟨_, grow23 _ hl, ?_⟩
    simp only [go_sem, reduceCtorEq, Nat.reduceEqDiff, reduceIte, Nat.reduceAdd, Int.reduceNeg, Nat.reduceBEq, Nat.reduceLT, Nat.reduceLeDiff, Nat.reduceSub, Nat.reduceMul, Int.reduceLT, Int.reduceLE, Int.reduceAdd, Int.reduceEq, Int.reduceBEq, Int.reduceToNat, h0, h9, h3, ilists_length]
    refine awp_range ls.length (fun j τ => τ 25 = .sl false 1 (ilists ls) ∧ τ 6 = .own false 1 (ints (ls.take j).flatten)) (by omega) ?_ ?_ ?_ ?_ ?_ (by decide)
    · simp only [go_sem, reduceCtorEq, Nat.reduceEqDiff, reduceIte, Nat.reduceAdd, Int.reduceNeg, Nat.reduceBEq, Nat.reduceLT, Nat.reduceLeDiff, Nat.reduceSub, Nat.reduceMul, Int.reduceLT, Int.reduceLE, Int.reduceAdd, Int.reduceEq, Int.reduceBEq, Int.reduceToNat]
    · simp only [go_sem, reduceCtorEq, Nat.reduceEqDiff, reduceIte, Nat.reduceAdd, Int.reduceNeg, Nat.reduceBEq, Nat.reduceLT, Nat.reduceLeDiff, Nat.reduceSub, Nat.reduceMul, Int.reduceLT, Int.reduceLE, Int.reduceAdd, Int.reduceEq, Int.reduceBEq, Int.reduceToNat, ilists_length]
    · simp only [go_sem, reduceCtorEq, Nat.reduceEqDiff, reduceIte, Nat.reduceAdd, Int.reduceNeg, Nat.reduceBEq, Nat.reduceLT, Nat.reduceLeDiff, Nat.reduceSub, Nat.reduceMul, Int.reduceLT, Int.reduceLE, Int.reduceAdd, Int.reduceEq, Int.reduceBEq, Int.reduceToNat, h0, List.flatten_nil, ints_nil]
    · rintro j τ hj hi hn ⟨h25, h6⟩
      have hg : (ilists ls)[j]? = some [.sl false 1 (ints ls[j])] := by rw [ilists_get]; simp [hj]
      have hb := flatten_take_le ls (j + 1)
      have hr : roomOK ((ls.take j).flatten.length + ls[j].length) 8 = true := room8 (by rw [flatten_take_succ ls j hj, List.length_append] at hb; omega)
      simp only [go_sem, reduceCtorEq, Nat.reduceEqDiff, reduceIte, Nat.reduceAdd, Int.reduceNeg, Nat.reduceBEq, Nat.reduceLT, Nat.reduceLeDiff, Nat.reduceSub, Nat.reduceMul, Int.reduceLT, Int.reduceLE, Int.reduceAdd, Int.reduceEq, Int.reduceBEq, Int.reduceToNat, h25, h6, hi, hn, hg, ints_length, ints_plain, hr, ints_append, flatten_take_succ ls j hj]
    · rintro τ hi hn ⟨h25, h6⟩
      rw [List.take_length] at h6
      simp only [go_sem, reduceCtorEq, Nat.reduceEqDiff, reduceIte, Nat.reduceAdd, Int.reduceNeg, Nat.reduceBEq, Nat.reduceLT, Nat.reduceLeDiff, Nat.reduceSub, Nat.reduceMul, Int.reduceLT, Int.reduceLE, Int.reduceAdd, Int.reduceEq, Int.reduceBEq, Int.reduceToNat, h25, h6, hi, hn]

theorem bsearch27 (l : List Int) (x : Int) (hl : l.length < 4611686018427) (hs : l.Pairwise (· ≤ ·)) : Says Try.prog 27 [.sl false 1 (ints l), si x] (.tup [si (l.countP (· < x) : Nat), sb (l.contains x)]) :=
  bsearch_says Try.slices_BinarySearch_int Try.slices_BinarySearch_int_empty l x (by omega) hs

def commonOf (a b : List Int) : List Int := (setOf a).filter fun x => (setOf b).contains x
theorem le_of_lt_pw {l : List Int} (h : l.Pairwise (· < ·)) : l.Pairwise (· ≤ ·) := h.imp fun h => Int.le_of_lt h
theorem common_says (a b : List Int) (ha : a.length < 4611686018427) (hb : b.length < 4611686018427) : Says Try.prog 18 [.sl false 1 (ints a), .sl false 1 (ints b)] (.own false 1 (ints (commonOf a b))) := by
  refine says_of mix Try.func18 chk18 (of_decide_eq_true (by kernel_rfl)) rfl ?_
  simp only [f18, f18c, f18g, f18r, go_sem, reduceCtorEq, Nat.reduceEqDiff, reduceIte, Nat.reduceAdd, Int.reduceNeg, Nat.reduceBEq, Nat.reduceLT, Nat.reduceLeDiff, Nat.reduceSub, Nat.reduceMul, Int.reduceLT, Int.reduceLE, Int.reduceAdd, Int.reduceEq, Int.reduceBEq, Int.reduceToNat]
  refine ⟨_, set_says b hb, ?_⟩
  simp only [go_sem, reduceCtorEq, Nat.reduceEqDiff, reduceIte, Nat.reduceAdd, Int.reduceNeg, Nat.reduceBEq, Nat.reduceLT, Nat.reduceLeDiff, Nat.reduceSub, Nat.reduceMul, Int.reduceLT, Int.reduceLE, Int.reduceAdd, Int.reduceEq, Int.reduceBEq, Int.reduceToNat, frz_ints]
  refine ⟨_, set_says a ha, ?_⟩
  simp only [go_sem, reduceCtorEq, Nat.reduceEqDiff, reduceIte, Nat.reduceAdd, Int.reduceNeg, Nat.reduceBEq, Nat.reduceLT, Nat.reduceLeDiff, Nat.reduceSub, Nat.reduceMul, Int.reduceLT, Int.reduceLE, Int.reduceAdd, Int.reduceEq, Int.reduceBEq, Int.reduceToNat, frz_ints, ints_length]
  have hla := setOf_length a
  have hlb := setOf_length b
  refine awp_range (setOf a).length (fun j τ => τ 6 = .sl false 1 (ints (setOf b)) ∧ τ 14 = .sl false 1 (ints (setOf a)) ∧ τ 5 = .own false 1 (ints (((setOf a).take j).filter fun x => (setOf b).contains x))) (by omega) ?_ ?_ ?_ ?_ ?_ (by decide)
  · simp only [go_sem, reduceCtorEq, Nat.reduceEqDiff, reduceIte, Nat.reduceAdd, Int.reduceNeg, Nat.reduceBEq, Nat.reduceLT, Nat.reduceLeDiff, Nat.reduceSub, Nat.reduceMul, Int.reduceLT, Int.reduceLE, Int.reduceAdd, Int.reduceEq, Int.reduceBEq, Int.reduceToNat]
  · simp only [go_sem, reduceCtorEq, Nat.reduceEqDiff, reduceIte, Nat.reduceAdd, Int.reduceNeg, Nat.reduceBEq, Nat.reduceLT, Nat.reduceLeDiff, Nat.reduceSub, Nat.reduceMul, Int.reduceLT, Int.reduceLE, Int.reduceAdd, Int.reduceEq, Int.reduceBEq, Int.reduceToNat]
  · simp only [go_sem, reduceCtorEq, Nat.reduceEqDiff, reduceIte, Nat.reduceAdd, Int.reduceNeg, Nat.reduceBEq, Nat.reduceLT, Nat.reduceLeDiff, Nat.reduceSub, Nat.reduceMul, Int.reduceLT, Int.reduceLE, Int.reduceAdd, Int.reduceEq, Int.reduceBEq, Int.reduceToNat, ints_nil]
  · rintro j τ hj hi hn ⟨h6, h14, h5⟩
    have hg : (ints (setOf a))[j]? = some [si (setOf a)[j]] := by rw [ints_get]; simp [hj]
    simp only [go_sem, reduceCtorEq, Nat.reduceEqDiff, reduceIte, Nat.reduceAdd, Int.reduceNeg, Nat.reduceBEq, Nat.reduceLT, Nat.reduceLeDiff, Nat.reduceSub, Nat.reduceMul, Int.reduceLT, Int.reduceLE, Int.reduceAdd, Int.reduceEq, Int.reduceBEq, Int.reduceToNat, h6, h14, h5, hi, hn, hg, frz_ints]
    refine ⟨_, bsearch27 (setOf b) (setOf a)[j] (by omega) (le_of_lt_pw (setOf_sorted b)), ?_⟩
    have ht : (setOf a).take (j + 1) = (setOf a).take j ++ [(setOf a)[j]] := by simp
    have hfl := List.length_filter_le (fun x => (setOf b).contains x) ((setOf a).take j)
    rw [List.length_take] at hfl
    have hr : roomOK ((((setOf a).take j).filter fun x => (setOf b).contains x).length + 1) 8 = true := room8 (by omega)
    cases hc : (setOf b).contains (setOf a)[j] with
    | true =>
      simp only [go_sem, reduceCtorEq, Nat.reduceEqDiff, reduceIte, Nat.reduceAdd, Int.reduceNeg, Nat.reduceBEq, Nat.reduceLT, Nat.reduceLeDiff, Nat.reduceSub, Nat.reduceMul, Int.reduceLT, Int.reduceLE, Int.reduceAdd, Int.reduceEq, Int.reduceBEq, Int.reduceToNat, h6, h14, h5, hi, hn, hc, ints_length, hr, ints_one (setOf a)[j], ints_append, ht, List.filter_append, ints_cell]
    | false =>
      simp only [go_sem, reduceCtorEq, Nat.reduceEqDiff, reduceIte, Nat.reduceAdd, Int.reduceNeg, Nat.reduceBEq, Nat.reduceLT, Nat.reduceLeDiff, Nat.reduceSub, Nat.reduceMul, Int.reduceLT, Int.reduceLE, Int.reduceAdd, Int.reduceEq, Int.reduceBEq, Int.reduceToNat, h6, h14, h5, hi, hn, hc, ints_length, hr, ints_one (setOf a)[j], ints_append, ht, List.filter_append]
  · rintro τ hi hn ⟨h6, h14, h5⟩
    rw [List.take_length] at h5
    simp only [go_sem, reduceCtorEq, Nat.reduceEqDiff, reduceIte, Nat.reduceAdd, Int.reduceNeg, Nat.reduceBEq, Nat.reduceLT, Nat.reduceLeDiff, Nat.reduceSub, Nat.reduceMul, Int.reduceLT, Int.reduceLE, Int.reduceAdd, Int.reduceEq, Int.reduceBEq, Int.reduceToNat, h5, commonOf]

theorem meet_says (a b : List Int) (ha : a.length < 4611686018427) (hb : b.length < 4611686018427) : Says Try.prog 22 [.sl false 1 (ints a), .sl false 1 (ints b)] (sb (decide (0 < (commonOf a b).length))) := by
  refine says_of mix Try.func22 chk22 (of_decide_eq_true (by kernel_rfl)) rfl ?_
  simp only [f22, f22c, f22g, f22r, go_sem, reduceCtorEq, Nat.reduceEqDiff, reduceIte, Nat.reduceAdd, Int.reduceNeg, Nat.reduceBEq, Nat.reduceLT, Nat.reduceLeDiff, Nat.reduceSub, Nat.reduceMul, Int.reduceLT, Int.reduceLE, Int.reduceAdd, Int.reduceEq, Int.reduceBEq, Int.reduceToNat]
  refine ⟨_, common_says a b ha hb, ?_⟩
  simp only [go_sem, reduceCtorEq, Nat.reduceEqDiff, reduceIte, Nat.reduceAdd, Int.reduceNeg, Nat.reduceBEq, Nat.reduceLT, Nat.reduceLeDiff, Nat.reduceSub, Nat.reduceMul, Int.reduceLT, Int.reduceLE, Int.reduceAdd, Int.reduceEq, Int.reduceBEq, Int.reduceToNat, frz_ints, ints_length]
  simp
end Go.Abs
