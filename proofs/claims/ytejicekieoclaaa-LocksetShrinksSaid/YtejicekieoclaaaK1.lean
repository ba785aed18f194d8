/- Lists of ints: Has, Equal, Copy, Clone. -/
import Derived.Test.YtejicekieoclaaaCoreK
import Derived.Test.YtejicekieoclaaaProg
import Derived.KernelRfl
set_option linter.unusedSimpArgs false
namespace Go.Abs
open Go.Proofs
set_option maxRecDepth 100000
set_option maxHeartbeats 4000000
theorem mix : Try.prog.follows .mixedOrders = true := by kernel_rfl
def f13c : IC := (.seq (.reg [⟨some ⟨4, [], []⟩, .mv (.c (.sc (.bool false))), none⟩])
 (.seq (.seq (.reg [⟨some ⟨7, [], []⟩, .cp (.t 0), none⟩,
  ⟨some ⟨8, [], []⟩, .len (.t 7), none⟩,
  ⟨some ⟨9, [], []⟩, .cp (.c (.sc (.int .i64 0))), none⟩])
 (.block 0 (.loop (.seq (.reg [⟨some ⟨10, [], []⟩, .bin .lss (.t 9) (.t 8), none⟩])
 (.seq (.cond (.t 10) .skip (.exit 0))
 (.seq (.block 1 (.seq (.reg [⟨some ⟨11, [], []⟩, .iad 1 (.t 7) (.t 9), none⟩,
  ⟨some ⟨12, [], []⟩, .ld false 1 (.t 11), none⟩,
  ⟨some ⟨6, [], []⟩, .mv (.t 12), none⟩])
 (.seq (.reg [⟨some ⟨13, [], []⟩, .cp (.t 6), none⟩,
  ⟨some ⟨14, [], []⟩, .cp (.t 1), none⟩,
  ⟨some ⟨15, [], []⟩, .bin .eql (.t 13) (.t 14), none⟩])
 (.cond (.t 15) (.seq (.reg [⟨some ⟨4, [], []⟩, .mv (.c (.sc (.bool true))), none⟩])
 .ret) .skip))))
 (.reg [⟨some ⟨16, [], []⟩, .bin .add (.t 9) (.c (.sc (.int .i64 1))), none⟩,
  ⟨some ⟨9, [], []⟩, .cp (.t 16), none⟩])))))))
 (.seq (.reg [⟨some ⟨4, [], []⟩, .mv (.c (.sc (.bool false))), none⟩])
 .ret)))
def f13g : Gi := ⟨[]⟩
def f13r : List RV := [.tmp 4]
def f13 : FI := ⟨f13c, f13g, f13r⟩

theorem chk13 : chkF Try.prog Try.f13 f13 = true := by kernel_rfl
def f21c : IC := (.seq (.reg [⟨some ⟨4, [], []⟩, .mv (.c (.sc (.bool false))), none⟩])
 (.seq (.seq (.reg [⟨some ⟨6, [], []⟩, .cp (.t 0), none⟩,
  ⟨some ⟨7, [], []⟩, .len (.t 6), none⟩,
  ⟨some ⟨8, [], []⟩, .cp (.t 1), none⟩,
  ⟨some ⟨9, [], []⟩, .len (.t 8), none⟩,
  ⟨some ⟨10, [], []⟩, .bin .neq (.t 7) (.t 9), none⟩])
 (.cond (.t 10) (.seq (.reg [⟨some ⟨4, [], []⟩, .mv (.c (.sc (.bool false))), none⟩])
 .ret) .skip))
 (.seq (.seq (.reg [⟨some ⟨11, [], []⟩, .cp (.t 0), none⟩,
  ⟨some ⟨12, [], []⟩, .len (.t 11), none⟩,
  ⟨some ⟨13, [], []⟩, .cp (.c (.sc (.int .i64 0))), none⟩])
 (.block 0 (.loop (.seq (.reg [⟨some ⟨14, [], []⟩, .bin .lss (.t 13) (.t 12), none⟩])
 (.seq (.cond (.t 14) .skip (.exit 0))
 (.seq (.block 1 (.seq (.reg [⟨some ⟨15, [], []⟩, .cp (.t 13), none⟩,
  ⟨some ⟨5, [], []⟩, .mv (.t 15), none⟩])
 (.seq (.reg [⟨some ⟨16, [], []⟩, .cp (.t 0), none⟩,
  ⟨some ⟨17, [], []⟩, .cp (.t 5), none⟩,
  ⟨some ⟨18, [], []⟩, .iad 1 (.t 16) (.t 17), none⟩,
  ⟨some ⟨19, [], []⟩, .ld false 1 (.t 18), none⟩,
  ⟨some ⟨20, [], []⟩, .cp (.t 1), none⟩,
  ⟨some ⟨21, [], []⟩, .cp (.t 5), none⟩,
  ⟨some ⟨22, [], []⟩, .iad 1 (.t 20) (.t 21), none⟩,
  ⟨some ⟨23, [], []⟩, .ld false 1 (.t 22), none⟩,
  ⟨some ⟨24, [], []⟩, .bin .neq (.t 19) (.t 23), none⟩])
 (.cond (.t 24) (.seq (.reg [⟨some ⟨4, [], []⟩, .mv (.c (.sc (.bool false))), none⟩])
 .ret) .skip))))
 (.reg [⟨some ⟨25, [], []⟩, .bin .add (.t 13) (.c (.sc (.int .i64 1))), none⟩,
  ⟨some ⟨13, [], []⟩, .cp (.t 25), none⟩])))))))
 (.seq (.reg [⟨some ⟨4, [], []⟩, .mv (.c (.sc (.bool true))), none⟩])
 .ret))))
def f21g : Gi := ⟨[]⟩
def f21r : List RV := [.tmp 4]
def f21 : FI := ⟨f21c, f21g, f21r⟩

theorem chk21 : chkF Try.prog Try.f21 f21 = true := by kernel_rfl
def f28c : IC := (.seq (.reg [⟨some ⟨2, [], []⟩, .mv (.c (.own false 1 [])), none⟩])
 (.seq (.reg [⟨some ⟨3, [], []⟩, .cp (.t 0), none⟩,
  ⟨some ⟨4, [], []⟩, .app 1 8 (.c (.own false 1 [])) (.t 3), none⟩,
  ⟨some ⟨2, [], []⟩, .mv (.t 4), none⟩])
 .ret))
def f28g : Gi := ⟨[]⟩
def f28r : List RV := [.tmp 2]
def f28 : FI := ⟨f28c, f28g, f28r⟩

theorem chk28 : chkF Try.prog Try.f28 f28 = true := by kernel_rfl
def f24c : IC := (.seq (.reg [⟨some ⟨2, [], []⟩, .mv (.c (.own false 1 [])), none⟩])
 (.seq (.seq (.rex [.o ⟨some ⟨3, [], []⟩, .cp (.t 0), none⟩,
  .nilq ⟨4, [], []⟩ false (.t 3)])
 (.cond (.t 4) (.seq (.reg [⟨some ⟨2, [], []⟩, .mv (.c (.own false 1 [])), none⟩])
 .ret) .skip))
 (.seq (.reg [⟨some ⟨5, [], []⟩, .bsl 1 [] [], none⟩,
  ⟨some ⟨6, [], []⟩, .cp (.t 0), none⟩,
  ⟨some ⟨7, [], []⟩, .app 1 8 (.t 5) (.t 6), none⟩,
  ⟨some ⟨2, [], []⟩, .mv (.t 7), none⟩])
 .ret)))
def f24g : Gi := ⟨[]⟩
def f24r : List RV := [.tmp 2]
def f24 : FI := ⟨f24c, f24g, f24r⟩

theorem chk24 : chkF Try.prog Try.f24 f24 = true := by kernel_rfl
theorem ints_plain (l : List Int) : ((ints l).all fun x => x.all plainA) = true := by simp [ints, plainA]
theorem ints_cell (l : List Int) : ((ints l).all fun x => x.all cellA) = true := by simp [ints, cellA]
theorem ints_append (a b : List Int) : ints a ++ ints b = ints (a ++ b) := by simp [ints]
theorem ints_one (z : Int) : [[si z]] = ints [z] := rfl
theorem ints_nil : ints [] = [] := rfl
theorem room8 {n : Nat} (h : n < 4611686018427) : roomOK n 8 = true := by unfold roomOK; simp; omega

theorem has_says (l : List Int) (k : Int) (hl : l.length < 4611686018427387904) : Says Try.prog 13 [.sl false 1 (ints l), si k] (sb (l.contains k)) := by
  refine says_of mix Try.func13 chk13 (of_decide_eq_true (by kernel_rfl)) rfl ?_
  simp only [f13, f13c, f13g, f13r, go_sem, reduceCtorEq, Nat.reduceEqDiff, reduceIte, Nat.reduceAdd, Int.reduceNeg, Nat.reduceBEq, Nat.reduceLT, Nat.reduceLeDiff, Nat.reduceSub, Nat.reduceMul, Int.reduceLT, Int.reduceLE, Int.reduceAdd, Int.reduceEq, Int.reduceBEq, Int.reduceToNat]
  refine awp_range l.length (fun j τ => τ 1 = si k ∧ τ 7 = .sl false 1 (ints l) ∧ (l.take j).contains k = false) hl ?_ ?_ ?_ ?_ ?_ (by decide)
  · simp only [go_sem, reduceCtorEq, Nat.reduceEqDiff, reduceIte, Nat.reduceAdd, Int.reduceNeg, Nat.reduceBEq, Nat.reduceLT, Nat.reduceLeDiff, Nat.reduceSub, Nat.reduceMul, Int.reduceLT, Int.reduceLE, Int.reduceAdd, Int.reduceEq, Int.reduceBEq, Int.reduceToNat]
  · simp only [ints_length, go_sem, reduceCtorEq, Nat.reduceEqDiff, reduceIte, Nat.reduceAdd, Int.reduceNeg, Nat.reduceBEq, Nat.reduceLT, Nat.reduceLeDiff, Nat.reduceSub, Nat.reduceMul, Int.reduceLT, Int.reduceLE, Int.reduceAdd, Int.reduceEq, Int.reduceBEq, Int.reduceToNat]
  · simp [go_sem, reduceCtorEq, Nat.reduceEqDiff, reduceIte, Nat.reduceAdd, Int.reduceNeg, Nat.reduceBEq, Nat.reduceLT, Nat.reduceLeDiff, Nat.reduceSub, Nat.reduceMul, Int.reduceLT, Int.reduceLE, Int.reduceAdd, Int.reduceEq, Int.reduceBEq, Int.reduceToNat]
  · rintro j τ hj hi hn ⟨h1, h7, hk⟩
    have hg : (ints l)[j]? = some [si l[j]] := by rw [ints_get]; simp [hj]
    have ht : l.take (j + 1) = l.take j ++ [l[j]] := by simp
    cases e : (l[j] == k) with
    | true =>
      simp only [go_sem, reduceCtorEq, Nat.reduceEqDiff, reduceIte, Nat.reduceAdd, Int.reduceNeg, Nat.reduceBEq, Nat.reduceLT, Nat.reduceLeDiff, Nat.reduceSub, Nat.reduceMul, Int.reduceLT, Int.reduceLE, Int.reduceAdd, Int.reduceEq, Int.reduceBEq, Int.reduceToNat, h1, h7, hi, hn, hg, e]
      have : k ∈ l := by rw [← beq_iff_eq.1 e]; exact List.getElem_mem hj
      simpa using this
    | false =>
      simp only [go_sem, reduceCtorEq, Nat.reduceEqDiff, reduceIte, Nat.reduceAdd, Int.reduceNeg, Nat.reduceBEq, Nat.reduceLT, Nat.reduceLeDiff, Nat.reduceSub, Nat.reduceMul, Int.reduceLT, Int.reduceLE, Int.reduceAdd, Int.reduceEq, Int.reduceBEq, Int.reduceToNat, h1, h7, hi, hn, hg, e]
      rw [ht]
      have e' : l[j] ≠ k := by simpa using e
      simp only [List.contains_eq_mem, List.mem_append, decide_eq_false_iff_not] at hk ⊢
      simp [hk, Ne.symm e']
  · rintro τ hi hn ⟨h1, h7, hk⟩
    simp only [go_sem, reduceCtorEq, Nat.reduceEqDiff, reduceIte, Nat.reduceAdd, Int.reduceNeg, Nat.reduceBEq, Nat.reduceLT, Nat.reduceLeDiff, Nat.reduceSub, Nat.reduceMul, Int.reduceLT, Int.reduceLE, Int.reduceAdd, Int.reduceEq, Int.reduceBEq, Int.reduceToNat, h1, h7, hi, hn]
    rw [List.take_length] at hk
    exact hk.symm

theorem equal_says (a b : List Int) (hl : a.length < 4611686018427387904) : Says Try.prog 21 [.sl false 1 (ints a), .sl false 1 (ints b)] (sb (a == b)) := by
  refine says_of mix Try.func21 chk21 (of_decide_eq_true (by kernel_rfl)) rfl ?_
  by_cases hlen : a.length = b.length
  · have h2 : ((b.length : Int) != (b.length : Int)) = false := by simp
    simp only [f21, f21c, f21g, f21r, go_sem, reduceCtorEq, Nat.reduceEqDiff, reduceIte, Nat.reduceAdd, Int.reduceNeg, Nat.reduceBEq, Nat.reduceLT, Nat.reduceLeDiff, Nat.reduceSub, Nat.reduceMul, Int.reduceLT, Int.reduceLE, Int.reduceAdd, Int.reduceEq, Int.reduceBEq, Int.reduceToNat, ints_length, hlen, h2]
    refine awp_range b.length (fun j τ => τ 0 = .sl false 1 (ints a) ∧ τ 1 = .sl false 1 (ints b) ∧ a.take j = b.take j) (by omega) ?_ ?_ ?_ ?_ ?_ (by decide)
    · simp only [go_sem, reduceCtorEq, Nat.reduceEqDiff, reduceIte, Nat.reduceAdd, Int.reduceNeg, Nat.reduceBEq, Nat.reduceLT, Nat.reduceLeDiff, Nat.reduceSub, Nat.reduceMul, Int.reduceLT, Int.reduceLE, Int.reduceAdd, Int.reduceEq, Int.reduceBEq, Int.reduceToNat]
    · simp only [go_sem, reduceCtorEq, Nat.reduceEqDiff, reduceIte, Nat.reduceAdd, Int.reduceNeg, Nat.reduceBEq, Nat.reduceLT, Nat.reduceLeDiff, Nat.reduceSub, Nat.reduceMul, Int.reduceLT, Int.reduceLE, Int.reduceAdd, Int.reduceEq, Int.reduceBEq, Int.reduceToNat]
    · simp only [go_sem, reduceCtorEq, Nat.reduceEqDiff, reduceIte, Nat.reduceAdd, Int.reduceNeg, Nat.reduceBEq, Nat.reduceLT, Nat.reduceLeDiff, Nat.reduceSub, Nat.reduceMul, Int.reduceLT, Int.reduceLE, Int.reduceAdd, Int.reduceEq, Int.reduceBEq, Int.reduceToNat]
    · rintro j τ hj hi hn ⟨h0, h1, hk⟩
      have hja : j < a.length := by omega
      have hg : (ints a)[j]? = some [si a[j]] := by rw [ints_get]; simp [hja]
      have hg' : (ints b)[j]? = some [si b[j]] := by rw [ints_get]; simp [hj]
      cases e : (a[j] == b[j]) with
      | true =>
        simp only [go_sem, reduceCtorEq, Nat.reduceEqDiff, reduceIte, Nat.reduceAdd, Int.reduceNeg, Nat.reduceBEq, Nat.reduceLT, Nat.reduceLeDiff, Nat.reduceSub, Nat.reduceMul, Int.reduceLT, Int.reduceLE, Int.reduceAdd, Int.reduceEq, Int.reduceBEq, Int.reduceToNat, h0, h1, hi, hn, hg, hg', bne, e]
        rw [List.take_succ_eq_append_getElem hja, List.take_succ_eq_append_getElem hj, hk, beq_iff_eq.1 e]
      | false =>
        simp only [go_sem, reduceCtorEq, Nat.reduceEqDiff, reduceIte, Nat.reduceAdd, Int.reduceNeg, Nat.reduceBEq, Nat.reduceLT, Nat.reduceLeDiff, Nat.reduceSub, Nat.reduceMul, Int.reduceLT, Int.reduceLE, Int.reduceAdd, Int.reduceEq, Int.reduceBEq, Int.reduceToNat, h0, h1, hi, hn, hg, hg', bne, e]
        have e' : a[j] ≠ b[j] := by simpa using e
        have : a ≠ b := fun h => e' (by simp [h])
        simpa using this
    · rintro τ hi hn ⟨h0, h1, hk⟩
      simp only [go_sem, reduceCtorEq, Nat.reduceEqDiff, reduceIte, Nat.reduceAdd, Int.reduceNeg, Nat.reduceBEq, Nat.reduceLT, Nat.reduceLeDiff, Nat.reduceSub, Nat.reduceMul, Int.reduceLT, Int.reduceLE, Int.reduceAdd, Int.reduceEq, Int.reduceBEq, Int.reduceToNat]
      rw [List.take_of_length_le (by omega), List.take_of_length_le (by omega)] at hk
      simp [hk]
  · have h1 : ¬ ((a.length : Int) = (b.length : Int)) := by omega
    have h2 : ((a.length : Int) != (b.length : Int)) = true := by simpa using h1
    simp only [f21, f21c, f21g, f21r, go_sem, reduceCtorEq, Nat.reduceEqDiff, reduceIte, Nat.reduceAdd, Int.reduceNeg, Nat.reduceBEq, Nat.reduceLT, Nat.reduceLeDiff, Nat.reduceSub, Nat.reduceMul, Int.reduceLT, Int.reduceLE, Int.reduceAdd, Int.reduceEq, Int.reduceBEq, Int.reduceToNat, ints_length, h2]
    have : a ≠ b := fun h => hlen (by rw [h])
    simpa using this

theorem copy_says (l : List Int) (hl : l.length < 4611686018427) : Says Try.prog 28 [.sl false 1 (ints l)] (.own false 1 (ints l)) := by
  refine says_of mix Try.func28 chk28 (of_decide_eq_true (by kernel_rfl)) rfl ?_
  have hr := room8 hl
  simp only [f28, f28c, f28g, f28r, go_sem, reduceCtorEq, Nat.reduceEqDiff, reduceIte, Nat.reduceAdd, Int.reduceNeg, Nat.reduceBEq, Nat.reduceLT, Nat.reduceLeDiff, Nat.reduceSub, Nat.reduceMul, Int.reduceLT, Int.reduceLE, Int.reduceAdd, Int.reduceEq, Int.reduceBEq, Int.reduceToNat, ints_length, ints_plain, hr]

theorem clone_says (l : List Int) (hl : l.length < 4611686018427) : Says Try.prog 24 [.sl false 1 (ints l)] (.own false 1 (ints l)) := by
  refine says_of mix Try.func24 chk24 (of_decide_eq_true (by kernel_rfl)) rfl ?_
  have hr := room8 hl
  simp only [f24, f24c, f24g, f24r, go_sem, reduceCtorEq, Nat.reduceEqDiff, reduceIte, Nat.reduceAdd, Int.reduceNeg, Nat.reduceBEq, Nat.reduceLT, Nat.reduceLeDiff, Nat.reduceSub, Nat.reduceMul, Int.reduceLT, Int.reduceLE, Int.reduceAdd, Int.reduceEq, Int.reduceBEq, Int.reduceToNat]
  intro b hb
  cases b with
  | true => simp only [go_sem, reduceCtorEq, Nat.reduceEqDiff, reduceIte, Nat.reduceAdd, Int.reduceNeg, Nat.reduceBEq, Nat.reduceLT, Nat.reduceLeDiff, Nat.reduceSub, Nat.reduceMul, Int.reduceLT, Int.reduceLE, Int.reduceAdd, Int.reduceEq, Int.reduceBEq, Int.reduceToNat]; exact (hb rfl).symm
  | false => simp only [go_sem, reduceCtorEq, Nat.reduceEqDiff, reduceIte, Nat.reduceAdd, Int.reduceNeg, Nat.reduceBEq, Nat.reduceLT, Nat.reduceLeDiff, Nat.reduceSub, Nat.reduceMul, Int.reduceLT, Int.reduceLE, Int.reduceAdd, Int.reduceEq, Int.reduceBEq, Int.reduceToNat, ints_length, ints_plain, hr]
end Go.Abs
