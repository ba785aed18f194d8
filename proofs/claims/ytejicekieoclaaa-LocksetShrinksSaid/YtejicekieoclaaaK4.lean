/- The reference's sorted and Union. -/
import Derived.Test.YtejicekieoclaaaK3
set_option linter.unusedSimpArgs false
namespace Go.Abs
open Go.Proofs Go.Sort
set_option maxRecDepth 100000
set_option maxHeartbeats 4000000
def f20c : IC := (.seq (.reg [⟨some ⟨2, [], []⟩, .mv (.c (.own false 1 [])), none⟩])
 (.seq (.reg [⟨some ⟨3, [15, 19, 21, 29, 33, 35, 42, 46, 53], []⟩, .mv (.c (.own false 1 [])), none⟩])
 (.seq (.seq (.reg [⟨some ⟨8, [], []⟩, .cp (.t 0), none⟩,
  ⟨some ⟨9, [], []⟩, .len (.t 8), none⟩,
  ⟨some ⟨10, [], []⟩, .cp (.c (.sc (.int .i64 0))), none⟩])
 (.block 0 (.loop (.seq (.reg [⟨some ⟨11, [], []⟩, .bin .lss (.t 10) (.t 9), none⟩])
 (.seq (.cond (.t 11) .skip (.exit 0))
 (.seq (.block 1 (.seq (.reg [⟨some ⟨12, [], []⟩, .iad 1 (.t 8) (.t 10), none⟩,
  ⟨some ⟨13, [], []⟩, .ld false 1 (.t 12), none⟩,
  ⟨some ⟨5, [], []⟩, .mv (.t 13), none⟩])
 (.seq (.reg [⟨some ⟨6, [], []⟩, .mv (.c (.sc (.int .i64 0))), none⟩])
 (.seq (.block 2 (.loop (.seq (.seq (.reg [⟨some ⟨14, [], []⟩, .cp (.t 6), none⟩,
  ⟨some ⟨15, [], [3]⟩, .cp (.t 3), none⟩,
  ⟨some ⟨16, [], []⟩, .len (.t 15), none⟩,
  ⟨some ⟨17, [], []⟩, .bin .lss (.t 14) (.t 16), none⟩,
  ⟨some ⟨18, [], []⟩, .cp (.t 17), none⟩,
  ⟨some ⟨19, [], [3]⟩, .cp (.t 3), (some (18, true))⟩,
  ⟨some ⟨20, [], []⟩, .cp (.t 6), (some (18, true))⟩,
  ⟨some ⟨21, [], [3]⟩, .iad 1 (.t 19) (.t 20), (some (18, true))⟩,
  ⟨some ⟨22, [], []⟩, .ld false 1 (.t 21), (some (18, true))⟩,
  ⟨some ⟨23, [], []⟩, .cp (.t 5), (some (18, true))⟩,
  ⟨some ⟨24, [], []⟩, .bin .lss (.t 22) (.t 23), (some (18, true))⟩,
  ⟨some ⟨25, [], []⟩, .pick (.t 18) (.t 24) (.c (.sc (.bool false))), none⟩])
 (.cond (.t 25) .skip (.exit 2)))
 (.block 3 (.reg [⟨some ⟨26, [], []⟩, .cp (.t 6), none⟩,
  ⟨some ⟨27, [], []⟩, .bin .add (.t 26) (.c (.sc (.int .i64 1))), none⟩,
  ⟨some ⟨6, [], []⟩, .mv (.t 27), none⟩])))))
 (.seq (.seq (.reg [⟨some ⟨28, [], []⟩, .cp (.t 6), none⟩,
  ⟨some ⟨29, [], [3]⟩, .cp (.t 3), none⟩,
  ⟨some ⟨30, [], []⟩, .len (.t 29), none⟩,
  ⟨some ⟨31, [], []⟩, .bin .lss (.t 28) (.t 30), none⟩,
  ⟨some ⟨32, [], []⟩, .cp (.t 31), none⟩,
  ⟨some ⟨33, [], [3]⟩, .cp (.t 3), (some (32, true))⟩,
  ⟨some ⟨34, [], []⟩, .cp (.t 6), (some (32, true))⟩,
  ⟨some ⟨35, [], [3]⟩, .iad 1 (.t 33) (.t 34), (some (32, true))⟩,
  ⟨some ⟨36, [], []⟩, .ld false 1 (.t 35), (some (32, true))⟩,
  ⟨some ⟨37, [], []⟩, .cp (.t 5), (some (32, true))⟩,
  ⟨some ⟨38, [], []⟩, .bin .eql (.t 36) (.t 37), (some (32, true))⟩,
  ⟨some ⟨39, [], []⟩, .pick (.t 32) (.t 38) (.c (.sc (.bool false))), none⟩])
 (.cond (.t 39) (.exit 1) .skip))
 (.seq (.reg [⟨some ⟨40, [], []⟩, .cp (.t 5), none⟩,
  ⟨some ⟨41, [], []⟩, .bsl 1 [[.sc (.int .i64 0)]] [(0, (.t 40))], none⟩,
  ⟨some ⟨42, [], [3]⟩, .cp (.t 3), none⟩,
  ⟨some ⟨43, [], []⟩, .cp (.t 6), none⟩,
  ⟨some ⟨44, [], []⟩, .slc 1 true (.t 42) (some (.t 43)) none none, none⟩,
  ⟨some ⟨45, [], []⟩, .app 1 8 (.t 41) (.t 44), none⟩,
  ⟨some ⟨7, [50], []⟩, .mv (.t 45), none⟩])
 (.reg [⟨some ⟨46, [], [3]⟩, .cp (.t 3), none⟩,
  ⟨some ⟨47, [], []⟩, .cp (.t 6), none⟩,
  ⟨some ⟨48, [], []⟩, .cp (.t 6), none⟩,
  ⟨some ⟨49, [], []⟩, .slc 1 true (.t 46) none (some (.t 47)) (some (.t 48)), none⟩,
  ⟨some ⟨50, [], [7]⟩, .cp (.t 7), none⟩,
  ⟨some ⟨51, [], []⟩, .app 1 8 (.t 49) (.t 50), none⟩,
  ⟨some ⟨3, [15, 19, 21, 29, 33, 35, 42, 46, 53], []⟩, .mv (.t 51), none⟩])))))))
 (.reg [⟨some ⟨52, [], []⟩, .bin .add (.t 10) (.c (.sc (.int .i64 1))), none⟩,
  ⟨some ⟨10, [], []⟩, .cp (.t 52), none⟩])))))))
 (.seq (.reg [⟨some ⟨53, [], [3]⟩, .cp (.t 3), none⟩,
  ⟨some ⟨2, [], []⟩, .mv (.t 53), none⟩])
 .ret))))
def f20g : Gi := ⟨[(15, [3]), (19, [3]), (21, [3]), (29, [3]), (33, [3]), (35, [3]), (42, [3]), (46, [3]), (50, [7]), (53, [3])]⟩
def f20r : List RV := [.tmp 2]
def f20 : FI := ⟨f20c, f20g, f20r⟩

theorem chk20 : chkF Try.prog Try.f20 f20 = true := by kernel_rfl
def f19c : IC := (.seq (.reg [⟨some ⟨1, [3, 6], []⟩, .bx 2 (.t 0), none⟩,
  ⟨some ⟨2, [], []⟩, .mv (.c (.own false 1 [])), none⟩])
 (.seq (.reg [⟨some ⟨3, [], [1]⟩, .fad 0 (.t 1), none⟩,
  ⟨some ⟨4, [], []⟩, .ld false 1 (.t 3), none⟩,
  ⟨some ⟨5, [], []⟩, .call 28 [(.t 4)] 2, none⟩,
  ⟨some ⟨6, [], [1]⟩, .fad 1 (.t 1), none⟩,
  ⟨some ⟨7, [], []⟩, .ld false 1 (.t 6), none⟩,
  ⟨some ⟨8, [], []⟩, .app 1 8 (.t 5) (.t 7), none⟩,
  ⟨some ⟨9, [], []⟩, .call 20 [(.t 8)] 1, none⟩,
  ⟨some ⟨2, [], []⟩, .mv (.t 9), none⟩])
 .ret))
def f19g : Gi := ⟨[(3, [1]), (6, [1])]⟩
def f19r : List RV := [.tmp 2]
def f19 : FI := ⟨f19c, f19g, f19r⟩

theorem chk19 : chkF Try.prog Try.f19 f19 = true := by kernel_rfl
theorem ints_drop (l : List Int) (i : Nat) : (ints l).drop i = ints (l.drop i) := by simp [ints, List.map_drop]
theorem ints_take (l : List Int) (i : Nat) : (ints l).take i = ints (l.take i) := by simp [ints, List.map_take]
theorem frzm_ints (l : List Int) : (ints l).map (fun x => x.map frz) = ints l := by simp [ints, frz]
theorem ints_cons (z : Int) (l : List Int) : [si z] :: ints l = ints (z :: l) := rfl
def insPos (out : List Int) (x : Int) : Nat := (out.takeWhile fun y => decide (y < x)).length
def ins (out : List Int) (x : Int) : List Int := if out[insPos out x]? = some x then out else out.take (insPos out x) ++ x :: out.drop (insPos out x)

theorem insPos_eq (out : List Int) (x : Int) (i : Nat) (hi : i ≤ out.length) (h1 : ∀ (k : Nat) (hk : k < out.length), k < i → out[k] < x) (h2 : ∀ (hl : i < out.length), ¬ out[i] < x) : insPos out x = i := by
  unfold insPos
  induction out generalizing i with
  | nil => simp at hi; simp [hi]
  | cons y out ih =>
    by_cases hy : y < x
    · cases i with
      | zero => exact absurd hy (h2 (by simp))
      | succ i =>
        rw [List.takeWhile_cons_of_pos (by simpa using hy), List.length_cons]
        rw [ih i (by simpa using hi) (fun k hk hki => by have := h1 (k + 1) (by simpa using hk) (by omega); simpa using this) (fun hl => by have := h2 (by simpa using hl); simpa using this)]
    · cases i with
      | zero => rw [List.takeWhile_cons_of_neg (by simpa using hy)]; rfl
      | succ i => have := h1 0 (by simp) (by omega); simp at this; exact absurd this hy
theorem ins_length (out : List Int) (x : Int) : (ins out x).length ≤ out.length + 1 := by
  unfold ins; split
  · omega
  · simp; omega
def insAll (l : List Int) : List Int := l.foldl ins []
theorem insAll_length (l : List Int) : (insAll l).length ≤ l.length := by
  have : ∀ (l acc : List Int), (l.foldl ins acc).length ≤ acc.length + l.length := by
    intro l
    induction l with
    | nil => simp
    | cons x l ih => intro acc; have h1 := ih (ins acc x); have h2 := ins_length acc x; simp only [List.foldl_cons, List.length_cons]; omega
  simpa [insAll] using this l []
theorem insAll_take (l : List Int) (j : Nat) (hj : j < l.length) : insAll (l.take (j + 1)) = ins (insAll (l.take j)) l[j] := by
  rw [List.take_succ_eq_append_getElem hj, insAll, List.foldl_append]; rfl

theorem sorted_says (l : List Int) (hl : l.length < 4611686018427) : Says Try.prog 20 [isl l] (.own false 1 (ints (insAll l))) := by
  refine says_of mix Try.func20 chk20 (of_decide_eq_true (by kernel_rfl)) rfl ?_
  simp only [f20, f20c, f20g, f20r, go_sem, reduceCtorEq, Nat.reduceEqDiff, reduceIte, Nat.reduceAdd, Int.reduceNeg, Nat.reduceBEq, Nat.reduceLT, Nat.reduceLeDiff, Nat.reduceSub, Nat.reduceMul, Int.reduceLT, Int.reduceLE, Int.reduceAdd, Int.reduceEq, Int.reduceBEq, Int.reduceToNat, ints_length]
  refine awp_range l.length (fun j τ => τ 8 = isl l ∧ τ 3 = .own false 1 (ints (insAll (l.take j)))) (by omega) ?_ ?_ ?_ ?_ ?_ (by decide)
  · simp only [go_sem, reduceCtorEq, Nat.reduceEqDiff, reduceIte, Nat.reduceAdd, Int.reduceNeg, Nat.reduceBEq, Nat.reduceLT, Nat.reduceLeDiff, Nat.reduceSub, Nat.reduceMul, Int.reduceLT, Int.reduceLE, Int.reduceAdd, Int.reduceEq, Int.reduceBEq, Int.reduceToNat]
  · simp only [go_sem, reduceCtorEq, Nat.reduceEqDiff, reduceIte, Nat.reduceAdd, Int.reduceNeg, Nat.reduceBEq, Nat.reduceLT, Nat.reduceLeDiff, Nat.reduceSub, Nat.reduceMul, Int.reduceLT, Int.reduceLE, Int.reduceAdd, Int.reduceEq, Int.reduceBEq, Int.reduceToNat]
  · simp only [go_sem, reduceCtorEq, Nat.reduceEqDiff, reduceIte, Nat.reduceAdd, Int.reduceNeg, Nat.reduceBEq, Nat.reduceLT, Nat.reduceLeDiff, Nat.reduceSub, Nat.reduceMul, Int.reduceLT, Int.reduceLE, Int.reduceAdd, Int.reduceEq, Int.reduceBEq, Int.reduceToNat]
    rfl
  · rintro j τ hj hi hn ⟨h8, h3⟩
    have hg : (ints l)[j]? = some [si l[j]] := by rw [ints_get]; simp [hj]
    rw [insAll_take l j hj]
    generalize ho : insAll (l.take j) = out at h3 ⊢
    have hol : out.length < 4611686018426 := by have := insAll_length (l.take j); rw [ho, List.length_take] at this; omega
    simp only [go_sem, reduceCtorEq, Nat.reduceEqDiff, reduceIte, Nat.reduceAdd, Int.reduceNeg, Nat.reduceBEq, Nat.reduceLT, Nat.reduceLeDiff, Nat.reduceSub, Nat.reduceMul, Int.reduceLT, Int.reduceLE, Int.reduceAdd, Int.reduceEq, Int.reduceBEq, Int.reduceToNat, h8, h3, hi, hn, hg]
    generalize l[j] = x
    refine awp_loop (fun m τ => ∃ i : Nat, i ≤ out.length ∧ m = out.length - i ∧ τ 6 = si i ∧ τ 3 = .own false 1 (ints out) ∧ τ 5 = si x ∧ τ 8 = isl l ∧ τ 9 = si l.length ∧ τ 10 = si j ∧ ∀ (k : Nat) (hk : k < out.length), k < i → out[k] < x) out.length ⟨0, by omega, by omega, ?_⟩ ?_
    · simp only [go_sem, reduceCtorEq, Nat.reduceEqDiff, reduceIte, Nat.reduceAdd, Int.reduceNeg, Nat.reduceBEq, Nat.reduceLT, Nat.reduceLeDiff, Nat.reduceSub, Nat.reduceMul, Int.reduceLT, Int.reduceLE, Int.reduceAdd, Int.reduceEq, Int.reduceBEq, Int.reduceToNat, h8, h3, hi, hn]
      simp
    · rintro m τ ⟨i, hil, rfl, h6, h3, h5, h8, h9, h10, hlt⟩
      by_cases hi : i < out.length
      · have hdc : decide ((i : Int) < (out.length : Int)) = true := by simpa using hi
        have hgo : (ints out)[i]? = some [si out[i]] := by rw [ints_get]; simp [hi]
        have hle : (i : Int) < (out.length : Int) := by omega
        cases hx : decide (out[i] < x) with
        | true =>
          have hw : IntKind.i64.wrap ((i : Int) + 1) = ((i + 1 : Nat) : Int) := by have := wrap_nat (n := i + 1) (by omega); simpa using this
          simp only [go_sem, reduceCtorEq, Nat.reduceEqDiff, reduceIte, Nat.reduceAdd, Int.reduceNeg, Nat.reduceBEq, Nat.reduceLT, Nat.reduceLeDiff, Nat.reduceSub, Nat.reduceMul, Int.reduceLT, Int.reduceLE, Int.reduceAdd, Int.reduceEq, Int.reduceBEq, Int.reduceToNat, h6, h3, h5, h8, h9, h10, ints_length, hdc, hgo, hle, hx, hw]
          refine ⟨out.length - (i + 1), by omega, i + 1, by omega, rfl, rfl, ?_⟩
          intro k hk hki
          by_cases hk' : k = i
          · subst hk'; simpa using hx
          · exact hlt k hk (by omega)
        | false =>
          have hpos := insPos_eq out x i hil hlt (fun _ => by simpa using hx)
          simp only [go_sem, reduceCtorEq, Nat.reduceEqDiff, reduceIte, Nat.reduceAdd, Int.reduceNeg, Nat.reduceBEq, Nat.reduceLT, Nat.reduceLeDiff, Nat.reduceSub, Nat.reduceMul, Int.reduceLT, Int.reduceLE, Int.reduceAdd, Int.reduceEq, Int.reduceBEq, Int.reduceToNat, h6, h3, h5, h8, h9, h10, ints_length, hdc, hgo, hle, hx]
          cases he : (out[i] == x) with
          | true =>
            have he' := beq_iff_eq.1 he
            have : ins out x = out := by unfold ins; rw [hpos, if_pos]; rw [List.getElem?_eq_getElem hi, he']
            simp only [go_sem, reduceCtorEq, Nat.reduceEqDiff, reduceIte, Nat.reduceAdd, Int.reduceNeg, Nat.reduceBEq, Nat.reduceLT, Nat.reduceLeDiff, Nat.reduceSub, Nat.reduceMul, Int.reduceLT, Int.reduceLE, Int.reduceAdd, Int.reduceEq, Int.reduceBEq, Int.reduceToNat, h6, h3, h5, h8, h9, h10, ints_length, hdc, hgo, hle, he, this]
          | false =>
            have he' : ¬ out[i] = x := by simpa using he
            have hins : ins out x = out.take i ++ x :: out.drop i := by unfold ins; rw [hpos, if_neg]; rw [List.getElem?_eq_getElem hi]; simpa using he'
            have ht : (out.drop i).take (out.length - i) = out.drop i := List.take_of_length_le (by simp)
            have hr1 : roomOK (1 + (out.length - i)) 8 = true := room8 (by omega)
            have hr2 : roomOK (min i out.length + (out.length - i + 1)) 8 = true := room8 (by omega)
            simp only [go_sem, reduceCtorEq, Nat.reduceEqDiff, reduceIte, Nat.reduceAdd, Int.reduceNeg, Nat.reduceBEq, Nat.reduceLT, Nat.reduceLeDiff, Nat.reduceSub, Nat.reduceMul, Int.reduceLT, Int.reduceLE, Int.reduceAdd, Int.reduceEq, Int.reduceBEq, Int.reduceToNat, h6, h3, h5, h8, h9, h10, ints_length, hdc, hgo, hle, he, hil, ints_drop, ints_take, frzm_ints, frz_ints, ht, hr1, hr2, ints_plain, ints_cell, ints_append, List.length_drop, List.length_take, Option.isSome_none, Option.isSome_some, Nat.zero_le, hins]
            rw [← ints_append]; rfl
      · obtain rfl : i = out.length := by omega
        have hpos := insPos_eq out x out.length hil hlt (fun h => by omega)
        have hdc : decide ((out.length : Int) < (out.length : Int)) = false := by simp
        have hins : ins out x = out.take out.length ++ x :: out.drop out.length := by unfold ins; rw [hpos, if_neg]; simp
        have hr1 : roomOK 1 8 = true := room8 (by omega)
        have hr2 : roomOK (out.length + 1) 8 = true := room8 (by omega)
        have hz : List.drop out.length out = [] := by simp
        simp only [go_sem, reduceCtorEq, Nat.reduceEqDiff, reduceIte, Nat.reduceAdd, Int.reduceNeg, Nat.reduceBEq, Nat.reduceLT, Nat.reduceLeDiff, Nat.reduceSub, Nat.reduceMul, Int.reduceLT, Int.reduceLE, Int.reduceAdd, Int.reduceEq, Int.reduceBEq, Int.reduceToNat, h6, h3, h5, h8, h9, h10, ints_length, hdc, hil, ints_drop, ints_take, frzm_ints, frz_ints, hr1, hr2, ints_plain, ints_cell, ints_append, List.length_drop, List.length_take, Option.isSome_none, Option.isSome_some, Nat.zero_le, hins, hz, ints_nil, List.take_length]
        rw [← ints_append]; rfl
  · rintro τ hi hn ⟨h8, h3⟩
    rw [List.take_length] at h3
    simp only [go_sem, reduceCtorEq, Nat.reduceEqDiff, reduceIte, Nat.reduceAdd, Int.reduceNeg, Nat.reduceBEq, Nat.reduceLT, Nat.reduceLeDiff, Nat.reduceSub, Nat.reduceMul, Int.reduceLT, Int.reduceLE, Int.reduceAdd, Int.reduceEq, Int.reduceBEq, Int.reduceToNat, h3]

theorem ins_facts (out : List Int) (x : Int) (h : out.Pairwise (· < ·)) : (ins out x).Pairwise (· < ·) ∧ ∀ z, z ∈ ins out x ↔ z ∈ out ∨ z = x := by
  have key : ∀ (out : List Int), out.Pairwise (· < ·) → (∀ (k : Nat) (hk : k < out.length), k < insPos out x → out[k] < x) ∧ (∀ (k : Nat) (hk : k < out.length), insPos out x ≤ k → x ≤ out[k]) ∧ insPos out x ≤ out.length := by
    intro out
    induction out with
    | nil => intro _; simp [insPos]
    | cons y out ih =>
      intro hp
      rw [List.pairwise_cons] at hp
      obtain ⟨g1, g2, g3⟩ := ih hp.2
      by_cases hy : y < x
      · have e : insPos (y :: out) x = insPos out x + 1 := by unfold insPos; rw [List.takeWhile_cons_of_pos (by simpa using hy)]; rfl
        rw [e]
        refine ⟨fun k hk hki => ?_, fun k hk hki => ?_, by simp; omega⟩
        · cases k with
          | zero => simpa using hy
          | succ k => have := g1 k (by simpa using hk) (by omega); simpa using this
        · cases k with
          | zero => omega
          | succ k => have := g2 k (by simpa using hk) (by omega); simpa using this
      · have e : insPos (y :: out) x = 0 := by unfold insPos; rw [List.takeWhile_cons_of_neg (by simpa using hy)]; rfl
        rw [e]
        refine ⟨fun k hk hki => by omega, fun k hk _ => ?_, by simp⟩
        cases k with
        | zero => simp; omega
        | succ k =>
          have hk' : k < out.length := by simpa using hk
          have := hp.1 out[k] (List.getElem_mem hk')
          simp; omega
  obtain ⟨g1, g2, g3⟩ := key out h
  unfold ins
  split
  · rename_i he
    obtain ⟨hl, he⟩ := List.getElem?_eq_some_iff.1 he
    refine ⟨h, fun z => ⟨.inl, ?_⟩⟩
    rintro (hz | rfl)
    · exact hz
    · rw [← he]; exact List.getElem_mem hl
  · rename_i he
    have htd : out = out.take (insPos out x) ++ out.drop (insPos out x) := (List.take_append_drop _ _).symm
    refine ⟨?_, fun z => ?_⟩
    · rw [List.pairwise_append, List.pairwise_cons]
      refine ⟨h.sublist (List.take_sublist _ _), ⟨fun z hz => ?_, h.sublist (List.drop_sublist _ _)⟩, fun y hy z hz => ?_⟩
      · obtain ⟨k, hk, rfl⟩ := List.mem_iff_getElem.1 hz
        rw [List.getElem_drop]
        rw [List.length_drop] at hk
        have h1 := g2 (insPos out x + k) (by omega) (by omega)
        by_cases hk0 : k = 0
        · subst hk0
          have : out[insPos out x + 0] ≠ x := fun e => he (by rw [List.getElem?_eq_getElem (by omega)]; simpa using e)
          omega
        · have h2 := g2 (insPos out x) (by omega) (by omega)
          have h3 := List.pairwise_iff_getElem.1 h (insPos out x) (insPos out x + k) (by omega) (by omega) (by omega)
          omega
      · obtain ⟨k, hk, rfl⟩ := List.mem_iff_getElem.1 hy
        rw [List.getElem_take]
        rw [List.length_take] at hk
        have h1 := g1 k (by omega) (by omega)
        rcases List.mem_cons.1 hz with rfl | hz
        · exact h1
        · obtain ⟨k', hk', rfl⟩ := List.mem_iff_getElem.1 hz
          rw [List.getElem_drop]
          rw [List.length_drop] at hk'
          have h2 := g2 (insPos out x + k') (by omega) (by omega)
          omega
    · rw [List.mem_append, List.mem_cons]
      constructor
      · rintro (hz | rfl | hz)
        · exact .inl (List.mem_of_mem_take hz)
        · exact .inr rfl
        · exact .inl (List.mem_of_mem_drop hz)
      · rintro (hz | rfl)
        · rw [htd, List.mem_append] at hz
          exact hz.imp id .inr
        · exact .inr (.inl rfl)
theorem insAll_eq (l : List Int) : insAll l = setOf l := by
  have key : ∀ (l acc : List Int), acc.Pairwise (· < ·) → (l.foldl ins acc).Pairwise (· < ·) ∧ ∀ z, z ∈ l.foldl ins acc ↔ z ∈ acc ∨ z ∈ l := by
    intro l
    induction l with
    | nil => intro acc h; exact ⟨h, by simp⟩
    | cons x l ih =>
      intro acc h
      obtain ⟨h1, h2⟩ := ins_facts acc x h
      obtain ⟨h3, h4⟩ := ih (ins acc x) h1
      refine ⟨h3, fun z => ?_⟩
      rw [List.foldl_cons, h4 z, h2 z, List.mem_cons]
      constructor
      · rintro ((h | h) | h)
        · exact .inl h
        · exact .inr (.inl h)
        · exact .inr (.inr h)
      · rintro (h | h | h)
        · exact .inl (.inl h)
        · exact .inl (.inr h)
        · exact .inr h
  obtain ⟨h1, h2⟩ := key l [] (by simp)
  exact eq_of_sorted h1 (setOf_sorted l) fun z => by rw [mem_setOf]; have := h2 z; simpa [insAll] using this

theorem union_says (E S : List Int) (hl : E.length + S.length < 4611686018427) : Says Try.prog 19 [heA E S] (isl (setOf (E ++ S))) := by
  refine says_frz mix Try.func19 chk19 (of_decide_eq_true (by kernel_rfl)) rfl ?_
  simp only [f19, f19c, f19g, f19r, go_sem, reduceCtorEq, Nat.reduceEqDiff, reduceIte, Nat.reduceAdd, Int.reduceNeg, Nat.reduceBEq, Nat.reduceLT, Nat.reduceLeDiff, Nat.reduceSub, Nat.reduceMul, Int.reduceLT, Int.reduceLE, Int.reduceAdd, Int.reduceEq, Int.reduceBEq, Int.reduceToNat]
  refine ⟨_, copy_says E (by omega), ?_⟩
  have hr : roomOK (E.length + S.length) 8 = true := room8 hl
  simp only [go_sem, reduceCtorEq, Nat.reduceEqDiff, reduceIte, Nat.reduceAdd, Int.reduceNeg, Nat.reduceBEq, Nat.reduceLT, Nat.reduceLeDiff, Nat.reduceSub, Nat.reduceMul, Int.reduceLT, Int.reduceLE, Int.reduceAdd, Int.reduceEq, Int.reduceBEq, Int.reduceToNat, ints_length, frz_ints, ints_plain, fresh_ints, hr, ints_append]
  refine ⟨_, sorted_says (E ++ S) (by rw [List.length_append]; exact hl), ?_⟩
  simp only [go_sem, reduceCtorEq, Nat.reduceEqDiff, reduceIte, Nat.reduceAdd, Int.reduceNeg, Nat.reduceBEq, Nat.reduceLT, Nat.reduceLeDiff, Nat.reduceSub, Nat.reduceMul, Int.reduceLT, Int.reduceLE, Int.reduceAdd, Int.reduceEq, Int.reduceBEq, Int.reduceToNat, frz_ints, insAll_eq]
end Go.Abs
