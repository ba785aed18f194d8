/- Typed programs: interleaveref16.reads, interleaveref16.Check, interleavelaw17.awake, interleavelaw17.WellformedTells. -/
import Derived.Test.YteobdlimfbjjnaaDoorTE
import Derived.Test.YteobdlimfbjjnaaDoorTF10
import Derived.Test.YteobdlimfbjjnaaDoorTF14
import Derived.Test.YteobdlimfbjjnaaDoorTF8
set_option linter.unusedSimpArgs false
namespace Go.Abs
open Go.Proofs
set_option maxRecDepth 100000
set_option maxHeartbeats 4000000
def f14c : IC := (sR [iB 8 false]
(cutS (sR [iK 9 0]
(.block 0 (.loop (.seq (sR [iC 13 9, iC 14 3, i0 15 (.len (.t 14)), iO 16 .lss 13 15]
(.cond (.t 16) .skip (.exit 0)))
(cutS (.block 1 (sR [iK 10 0]
(sR [iB 11 false]
(cutS (sR [iK 12 0]
(.block 2 (.loop (.seq (sR [iC 19 12, iC 20 1, iO 21 .lss 19 20]
(.cond (.t 21) .skip (.exit 2)))
(cutS (.block 3 (.seq (sR [iC 24 0, iC 25 12, iI 26 7 24 25, iF 27 0 26, iL 28 27, iC 29 2, iO 30 .neq 28 29]
(.cond (.t 30) (.exit 3) .skip))
(cutS (.reg [iC 31 11, iC 32 31, j0 33 (.cp (.t 10)) 32 false, j0 34 (.cp (.t 3)) 32 false, j0 35 (.cp (.t 9)) 32 false, j0 36 (.iad 1 (.t 34) (.t 35)) 32 false, jL 37 36 32 false, j0 38 (.bin .eql (.t 33) (.t 37)) 32 false, j0 39 (.cp (.t 38)) 32 false, j0 40 (.cp (.t 0)) 39 true, j0 41 (.cp (.t 12)) 39 true, j0 42 (.iad 7 (.t 40) (.t 41)) 39 true, jF 43 1 42 39 true, jL 44 43 39 true, j0 45 (.bin .eql (.t 44) (.c (.sc (.int .i64 3)))) 39 true, j0 46 (.cp (.t 45)) 39 true, j0 47 (.cp (.t 0)) 46 false, j0 48 (.cp (.t 12)) 46 false, j0 49 (.iad 7 (.t 47) (.t 48)) 46 false, jF 50 1 49 46 false, jL 51 50 46 false, j0 52 (.bin .eql (.t 51) (.c (.sc (.int .i64 23)))) 46 false, j0 53 (.pick (.t 46) (.c (.sc (.bool true))) (.t 52)) 39 true, j0 54 (.pick (.t 39) (.t 53) (.c (.sc (.bool false)))) 32 false, i0 55 (.pick (.t 32) (.c (.sc (.bool true))) (.t 54)), iM 11 55])
(.reg [iC 56 10, iP 57 .add 56 1, iM 10 57]))))
(.reg [iC 22 12, iP 23 .add 22 1, iM 12 23]))))))
(sR [iC 58 11, iN 59 58]
(.cond (.t 59) (sR [iB 8 false]
.ret) .skip))))))
(.reg [iC 17 9, iP 18 .add 17 1, iM 9 18]))))))
(sR [iB 8 true]
.ret)))
def f14g : Gi := ⟨[]⟩
def f14r : List RV := [.tmp 8]
def f14 : FI := ⟨f14c, f14g, f14r⟩
theorem chk14 : chkF Tryd.prog Tryd.f14 f14 = true := by kernel_rfl
def r16_re_J5 : Option Bool :=
  some true
def r16_re_J4 (L1 : Int → Option Bool) (k : Int) : Option Bool :=
  L1 (w64 (k + 1))
def r16_re_J3 (L1 : Int → Option Bool) (k : Int) (ok_3 : Bool) : Option Bool :=
  if !ok_3 then
    some false
  else
  r16_re_J4 L1 k
def r16_re_J2 (L2 : Int → Bool → Int → Option Bool) (j : Int) (nv_1 : Int) (ok_2 : Bool) : Option Bool :=
  L2 nv_1 ok_2 (w64 (j + 1))
def r16_re_J1 (L2 : Int → Bool → Int → Option Bool) (j : Int) (nv : Int) (ok_1 : Bool) : Option Bool :=
  r16_re_J2 L2 j (w64 (nv + 1)) ok_1
def r16_re_L2 (L1 : Int → Option Bool) (i : Int) (k : Int) (l : List SEvent) (numbers : List Int) (thread : Int) (L2 : Int → Bool → Int → Option Bool) (nv : Int) (ok : Bool) (j : Int) : Option Bool :=
  if decide (j < i) then
    (gt l j).bind fun x =>
    if x.Thread != thread then
      r16_re_J2 L2 j nv ok
    else
    if ok then
      r16_re_J1 L2 j nv true
    else
    (gt numbers k).bind fun x_1 =>
    if nv == x_1 then
      if x.Kind == 3 then
        r16_re_J1 L2 j nv true
      else
      r16_re_J1 L2 j nv (x.Kind == 23)
    else
    r16_re_J1 L2 j nv false
  else
  r16_re_J3 L1 k ok
def r16_re_L2r (L1 : Int → Option Bool) (i : Int) (k : Int) (l : List SEvent) (numbers : List Int) (thread : Int) : Nat → Int → Bool → Int → Option Bool
  | 0, _, _, _ => none
  | n + 1, nv, ok, j => r16_re_L2 L1 i k l numbers thread (r16_re_L2r L1 i k l numbers thread n) nv ok j
def r16_re_L1 (i : Int) (l : List SEvent) (numbers : List Int) (thread : Int) (L1 : Int → Option Bool) (k : Int) : Option Bool :=
  if decide (k < (numbers.length : Int)) then
    r16_re_L2r L1 i k l numbers thread big 0 false 0
  else
  r16_re_J5
def r16_re_L1r (i : Int) (l : List SEvent) (numbers : List Int) (thread : Int) : Nat → Int → Option Bool
  | 0, _ => none
  | n + 1, k => r16_re_L1 i l numbers thread (r16_re_L1r i l numbers thread n) k
def r16_re (l : List SEvent) (i : Int) (thread : Int) (numbers : List Int) : Option Bool :=
  r16_re_L1r i l numbers thread big 0
theorem r16_re_ok {l : List SEvent} {i : Int} {thread : Int} {numbers : List Int} {r : Bool} (h : r16_re l i thread numbers = some r) : Says Tryd.prog 14 [.sl false 7 (l.map eEvent), si i, si thread, .sl false 1 (numbers.map eI)] (sb r) := by
 refine says_of mix Tryd.func14 chk14 (of_decide_eq_true (by kernel_rfl)) rfl ?_
 simp only [f14, f14c, f14g, f14r]
 try simp +decide only [go_sem]
 refine cutH (fun τ => (True) ∧ r16_re_J5 = some r) fun M5 m5 => ⟨?_, ?_⟩
 · try simp +decide only [go_sem]
   refine loopH (fun n τ => ∃ k : Int, (τ 0 = .sl false 7 (l.map eEvent) ∧ τ 1 = si i ∧ τ 2 = si thread ∧ τ 3 = .sl false 1 (numbers.map eI) ∧ τ 9 = si k) ∧ r16_re_L1r i l numbers thread n k = some r) ⟨0, ?_, h⟩ fun n1 τ1 N1 => ?_
   · simp +decide only [go_sem]
   rintro ⟨k, s1, h⟩ k1
   cases n1 with
   | zero => exact no_none h
   | succ n1 =>
    rw [r16_re_L1r] at h; generalize q1 : r16_re_L1r i l numbers thread n1 = L1 at h
    try simp +decide only [go_sem, s1]
    refine cI h (fun e1 h => ?_) fun e1 h => ?_
    · try simp +decide only [go_sem, s1, e1]
      refine cutH (fun τ => (τ 0 = .sl false 7 (l.map eEvent) ∧ τ 1 = si i ∧ τ 2 = si thread ∧ τ 3 = .sl false 1 (numbers.map eI) ∧ τ 9 = si k) ∧ r16_re_J4 L1 k = some r) fun M4 m4 => ⟨?_, ?_⟩
      · try simp +decide only [go_sem, s1, e1]
        refine cutH (fun τ => ∃ ok_3 : Bool, (τ 0 = .sl false 7 (l.map eEvent) ∧ τ 1 = si i ∧ τ 2 = si thread ∧ τ 3 = .sl false 1 (numbers.map eI) ∧ τ 9 = si k ∧ τ 11 = sb ok_3) ∧ r16_re_J3 L1 k ok_3 = some r) fun M3 m3 => ⟨?_, ?_⟩
        · try simp +decide only [go_sem, s1, e1]
          refine loopH (fun n τ => ∃ nv : Int, ∃ ok : Bool, ∃ j : Int, (τ 0 = .sl false 7 (l.map eEvent) ∧ τ 1 = si i ∧ τ 2 = si thread ∧ τ 3 = .sl false 1 (numbers.map eI) ∧ τ 9 = si k ∧ τ 10 = si nv ∧ τ 11 = sb ok ∧ τ 12 = si j) ∧ r16_re_L2r L1 i k l numbers thread n nv ok j = some r) ⟨0, false, 0, ?_, h⟩ fun n2 τ2 N2 => ?_
          · simp +decide only [go_sem, s1, e1]
          rintro ⟨nv, ok, j, s2, h⟩ k2
          cases n2 with
          | zero => exact no_none h
          | succ n2 =>
           rw [r16_re_L2r] at h; generalize q2 : r16_re_L2r L1 i k l numbers thread n2 = L2 at h
           try simp +decide only [go_sem, s2]
           refine cI h (fun e2 h => ?_) fun e2 h => ?_
           · try simp +decide only [go_sem, s2, e2]
             refine cutH (fun τ => ∃ nv_1 : Int, ∃ ok_2 : Bool, (τ 0 = .sl false 7 (l.map eEvent) ∧ τ 1 = si i ∧ τ 2 = si thread ∧ τ 3 = .sl false 1 (numbers.map eI) ∧ τ 9 = si k ∧ τ 10 = si nv_1 ∧ τ 11 = sb ok_2 ∧ τ 12 = si j) ∧ r16_re_J2 L2 j nv_1 ok_2 = some r) fun M2 m2 => ⟨?_, ?_⟩
             · obtain ⟨x, g1, h⟩ := gB h
               try simp +decide only [go_sem, s2, e2, g1]
               refine cI h (fun e3 h => ?_) fun e3 h => ?_
               · try simp +decide only [go_sem, s2, e2, g1, e3]
                 refine m2 _ ⟨nv, ok, ?_, h⟩
                 simp +decide only [go_sem, s2, e2, g1, e3]
               try simp +decide only [go_sem, s2, e2, g1, e3]
               refine cutH (fun τ => ∃ ok_1 : Bool, (τ 0 = .sl false 7 (l.map eEvent) ∧ τ 1 = si i ∧ τ 2 = si thread ∧ τ 3 = .sl false 1 (numbers.map eI) ∧ τ 9 = si k ∧ τ 10 = si nv ∧ τ 11 = sb ok_1 ∧ τ 12 = si j) ∧ r16_re_J1 L2 j nv ok_1 = some r) fun M1 m1 => ⟨?_, ?_⟩
               · try simp +decide only [go_sem, s2, e2, g1, e3]
                 refine gI h (fun e4 h => ?_) fun e4 h => ?_
                 · try simp +decide only [go_sem, s2, e2, g1, e3, e4]
                   refine m1 _ ⟨true, ?_, h⟩
                   simp +decide only [go_sem, s2, e2, g1, e3, e4]
                 obtain ⟨x_1, g2, h⟩ := gB h
                 try simp +decide only [go_sem, s2, e2, g1, e3, e4, g2]
                 refine gI h (fun e5 h => ?_) fun e5 h => ?_
                 · try simp +decide only [go_sem, s2, e2, g1, e3, e4, g2, e5]
                   refine gI h (fun e6 h => ?_) fun e6 h => ?_
                   · try simp +decide only [go_sem, s2, e2, g1, e3, e4, g2, e5, e6]
                     refine m1 _ ⟨true, ?_, h⟩
                     simp +decide only [go_sem, s2, e2, g1, e3, e4, g2, e5, e6]
                   try simp +decide only [go_sem, s2, e2, g1, e3, e4, g2, e5, e6]
                   refine m1 _ ⟨x.Kind == 23, ?_, h⟩
                   simp +decide only [go_sem, s2, e2, g1, e3, e4, g2, e5, e6]
                 try simp +decide only [go_sem, s2, e2, g1, e3, e4, g2, e5]
                 refine m1 _ ⟨false, ?_, h⟩
                 simp +decide only [go_sem, s2, e2, g1, e3, e4, g2, e5]
               rintro τ1 ⟨ok_1, s1, h⟩
               try simp +decide only [go_sem, s1]
               refine m2 _ ⟨w64 (nv + 1), ok_1, ?_, h⟩
               simp +decide only [go_sem, s1]
             rintro τ2 ⟨nv_1, ok_2, s2, h⟩
             try simp +decide only [go_sem, s2]
             refine k2 n2 (Nat.lt_succ_self _) _ ⟨nv_1, ok_2, w64 (j + 1), ?_, q2.symm ▸ h⟩
             simp +decide only [go_sem, s2]
           try simp +decide only [go_sem, s2, e2]
           refine m3 _ ⟨ok, ?_, h⟩
           simp +decide only [go_sem, s2, e2]
        rintro τ3 ⟨ok_3, s3, h⟩
        try simp +decide only [go_sem, s3]
        refine cI h (fun e7 h => ?_) fun e7 h => ?_
        · obtain rfl := Option.some.inj h
          simp +decide only [go_sem, s3, e7]
        try simp +decide only [go_sem, s3, e7]
        refine m4 _ ⟨?_, h⟩
        simp +decide only [go_sem, s3, e7]
      rintro τ4 ⟨s4, h⟩
      try simp +decide only [go_sem, s4]
      refine k1 n1 (Nat.lt_succ_self _) _ ⟨w64 (k + 1), ?_, q1.symm ▸ h⟩
      simp +decide only [go_sem, s4]
    try simp +decide only [go_sem, s1, e1]
    refine m5 _ ⟨?_, h⟩
    simp +decide only [go_sem, s1, e1]
 rintro τ5 ⟨_, h⟩
 obtain rfl := Option.some.inj h
 simp +decide only [go_sem]
def f5c : IC := (sR [⟨some ⟨1, [9, 13, 17, 21, 27, 33, 43, 54], []⟩, .bx 7 (.t 0), none⟩, iK 2 0, iK 3 0]
(.seq (sR [iFr 9 1 6 1, iL 10 9, i0 11 (.len (.t 10)), iP 12 .gtr 11 400]
(.cond (.t 12) (sR [iK 2 0, iK 3 2]
.ret) .skip))
(.seq (sR [iFr 13 1 0 1, i0 14 (.ld true 6 (.t 13)), i0 15 (.call 11 [.t 14] 0), iN 16 15]
(.cond (.t 16) (sR [iK 2 0, iK 3 1]
.ret) .skip))
(sR [iFr 17 1 0 1, i0 18 (.ld true 6 (.t 17)), i0 19 (.call 12 [.t 18] 2), ⟨some ⟨4, [35], []⟩, .bx 7 (.c (.agg [.own false 2 [], .sc (.int .i64 0), .own false 1 [], .own false 3 [], .own false 1 [], .own false 1 [], .own false 1 []])), none⟩, iS 7 4 19]
(cutS (sR [iK 5 0]
(.block 0 (.loop (.seq (sR [iC 20 5, iFr 21 1 6 1, iL 22 21, i0 23 (.len (.t 22)), iO 24 .lss 20 23]
(.cond (.t 24) .skip (.exit 0)))
(.seq (.block 1 (sR [iFr 27 1 6 1, iL 28 27, iC 29 5, iI 30 7 28 29, i0 31 (.ld true 7 (.t 30)), ⟨some ⟨6, [46, 48, 57, 59], []⟩, .bx 7 (.c (.agg [.sc (.int .i64 0), .sc (.int .i64 0), .sc (.int .i64 0), .sc (.int .i64 0), .sc (.int .i64 0), .own false 1 [], .own false 1 []])), none⟩, iS 7 6 31]
(sR [iFr 33 1 0 1, i0 34 (.ld true 6 (.t 33)), i1 35 4 (.ld true 7 (.t 4)), i0 36 (.ld true 7 (.t 6)), ⟨some ⟨37, [32, 38, 39], []⟩, .call 13 [.t 34, .t 35, .t 36] 2, none⟩, i1 32 37 (.cp (.t 37)), i1 38 37 (.ext (.t 32) 0), i1 39 37 (.ext (.t 32) 1), ⟨some ⟨7, [65], []⟩, .bx 7 (.c (.agg [.own false 2 [], .sc (.int .i64 0), .own false 1 [], .own false 3 [], .own false 1 [], .own false 1 [], .own false 1 []])), none⟩, iS 7 7 38, ⟨some ⟨8, [40], []⟩, .mv (.t 39), none⟩]
(.seq (cutS (.reg [i1 40 8 (.cp (.t 8)), iN 41 40, iC 42 41, jFr 43 1 6 1 42 false, jL 44 43 42 false, j0 45 (.cp (.t 5)) 42 false, jFr 46 6 0 6 42 false, jL 47 46 42 false, jFr 48 6 5 6 42 false, jL 49 48 42 false, j0 50 (.call 14 [.t 44, .t 45, .t 47, .t 49] 0) 42 false, j0 51 (.un .not (.t 50)) 42 false, i0 52 (.pick (.t 42) (.c (.sc (.bool true))) (.t 51)), iC 53 52, jFr 54 1 6 1 53 false, jL 55 54 53 false, j0 56 (.cp (.t 5)) 53 false, jFr 57 6 0 6 53 false, jL 58 57 53 false, jFr 59 6 6 6 53 false, jL 60 59 53 false, j0 61 (.call 14 [.t 55, .t 56, .t 58, .t 60] 0) 53 false, j0 62 (.un .not (.t 61)) 53 false, i0 63 (.pick (.t 53) (.c (.sc (.bool true))) (.t 62))])
(.cond (.t 63) (sR [iC 64 5, iM 2 64, iK 3 12]
.ret) .skip))
(.reg [i1 65 7 (.ld true 7 (.t 7)), iS 7 4 65])))))
(.reg [iC 25 5, iP 26 .add 25 1, iM 5 26]))))))
(sR [iK 2 0, iK 3 0]
.ret))))))
def f5g : Gi := ⟨[(9, [1]), (13, [1]), (17, [1]), (21, [1]), (27, [1]), (32, [37]), (33, [1]), (35, [4]), (38, [37]), (39, [37]), (40, [8]), (43, [1]), (46, [6]), (48, [6]), (54, [1]), (57, [6]), (59, [6]), (65, [7])]⟩
def f5r : List RV := [.tmp 2, .tmp 3]
def f5 : FI := ⟨f5c, f5g, f5r⟩
theorem chk5 : chkF Tryd.prog Tryd.f5 f5 = true := by kernel_rfl
def r16_Ch_J2 : Option (Int × Int) :=
  some (0, 0)
def r16_Ch_J1 (L1 : SSnapshot → Int → Option (Int × Int)) (i : Int) (v_2 : SSnapshot × Bool) (t63v : Bool) : Option (Int × Int) :=
  if t63v then
    some (i, 12)
  else
  L1 v_2.1 (w64 (i + 1))
def r16_Ch_L1 (t : STrace) (L1 : SSnapshot → Int → Option (Int × Int)) (s : SSnapshot) (i : Int) : Option (Int × Int) :=
  if decide (i < (t.Events.length : Int)) then
    (gt t.Events i).bind fun x =>
    (r16_Stq t.World s x).bind fun v_2 =>
    if !v_2.2 then
      r16_Ch_J1 L1 i v_2 true
    else
    (r16_re t.Events i x.Thread x.Deps).bind fun v_3 =>
    if !v_3 then
      r16_Ch_J1 L1 i v_2 true
    else
    (r16_re t.Events i x.Thread x.From).bind fun v_4 =>
    r16_Ch_J1 L1 i v_2 (!v_4)
  else
  r16_Ch_J2
def r16_Ch_L1r (t : STrace) : Nat → SSnapshot → Int → Option (Int × Int)
  | 0, _, _ => none
  | n + 1, s, i => r16_Ch_L1 t (r16_Ch_L1r t n) s i
def r16_Ch (t : STrace) : Option (Int × Int) :=
  if decide ((t.Events.length : Int) > 400) then
    some (0, 2)
  else
  (r06_VaWo t.World).bind fun v =>
  if !v then
    some (0, 1)
  else
  (r16_St t.World).bind fun v_1 =>
  r16_Ch_L1r t big v_1 0
theorem r16_Ch_ok {t : STrace} {r : Int × Int} (h : r16_Ch t = some r) : Says Tryd.prog 5 [.agg (eTrace t)] (.tup [si r.1, si r.2]) := by
 refine says_of mix Tryd.func5 chk5 (of_decide_eq_true (by kernel_rfl)) rfl ?_
 simp only [f5, f5c, f5g, f5r]
 try simp +decide only [go_sem]
 refine cI h (fun e1 h => ?_) fun e1 h => ?_
 · obtain rfl := Option.some.inj h
   simp +decide only [go_sem, e1]
 obtain ⟨v, g1, h⟩ := bS h
 try simp +decide only [go_sem, e1]
 refine ⟨_, r06_VaWo_ok g1, ?_⟩
 try simp +decide only [go_sem, e1]
 refine cI h (fun e2 h => ?_) fun e2 h => ?_
 · obtain rfl := Option.some.inj h
   simp +decide only [go_sem, e1, e2]
 obtain ⟨v_1, g2, h⟩ := bS h
 try simp +decide only [go_sem, e1, e2]
 refine ⟨_, r16_St_ok g2, ?_⟩
 try simp +decide only [go_sem, e1, e2]
 refine cutH (fun τ => (True) ∧ r16_Ch_J2 = some r) fun M2 m2 => ⟨?_, ?_⟩
 · try simp +decide only [go_sem, e1, e2]
   refine loopH (fun n τ => ∃ s : SSnapshot, ∃ i : Int, (τ 1 = bA 7 (eTrace t) ∧ τ 4 = bA 7 (eSnapshoto s) ∧ τ 5 = si i) ∧ r16_Ch_L1r t n s i = some r) ⟨v_1, 0, ?_, h⟩ fun n1 τ1 N1 => ?_
   · simp +decide only [go_sem, e1, e2]
   rintro ⟨s, i, s1, h⟩ k1
   cases n1 with
   | zero => exact no_none h
   | succ n1 =>
    rw [r16_Ch_L1r] at h; generalize q1 : r16_Ch_L1r t n1 = L1 at h
    try simp +decide only [go_sem, s1]
    refine cI h (fun e3 h => ?_) fun e3 h => ?_
    · obtain ⟨x, g3, h⟩ := gB h
      obtain ⟨v_2, g4, h⟩ := bS h
      try simp +decide only [go_sem, s1, e3, g3]
      refine ⟨_, r16_Stq_ok g4, ?_⟩
      try simp +decide only [go_sem, s1, e3, g3]
      refine cutH (fun τ => ∃ t63v : Bool, (τ 1 = bA 7 (eTrace t) ∧ τ 4 = bA 7 (eSnapshoto s) ∧ τ 5 = si i ∧ τ 7 = bA 7 (eSnapshoto v_2.1) ∧ τ 63 = sb t63v) ∧ r16_Ch_J1 L1 i v_2 t63v = some r) fun M1 m1 => ⟨?_, ?_⟩
      · try simp +decide only [go_sem, s1, e3, g3]
        refine gI h (fun e4 h => ?_) fun e4 h => ?_
        · try simp +decide only [go_sem, s1, e3, g3, e4]
          refine m1 _ ⟨true, ?_, h⟩
          simp +decide only [go_sem, s1, e3, g3, e4]
        obtain ⟨v_3, g5, h⟩ := bS h
        try simp +decide only [go_sem, s1, e3, g3, e4]
        refine ⟨_, r16_re_ok g5, ?_⟩
        try simp +decide only [go_sem, s1, e3, g3, e4]
        refine gI h (fun e5 h => ?_) fun e5 h => ?_
        · try simp +decide only [go_sem, s1, e3, g3, e4, e5]
          refine m1 _ ⟨true, ?_, h⟩
          simp +decide only [go_sem, s1, e3, g3, e4, e5]
        obtain ⟨v_4, g6, h⟩ := bS h
        try simp +decide only [go_sem, s1, e3, g3, e4, e5]
        refine ⟨_, r16_re_ok g6, ?_⟩
        try simp +decide only [go_sem, s1, e3, g3, e4, e5]
        refine m1 _ ⟨!v_4, ?_, h⟩
        simp +decide only [go_sem, s1, e3, g3, e4, e5]
      rintro τ1 ⟨t63v, s1, h⟩
      try simp +decide only [go_sem, s1]
      refine cI h (fun e6 h => ?_) fun e6 h => ?_
      · obtain rfl := Option.some.inj h
        simp +decide only [go_sem, s1, e6]
      try simp +decide only [go_sem, s1, e6]
      refine k1 n1 (Nat.lt_succ_self _) _ ⟨v_2.1, w64 (i + 1), ?_, q1.symm ▸ h⟩
      simp +decide only [go_sem, s1, e6]
    try simp +decide only [go_sem, s1, e3]
    refine m2 _ ⟨?_, h⟩
    simp +decide only [go_sem, s1, e3]
 rintro τ2 ⟨_, h⟩
 obtain rfl := Option.some.inj h
 simp +decide only [go_sem]
def f6c : IC := (sR [iB 0 false]
(sR [i0 6 (.bsl 1 [[.sc (.string ⟨#[]⟩)]] [(0, .c (.sc (.string ⟨#[116]⟩)))]), i0 7 (.bld [.own false 5 [], .own false 2 [], .own false 2 [], .own false 1 [], .own false 1 [], .own false 3 []] [(4, 1, .t 6)]), ⟨some ⟨1, [9, 17], []⟩, .bx 6 (.c (.agg [.own false 5 [], .own false 2 [], .own false 2 [], .own false 1 [], .own false 1 [], .own false 3 []])), none⟩, iS 6 1 7]
(.seq (.gz 1 [(0, 5, 6)] (.gz 1 [(0, 4, 6)] (.gz 1 [(0, 3, 6)] (.gz 1 [(0, 2, 6)] (.gz 1 [(0, 1, 6)] (.gz 1 [(0, 0, 6)] (.reg [i1 9 1 (.ld true 6 (.t 1)), i0 10 (.bld [.sc (.int .i64 0), .sc (.int .i64 0), .sc (.int .i64 0), .sc (.int .i64 0), .sc (.int .i64 0), .own false 1 [], .own false 1 []] [(1, 1, .c (.sc (.int .i64 2))), (2, 1, .c (.sc (.int .i64 (-1)))), (4, 1, .c (.sc (.int .i64 (-1))))]), i0 11 (.bsl 7 [[.sc (.int .i64 0), .sc (.int .i64 0), .sc (.int .i64 0), .sc (.int .i64 0), .sc (.int .i64 0), .own false 1 [], .own false 1 []]] [(0, .t 10)]), i0 12 (.bld [.own false 5 [], .own false 2 [], .own false 2 [], .own false 1 [], .own false 1 [], .own false 3 [], .own false 7 []] [(0, 6, .t 9), (6, 1, .t 11)]), i0 13 (.call 4 [.t 12] 0), iC 8 13, iX 14 8 0, iX 15 8 1, iM 2 14, iM 3 15])))))))
(sR [i1 17 1 (.ld true 6 (.t 1)), i0 18 (.bld [.sc (.int .i64 0), .sc (.int .i64 0), .sc (.int .i64 0), .sc (.int .i64 0), .sc (.int .i64 0), .own false 1 [], .own false 1 []] [(1, 1, .c (.sc (.int .i64 1))), (2, 1, .c (.sc (.int .i64 (-1)))), (4, 1, .c (.sc (.int .i64 (-1))))]), i0 19 (.bsl 7 [[.sc (.int .i64 0), .sc (.int .i64 0), .sc (.int .i64 0), .sc (.int .i64 0), .sc (.int .i64 0), .own false 1 [], .own false 1 []]] [(0, .t 18)]), i0 20 (.bld [.own false 5 [], .own false 2 [], .own false 2 [], .own false 1 [], .own false 1 [], .own false 3 [], .own false 7 []] [(0, 6, .t 17), (6, 1, .t 19)]), i0 21 (.call 4 [.t 20] 0), iC 16 21, iX 22 16 0, iX 23 16 1, iM 4 22, iM 5 23]
(cutS (.reg [iC 24 3, iQ 25 24 12, iC 26 25, j0 27 (.cp (.t 5)) 26 true, j0 28 (.bin .eql (.t 27) (.c (.sc (.int .i64 0)))) 26 true, i0 29 (.pick (.t 26) (.t 28) (.c (.sc (.bool false)))), iM 0 29])
.ret)))))
def f6g : Gi := ⟨[(9, [1]), (17, [1])]⟩
def f6r : List RV := [.tmp 0]
def f6 : FI := ⟨f6c, f6g, f6r⟩
theorem chk6 : chkF Tryd.prog Tryd.f6 f6 = true := by kernel_rfl
def l17_aw_J1 (t0v : Bool) : Option Bool :=
  some t0v
def l17_aw : Option Bool :=
  (w_Ch (STrace.mk (SWorld.mk [] [] [] [] [(⟨#[116]⟩ : ByteArray)] []) [(SEvent.mk 0 2 (-1) 0 (-1) [] [])])).bind fun v =>
  (w_Ch (STrace.mk (SWorld.mk [] [] [] [] [(⟨#[116]⟩ : ByteArray)] []) [(SEvent.mk 0 1 (-1) 0 (-1) [] [])])).bind fun v_1 =>
  if v.2 == 12 then
    l17_aw_J1 (v_1.2 == 0)
  else
  l17_aw_J1 false
theorem l17_aw_ok {r : Bool} (h : l17_aw = some r) : Says Tryd.prog 6 [] (sb r) := by
 refine says_of mix Tryd.func6 chk6 (of_decide_eq_true (by kernel_rfl)) rfl ?_
 simp only [f6, f6c, f6g, f6r]
 obtain ⟨v, g1, h⟩ := bS h
 try simp +decide only [go_sem]
 refine ⟨_, w_Ch_ok g1, ?_⟩
 obtain ⟨v_1, g2, h⟩ := bS h
 try simp +decide only [go_sem]
 refine ⟨_, w_Ch_ok g2, ?_⟩
 try simp +decide only [go_sem]
 refine cutH (fun τ => ∃ t0v : Bool, (τ 0 = sb t0v) ∧ l17_aw_J1 t0v = some r) fun M1 m1 => ⟨?_, ?_⟩
 · try simp +decide only [go_sem]
   refine gI h (fun e1 h => ?_) fun e1 h => ?_
   · try simp +decide only [go_sem, e1]
     refine m1 _ ⟨v_1.2 == 0, ?_, h⟩
     simp +decide only [go_sem, e1]
   try simp +decide only [go_sem, e1]
   refine m1 _ ⟨false, ?_, h⟩
   simp +decide only [go_sem, e1]
 rintro τ1 ⟨t0v, s1, h⟩
 obtain rfl := Option.some.inj h
 simp +decide only [go_sem, s1]
def f3c : IC := (sR [⟨some ⟨1, [7, 12, 13], []⟩, .bx 7 (.t 0), none⟩, iB 2 false]
(.seq (cutS (.reg [iFr 7 1 6 1, iL 8 7, i0 9 (.len (.t 8)), iP 10 .gtr 9 500, iC 11 10, jFr 12 1 0 1 11 false, jFr 13 1 4 12 11 false, jL 14 13 11 false, j0 15 (.len (.t 14)) 11 false, j0 16 (.bin .gtr (.t 15) (.c (.sc (.int .i64 20)))) 11 false, i0 17 (.pick (.t 11) (.c (.sc (.bool true))) (.t 16))])
(.cond (.t 17) (sR [iB 2 true]
.ret) .skip))
(sR [i0 19 (.ld true 7 (.t 1)), i0 20 (.call 4 [.t 19] 0), iC 18 20, iX 21 18 0, iX 22 18 1, iM 3 21, iM 4 22]
(sR [i0 24 (.ld true 7 (.t 1)), i0 25 (.call 5 [.t 24] 0), iC 23 25, iX 26 23 0, iX 27 23 1, iM 5 26, iM 6 27]
(cutS (.reg [iC 28 3, iC 29 5, iO 30 .eql 28 29, iC 31 30, j0 32 (.cp (.t 4)) 31 true, j0 33 (.cp (.t 6)) 31 true, j0 34 (.bin .eql (.t 32) (.t 33)) 31 true, i0 35 (.pick (.t 31) (.t 34) (.c (.sc (.bool false)))), iC 36 35, j0 37 (.call 6 [] 0) 36 true, i0 38 (.pick (.t 36) (.t 37) (.c (.sc (.bool false)))), iM 2 38])
.ret)))))
def f3g : Gi := ⟨[(7, [1]), (12, [1]), (13, [1])]⟩
def f3r : List RV := [.tmp 2]
def f3 : FI := ⟨f3c, f3g, f3r⟩
theorem chk3 : chkF Tryd.prog Tryd.f3 f3 = true := by kernel_rfl
def l17_WeTe_J2 (t2v : Bool) : Option Bool :=
  some t2v
def l17_WeTe_J1 (t : STrace) (t17v : Bool) : Option Bool :=
  if t17v then
    some true
  else
  (w_Ch t).bind fun v =>
  (r16_Ch t).bind fun v_1 =>
  if v.1 == v_1.1 then
    if v.2 == v_1.2 then
      (l17_aw).bind fun v_2 =>
      l17_WeTe_J2 v_2
    else
    l17_WeTe_J2 false
  else
  l17_WeTe_J2 false
def l17_WeTe (t : STrace) : Option Bool :=
  if decide ((t.Events.length : Int) > 500) then
    l17_WeTe_J1 t true
  else
  l17_WeTe_J1 t (decide ((t.World.Threads.length : Int) > 20))
theorem l17_WeTe_ok {t : STrace} {r : Bool} (h : l17_WeTe t = some r) : Says Tryd.prog 3 [.agg (eTrace t)] (sb r) := by
 refine says_of mix Tryd.func3 chk3 (of_decide_eq_true (by kernel_rfl)) rfl ?_
 simp only [f3, f3c, f3g, f3r]
 try simp +decide only [go_sem]
 refine cutH (fun τ => ∃ t17v : Bool, (τ 1 = bA 7 (eTrace t) ∧ τ 17 = sb t17v) ∧ l17_WeTe_J1 t t17v = some r) fun M1 m1 => ⟨?_, ?_⟩
 · try simp +decide only [go_sem]
   refine gI h (fun e1 h => ?_) fun e1 h => ?_
   · try simp +decide only [go_sem, e1]
     refine m1 _ ⟨true, ?_, h⟩
     simp +decide only [go_sem, e1]
   try simp +decide only [go_sem, e1]
   refine m1 _ ⟨decide ((t.World.Threads.length : Int) > 20), ?_, h⟩
   simp +decide only [go_sem, e1]
 rintro τ1 ⟨t17v, s1, h⟩
 try simp +decide only [go_sem, s1]
 refine cI h (fun e2 h => ?_) fun e2 h => ?_
 · obtain rfl := Option.some.inj h
   simp +decide only [go_sem, s1, e2]
 obtain ⟨v, g1, h⟩ := bS h
 try simp +decide only [go_sem, s1, e2]
 refine ⟨_, w_Ch_ok g1, ?_⟩
 obtain ⟨v_1, g2, h⟩ := bS h
 try simp +decide only [go_sem, s1, e2]
 refine ⟨_, r16_Ch_ok g2, ?_⟩
 try simp +decide only [go_sem, s1, e2]
 refine cutH (fun τ => ∃ t2v : Bool, (τ 2 = sb t2v) ∧ l17_WeTe_J2 t2v = some r) fun M2 m2 => ⟨?_, ?_⟩
 · try simp +decide only [go_sem, s1, e2]
   refine gI h (fun e3 h => ?_) fun e3 h => ?_
   · try simp +decide only [go_sem, s1, e2, e3]
     refine gI h (fun e4 h => ?_) fun e4 h => ?_
     · obtain ⟨v_2, g3, h⟩ := bS h
       try simp +decide only [go_sem, s1, e2, e3, e4]
       refine ⟨_, l17_aw_ok g3, ?_⟩
       try simp +decide only [go_sem, s1, e2, e3, e4]
       refine m2 _ ⟨v_2, ?_, h⟩
       simp +decide only [go_sem, s1, e2, e3, e4]
     try simp +decide only [go_sem, s1, e2, e3, e4]
     refine m2 _ ⟨false, ?_, h⟩
     simp +decide only [go_sem, s1, e2, e3, e4]
   try simp +decide only [go_sem, s1, e2, e3]
   refine m2 _ ⟨false, ?_, h⟩
   simp +decide only [go_sem, s1, e2, e3]
 rintro τ2 ⟨t2v, s2, h⟩
 obtain rfl := Option.some.inj h
 simp +decide only [go_sem, s2]
end Go.Abs
