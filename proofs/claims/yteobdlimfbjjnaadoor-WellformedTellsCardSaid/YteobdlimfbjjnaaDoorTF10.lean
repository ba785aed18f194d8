/- Typed programs: interleaveref04.At, interleaveref06.ValidWorld, interleaveref08.Start, interleaveref16.Start. -/
import Derived.Test.YteobdlimfbjjnaaDoorTE
import Derived.Test.YteobdlimfbjjnaaDoorTF8
import Derived.Test.YteobdlimfbjjnaaDoorTF9
set_option linter.unusedSimpArgs false
namespace Go.Abs
open Go.Proofs
set_option maxRecDepth 100000
set_option maxHeartbeats 4000000
def f30c : IC := (sR [iK 4 0]
(cutS (sR [iK 5 0]
(.block 0 (.loop (.seq (sR [iC 6 5, iC 7 0, i0 8 (.len (.t 7)), iO 9 .lss 6 8]
(.cond (.t 9) .skip (.exit 0)))
(.seq (.block 1 (sR [iC 12 0, iC 13 5, iI 14 1 12 13, iL 15 14, iC 16 1, iO 17 .eql 15 16]
(.cond (.t 17) (sR [iC 18 5, iM 4 18]
.ret) .skip)))
(.reg [iC 10 5, iP 11 .add 10 1, iM 5 11]))))))
(sR [iK 4 (-1)]
.ret)))
def f30g : Gi := ⟨[]⟩
def f30r : List RV := [.tmp 4]
def f30 : FI := ⟨f30c, f30g, f30r⟩
theorem chk30 : chkF Tryd.prog Tryd.f30 f30 = true := by kernel_rfl
def r04_At_J1 : Option Int :=
  some (-1)
def r04_At_L1 (l : List ByteArray) (s : ByteArray) (L1 : Int → Option Int) (i : Int) : Option Int :=
  if decide (i < (l.length : Int)) then
    (gt l i).bind fun x =>
    if x.toList == s.toList then
      some i
    else
    L1 (w64 (i + 1))
  else
  r04_At_J1
def r04_At_L1r (l : List ByteArray) (s : ByteArray) : Nat → Int → Option Int
  | 0, _ => none
  | n + 1, i => r04_At_L1 l s (r04_At_L1r l s n) i
def r04_At (l : List ByteArray) (s : ByteArray) : Option Int :=
  r04_At_L1r l s big 0
theorem r04_At_ok {l : List ByteArray} {s : ByteArray} {r : Int} (h : r04_At l s = some r) : Says Tryd.prog 30 [.sl false 1 (l.map eS), sst s] (si r) := by
 refine says_of mix Tryd.func30 chk30 (of_decide_eq_true (by kernel_rfl)) rfl ?_
 simp only [f30, f30c, f30g, f30r]
 try simp +decide only [go_sem]
 refine cutH (fun τ => (True) ∧ r04_At_J1 = some r) fun M1 m1 => ⟨?_, ?_⟩
 · try simp +decide only [go_sem]
   refine loopH (fun n τ => ∃ i : Int, (τ 0 = .sl false 1 (l.map eS) ∧ τ 1 = sst s ∧ τ 5 = si i) ∧ r04_At_L1r l s n i = some r) ⟨0, ?_, h⟩ fun n1 τ1 N1 => ?_
   · simp +decide only [go_sem]
   rintro ⟨i, s1, h⟩ k1
   cases n1 with
   | zero => exact no_none h
   | succ n1 =>
    rw [r04_At_L1r] at h; generalize q1 : r04_At_L1r l s n1 = L1 at h
    try simp +decide only [go_sem, s1]
    refine cI h (fun e1 h => ?_) fun e1 h => ?_
    · obtain ⟨x, g1, h⟩ := gB h
      try simp +decide only [go_sem, s1, e1, g1]
      refine cI h (fun e2 h => ?_) fun e2 h => ?_
      · obtain rfl := Option.some.inj h
        simp +decide only [go_sem, s1, e1, g1, e2]
      try simp +decide only [go_sem, s1, e1, g1, e2]
      refine k1 n1 (Nat.lt_succ_self _) _ ⟨w64 (i + 1), ?_, q1.symm ▸ h⟩
      simp +decide only [go_sem, s1, e1, g1, e2]
    try simp +decide only [go_sem, s1, e1]
    refine m1 _ ⟨?_, h⟩
    simp +decide only [go_sem, s1, e1]
 rintro τ1 ⟨_, h⟩
 obtain rfl := Option.some.inj h
 simp +decide only [go_sem]
def f11c : IC := (sR [⟨some ⟨1, [10, 15, 21, 27, 33, 39, 45, 81, 87, 97, 103, 111, 117, 128, 136, 154, 168], []⟩, .bx 6 (.t 0), none⟩, iB 2 false]
(.seq (cutS (.reg [iFr 10 1 0 1, iL 11 10, i0 12 (.len (.t 11)), iP 13 .gtr 12 12, iC 14 13, jFr 15 1 1 1 14 false, jL 16 15 14 false, j0 17 (.len (.t 16)) 14 false, j0 18 (.bin .gtr (.t 17) (.c (.sc (.int .i64 4)))) 14 false, i0 19 (.pick (.t 14) (.c (.sc (.bool true))) (.t 18)), iC 20 19, jFr 21 1 2 1 20 false, jL 22 21 20 false, j0 23 (.len (.t 22)) 20 false, j0 24 (.bin .gtr (.t 23) (.c (.sc (.int .i64 2)))) 20 false, i0 25 (.pick (.t 20) (.c (.sc (.bool true))) (.t 24)), iC 26 25, jFr 27 1 3 1 26 false, jL 28 27 26 false, j0 29 (.len (.t 28)) 26 false, j0 30 (.bin .gtr (.t 29) (.c (.sc (.int .i64 2)))) 26 false, i0 31 (.pick (.t 26) (.c (.sc (.bool true))) (.t 30)), iC 32 31, jFr 33 1 4 1 32 false, jL 34 33 32 false, j0 35 (.len (.t 34)) 32 false, j0 36 (.bin .lss (.t 35) (.c (.sc (.int .i64 1)))) 32 false, i0 37 (.pick (.t 32) (.c (.sc (.bool true))) (.t 36)), iC 38 37, jFr 39 1 4 1 38 false, jL 40 39 38 false, j0 41 (.len (.t 40)) 38 false, j0 42 (.bin .gtr (.t 41) (.c (.sc (.int .i64 4)))) 38 false, i0 43 (.pick (.t 38) (.c (.sc (.bool true))) (.t 42)), iC 44 43, jFr 45 1 5 1 44 false, jL 46 45 44 false, j0 47 (.len (.t 46)) 44 false, j0 48 (.bin .gtr (.t 47) (.c (.sc (.int .i64 60)))) 44 false, i0 49 (.pick (.t 44) (.c (.sc (.bool true))) (.t 48))])
(.cond (.t 49) (sR [iB 2 false]
.ret) .skip))
(sR [i0 51 (.ld true 6 (.t 1)), i0 52 (.call 28 [.t 51] 1), iC 50 52, iX 53 50 0, iX 54 50 1, iM 3 53, iM 4 54]
(.seq (sR [iC 55 4, iN 56 55]
(.cond (.t 56) (sR [iB 2 false]
.ret) .skip))
(cutS (sR [iK 5 0]
(.block 0 (.loop (.seq (sR [iC 57 5, iC 58 3, i0 59 (.len (.t 58)), iO 60 .lss 57 59]
(.cond (.t 60) .skip (.exit 0)))
(.seq (.block 1 (cutS (.reg [iC 63 3, iC 64 5, iI 65 1 63 64, iL 66 65, i0 67 (.call 29 [.t 66] 0), iN 68 67, iC 69 68, j0 70 (.cp (.t 3)) 69 false, j0 71 (.cp (.t 5)) 69 false, j0 72 (.slc 1 true (.t 70) none (some (.t 71)) none) 69 false, j0 73 (.cp (.t 3)) 69 false, j0 74 (.cp (.t 5)) 69 false, j0 75 (.iad 1 (.t 73) (.t 74)) 69 false, jL 76 75 69 false, j0 77 (.call 30 [.t 72, .t 76] 0) 69 false, j0 78 (.bin .geq (.t 77) (.c (.sc (.int .i64 0)))) 69 false, i0 79 (.pick (.t 69) (.c (.sc (.bool true))) (.t 78))])
(.cond (.t 79) (sR [iB 2 false]
.ret) .skip)))
(.reg [iC 61 5, iP 62 .add 61 1, iM 5 62]))))))
(cutS (sR [iK 6 0]
(.block 2 (.loop (.seq (sR [iC 80 6, iFr 81 1 2 1, iL 82 81, i0 83 (.len (.t 82)), iO 84 .lss 80 83]
(.cond (.t 84) .skip (.exit 2)))
(.seq (.block 3 (sR [iFr 87 1 2 1, iL 88 87, iC 89 6, iI 90 2 88 89, iF 91 1 90, iL 92 91, iM 7 92]
(cutS (.reg [iC 93 7, iP 94 .lss 93 0, iC 95 94, j0 96 (.cp (.t 7)) 95 false, jFr 97 1 1 1 95 false, jL 98 97 95 false, j0 99 (.len (.t 98)) 95 false, j0 100 (.bin .geq (.t 96) (.t 99)) 95 false, i0 101 (.pick (.t 95) (.c (.sc (.bool true))) (.t 100)), iC 102 101, jFr 103 1 1 1 102 false, jL 104 103 102 false, j0 105 (.cp (.t 7)) 102 false, j0 106 (.iad 2 (.t 104) (.t 105)) 102 false, jF 107 1 106 102 false, jL 108 107 102 false, i0 109 (.pick (.t 102) (.c (.sc (.bool true))) (.t 108))])
(.cond (.t 109) (sR [iB 2 false]
.ret) .skip))))
(.reg [iC 85 6, iP 86 .add 85 1, iM 6 86]))))))
(cutS (sR [iK 8 0]
(.block 4 (.loop (.seq (sR [iC 110 8, iFr 111 1 5 1, iL 112 111, i0 113 (.len (.t 112)), iO 114 .lss 110 113]
(.cond (.t 114) .skip (.exit 4)))
(cutS (.block 5 (sR [iFr 117 1 5 1, iL 118 117, iC 119 8, iI 120 3 118 119, i0 121 (.ld true 3 (.t 120)), ⟨some ⟨9, [122, 126, 143, 147, 161, 166], []⟩, .bx 3 (.c (.agg [.sc (.int .i64 0), .sc (.int .i64 0), .sc (.int .i64 0)])), none⟩, iS 3 9 121]
(.seq (cutS (.reg [iFr 122 9 0 9, iL 123 122, iP 124 .lss 123 0, iC 125 124, jFr 126 9 0 9 125 false, jL 127 126 125 false, jFr 128 1 4 1 125 false, jL 129 128 125 false, j0 130 (.len (.t 129)) 125 false, j0 131 (.bin .geq (.t 127) (.t 130)) 125 false, i0 132 (.pick (.t 125) (.c (.sc (.bool true))) (.t 131))])
(.cond (.t 132) (sR [iB 2 false]
.ret) .skip))
(cutS (.reg [iC 133 8, iQ 134 133 0, iC 135 134, jFr 136 1 5 1 135 false, jL 137 136 135 false, j0 138 (.cp (.t 8)) 135 false, j0 139 (.bin .sub (.t 138) (.c (.sc (.int .i64 1)))) 135 false, j0 140 (.iad 3 (.t 137) (.t 139)) 135 false, jF 141 0 140 135 false, jL 142 141 135 false, jFr 143 9 0 9 135 false, jL 144 143 135 false, j0 145 (.bin .neq (.t 142) (.t 144)) 135 false, i0 146 (.pick (.t 135) (.c (.sc (.bool true))) (.t 145))])
(.cond (.t 146) (cutS (.reg [iFr 147 9 1 9, iL 148 147, iP 149 .neq 148 0, iC 150 149, j0 151 (.cp (.t 8)) 150 false, j0 152 (.bin .gtr (.t 151) (.c (.sc (.int .i64 0)))) 150 false, j0 153 (.cp (.t 152)) 150 false, jFr 154 1 5 1 153 true, jL 155 154 153 true, j0 156 (.cp (.t 8)) 153 true, j0 157 (.bin .sub (.t 156) (.c (.sc (.int .i64 1)))) 153 true, j0 158 (.iad 3 (.t 155) (.t 157)) 153 true, jF 159 0 158 153 true, jL 160 159 153 true, jFr 161 9 0 9 153 true, jL 162 161 153 true, j0 163 (.bin .gtr (.t 160) (.t 162)) 153 true, j0 164 (.pick (.t 153) (.t 163) (.c (.sc (.bool false)))) 150 false, i0 165 (.pick (.t 150) (.c (.sc (.bool true))) (.t 164))])
(.cond (.t 165) (sR [iB 2 false]
.ret) .skip)) (sR [iFr 166 9 1 9, iL 167 166, iFr 168 1 5 1, iL 169 168, iC 170 8, iP 171 .sub 170 1, iI 172 3 169 171, iF 173 1 172, iL 174 173, iP 175 .add 174 1, iO 176 .neq 167 175]
(.cond (.t 176) (sR [iB 2 false]
.ret) .skip)))))))
(.reg [iC 115 8, iP 116 .add 115 1, iM 8 116]))))))
(sR [iB 2 true]
.ret))))))))
def f11g : Gi := ⟨[(10, [1]), (15, [1]), (21, [1]), (27, [1]), (33, [1]), (39, [1]), (45, [1]), (81, [1]), (87, [1]), (97, [1]), (103, [1]), (111, [1]), (117, [1]), (122, [9]), (126, [9]), (128, [1]), (136, [1]), (143, [9]), (147, [9]), (154, [1]), (161, [9]), (166, [9]), (168, [1])]⟩
def f11r : List RV := [.tmp 2]
def f11 : FI := ⟨f11c, f11g, f11r⟩
theorem chk11 : chkF Tryd.prog Tryd.f11 f11 = true := by kernel_rfl
def r06_VaWo_J10 : Option Bool :=
  some true
def r06_VaWo_J9 (L3 : Int → Option Bool) (i_2 : Int) : Option Bool :=
  L3 (w64 (i_2 + 1))
def r06_VaWo_J8 (L3 : Int → Option Bool) (i_2 : Int) (t165v : Bool) : Option Bool :=
  if t165v then
    some false
  else
  r06_VaWo_J9 L3 i_2
def r06_VaWo_J7 (L3 : Int → Option Bool) (i_2 : Int) (wv : SWorld) (x_3 : SSite) (t146v : Bool) : Option Bool :=
  if t146v then
    if x_3.Stmt != 0 then
      r06_VaWo_J8 L3 i_2 true
    else
    if decide (i_2 > 0) then
      (gt wv.Sites (w64 (i_2 - 1))).bind fun x_5 =>
      r06_VaWo_J8 L3 i_2 (decide (x_5.Thread > x_3.Thread))
    else
    r06_VaWo_J8 L3 i_2 false
  else
  (gt wv.Sites (w64 (i_2 - 1))).bind fun x_6 =>
  if x_3.Stmt != (w64 (x_6.Stmt + 1)) then
    some false
  else
  r06_VaWo_J9 L3 i_2
def r06_VaWo_J6 (L3 : Int → Option Bool) (i_2 : Int) (wv : SWorld) (x_3 : SSite) (t132v : Bool) : Option Bool :=
  if t132v then
    some false
  else
  if i_2 == 0 then
    r06_VaWo_J7 L3 i_2 wv x_3 true
  else
  (gt wv.Sites (w64 (i_2 - 1))).bind fun x_4 =>
  r06_VaWo_J7 L3 i_2 wv x_3 (x_4.Thread != x_3.Thread)
def r06_VaWo_L3 (wv : SWorld) (L3 : Int → Option Bool) (i_2 : Int) : Option Bool :=
  if decide (i_2 < (wv.Sites.length : Int)) then
    (gt wv.Sites i_2).bind fun x_3 =>
    if decide (x_3.Thread < 0) then
      r06_VaWo_J6 L3 i_2 wv x_3 true
    else
    r06_VaWo_J6 L3 i_2 wv x_3 (decide (x_3.Thread ≥ (wv.Threads.length : Int)))
  else
  r06_VaWo_J10
def r06_VaWo_L3r (wv : SWorld) : Nat → Int → Option Bool
  | 0, _ => none
  | n + 1, i_2 => r06_VaWo_L3 wv (r06_VaWo_L3r wv n) i_2
def r06_VaWo_J5 (wv : SWorld) : Option Bool :=
  r06_VaWo_L3r wv big 0
def r06_VaWo_J4 (L2 : Int → Option Bool) (i_1 : Int) (t109v : Bool) : Option Bool :=
  if t109v then
    some false
  else
  L2 (w64 (i_1 + 1))
def r06_VaWo_L2 (wv : SWorld) (L2 : Int → Option Bool) (i_1 : Int) : Option Bool :=
  if decide (i_1 < (wv.Conds.length : Int)) then
    (gt wv.Conds i_1).bind fun x_1 =>
    if decide (x_1.Mutex < 0) then
      r06_VaWo_J4 L2 i_1 true
    else
    if decide (x_1.Mutex ≥ (wv.Locks.length : Int)) then
      r06_VaWo_J4 L2 i_1 true
    else
    (gt wv.Locks x_1.Mutex).bind fun x_2 =>
    r06_VaWo_J4 L2 i_1 x_2.RW
  else
  r06_VaWo_J5 wv
def r06_VaWo_L2r (wv : SWorld) : Nat → Int → Option Bool
  | 0, _ => none
  | n + 1, i_1 => r06_VaWo_L2 wv (r06_VaWo_L2r wv n) i_1
def r06_VaWo_J3 (wv : SWorld) : Option Bool :=
  r06_VaWo_L2r wv big 0
def r06_VaWo_J2 (L1 : Int → Option Bool) (i : Int) (t79v : Bool) : Option Bool :=
  if t79v then
    some false
  else
  L1 (w64 (i + 1))
def r06_VaWo_L1 (v : (List ByteArray) × Bool) (wv : SWorld) (L1 : Int → Option Bool) (i : Int) : Option Bool :=
  if decide (i < (v.1.length : Int)) then
    (gt v.1 i).bind fun x =>
    (r01_IsNa x).bind fun v_1 =>
    if !v_1 then
      r06_VaWo_J2 L1 i true
    else
    if 0 ≤ i ∧ i.toNat ≤ v.1.length then
    (r04_At (v.1.take i.toNat) x).bind fun v_2 =>
    r06_VaWo_J2 L1 i (decide (v_2 ≥ 0))
    else none
  else
  r06_VaWo_J3 wv
def r06_VaWo_L1r (v : (List ByteArray) × Bool) (wv : SWorld) : Nat → Int → Option Bool
  | 0, _ => none
  | n + 1, i => r06_VaWo_L1 v wv (r06_VaWo_L1r v wv n) i
def r06_VaWo_J1 (wv : SWorld) (t49v : Bool) : Option Bool :=
  if t49v then
    some false
  else
  (r06_na wv).bind fun v =>
  if !v.2 then
    some false
  else
  r06_VaWo_L1r v wv big 0
def r06_VaWo (wv : SWorld) : Option Bool :=
  if decide ((wv.Cells.length : Int) > 12) then
    r06_VaWo_J1 wv true
  else
  if decide ((wv.Locks.length : Int) > 4) then
    r06_VaWo_J1 wv true
  else
  if decide ((wv.Conds.length : Int) > 2) then
    r06_VaWo_J1 wv true
  else
  if decide ((wv.Futures.length : Int) > 2) then
    r06_VaWo_J1 wv true
  else
  if decide ((wv.Threads.length : Int) < 1) then
    r06_VaWo_J1 wv true
  else
  if decide ((wv.Threads.length : Int) > 4) then
    r06_VaWo_J1 wv true
  else
  r06_VaWo_J1 wv (decide ((wv.Sites.length : Int) > 60))
theorem r06_VaWo_ok {wv : SWorld} {r : Bool} (h : r06_VaWo wv = some r) : Says Tryd.prog 11 [.agg (eWorld wv)] (sb r) := by
 refine says_of mix Tryd.func11 chk11 (of_decide_eq_true (by kernel_rfl)) rfl ?_
 simp only [f11, f11c, f11g, f11r]
 try simp +decide only [go_sem]
 refine cutH (fun τ => ∃ t49v : Bool, (τ 1 = bA 6 (eWorld wv) ∧ τ 49 = sb t49v) ∧ r06_VaWo_J1 wv t49v = some r) fun M1 m1 => ⟨?_, ?_⟩
 · try simp +decide only [go_sem]
   refine gI h (fun e1 h => ?_) fun e1 h => ?_
   · try simp +decide only [go_sem, e1]
     refine m1 _ ⟨true, ?_, h⟩
     simp +decide only [go_sem, e1]
   try simp +decide only [go_sem, e1]
   refine gI h (fun e2 h => ?_) fun e2 h => ?_
   · try simp +decide only [go_sem, e1, e2]
     refine m1 _ ⟨true, ?_, h⟩
     simp +decide only [go_sem, e1, e2]
   try simp +decide only [go_sem, e1, e2]
   refine gI h (fun e3 h => ?_) fun e3 h => ?_
   · try simp +decide only [go_sem, e1, e2, e3]
     refine m1 _ ⟨true, ?_, h⟩
     simp +decide only [go_sem, e1, e2, e3]
   try simp +decide only [go_sem, e1, e2, e3]
   refine gI h (fun e4 h => ?_) fun e4 h => ?_
   · try simp +decide only [go_sem, e1, e2, e3, e4]
     refine m1 _ ⟨true, ?_, h⟩
     simp +decide only [go_sem, e1, e2, e3, e4]
   try simp +decide only [go_sem, e1, e2, e3, e4]
   refine gI h (fun e5 h => ?_) fun e5 h => ?_
   · try simp +decide only [go_sem, e1, e2, e3, e4, e5]
     refine m1 _ ⟨true, ?_, h⟩
     simp +decide only [go_sem, e1, e2, e3, e4, e5]
   try simp +decide only [go_sem, e1, e2, e3, e4, e5]
   refine gI h (fun e6 h => ?_) fun e6 h => ?_
   · try simp +decide only [go_sem, e1, e2, e3, e4, e5, e6]
     refine m1 _ ⟨true, ?_, h⟩
     simp +decide only [go_sem, e1, e2, e3, e4, e5, e6]
   try simp +decide only [go_sem, e1, e2, e3, e4, e5, e6]
   refine m1 _ ⟨decide ((wv.Sites.length : Int) > 60), ?_, h⟩
   simp +decide only [go_sem, e1, e2, e3, e4, e5, e6]
 rintro τ1 ⟨t49v, s1, h⟩
 try simp +decide only [go_sem, s1]
 refine cI h (fun e7 h => ?_) fun e7 h => ?_
 · obtain rfl := Option.some.inj h
   simp +decide only [go_sem, s1, e7]
 obtain ⟨v, g1, h⟩ := bS h
 try simp +decide only [go_sem, s1, e7]
 refine ⟨_, r06_na_ok g1, ?_⟩
 try simp +decide only [go_sem, s1, e7]
 refine cI h (fun e8 h => ?_) fun e8 h => ?_
 · obtain rfl := Option.some.inj h
   simp +decide only [go_sem, s1, e7, e8]
 try simp +decide only [go_sem, s1, e7, e8]
 refine cutH (fun τ => (τ 1 = bA 6 (eWorld wv)) ∧ r06_VaWo_J3 wv = some r) fun M3 m3 => ⟨?_, ?_⟩
 · try simp +decide only [go_sem, s1, e7, e8]
   refine loopH (fun n τ => ∃ i : Int, (τ 1 = bA 6 (eWorld wv) ∧ τ 3 = .sl false 1 (v.1.map eS) ∧ τ 5 = si i) ∧ r06_VaWo_L1r v wv n i = some r) ⟨0, ?_, h⟩ fun n1 τ1 N1 => ?_
   · simp +decide only [go_sem, s1, e7, e8]
   rintro ⟨i, s1, h⟩ k1
   cases n1 with
   | zero => exact no_none h
   | succ n1 =>
    rw [r06_VaWo_L1r] at h; generalize q1 : r06_VaWo_L1r v wv n1 = L1 at h
    try simp +decide only [go_sem, s1]
    refine cI h (fun e9 h => ?_) fun e9 h => ?_
    · try simp +decide only [go_sem, s1, e9]
      refine cutH (fun τ => ∃ t79v : Bool, (τ 1 = bA 6 (eWorld wv) ∧ τ 3 = .sl false 1 (v.1.map eS) ∧ τ 5 = si i ∧ τ 79 = sb t79v) ∧ r06_VaWo_J2 L1 i t79v = some r) fun M2 m2 => ⟨?_, ?_⟩
      · obtain ⟨x, g2, h⟩ := gB h
        obtain ⟨v_1, g3, h⟩ := bS h
        try simp +decide only [go_sem, s1, e9, g2]
        refine ⟨_, r01_IsNa_ok g3, ?_⟩
        try simp +decide only [go_sem, s1, e9, g2]
        refine gI h (fun e10 h => ?_) fun e10 h => ?_
        · try simp +decide only [go_sem, s1, e9, g2, e10]
          refine m2 _ ⟨true, ?_, h⟩
          simp +decide only [go_sem, s1, e9, g2, e10]
        obtain ⟨g4, h⟩ := cS h
        obtain ⟨v_2, g6, h⟩ := bS h
        try simp +decide only [go_sem, s1, e9, g2, e10, g4]
        refine ⟨_, r04_At_ok g6, ?_⟩
        try simp +decide only [go_sem, s1, e9, g2, e10, g4]
        refine m2 _ ⟨decide (v_2 ≥ 0), ?_, h⟩
        simp +decide only [go_sem, s1, e9, g2, e10, g4]
      rintro τ2 ⟨t79v, s2, h⟩
      try simp +decide only [go_sem, s2]
      refine cI h (fun e11 h => ?_) fun e11 h => ?_
      · obtain rfl := Option.some.inj h
        simp +decide only [go_sem, s2, e11]
      try simp +decide only [go_sem, s2, e11]
      refine k1 n1 (Nat.lt_succ_self _) _ ⟨w64 (i + 1), ?_, q1.symm ▸ h⟩
      simp +decide only [go_sem, s2, e11]
    try simp +decide only [go_sem, s1, e9]
    refine m3 _ ⟨?_, h⟩
    simp +decide only [go_sem, s1, e9]
 rintro τ3 ⟨s3, h⟩
 try simp +decide only [go_sem, s3]
 refine cutH (fun τ => (τ 1 = bA 6 (eWorld wv)) ∧ r06_VaWo_J5 wv = some r) fun M5 m5 => ⟨?_, ?_⟩
 · try simp +decide only [go_sem, s3]
   refine loopH (fun n τ => ∃ i_1 : Int, (τ 1 = bA 6 (eWorld wv) ∧ τ 6 = si i_1) ∧ r06_VaWo_L2r wv n i_1 = some r) ⟨0, ?_, h⟩ fun n2 τ2 N2 => ?_
   · simp +decide only [go_sem, s3]
   rintro ⟨i_1, s2, h⟩ k2
   cases n2 with
   | zero => exact no_none h
   | succ n2 =>
    rw [r06_VaWo_L2r] at h; generalize q2 : r06_VaWo_L2r wv n2 = L2 at h
    try simp +decide only [go_sem, s2]
    refine cI h (fun e12 h => ?_) fun e12 h => ?_
    · obtain ⟨x_1, g7, h⟩ := gB h
      try simp +decide only [go_sem, s2, e12, g7]
      refine cutH (fun τ => ∃ t109v : Bool, (τ 1 = bA 6 (eWorld wv) ∧ τ 6 = si i_1 ∧ τ 109 = sb t109v) ∧ r06_VaWo_J4 L2 i_1 t109v = some r) fun M4 m4 => ⟨?_, ?_⟩
      · try simp +decide only [go_sem, s2, e12, g7]
        refine gI h (fun e13 h => ?_) fun e13 h => ?_
        · try simp +decide only [go_sem, s2, e12, g7, e13]
          refine m4 _ ⟨true, ?_, h⟩
          simp +decide only [go_sem, s2, e12, g7, e13]
        try simp +decide only [go_sem, s2, e12, g7, e13]
        refine gI h (fun e14 h => ?_) fun e14 h => ?_
        · try simp +decide only [go_sem, s2, e12, g7, e13, e14]
          refine m4 _ ⟨true, ?_, h⟩
          simp +decide only [go_sem, s2, e12, g7, e13, e14]
        obtain ⟨x_2, g8, h⟩ := gB h
        try simp +decide only [go_sem, s2, e12, g7, e13, e14, g8]
        refine m4 _ ⟨x_2.RW, ?_, h⟩
        simp +decide only [go_sem, s2, e12, g7, e13, e14, g8]
      rintro τ4 ⟨t109v, s4, h⟩
      try simp +decide only [go_sem, s4]
      refine cI h (fun e15 h => ?_) fun e15 h => ?_
      · obtain rfl := Option.some.inj h
        simp +decide only [go_sem, s4, e15]
      try simp +decide only [go_sem, s4, e15]
      refine k2 n2 (Nat.lt_succ_self _) _ ⟨w64 (i_1 + 1), ?_, q2.symm ▸ h⟩
      simp +decide only [go_sem, s4, e15]
    try simp +decide only [go_sem, s2, e12]
    refine m5 _ ⟨?_, h⟩
    simp +decide only [go_sem, s2, e12]
 rintro τ5 ⟨s5, h⟩
 try simp +decide only [go_sem, s5]
 refine cutH (fun τ => (True) ∧ r06_VaWo_J10 = some r) fun M10 m10 => ⟨?_, ?_⟩
 · try simp +decide only [go_sem, s5]
   refine loopH (fun n τ => ∃ i_2 : Int, (τ 1 = bA 6 (eWorld wv) ∧ τ 8 = si i_2) ∧ r06_VaWo_L3r wv n i_2 = some r) ⟨0, ?_, h⟩ fun n3 τ3 N3 => ?_
   · simp +decide only [go_sem, s5]
   rintro ⟨i_2, s3, h⟩ k3
   cases n3 with
   | zero => exact no_none h
   | succ n3 =>
    rw [r06_VaWo_L3r] at h; generalize q3 : r06_VaWo_L3r wv n3 = L3 at h
    try simp +decide only [go_sem, s3]
    refine cI h (fun e16 h => ?_) fun e16 h => ?_
    · try simp +decide only [go_sem, s3, e16]
      refine cutH (fun τ => (τ 1 = bA 6 (eWorld wv) ∧ τ 8 = si i_2) ∧ r06_VaWo_J9 L3 i_2 = some r) fun M9 m9 => ⟨?_, ?_⟩
      · obtain ⟨x_3, g9, h⟩ := gB h
        try simp +decide only [go_sem, s3, e16, g9]
        refine cutH (fun τ => ∃ t132v : Bool, (τ 1 = bA 6 (eWorld wv) ∧ τ 8 = si i_2 ∧ τ 9 = bA 3 (eSite x_3) ∧ τ 132 = sb t132v) ∧ r06_VaWo_J6 L3 i_2 wv x_3 t132v = some r) fun M6 m6 => ⟨?_, ?_⟩
        · try simp +decide only [go_sem, s3, e16, g9]
          refine gI h (fun e17 h => ?_) fun e17 h => ?_
          · try simp +decide only [go_sem, s3, e16, g9, e17]
            refine m6 _ ⟨true, ?_, h⟩
            simp +decide only [go_sem, s3, e16, g9, e17]
          try simp +decide only [go_sem, s3, e16, g9, e17]
          refine m6 _ ⟨decide (x_3.Thread ≥ (wv.Threads.length : Int)), ?_, h⟩
          simp +decide only [go_sem, s3, e16, g9, e17]
        rintro τ6 ⟨t132v, s6, h⟩
        try simp +decide only [go_sem, s6]
        refine cI h (fun e18 h => ?_) fun e18 h => ?_
        · obtain rfl := Option.some.inj h
          simp +decide only [go_sem, s6, e18]
        try simp +decide only [go_sem, s6, e18]
        refine cutH (fun τ => ∃ t146v : Bool, (τ 1 = bA 6 (eWorld wv) ∧ τ 8 = si i_2 ∧ τ 9 = bA 3 (eSite x_3) ∧ τ 146 = sb t146v) ∧ r06_VaWo_J7 L3 i_2 wv x_3 t146v = some r) fun M7 m7 => ⟨?_, ?_⟩
        · try simp +decide only [go_sem, s6, e18]
          refine gI h (fun e19 h => ?_) fun e19 h => ?_
          · try simp +decide only [go_sem, s6, e18, e19]
            refine m7 _ ⟨true, ?_, h⟩
            simp +decide only [go_sem, s6, e18, e19]
          obtain ⟨x_4, g10, h⟩ := gB h
          try simp +decide only [go_sem, s6, e18, e19, g10]
          refine m7 _ ⟨x_4.Thread != x_3.Thread, ?_, h⟩
          simp +decide only [go_sem, s6, e18, e19, g10]
        rintro τ7 ⟨t146v, s7, h⟩
        try simp +decide only [go_sem, s7]
        refine cI h (fun e20 h => ?_) fun e20 h => ?_
        · try simp +decide only [go_sem, s7, e20]
          refine cutH (fun τ => ∃ t165v : Bool, (τ 1 = bA 6 (eWorld wv) ∧ τ 8 = si i_2 ∧ τ 165 = sb t165v) ∧ r06_VaWo_J8 L3 i_2 t165v = some r) fun M8 m8 => ⟨?_, ?_⟩
          · try simp +decide only [go_sem, s7, e20]
            refine gI h (fun e21 h => ?_) fun e21 h => ?_
            · try simp +decide only [go_sem, s7, e20, e21]
              refine m8 _ ⟨true, ?_, h⟩
              simp +decide only [go_sem, s7, e20, e21]
            try simp +decide only [go_sem, s7, e20, e21]
            refine gI h (fun e22 h => ?_) fun e22 h => ?_
            · obtain ⟨x_5, g11, h⟩ := gB h
              try simp +decide only [go_sem, s7, e20, e21, e22, g11]
              refine m8 _ ⟨decide (x_5.Thread > x_3.Thread), ?_, h⟩
              simp +decide only [go_sem, s7, e20, e21, e22, g11]
            try simp +decide only [go_sem, s7, e20, e21, e22]
            refine m8 _ ⟨false, ?_, h⟩
            simp +decide only [go_sem, s7, e20, e21, e22]
          rintro τ8 ⟨t165v, s8, h⟩
          try simp +decide only [go_sem, s8]
          refine cI h (fun e23 h => ?_) fun e23 h => ?_
          · obtain rfl := Option.some.inj h
            simp +decide only [go_sem, s8, e23]
          try simp +decide only [go_sem, s8, e23]
          refine m9 _ ⟨?_, h⟩
          simp +decide only [go_sem, s8, e23]
        obtain ⟨x_6, g12, h⟩ := gB h
        try simp +decide only [go_sem, s7, e20, g12]
        refine cI h (fun e24 h => ?_) fun e24 h => ?_
        · obtain rfl := Option.some.inj h
          simp +decide only [go_sem, s7, e20, g12, e24]
        try simp +decide only [go_sem, s7, e20, g12, e24]
        refine m9 _ ⟨?_, h⟩
        simp +decide only [go_sem, s7, e20, g12, e24]
      rintro τ9 ⟨s9, h⟩
      try simp +decide only [go_sem, s9]
      refine k3 n3 (Nat.lt_succ_self _) _ ⟨w64 (i_2 + 1), ?_, q3.symm ▸ h⟩
      simp +decide only [go_sem, s9]
    try simp +decide only [go_sem, s3, e16]
    refine m10 _ ⟨?_, h⟩
    simp +decide only [go_sem, s3, e16]
 rintro τ10 ⟨_, h⟩
 obtain rfl := Option.some.inj h
 simp +decide only [go_sem]
def f31c : IC := (sR [⟨some ⟨1, [10, 23, 35], []⟩, .bx 6 (.t 0), none⟩, i0 2 (.bx 4 (.c (.agg [.own false 2 [], .sc (.int .i64 0), .own false 1 [], .own false 3 []])))]
(sR [i0 8 (.bld [.own false 2 [], .sc (.int .i64 0), .own false 1 [], .own false 3 []] [(1, 1, .c (.sc (.int .i64 (-1))))]), ⟨some ⟨3, [16, 17, 21, 29, 30, 33, 45, 46, 50, 51], []⟩, .bx 4 (.c (.agg [.own false 2 [], .sc (.int .i64 0), .own false 1 [], .own false 3 []])), none⟩, iS 4 3 8]
(cutS (sR [iK 4 0]
(.block 0 (.loop (.seq (sR [iC 9 4, iFr 10 1 1 1, iL 11 10, i0 12 (.len (.t 11)), iO 13 .lss 9 12]
(.cond (.t 13) .skip (.exit 0)))
(.seq (.block 1 (.reg [iFr 16 3 0 3, iLr 17 3 16, i0 18 (.bld [.sc (.int .i64 0), .own false 1 []] [(0, 1, .c (.sc (.int .i64 (-1))))]), i0 19 (.bsl 2 [[.sc (.int .i64 0), .own false 1 []]] [(0, .t 18)]), i0 20 (.app 2 32 (.t 17) (.t 19)), iFr 21 3 0 3, iS 1 21 20]))
(.reg [iC 14 4, iP 15 .add 14 1, iM 4 15]))))))
(cutS (sR [iK 5 0]
(.block 2 (.loop (.seq (sR [iC 22 5, iFr 23 1 3 1, iL 24 23, i0 25 (.len (.t 24)), iO 26 .lss 22 25]
(.cond (.t 26) .skip (.exit 2)))
(.seq (.block 3 (.reg [iFr 29 3 2 3, iLr 30 3 29, i0 31 (.bsl 1 [[.sc (.bool false)]] [(0, .c (.sc (.bool false)))]), i0 32 (.app 1 1 (.t 30) (.t 31)), iFr 33 3 2 3, iS 1 33 32]))
(.reg [iC 27 5, iP 28 .add 27 1, iM 5 28]))))))
(cutS (sR [iK 6 0]
(.block 4 (.loop (.seq (sR [iC 34 6, iFr 35 1 4 1, iL 36 35, i0 37 (.len (.t 36)), iO 38 .lss 34 37]
(.cond (.t 38) .skip (.exit 4)))
(.seq (.block 5 (sR [i0 41 (.bld [.sc (.int .i64 0), .sc (.int .i64 0), .sc (.bool false)] [(0, 1, .c (.sc (.int .i64 0)))]), ⟨some ⟨7, [44], []⟩, .bx 3 (.c (.agg [.sc (.int .i64 0), .sc (.int .i64 0), .sc (.bool false)])), none⟩, iS 3 7 41]
(cutS (sR [iC 42 6, iQ 43 42 0]
(.cond (.t 43) (.reg [iFr 44 7 0 7, iT 44 1]) .skip))
(.reg [iFr 45 3 3 3, iLr 46 3 45, i0 47 (.ld true 3 (.t 7)), i0 48 (.bsl 3 [[.sc (.int .i64 0), .sc (.int .i64 0), .sc (.bool false)]] [(0, .t 47)]), i0 49 (.app 3 24 (.t 46) (.t 48)), iFr 50 3 3 3, iS 1 50 49]))))
(.reg [iC 39 6, iP 40 .add 39 1, iM 6 40]))))))
(sR [i1 51 3 (.ld true 4 (.t 3)), iS 4 2 51]
.ret))))))
def f31g : Gi := ⟨[(10, [1]), (16, [3]), (17, [3]), (21, [3]), (23, [1]), (29, [3]), (30, [3]), (33, [3]), (35, [1]), (44, [7]), (45, [3]), (46, [3]), (50, [3]), (51, [3])]⟩
def f31r : List RV := [.cell 2 true 4]
def f31 : FI := ⟨f31c, f31g, f31r⟩
theorem chk31 : chkF Tryd.prog Tryd.f31 f31 = true := by kernel_rfl
def r08_St_J4 (s_5 : SSync) : Option SSync :=
  some s_5
def r08_St_J3 (L3 : SSync → Int → Option SSync) (i_2 : Int) (s_4 : SSync) (t : SThreadSync) : Option SSync :=
  if roomOK (s_4.Threads.length + 1) 24 = true then
  L3 (SSync.mk s_4.Locks s_4.Tx s_4.Done (s_4.Threads ++ [t])) (w64 (i_2 + 1))
  else none
def r08_St_L3 (wv : SWorld) (L3 : SSync → Int → Option SSync) (s_4 : SSync) (i_2 : Int) : Option SSync :=
  if decide (i_2 < (wv.Threads.length : Int)) then
    if i_2 == 0 then
      r08_St_J3 L3 i_2 s_4 (SThreadSync.mk 1 0 false)
    else
    r08_St_J3 L3 i_2 s_4 (SThreadSync.mk 0 0 false)
  else
  r08_St_J4 s_4
def r08_St_L3r (wv : SWorld) : Nat → SSync → Int → Option SSync
  | 0, _, _ => none
  | n + 1, s_4, i_2 => r08_St_L3 wv (r08_St_L3r wv n) s_4 i_2
def r08_St_J2 (wv : SWorld) (s_3 : SSync) : Option SSync :=
  r08_St_L3r wv big s_3 0
def r08_St_L2 (wv : SWorld) (L2 : SSync → Int → Option SSync) (s_2 : SSync) (i_1 : Int) : Option SSync :=
  if decide (i_1 < (wv.Futures.length : Int)) then
    if roomOK (s_2.Done.length + 1) 1 = true then
    L2 (SSync.mk s_2.Locks s_2.Tx (s_2.Done ++ [false]) s_2.Threads) (w64 (i_1 + 1))
    else none
  else
  r08_St_J2 wv s_2
def r08_St_L2r (wv : SWorld) : Nat → SSync → Int → Option SSync
  | 0, _, _ => none
  | n + 1, s_2, i_1 => r08_St_L2 wv (r08_St_L2r wv n) s_2 i_1
def r08_St_J1 (wv : SWorld) (s_1 : SSync) : Option SSync :=
  r08_St_L2r wv big s_1 0
def r08_St_L1 (wv : SWorld) (L1 : SSync → Int → Option SSync) (s : SSync) (i : Int) : Option SSync :=
  if decide (i < (wv.Locks.length : Int)) then
    if roomOK (s.Locks.length + 1) 32 = true then
    L1 (SSync.mk (s.Locks ++ [(SLockState.mk (-1) [])]) s.Tx s.Done s.Threads) (w64 (i + 1))
    else none
  else
  r08_St_J1 wv s
def r08_St_L1r (wv : SWorld) : Nat → SSync → Int → Option SSync
  | 0, _, _ => none
  | n + 1, s, i => r08_St_L1 wv (r08_St_L1r wv n) s i
def r08_St (wv : SWorld) : Option SSync :=
  r08_St_L1r wv big (SSync.mk [] (-1) [] []) 0
theorem r08_St_ok {wv : SWorld} {r : SSync} (h : r08_St wv = some r) : Says Tryd.prog 31 [.agg (eWorld wv)] (.agg (eSynco r)) := by
 refine says_of mix Tryd.func31 chk31 (of_decide_eq_true (by kernel_rfl)) rfl ?_
 simp only [f31, f31c, f31g, f31r]
 try simp +decide only [go_sem]
 refine cutH (fun τ => ∃ s_1 : SSync, (τ 1 = bA 6 (eWorld wv) ∧ τ 2 = bA 4 [.own false 2 ([]), si 0, .own false 1 ([]), .own false 3 ([])] ∧ τ 3 = bA 4 (eSynco s_1)) ∧ r08_St_J1 wv s_1 = some r) fun M1 m1 => ⟨?_, ?_⟩
 · try simp +decide only [go_sem]
   refine loopH (fun n τ => ∃ s : SSync, ∃ i : Int, (τ 1 = bA 6 (eWorld wv) ∧ τ 2 = bA 4 [.own false 2 ([]), si 0, .own false 1 ([]), .own false 3 ([])] ∧ τ 3 = bA 4 (eSynco s) ∧ τ 4 = si i) ∧ r08_St_L1r wv n s i = some r) ⟨(SSync.mk [] (-1) [] []), 0, ?_, h⟩ fun n1 τ1 N1 => ?_
   · simp +decide only [go_sem]
   rintro ⟨s, i, s1, h⟩ k1
   cases n1 with
   | zero => exact no_none h
   | succ n1 =>
    rw [r08_St_L1r] at h; generalize q1 : r08_St_L1r wv n1 = L1 at h
    try simp +decide only [go_sem, s1]
    refine cI h (fun e1 h => ?_) fun e1 h => ?_
    · obtain ⟨g1, h⟩ := cS h
      try simp +decide only [go_sem, s1, e1, g1]
      refine k1 n1 (Nat.lt_succ_self _) _ ⟨(SSync.mk (s.Locks ++ [(SLockState.mk (-1) [])]) s.Tx s.Done s.Threads), w64 (i + 1), ?_, q1.symm ▸ h⟩
      simp +decide only [go_sem, s1, e1, g1]
    try simp +decide only [go_sem, s1, e1]
    refine m1 _ ⟨s, ?_, h⟩
    simp +decide only [go_sem, s1, e1]
 rintro τ1 ⟨s_1, s1, h⟩
 try simp +decide only [go_sem, s1]
 refine cutH (fun τ => ∃ s_3 : SSync, (τ 1 = bA 6 (eWorld wv) ∧ τ 2 = bA 4 [.own false 2 ([]), si 0, .own false 1 ([]), .own false 3 ([])] ∧ τ 3 = bA 4 (eSynco s_3)) ∧ r08_St_J2 wv s_3 = some r) fun M2 m2 => ⟨?_, ?_⟩
 · try simp +decide only [go_sem, s1]
   refine loopH (fun n τ => ∃ s_2 : SSync, ∃ i_1 : Int, (τ 1 = bA 6 (eWorld wv) ∧ τ 2 = bA 4 [.own false 2 ([]), si 0, .own false 1 ([]), .own false 3 ([])] ∧ τ 3 = bA 4 (eSynco s_2) ∧ τ 5 = si i_1) ∧ r08_St_L2r wv n s_2 i_1 = some r) ⟨s_1, 0, ?_, h⟩ fun n2 τ2 N2 => ?_
   · simp +decide only [go_sem, s1]
   rintro ⟨s_2, i_1, s2, h⟩ k2
   cases n2 with
   | zero => exact no_none h
   | succ n2 =>
    rw [r08_St_L2r] at h; generalize q2 : r08_St_L2r wv n2 = L2 at h
    try simp +decide only [go_sem, s2]
    refine cI h (fun e2 h => ?_) fun e2 h => ?_
    · obtain ⟨g2, h⟩ := cS h
      try simp +decide only [go_sem, s2, e2, g2]
      refine k2 n2 (Nat.lt_succ_self _) _ ⟨(SSync.mk s_2.Locks s_2.Tx (s_2.Done ++ [false]) s_2.Threads), w64 (i_1 + 1), ?_, q2.symm ▸ h⟩
      simp +decide only [go_sem, s2, e2, g2]
    try simp +decide only [go_sem, s2, e2]
    refine m2 _ ⟨s_2, ?_, h⟩
    simp +decide only [go_sem, s2, e2]
 rintro τ2 ⟨s_3, s2, h⟩
 try simp +decide only [go_sem, s2]
 refine cutH (fun τ => ∃ s_5 : SSync, (τ 2 = bA 4 [.own false 2 ([]), si 0, .own false 1 ([]), .own false 3 ([])] ∧ τ 3 = bA 4 (eSynco s_5)) ∧ r08_St_J4 s_5 = some r) fun M4 m4 => ⟨?_, ?_⟩
 · try simp +decide only [go_sem, s2]
   refine loopH (fun n τ => ∃ s_4 : SSync, ∃ i_2 : Int, (τ 1 = bA 6 (eWorld wv) ∧ τ 2 = bA 4 [.own false 2 ([]), si 0, .own false 1 ([]), .own false 3 ([])] ∧ τ 3 = bA 4 (eSynco s_4) ∧ τ 6 = si i_2) ∧ r08_St_L3r wv n s_4 i_2 = some r) ⟨s_3, 0, ?_, h⟩ fun n3 τ3 N3 => ?_
   · simp +decide only [go_sem, s2]
   rintro ⟨s_4, i_2, s3, h⟩ k3
   cases n3 with
   | zero => exact no_none h
   | succ n3 =>
    rw [r08_St_L3r] at h; generalize q3 : r08_St_L3r wv n3 = L3 at h
    try simp +decide only [go_sem, s3]
    refine cI h (fun e3 h => ?_) fun e3 h => ?_
    · try simp +decide only [go_sem, s3, e3]
      refine cutH (fun τ => ∃ t : SThreadSync, (τ 1 = bA 6 (eWorld wv) ∧ τ 2 = bA 4 [.own false 2 ([]), si 0, .own false 1 ([]), .own false 3 ([])] ∧ τ 3 = bA 4 (eSynco s_4) ∧ τ 6 = si i_2 ∧ τ 7 = bA 3 (eThreadSync t)) ∧ r08_St_J3 L3 i_2 s_4 t = some r) fun M3 m3 => ⟨?_, ?_⟩
      · try simp +decide only [go_sem, s3, e3]
        refine cI h (fun e4 h => ?_) fun e4 h => ?_
        · try simp +decide only [go_sem, s3, e3, e4]
          refine m3 _ ⟨(SThreadSync.mk 1 0 false), ?_, h⟩
          simp +decide only [go_sem, s3, e3, e4]
        try simp +decide only [go_sem, s3, e3, e4]
        refine m3 _ ⟨(SThreadSync.mk 0 0 false), ?_, h⟩
        simp +decide only [go_sem, s3, e3, e4]
      rintro τ3 ⟨t, s3, h⟩
      obtain ⟨g3, h⟩ := cS h
      try simp +decide only [go_sem, s3, g3]
      refine k3 n3 (Nat.lt_succ_self _) _ ⟨(SSync.mk s_4.Locks s_4.Tx s_4.Done (s_4.Threads ++ [t])), w64 (i_2 + 1), ?_, q3.symm ▸ h⟩
      simp +decide only [go_sem, s3, g3]
    try simp +decide only [go_sem, s3, e3]
    refine m4 _ ⟨s_4, ?_, h⟩
    simp +decide only [go_sem, s3, e3]
 rintro τ4 ⟨s_5, s4, h⟩
 obtain rfl := Option.some.inj h
 simp +decide only [go_sem, s4]
def f12c : IC := (sR [⟨some ⟨1, [7, 11, 17, 25], []⟩, .bx 6 (.t 0), none⟩, i0 2 (.bx 7 (.c (.agg [.own false 2 [], .sc (.int .i64 0), .own false 1 [], .own false 3 [], .own false 1 [], .own false 1 [], .own false 1 []])))]
(sR [i0 5 (.ld true 6 (.t 1)), i0 6 (.call 31 [.t 5] 2), iFr 7 1 3 1, iL 8 7, i0 9 (.len (.t 8)), i0 10 (.mk 1 8 [.sc (.int .i64 0)] (.t 9) (.t 9)), iFr 11 1 4 1, iL 12 11, i0 13 (.len (.t 12)), i0 14 (.mk 1 8 [.sc (.int .i64 0)] (.t 13) (.t 13)), i0 15 (.bld [.own false 2 [], .sc (.int .i64 0), .own false 1 [], .own false 3 [], .own false 1 [], .own false 1 [], .own false 1 []] [(0, 4, .t 6), (5, 1, .t 10), (6, 1, .t 14)]), ⟨some ⟨3, [23, 24, 33, 34], []⟩, .bx 7 (.c (.agg [.own false 2 [], .sc (.int .i64 0), .own false 1 [], .own false 3 [], .own false 1 [], .own false 1 [], .own false 1 []])), none⟩, iS 7 3 15]
(cutS (sR [iK 4 0]
(.block 0 (.loop (.seq (sR [iC 16 4, iFr 17 1 0 1, iL 18 17, i0 19 (.len (.t 18)), iO 20 .lss 16 19]
(.cond (.t 20) .skip (.exit 0)))
(.seq (.block 1 (.reg [iFr 23 3 4 3, iLr 24 3 23, iFr 25 1 0 1, iL 26 25, iC 27 4, iI 28 5 26 27, iF 29 4 28, iL 30 29, i0 31 (.bsl 1 [[.sc (.int .i64 0)]] [(0, .t 30)]), i0 32 (.app 1 8 (.t 24) (.t 31)), iFr 33 3 4 3, iS 1 33 32]))
(.reg [iC 21 4, iP 22 .add 21 1, iM 4 22]))))))
(sR [i1 34 3 (.ld true 7 (.t 3)), iS 7 2 34]
.ret))))
def f12g : Gi := ⟨[(7, [1]), (11, [1]), (17, [1]), (23, [3]), (24, [3]), (25, [1]), (33, [3]), (34, [3])]⟩
def f12r : List RV := [.cell 2 true 7]
def f12 : FI := ⟨f12c, f12g, f12r⟩
theorem chk12 : chkF Tryd.prog Tryd.f12 f12 = true := by kernel_rfl
def r16_St_J1 (s_1 : SSnapshot) : Option SSnapshot :=
  some s_1
def r16_St_L1 (wv : SWorld) (L1 : SSnapshot → Int → Option SSnapshot) (s : SSnapshot) (i : Int) : Option SSnapshot :=
  if decide (i < (wv.Cells.length : Int)) then
    (gt wv.Cells i).bind fun x =>
    if roomOK (s.Cells.length + 1) 8 = true then
    L1 (SSnapshot.mk s.Sync (s.Cells ++ [x.Init]) s.Futures s.Count) (w64 (i + 1))
    else none
  else
  r16_St_J1 s
def r16_St_L1r (wv : SWorld) : Nat → SSnapshot → Int → Option SSnapshot
  | 0, _, _ => none
  | n + 1, s, i => r16_St_L1 wv (r16_St_L1r wv n) s i
def r16_St (wv : SWorld) : Option SSnapshot :=
  (r08_St wv).bind fun v =>
  if 0 ≤ (wv.Futures.length : Int) ∧ (wv.Futures.length : Int) ≤ (wv.Futures.length : Int) ∧ roomOK wv.Futures.length 8 = true then
  if 0 ≤ (wv.Threads.length : Int) ∧ (wv.Threads.length : Int) ≤ (wv.Threads.length : Int) ∧ roomOK wv.Threads.length 8 = true then
  r16_St_L1r wv big (SSnapshot.mk v [] (List.replicate wv.Futures.length 0) (List.replicate wv.Threads.length 0)) 0
  else none
  else none
theorem r16_St_ok {wv : SWorld} {r : SSnapshot} (h : r16_St wv = some r) : Says Tryd.prog 12 [.agg (eWorld wv)] (.agg (eSnapshoto r)) := by
 refine says_of mix Tryd.func12 chk12 (of_decide_eq_true (by kernel_rfl)) rfl ?_
 simp only [f12, f12c, f12g, f12r]
 obtain ⟨v, g1, h⟩ := bS h
 try simp +decide only [go_sem]
 refine ⟨_, r08_St_ok g1, ?_⟩
 obtain ⟨g2, h⟩ := cS h
 obtain ⟨g5, h⟩ := cS h
 try simp +decide only [go_sem, g2, g5]
 refine cutH (fun τ => ∃ s_1 : SSnapshot, (τ 2 = bA 7 [.own false 2 ([]), si 0, .own false 1 ([]), .own false 3 ([]), .own false 1 ([]), .own false 1 ([]), .own false 1 ([])] ∧ τ 3 = bA 7 (eSnapshoto s_1)) ∧ r16_St_J1 s_1 = some r) fun M1 m1 => ⟨?_, ?_⟩
 · try simp +decide only [go_sem, g2, g5]
   refine loopH (fun n τ => ∃ s : SSnapshot, ∃ i : Int, (τ 1 = bA 6 (eWorld wv) ∧ τ 2 = bA 7 [.own false 2 ([]), si 0, .own false 1 ([]), .own false 3 ([]), .own false 1 ([]), .own false 1 ([]), .own false 1 ([])] ∧ τ 3 = bA 7 (eSnapshoto s) ∧ τ 4 = si i) ∧ r16_St_L1r wv n s i = some r) ⟨(SSnapshot.mk v [] (List.replicate wv.Futures.length 0) (List.replicate wv.Threads.length 0)), 0, ?_, h⟩ fun n1 τ1 N1 => ?_
   · simp +decide only [go_sem, g2, g5]
   rintro ⟨s, i, s1, h⟩ k1
   cases n1 with
   | zero => exact no_none h
   | succ n1 =>
    rw [r16_St_L1r] at h; generalize q1 : r16_St_L1r wv n1 = L1 at h
    try simp +decide only [go_sem, s1]
    refine cI h (fun e1 h => ?_) fun e1 h => ?_
    · obtain ⟨x, g8, h⟩ := gB h
      obtain ⟨g9, h⟩ := cS h
      try simp +decide only [go_sem, s1, e1, g8, g9]
      refine k1 n1 (Nat.lt_succ_self _) _ ⟨(SSnapshot.mk s.Sync (s.Cells ++ [x.Init]) s.Futures s.Count), w64 (i + 1), ?_, q1.symm ▸ h⟩
      simp +decide only [go_sem, s1, e1, g8, g9]
    try simp +decide only [go_sem, s1, e1]
    refine m1 _ ⟨s, ?_, h⟩
    simp +decide only [go_sem, s1, e1]
 rintro τ1 ⟨s_1, s1, h⟩
 obtain rfl := Option.some.inj h
 simp +decide only [go_sem, s1]
end Go.Abs
