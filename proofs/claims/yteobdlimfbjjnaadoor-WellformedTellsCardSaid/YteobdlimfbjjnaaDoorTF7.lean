/- Typed programs: object.Apply, slices.Clone[[]int64,int64], wellformed.Step, wellformed.allReads. -/
import Derived.Test.YteobdlimfbjjnaaDoorTE
import Derived.Test.YteobdlimfbjjnaaDoorTF4
import Derived.Test.YteobdlimfbjjnaaDoorTF6
import Derived.Test.YteobdlimfbjjnaaDoorTF3
import Derived.Test.YteobdlimfbjjnaaDoorTF5
set_option linter.unusedSimpArgs false
namespace Go.Abs
open Go.Proofs
set_option maxRecDepth 100000
set_option maxHeartbeats 4000000
def f25c : IC := (sR [⟨some ⟨6, [119, 142], []⟩, .bx 6 (.t 0), none⟩, ⟨some ⟨7, [18, 25, 30, 31, 33, 34, 37, 38, 40, 41, 45, 46, 49, 50, 54, 55, 57, 58, 61, 62, 64, 65, 66, 72, 73, 77, 78, 84, 85, 87, 88, 89, 92, 93, 97, 100, 103, 104, 106, 107, 110, 111, 113, 114, 117, 118, 125, 126, 127, 128, 130, 131, 134, 135, 136, 137, 140, 141, 149, 150, 151, 152, 154, 155, 157, 158, 159, 160, 163, 169, 174, 175, 177, 178, 181, 182, 184, 185], []⟩, .bx 4 (.t 1), none⟩, ⟨some ⟨8, [90], []⟩, .bx 1 (.t 2), none⟩, i0 12 (.bx 4 (.c (.agg [.own false 2 [], .sc (.int .i64 0), .own false 1 [], .own false 3 []]))), iK 13 0, iB 14 false]
(.seq (sR [i0 17 (.ld true 6 (.t 6)), i1 18 7 (.ld true 4 (.t 7)), iL 19 8, iC 20 3, iC 21 4, i0 22 (.call 21 [.t 17, .t 18, .t 19, .t 20, .t 21] 0), iN 23 22]
(.cond (.t 23) (sR [i0 24 (.bld [.own false 2 [], .sc (.int .i64 0), .own false 1 [], .own false 3 []] []), iS 4 12 24, iK 13 0, iB 14 false]
.ret) .skip))
(sR [i1 25 7 (.ld true 4 (.t 7)), i0 26 (.call 44 [.t 25] 2), iS 4 7 26]
(sR [iK 15 0]
(cutS (sR [iC 27 3]
(.block 0 (sR [iQ 29 27 1, iM 28 29]
(.cond (.t 28) (.reg [iFr 30 7 3 7, iLr 31 7 30, iL 32 8, iIr 33 7 3 31 32, iFr 34 7 0 33, iT 34 2]) (sR [iQ 36 27 2, iM 35 36]
(.cond (.t 35) (.reg [iFr 37 7 3 7, iLr 38 7 37, iL 39 8, iIr 40 7 3 38 39, iFr 41 7 0 40, iT 41 5]) (cutS (sR [iQ 43 27 6, iM 42 43]
(.cond (.t 42) .skip (.reg [iQ 44 27 10, iM 42 44])))
(.cond (.t 42) (.reg [iFr 45 7 0 7, iLr 46 7 45, iC 47 4, iL 48 8, iIr 49 7 2 46 47, iFr 50 7 0 49, iS 1 50 48]) (cutS (sR [iQ 52 27 7, iM 51 52]
(.cond (.t 51) .skip (.reg [iQ 53 27 11, iM 51 53])))
(.cond (.t 51) (.reg [iFr 54 7 0 7, iLr 55 7 54, iC 56 4, iIr 57 7 2 55 56, iFr 58 7 0 57, iT 58 (-1)]) (sR [iQ 60 27 8, iM 59 60]
(.cond (.t 59) (sR [iFr 61 7 0 7, iLr 62 7 61, iC 63 4, iIr 64 7 2 62 63, iFr 65 7 1 64, iLr 66 7 65, iL 67 8, i0 68 (.bsl 1 [[.sc (.int .i64 0)]] [(0, .t 67)]), i0 69 (.app 1 8 (.t 66) (.t 68)), ⟨some ⟨16, [70, 75], []⟩, .mv (.t 69), none⟩]
(.seq (.rex [.o (i1 70 16 (.cp (.t 16))), .lend (some ⟨71, [], []⟩) 45 (.t 70) []])
(.reg [iFr 72 7 0 7, iLr 73 7 72, iC 74 4, i1 75 16 (.cp (.t 16)), i0 76 (.call 46 [.t 75] 3), iIr 77 7 2 73 74, iFr 78 7 1 77, iS 1 78 76]))) (sR [iQ 80 27 9, iM 79 80]
(.cond (.t 79) (.flo ⟨7, 0, 4, 0, 1, 11, 81, 82⟩ [i0 81 .fl, i0 82 .fl, iC 83 4, iFr 84 7 0 7, iLr 85 7 84, iC 86 4, iIr 87 7 2 85 86, iFr 88 7 1 87, iLr 89 7 88, i1 90 8 (.mkf 48 [.t 8]), i0 91 (.call 47 [.t 89, .t 90] 4), i1 92 7 (.iadr 7 0 4 2 (.t 83))]
 [iFr 93 7 1 92, iS 1 93 91]) (sR [iQ 95 27 12, iM 94 95]
(.cond (.t 94) (.reg [iL 96 8, iFr 97 7 1 7, iS 1 97 96]) (sR [iQ 99 27 13, iM 98 99]
(.cond (.t 98) (.reg [iFr 100 7 1 7, iT 100 (-1)]) (sR [iQ 102 27 14, iM 101 102]
(.cond (.t 101) (.reg [iFr 103 7 3 7, iLr 104 7 103, iL 105 8, iIr 106 7 3 104 105, iFr 107 7 2 106, ⟨none, .st 1 (.t 107) (.c (.sc (.bool true))), none⟩]) (sR [iQ 109 27 15, iM 108 109]
(.cond (.t 108) (.reg [iFr 110 7 3 7, iLr 111 7 110, iL 112 8, iIr 113 7 3 111 112, iFr 114 7 2 113, ⟨none, .st 1 (.t 114) (.c (.sc (.bool false))), none⟩]) (sR [iQ 116 27 16, iM 115 116]
(.cond (.t 115) (sR [iFr 117 7 0 7, iLr 118 7 117, iFr 119 6 2 6, iL 120 119, iC 121 4, iI 122 2 120 121, iF 123 1 122, iL 124 123, iIr 125 7 2 118 124, iFr 126 7 0 125, iT 126 (-1)]
(.reg [iFr 127 7 3 7, i1 128 7 (.lda (.t 127)), iL 129 8, iFr 130 7 3 7, i1 131 7 (.lda (.t 130)), iL 132 8, iC 133 4, iIr 134 7 3 128 129, iFr 135 7 0 134, ⟨none, .sts (.t 135) (.c (.sc (.int .i64 3))), none⟩, iIr 136 7 3 131 132, iFr 137 7 1 136, ⟨none, .sts (.t 137) (.t 133), none⟩])) (sR [iQ 139 27 17, iM 138 139]
(.cond (.t 138) (sR [iFr 140 7 0 7, iLr 141 7 140, iFr 142 6 2 6, iL 143 142, iC 144 4, iI 145 2 143 144, iF 146 1 145, iL 147 146, iL 148 8, iIr 149 7 2 141 147, iFr 150 7 0 149, iS 1 150 148]
(.reg [iFr 151 7 3 7, i1 152 7 (.lda (.t 151)), iL 153 8, iFr 154 7 3 7, i1 155 7 (.lda (.t 154)), iL 156 8, iIr 157 7 3 152 153, iFr 158 7 0 157, ⟨none, .sts (.t 158) (.c (.sc (.int .i64 2))), none⟩, iIr 159 7 3 155 156, iFr 160 7 1 159, ⟨none, .sts (.t 160) (.c (.sc (.int .i64 0))), none⟩])) (sR [iQ 162 27 18, iM 161 162]
(.cond (.t 161) (.rex [.o (i1 163 7 (.ld true 4 (.t 7))), .o (iC 164 4), .o (iC 165 5), .lnd (some ⟨166, [], []⟩) 49 [] (.t 163) (some 3) [.t 164, .t 165], .o (iM 15 166)]) (sR [iQ 168 27 19, iM 167 168]
(.cond (.t 167) (.rex [.o (i1 169 7 (.ld true 4 (.t 7))), .o (iC 170 4), .lnd (some ⟨171, [], []⟩) 50 [] (.t 169) (some 3) [.t 170], .o (iM 15 171)]) (sR [iQ 173 27 20, iM 172 173]
(.cond (.t 172) (.reg [iFr 174 7 3 7, iLr 175 7 174, iC 176 4, iIr 177 7 3 175 176, iFr 178 7 0 177, iT 178 1]) (sR [iQ 180 27 22, iM 179 180]
(.cond (.t 179) (.reg [iFr 181 7 2 7, iLr 182 7 181, iC 183 4, iIr 184 7 1 182 183, ⟨none, .st 1 (.t 184) (.c (.sc (.bool true))), none⟩]) .skip))))))))))))))))))))))))))))))))))
(sR [i1 185 7 (.ld true 4 (.t 7)), iC 186 15, iS 4 12 185, iM 13 186, iB 14 true]
.ret))))))
def f25g : Gi := ⟨[(18, [7]), (25, [7]), (30, [7]), (31, [7]), (33, [7]), (34, [7]), (37, [7]), (38, [7]), (40, [7]), (41, [7]), (45, [7]), (46, [7]), (49, [7]), (50, [7]), (54, [7]), (55, [7]), (57, [7]), (58, [7]), (61, [7]), (62, [7]), (64, [7]), (65, [7]), (66, [7]), (70, [16]), (72, [7]), (73, [7]), (75, [16]), (77, [7]), (78, [7]), (84, [7]), (85, [7]), (87, [7]), (88, [7]), (89, [7]), (90, [8]), (92, [7]), (93, [7]), (97, [7]), (100, [7]), (103, [7]), (104, [7]), (106, [7]), (107, [7]), (110, [7]), (111, [7]), (113, [7]), (114, [7]), (117, [7]), (118, [7]), (119, [6]), (125, [7]), (126, [7]), (127, [7]), (128, [7]), (130, [7]), (131, [7]), (134, [7]), (135, [7]), (136, [7]), (137, [7]), (140, [7]), (141, [7]), (142, [6]), (149, [7]), (150, [7]), (151, [7]), (152, [7]), (154, [7]), (155, [7]), (157, [7]), (158, [7]), (159, [7]), (160, [7]), (163, [7]), (169, [7]), (174, [7]), (175, [7]), (177, [7]), (178, [7]), (181, [7]), (182, [7]), (184, [7]), (185, [7])]⟩
def f25r : List RV := [.cell 12 true 4, .tmp 13, .tmp 14]
def f25 : FI := ⟨f25c, f25g, f25r⟩
theorem chk25 : chkF Tryd.prog Tryd.f25 f25 = true := by kernel_rfl
def o_Ap_J3 (s_1 : SSync) (value : Int) : Option (SSync × Int × Bool) :=
  some (s_1, value, true)
def o_Ap_J2 (kind : Int) (obj : Int) (thread : Int) (v_1 : SSync) (wake : Int) (wv : SWorld) (t51v : Bool) : Option (SSync × Int × Bool) :=
  if t51v then
    (gt v_1.Locks obj).bind fun x_3 =>
    o_Ap_J3 (SSync.mk (v_1.Locks.set obj.toNat (SLockState.mk (-1) x_3.Readers)) v_1.Tx v_1.Done v_1.Threads) 0
  else
  if kind == 8 then
    (gt v_1.Locks obj).bind fun x_4 =>
    if roomOK (x_4.Readers.length + 1) 8 = true then
    (slices_Sort (x_4.Readers ++ [thread])).bind fun v_2 =>
    (slices_Compact v_2).bind fun v_3 =>
    o_Ap_J3 (SSync.mk (v_1.Locks.set obj.toNat (SLockState.mk x_4.Owner v_3)) v_1.Tx v_1.Done v_1.Threads) 0
    else none
  else
  if kind == 9 then
    (gt v_1.Locks obj).bind fun x_5 =>
    (slices_DeleteFunc_eq x_5.Readers thread).bind fun v_4 =>
    o_Ap_J3 (SSync.mk (v_1.Locks.set obj.toNat (SLockState.mk x_5.Owner v_4)) v_1.Tx v_1.Done v_1.Threads) 0
  else
  if kind == 12 then
    o_Ap_J3 (SSync.mk v_1.Locks thread v_1.Done v_1.Threads) 0
  else
  if kind == 13 then
    o_Ap_J3 (SSync.mk v_1.Locks (-1) v_1.Done v_1.Threads) 0
  else
  if kind == 14 then
    (gt v_1.Threads thread).bind fun x_6 =>
    o_Ap_J3 (SSync.mk v_1.Locks v_1.Tx v_1.Done (v_1.Threads.set thread.toNat (SThreadSync.mk x_6.Status x_6.Cond true))) 0
  else
  if kind == 15 then
    (gt v_1.Threads thread).bind fun x_7 =>
    o_Ap_J3 (SSync.mk v_1.Locks v_1.Tx v_1.Done (v_1.Threads.set thread.toNat (SThreadSync.mk x_7.Status x_7.Cond false))) 0
  else
  if kind == 16 then
    (gt wv.Conds obj).bind fun x_8 =>
    (gt v_1.Locks x_8.Mutex).bind fun x_9 =>
    (gt v_1.Threads thread).bind fun x_10 =>
    (gt (v_1.Threads.set thread.toNat (SThreadSync.mk 3 x_10.Cond x_10.Atomic)) thread).bind fun x_11 =>
    o_Ap_J3 (SSync.mk (v_1.Locks.set x_8.Mutex.toNat (SLockState.mk (-1) x_9.Readers)) v_1.Tx v_1.Done ((v_1.Threads.set thread.toNat (SThreadSync.mk 3 x_10.Cond x_10.Atomic)).set thread.toNat (SThreadSync.mk x_11.Status obj x_11.Atomic))) 0
  else
  if kind == 17 then
    (gt wv.Conds obj).bind fun x_12 =>
    (gt v_1.Locks x_12.Mutex).bind fun x_13 =>
    (gt v_1.Threads thread).bind fun x_14 =>
    (gt (v_1.Threads.set thread.toNat (SThreadSync.mk 2 x_14.Cond x_14.Atomic)) thread).bind fun x_15 =>
    o_Ap_J3 (SSync.mk (v_1.Locks.set x_12.Mutex.toNat (SLockState.mk thread x_13.Readers)) v_1.Tx v_1.Done ((v_1.Threads.set thread.toNat (SThreadSync.mk 2 x_14.Cond x_14.Atomic)).set thread.toNat (SThreadSync.mk x_15.Status 0 x_15.Atomic))) 0
  else
  if kind == 18 then
    (o_no v_1.Tx v_1.Threads obj wake).bind fun v_5 =>
    o_Ap_J3 (SSync.mk v_1.Locks v_1.Tx v_1.Done v_5.2) v_5.1
  else
  if kind == 19 then
    (o_noAl v_1.Tx v_1.Threads obj).bind fun v_6 =>
    o_Ap_J3 (SSync.mk v_1.Locks v_1.Tx v_1.Done v_6.2) v_6.1
  else
  if kind == 20 then
    (gt v_1.Threads obj).bind fun x_16 =>
    o_Ap_J3 (SSync.mk v_1.Locks v_1.Tx v_1.Done (v_1.Threads.set obj.toNat (SThreadSync.mk 1 x_16.Cond x_16.Atomic))) 0
  else
  if kind == 22 then
    (gt v_1.Done obj).bind fun x_17 =>
    o_Ap_J3 (SSync.mk v_1.Locks v_1.Tx (v_1.Done.set obj.toNat true) v_1.Threads) 0
  else
  o_Ap_J3 v_1 0
def o_Ap_J1 (kind : Int) (obj : Int) (thread : Int) (v_1 : SSync) (wake : Int) (wv : SWorld) (t42v : Bool) : Option (SSync × Int × Bool) :=
  if t42v then
    (gt v_1.Locks obj).bind fun x_2 =>
    o_Ap_J3 (SSync.mk (v_1.Locks.set obj.toNat (SLockState.mk thread x_2.Readers)) v_1.Tx v_1.Done v_1.Threads) 0
  else
  if kind == 7 then
    o_Ap_J2 kind obj thread v_1 wake wv (kind == 7)
  else
  o_Ap_J2 kind obj thread v_1 wake wv (kind == 11)
def o_Ap (wv : SWorld) (s : SSync) (thread : Int) (kind : Int) (obj : Int) (wake : Int) : Option (SSync × Int × Bool) :=
  (o_En wv s thread kind obj).bind fun v =>
  if !v then
    some ((SSync.mk [] 0 [] []), 0, false)
  else
  (o_cl s).bind fun v_1 =>
  if kind == 1 then
    (gt v_1.Threads thread).bind fun x =>
    o_Ap_J3 (SSync.mk v_1.Locks v_1.Tx v_1.Done (v_1.Threads.set thread.toNat (SThreadSync.mk 2 x.Cond x.Atomic))) 0
  else
  if kind == 2 then
    (gt v_1.Threads thread).bind fun x_1 =>
    o_Ap_J3 (SSync.mk v_1.Locks v_1.Tx v_1.Done (v_1.Threads.set thread.toNat (SThreadSync.mk 5 x_1.Cond x_1.Atomic))) 0
  else
  if kind == 6 then
    o_Ap_J1 kind obj thread v_1 wake wv (kind == 6)
  else
  o_Ap_J1 kind obj thread v_1 wake wv (kind == 10)
theorem o_Ap_ok {wv : SWorld} {s : SSync} {thread : Int} {kind : Int} {obj : Int} {wake : Int} {r : SSync × Int × Bool} (h : o_Ap wv s thread kind obj wake = some r) : Says Tryd.prog 25 [.agg (eWorld wv), .agg (eSync s), si thread, si kind, si obj, si wake] (.tup [.agg (eSynco r.1), si r.2.1, sb r.2.2]) := by
 refine says_of mix Tryd.func25 chk25 (of_decide_eq_true (by kernel_rfl)) rfl ?_
 simp only [f25, f25c, f25g, f25r]
 obtain ⟨v, g1, h⟩ := bS h
 try simp +decide only [go_sem]
 refine ⟨_, o_En_ok g1, ?_⟩
 try simp +decide only [go_sem]
 refine cI h (fun e1 h => ?_) fun e1 h => ?_
 · obtain rfl := Option.some.inj h
   simp +decide only [go_sem, e1]
 obtain ⟨v_1, g2, h⟩ := bS h
 try simp +decide only [go_sem, e1]
 refine ⟨_, o_cl_ok g2, ?_⟩
 try simp +decide only [go_sem, e1]
 refine cutH (fun τ => ∃ s_1 : SSync, ∃ value : Int, (τ 7 = bA 4 (eSynco s_1) ∧ τ 12 = bA 4 [.own false 2 ([]), si 0, .own false 1 ([]), .own false 3 ([])] ∧ τ 15 = si value) ∧ o_Ap_J3 s_1 value = some r) fun M3 m3 => ⟨?_, ?_⟩
 · try simp +decide only [go_sem, e1]
   refine cI h (fun e2 h => ?_) fun e2 h => ?_
   · obtain ⟨x, g3, h⟩ := gB h
     try simp +decide only [go_sem, e1, e2, g3]
     refine m3 _ ⟨(SSync.mk v_1.Locks v_1.Tx v_1.Done (v_1.Threads.set thread.toNat (SThreadSync.mk 2 x.Cond x.Atomic))), 0, ?_, h⟩
     simp +decide only [go_sem, e1, e2, g3]
   try simp +decide only [go_sem, e1, e2]
   refine cI h (fun e3 h => ?_) fun e3 h => ?_
   · obtain ⟨x_1, g4, h⟩ := gB h
     try simp +decide only [go_sem, e1, e2, e3, g4]
     refine m3 _ ⟨(SSync.mk v_1.Locks v_1.Tx v_1.Done (v_1.Threads.set thread.toNat (SThreadSync.mk 5 x_1.Cond x_1.Atomic))), 0, ?_, h⟩
     simp +decide only [go_sem, e1, e2, e3, g4]
   try simp +decide only [go_sem, e1, e2, e3]
   refine cutH (fun τ => ∃ t42v : Bool, (τ 4 = si obj ∧ τ 5 = si wake ∧ τ 6 = bA 6 (eWorld wv) ∧ τ 7 = bA 4 (eSynco v_1) ∧ τ 8 = bA 1 [si thread] ∧ τ 12 = bA 4 [.own false 2 ([]), si 0, .own false 1 ([]), .own false 3 ([])] ∧ τ 15 = si 0 ∧ τ 27 = si kind ∧ τ 42 = sb t42v) ∧ o_Ap_J1 kind obj thread v_1 wake wv t42v = some r) fun M1 m1 => ⟨?_, ?_⟩
   · try simp +decide only [go_sem, e1, e2, e3]
     refine cI h (fun e4 h => ?_) fun e4 h => ?_
     · try simp +decide only [go_sem, e1, e2, e3, e4]
       refine m1 _ ⟨kind == 6, ?_, h⟩
       simp +decide only [go_sem, e1, e2, e3, e4]
     try simp +decide only [go_sem, e1, e2, e3, e4]
     refine m1 _ ⟨kind == 10, ?_, h⟩
     simp +decide only [go_sem, e1, e2, e3, e4]
   rintro τ1 ⟨t42v, s1, h⟩
   try simp +decide only [go_sem, s1]
   refine cI h (fun e5 h => ?_) fun e5 h => ?_
   · obtain ⟨x_2, g5, h⟩ := gB h
     try simp +decide only [go_sem, s1, e5, g5]
     refine m3 _ ⟨(SSync.mk (v_1.Locks.set obj.toNat (SLockState.mk thread x_2.Readers)) v_1.Tx v_1.Done v_1.Threads), 0, ?_, h⟩
     simp +decide only [go_sem, s1, e5, g5]
   try simp +decide only [go_sem, s1, e5]
   refine cutH (fun τ => ∃ t51v : Bool, (τ 4 = si obj ∧ τ 5 = si wake ∧ τ 6 = bA 6 (eWorld wv) ∧ τ 7 = bA 4 (eSynco v_1) ∧ τ 8 = bA 1 [si thread] ∧ τ 12 = bA 4 [.own false 2 ([]), si 0, .own false 1 ([]), .own false 3 ([])] ∧ τ 15 = si 0 ∧ τ 27 = si kind ∧ τ 51 = sb t51v) ∧ o_Ap_J2 kind obj thread v_1 wake wv t51v = some r) fun M2 m2 => ⟨?_, ?_⟩
   · try simp +decide only [go_sem, s1, e5]
     refine cI h (fun e6 h => ?_) fun e6 h => ?_
     · try simp +decide only [go_sem, s1, e5, e6]
       refine m2 _ ⟨kind == 7, ?_, h⟩
       simp +decide only [go_sem, s1, e5, e6]
     try simp +decide only [go_sem, s1, e5, e6]
     refine m2 _ ⟨kind == 11, ?_, h⟩
     simp +decide only [go_sem, s1, e5, e6]
   rintro τ2 ⟨t51v, s2, h⟩
   try simp +decide only [go_sem, s2]
   refine cI h (fun e7 h => ?_) fun e7 h => ?_
   · obtain ⟨x_3, g6, h⟩ := gB h
     try simp +decide only [go_sem, s2, e7, g6]
     refine m3 _ ⟨(SSync.mk (v_1.Locks.set obj.toNat (SLockState.mk (-1) x_3.Readers)) v_1.Tx v_1.Done v_1.Threads), 0, ?_, h⟩
     simp +decide only [go_sem, s2, e7, g6]
   try simp +decide only [go_sem, s2, e7]
   refine cI h (fun e8 h => ?_) fun e8 h => ?_
   · obtain ⟨x_4, g7, h⟩ := gB h
     obtain ⟨g8, h⟩ := cS h
     obtain ⟨v_2, g9, h⟩ := bS h
     try simp +decide only [go_sem, s2, e7, e8, g7, g8]
     refine lendK_at (b := false) (k := 1) (rows := (x_4.Readers ++ [thread]).map eI) _ _ (by simp +decide only [go_sem, s2, e7, e8, g7, g8]) (slices_Sort_ok g9) rfl ?_
     obtain ⟨v_3, g10, h⟩ := bS h
     try simp +decide only [go_sem, s2, e7, e8, g7, g8]
     refine ⟨_, slices_Compact_ok g10, ?_⟩
     try simp +decide only [go_sem, s2, e7, e8, g7, g8]
     refine m3 _ ⟨(SSync.mk (v_1.Locks.set obj.toNat (SLockState.mk x_4.Owner v_3)) v_1.Tx v_1.Done v_1.Threads), 0, ?_, h⟩
     simp +decide only [go_sem, s2, e7, e8, g7, g8]
   try simp +decide only [go_sem, s2, e7, e8]
   refine cI h (fun e9 h => ?_) fun e9 h => ?_
   · obtain ⟨x_5, g11, h⟩ := gB h
     obtain ⟨v_4, g12, h⟩ := bS h
     try simp +decide only [go_sem, s2, e7, e8, e9, g11]
     refine ⟨_, slices_DeleteFunc_eq_ok g12, ?_⟩
     try simp +decide only [go_sem, s2, e7, e8, e9, g11]
     refine m3 _ ⟨(SSync.mk (v_1.Locks.set obj.toNat (SLockState.mk x_5.Owner v_4)) v_1.Tx v_1.Done v_1.Threads), 0, ?_, h⟩
     simp +decide only [go_sem, s2, e7, e8, e9, g11]
   try simp +decide only [go_sem, s2, e7, e8, e9]
   refine cI h (fun e10 h => ?_) fun e10 h => ?_
   · try simp +decide only [go_sem, s2, e7, e8, e9, e10]
     refine m3 _ ⟨(SSync.mk v_1.Locks thread v_1.Done v_1.Threads), 0, ?_, h⟩
     simp +decide only [go_sem, s2, e7, e8, e9, e10]
   try simp +decide only [go_sem, s2, e7, e8, e9, e10]
   refine cI h (fun e11 h => ?_) fun e11 h => ?_
   · try simp +decide only [go_sem, s2, e7, e8, e9, e10, e11]
     refine m3 _ ⟨(SSync.mk v_1.Locks (-1) v_1.Done v_1.Threads), 0, ?_, h⟩
     simp +decide only [go_sem, s2, e7, e8, e9, e10, e11]
   try simp +decide only [go_sem, s2, e7, e8, e9, e10, e11]
   refine cI h (fun e12 h => ?_) fun e12 h => ?_
   · obtain ⟨x_6, g13, h⟩ := gB h
     try simp +decide only [go_sem, s2, e7, e8, e9, e10, e11, e12, g13]
     refine m3 _ ⟨(SSync.mk v_1.Locks v_1.Tx v_1.Done (v_1.Threads.set thread.toNat (SThreadSync.mk x_6.Status x_6.Cond true))), 0, ?_, h⟩
     simp +decide only [go_sem, s2, e7, e8, e9, e10, e11, e12, g13]
   try simp +decide only [go_sem, s2, e7, e8, e9, e10, e11, e12]
   refine cI h (fun e13 h => ?_) fun e13 h => ?_
   · obtain ⟨x_7, g14, h⟩ := gB h
     try simp +decide only [go_sem, s2, e7, e8, e9, e10, e11, e12, e13, g14]
     refine m3 _ ⟨(SSync.mk v_1.Locks v_1.Tx v_1.Done (v_1.Threads.set thread.toNat (SThreadSync.mk x_7.Status x_7.Cond false))), 0, ?_, h⟩
     simp +decide only [go_sem, s2, e7, e8, e9, e10, e11, e12, e13, g14]
   try simp +decide only [go_sem, s2, e7, e8, e9, e10, e11, e12, e13]
   refine cI h (fun e14 h => ?_) fun e14 h => ?_
   · obtain ⟨x_8, g15, h⟩ := gB h
     obtain ⟨x_9, g16, h⟩ := gB h
     obtain ⟨x_10, g17, h⟩ := gB h
     obtain ⟨x_11, g18, h⟩ := gB h
     try simp +decide only [go_sem, s2, e7, e8, e9, e10, e11, e12, e13, e14, g15, g16, g17, g18]
     refine m3 _ ⟨(SSync.mk (v_1.Locks.set x_8.Mutex.toNat (SLockState.mk (-1) x_9.Readers)) v_1.Tx v_1.Done ((v_1.Threads.set thread.toNat (SThreadSync.mk 3 x_10.Cond x_10.Atomic)).set thread.toNat (SThreadSync.mk x_11.Status obj x_11.Atomic))), 0, ?_, h⟩
     simp +decide only [go_sem, s2, e7, e8, e9, e10, e11, e12, e13, e14, g15, g16, g17, g18]
   try simp +decide only [go_sem, s2, e7, e8, e9, e10, e11, e12, e13, e14]
   refine cI h (fun e15 h => ?_) fun e15 h => ?_
   · obtain ⟨x_12, g19, h⟩ := gB h
     obtain ⟨x_13, g20, h⟩ := gB h
     obtain ⟨x_14, g21, h⟩ := gB h
     obtain ⟨x_15, g22, h⟩ := gB h
     try simp +decide only [go_sem, s2, e7, e8, e9, e10, e11, e12, e13, e14, e15, g19, g20, g21, g22]
     refine m3 _ ⟨(SSync.mk (v_1.Locks.set x_12.Mutex.toNat (SLockState.mk thread x_13.Readers)) v_1.Tx v_1.Done ((v_1.Threads.set thread.toNat (SThreadSync.mk 2 x_14.Cond x_14.Atomic)).set thread.toNat (SThreadSync.mk x_15.Status 0 x_15.Atomic))), 0, ?_, h⟩
     simp +decide only [go_sem, s2, e7, e8, e9, e10, e11, e12, e13, e14, e15, g19, g20, g21, g22]
   try simp +decide only [go_sem, s2, e7, e8, e9, e10, e11, e12, e13, e14, e15]
   refine cI h (fun e16 h => ?_) fun e16 h => ?_
   · obtain ⟨v_5, g23, h⟩ := bS h
     try simp +decide only [go_sem, s2, e7, e8, e9, e10, e11, e12, e13, e14, e15, e16]
     refine lndK_at (n := .own false 3 (v_1.Threads.map eThreadSync)) (t := bA 4 [.own false 2 (v_1.Locks.map eLockStateo), si v_1.Tx, .own false 1 (v_1.Done.map eB), .own false 3 (v_5.2.map eThreadSync)]) _ _ _ (by simp +decide only [go_sem, s2, e7, e8, e9, e10, e11, e12, e13, e14, e15, e16]) rfl (o_no_ok g23) rfl rfl rfl (by simp +decide only [go_sem, s2, e7, e8, e9, e10, e11, e12, e13, e14, e15, e16]) ?_
     try simp +decide only [go_sem, s2, e7, e8, e9, e10, e11, e12, e13, e14, e15, e16]
     refine m3 _ ⟨(SSync.mk v_1.Locks v_1.Tx v_1.Done v_5.2), v_5.1, ?_, h⟩
     simp +decide only [go_sem, s2, e7, e8, e9, e10, e11, e12, e13, e14, e15, e16]
   try simp +decide only [go_sem, s2, e7, e8, e9, e10, e11, e12, e13, e14, e15, e16]
   refine cI h (fun e17 h => ?_) fun e17 h => ?_
   · obtain ⟨v_6, g24, h⟩ := bS h
     try simp +decide only [go_sem, s2, e7, e8, e9, e10, e11, e12, e13, e14, e15, e16, e17]
     refine lndK_at (n := .own false 3 (v_1.Threads.map eThreadSync)) (t := bA 4 [.own false 2 (v_1.Locks.map eLockStateo), si v_1.Tx, .own false 1 (v_1.Done.map eB), .own false 3 (v_6.2.map eThreadSync)]) _ _ _ (by simp +decide only [go_sem, s2, e7, e8, e9, e10, e11, e12, e13, e14, e15, e16, e17]) rfl (o_noAl_ok g24) rfl rfl rfl (by simp +decide only [go_sem, s2, e7, e8, e9, e10, e11, e12, e13, e14, e15, e16, e17]) ?_
     try simp +decide only [go_sem, s2, e7, e8, e9, e10, e11, e12, e13, e14, e15, e16, e17]
     refine m3 _ ⟨(SSync.mk v_1.Locks v_1.Tx v_1.Done v_6.2), v_6.1, ?_, h⟩
     simp +decide only [go_sem, s2, e7, e8, e9, e10, e11, e12, e13, e14, e15, e16, e17]
   try simp +decide only [go_sem, s2, e7, e8, e9, e10, e11, e12, e13, e14, e15, e16, e17]
   refine cI h (fun e18 h => ?_) fun e18 h => ?_
   · obtain ⟨x_16, g25, h⟩ := gB h
     try simp +decide only [go_sem, s2, e7, e8, e9, e10, e11, e12, e13, e14, e15, e16, e17, e18, g25]
     refine m3 _ ⟨(SSync.mk v_1.Locks v_1.Tx v_1.Done (v_1.Threads.set obj.toNat (SThreadSync.mk 1 x_16.Cond x_16.Atomic))), 0, ?_, h⟩
     simp +decide only [go_sem, s2, e7, e8, e9, e10, e11, e12, e13, e14, e15, e16, e17, e18, g25]
   try simp +decide only [go_sem, s2, e7, e8, e9, e10, e11, e12, e13, e14, e15, e16, e17, e18]
   refine cI h (fun e19 h => ?_) fun e19 h => ?_
   · obtain ⟨x_17, g26, h⟩ := gB h
     try simp +decide only [go_sem, s2, e7, e8, e9, e10, e11, e12, e13, e14, e15, e16, e17, e18, e19, g26]
     refine m3 _ ⟨(SSync.mk v_1.Locks v_1.Tx (v_1.Done.set obj.toNat true) v_1.Threads), 0, ?_, h⟩
     simp +decide only [go_sem, s2, e7, e8, e9, e10, e11, e12, e13, e14, e15, e16, e17, e18, e19, g26]
   try simp +decide only [go_sem, s2, e7, e8, e9, e10, e11, e12, e13, e14, e15, e16, e17, e18, e19]
   refine m3 _ ⟨v_1, 0, ?_, h⟩
   simp +decide only [go_sem, s2, e7, e8, e9, e10, e11, e12, e13, e14, e15, e16, e17, e18, e19]
 rintro τ3 ⟨s_1, value, s3, h⟩
 obtain rfl := Option.some.inj h
 simp +decide only [go_sem, s3]
def f26c : IC := (.seq (.reg [⟨some ⟨2, [], []⟩, .mv (.c (.own false 1 [])), none⟩])
 (.seq (.seq (.rex [.o ⟨some ⟨3, [], []⟩, .cp (.t 0), none⟩,
  .nilq ⟨4, [], []⟩ false (.t 3)])
 (.cond (.t 4) (.seq (.reg [⟨some ⟨2, [], []⟩, .mv (.c (.own false 1 [])), none⟩])
 .ret) .skip))
 (.seq (.reg [⟨some ⟨5, [], []⟩, .bsl 1 [] [], none⟩,
  ⟨some ⟨6, [], []⟩, .cp (.t 0), none⟩,
  ⟨some ⟨7, [], []⟩, .app 1 8 (.t 5) (.t 6), none⟩,
  ⟨some ⟨2, [], []⟩, .mv (.t 7), none⟩])
 .ret)))
def f26g : Gi := ⟨[]⟩
def f26r : List RV := [.tmp 2]
def f26 : FI := ⟨f26c, f26g, f26r⟩
theorem chk26 : chkF Tryd.prog Tryd.f26 f26 = true := by kernel_rfl
def s_Clinq (l : List Int) : Option (List Int) := if roomOK l.length 8 = true then some l else none
theorem s_Clinq_ok {l : List Int} {r : List Int} (h : s_Clinq l = some r) : Says Tryd.prog 26 [.sl false 1 (l.map eI)] (.own false 1 (r.map eI)) := by
  obtain ⟨g, h⟩ := chk_some h
  obtain rfl := Option.some.inj h
  refine says_of mix Tryd.func26 chk26 (of_decide_eq_true (by kernel_rfl)) rfl ?_
  simp only [f26, f26c, f26g, f26r]
  simp +decide only [go_sem, g]
  intro b hb
  cases b with
  | true =>
    have hl : l = [] := by simpa using hb rfl
    subst hl
    simp +decide only [go_sem, g]
  | false => simp +decide only [go_sem, g]
def f9c : IC := (sR [⟨some ⟨3, [25], []⟩, .bx 6 (.t 0), none⟩, ⟨some ⟨4, [42, 79, 96, 99, 102], []⟩, .bx 7 (.t 1), none⟩, ⟨some ⟨5, [18, 23, 31, 36, 44, 46, 48, 72, 75, 81, 83, 85, 106, 112, 114, 121, 123, 128], []⟩, .bx 7 (.t 2), none⟩, i0 6 (.bx 7 (.c (.agg [.own false 2 [], .sc (.int .i64 0), .own false 1 [], .own false 3 [], .own false 1 [], .own false 1 [], .own false 1 []]))), iB 7 false]
(.seq (cutS (.reg [i0 13 (.ld true 6 (.t 3)), i0 14 (.ld true 7 (.t 4)), i0 15 (.call 20 [.t 13, .t 14] 0), iN 16 15, iC 17 16, jFr 18 5 0 5 17 false, jL 19 18 17 false, j0 20 (.bin .lss (.t 19) (.c (.sc (.int .i64 0)))) 17 false, i0 21 (.pick (.t 17) (.c (.sc (.bool true))) (.t 20)), iC 22 21, jFr 23 5 0 5 22 false, jL 24 23 22 false, jFr 25 3 4 3 22 false, jL 26 25 22 false, j0 27 (.len (.t 26)) 22 false, j0 28 (.bin .geq (.t 24) (.t 27)) 22 false, i0 29 (.pick (.t 22) (.c (.sc (.bool true))) (.t 28)), iC 30 29, jFr 31 5 1 5 30 false, jL 32 31 30 false, j0 33 (.bin .lss (.t 32) (.c (.sc (.int .i64 1)))) 30 false, i0 34 (.pick (.t 30) (.c (.sc (.bool true))) (.t 33)), iC 35 34, jFr 36 5 1 5 35 false, jL 37 36 35 false, j0 38 (.bin .gtr (.t 37) (.c (.sc (.int .i64 23)))) 35 false, i0 39 (.pick (.t 35) (.c (.sc (.bool true))) (.t 38))])
(.cond (.t 39) (sR [i0 40 (.bld [.own false 2 [], .sc (.int .i64 0), .own false 1 [], .own false 3 [], .own false 1 [], .own false 1 [], .own false 1 []] []), iS 7 6 40, iB 7 false]
.ret) .skip))
(.seq (cutS (.reg [i0 41 (.ld true 6 (.t 3)), iFr 42 4 0 4, i0 43 (.ld true 4 (.t 42)), iFr 44 5 0 5, iL 45 44, iFr 46 5 1 5, iL 47 46, iFr 48 5 2 5, iL 49 48, i0 50 (.call 21 [.t 41, .t 43, .t 45, .t 47, .t 49] 0), iN 51 50, iC 52 51, j0 53 (.ld true 6 (.t 3)) 52 false, j0 54 (.ld true 7 (.t 5)) 52 false, j0 55 (.call 22 [.t 53, .t 54] 0) 52 false, j0 56 (.un .not (.t 55)) 52 false, i0 57 (.pick (.t 52) (.c (.sc (.bool true))) (.t 56)), iC 58 57, j0 59 (.ld true 6 (.t 3)) 58 false, j0 60 (.ld true 7 (.t 4)) 58 false, j0 61 (.ld true 7 (.t 5)) 58 false, j0 62 (.call 23 [.t 59, .t 60, .t 61] 0) 58 false, j0 63 (.un .not (.t 62)) 58 false, i0 64 (.pick (.t 58) (.c (.sc (.bool true))) (.t 63)), iC 65 64, j0 66 (.ld true 7 (.t 4)) 65 false, j0 67 (.ld true 7 (.t 5)) 65 false, j0 68 (.call 24 [.t 66, .t 67] 0) 65 false, j0 69 (.un .not (.t 68)) 65 false, i0 70 (.pick (.t 65) (.c (.sc (.bool true))) (.t 69))])
(.cond (.t 70) (sR [i0 71 (.bld [.own false 2 [], .sc (.int .i64 0), .own false 1 [], .own false 3 [], .own false 1 [], .own false 1 [], .own false 1 []] []), iS 7 6 71, iB 7 false]
.ret) .skip))
(sR [iK 8 (-1)]
(cutS (sR [iFr 72 5 1 5, iL 73 72, iQ 74 73 18]
(.cond (.t 74) (.reg [iFr 75 5 3 5, iL 76 75, iM 8 76]) .skip))
(sR [i0 78 (.ld true 6 (.t 3)), iFr 79 4 0 4, i0 80 (.ld true 4 (.t 79)), iFr 81 5 0 5, iL 82 81, iFr 83 5 1 5, iL 84 83, iFr 85 5 2 5, iL 86 85, iC 87 8, ⟨some ⟨88, [77, 89, 90, 91], []⟩, .call 25 [.t 78, .t 80, .t 82, .t 84, .t 86, .t 87] 2, none⟩, i1 77 88 (.cp (.t 88)), i1 89 88 (.ext (.t 77) 0), i1 90 88 (.ext (.t 77) 1), i1 91 88 (.ext (.t 77) 2), ⟨some ⟨9, [95], []⟩, .bx 4 (.c (.agg [.own false 2 [], .sc (.int .i64 0), .own false 1 [], .own false 3 []])), none⟩, iS 4 9 89, iM 10 90, ⟨some ⟨11, [92], []⟩, .mv (.t 91), none⟩]
(.seq (sR [i1 92 11 (.cp (.t 11)), iN 93 92]
(.cond (.t 93) (sR [i0 94 (.bld [.own false 2 [], .sc (.int .i64 0), .own false 1 [], .own false 3 [], .own false 1 [], .own false 1 [], .own false 1 []] []), iS 7 6 94, iB 7 false]
.ret) .skip))
(sR [i1 95 9 (.ld true 4 (.t 9)), iFr 96 4 4 4, iL 97 96, i0 98 (.call 26 [.t 97] 2), iFr 99 4 5 4, iL 100 99, i0 101 (.call 26 [.t 100] 2), iFr 102 4 6 4, iL 103 102, i0 104 (.call 27 [.t 103] 2), i0 105 (.bld [.own false 2 [], .sc (.int .i64 0), .own false 1 [], .own false 3 [], .own false 1 [], .own false 1 [], .own false 1 []] [(0, 4, .t 95), (4, 1, .t 98), (5, 1, .t 101), (6, 1, .t 104)]), ⟨some ⟨12, [110, 111, 116, 119, 120, 125, 126, 127, 130, 133, 134], []⟩, .bx 7 (.c (.agg [.own false 2 [], .sc (.int .i64 0), .own false 1 [], .own false 3 [], .own false 1 [], .own false 1 [], .own false 1 []])), none⟩, iS 7 12 105]
(cutS (sR [iFr 106 5 1 5, iL 107 106]
(.block 0 (sR [iQ 109 107 4, iM 108 109]
(.cond (.t 108) (.reg [iFr 110 12 4 12, iLr 111 12 110, iFr 112 5 2 5, iL 113 112, iFr 114 5 3 5, iL 115 114, iIr 116 12 1 111 113, iS 1 116 115]) (sR [iQ 118 107 22, iM 117 118]
(.cond (.t 117) (.reg [iFr 119 12 5 12, iLr 120 12 119, iFr 121 5 2 5, iL 122 121, iFr 123 5 3 5, iL 124 123, iIr 125 12 1 120 122, iS 1 125 124]) .skip))))))
(sR [iFr 126 12 6 12, iLr 127 12 126, iFr 128 5 0 5, iL 129 128, iIr 130 12 1 127 129, iL 131 130, iP 132 .add 131 1, iIr 133 12 1 127 129, iS 1 133 132]
(sR [i1 134 12 (.ld true 7 (.t 12)), iS 7 6 134, iB 7 true]
.ret)))))))))))
def f9g : Gi := ⟨[(18, [5]), (23, [5]), (25, [3]), (31, [5]), (36, [5]), (42, [4]), (44, [5]), (46, [5]), (48, [5]), (72, [5]), (75, [5]), (77, [88]), (79, [4]), (81, [5]), (83, [5]), (85, [5]), (89, [88]), (90, [88]), (91, [88]), (92, [11]), (95, [9]), (96, [4]), (99, [4]), (102, [4]), (106, [5]), (110, [12]), (111, [12]), (112, [5]), (114, [5]), (116, [12]), (119, [12]), (120, [12]), (121, [5]), (123, [5]), (125, [12]), (126, [12]), (127, [12]), (128, [5]), (130, [12]), (133, [12]), (134, [12])]⟩
def f9r : List RV := [.cell 6 true 7, .tmp 7]
def f9 : FI := ⟨f9c, f9g, f9r⟩
theorem chk9 : chkF Tryd.prog Tryd.f9 f9 = true := by kernel_rfl
def w_Stq_J4 (ev : SEvent) (nv : SSnapshot) : Option (SSnapshot × Bool) :=
  (gt nv.Count ev.Thread).bind fun x_2 =>
  some ((SSnapshot.mk nv.Sync nv.Cells nv.Futures (nv.Count.set ev.Thread.toNat (w64 (x_2 + 1)))), true)
def w_Stq_J3 (ev : SEvent) (s : SSnapshot) (wv : SWorld) (wake : Int) : Option (SSnapshot × Bool) :=
  (o_Ap wv s.Sync ev.Thread ev.Kind ev.Obj wake).bind fun v_5 =>
  if !v_5.2.2 then
    some ((SSnapshot.mk (SSync.mk [] 0 [] []) [] [] []), false)
  else
  (s_Clinq s.Cells).bind fun v_6 =>
  (s_Clinq s.Futures).bind fun v_7 =>
  (s_Clin s.Count).bind fun v_8 =>
  if ev.Kind == 4 then
    (gt v_6 ev.Obj).bind fun x =>
    w_Stq_J4 ev (SSnapshot.mk v_5.1 (v_6.set ev.Obj.toNat ev.Value) v_7 v_8)
  else
  if ev.Kind == 22 then
    (gt v_7 ev.Obj).bind fun x_1 =>
    w_Stq_J4 ev (SSnapshot.mk v_5.1 v_6 (v_7.set ev.Obj.toNat ev.Value) v_8)
  else
  w_Stq_J4 ev (SSnapshot.mk v_5.1 v_6 v_7 v_8)
def w_Stq_J2 (ev : SEvent) (s : SSnapshot) (wv : SWorld) (t70v : Bool) : Option (SSnapshot × Bool) :=
  if t70v then
    some ((SSnapshot.mk (SSync.mk [] 0 [] []) [] [] []), false)
  else
  if ev.Kind == 18 then
    w_Stq_J3 ev s wv ev.Value
  else
  w_Stq_J3 ev s wv (-1)
def w_Stq_J1 (ev : SEvent) (s : SSnapshot) (wv : SWorld) (t39v : Bool) : Option (SSnapshot × Bool) :=
  if t39v then
    some ((SSnapshot.mk (SSync.mk [] 0 [] []) [] [] []), false)
  else
  (o_En wv s.Sync ev.Thread ev.Kind ev.Obj).bind fun v_1 =>
  if !v_1 then
    w_Stq_J2 ev s wv true
  else
  (w_pl wv ev).bind fun v_2 =>
  if !v_2 then
    w_Stq_J2 ev s wv true
  else
  (w_de wv s ev).bind fun v_3 =>
  if !v_3 then
    w_Stq_J2 ev s wv true
  else
  (w_va s ev).bind fun v_4 =>
  w_Stq_J2 ev s wv (!v_4)
def w_Stq (wv : SWorld) (s : SSnapshot) (ev : SEvent) : Option (SSnapshot × Bool) :=
  (w_fi wv s).bind fun v =>
  if !v then
    w_Stq_J1 ev s wv true
  else
  if decide (ev.Thread < 0) then
    w_Stq_J1 ev s wv true
  else
  if decide (ev.Thread ≥ (wv.Threads.length : Int)) then
    w_Stq_J1 ev s wv true
  else
  if decide (ev.Kind < 1) then
    w_Stq_J1 ev s wv true
  else
  w_Stq_J1 ev s wv (decide (ev.Kind > 23))
theorem w_Stq_ok {wv : SWorld} {s : SSnapshot} {ev : SEvent} {r : SSnapshot × Bool} (h : w_Stq wv s ev = some r) : Says Tryd.prog 9 [.agg (eWorld wv), .agg (eSnapshot s), .agg (eEvent ev)] (.tup [.agg (eSnapshoto r.1), sb r.2]) := by
 refine says_of mix Tryd.func9 chk9 (of_decide_eq_true (by kernel_rfl)) rfl ?_
 simp only [f9, f9c, f9g, f9r]
 try simp +decide only [go_sem]
 refine cutH (fun τ => ∃ t39v : Bool, (τ 3 = bA 6 (eWorld wv) ∧ τ 4 = bA 7 (eSnapshot s) ∧ τ 5 = bA 7 (eEvent ev) ∧ τ 6 = bA 7 [.own false 2 ([]), si 0, .own false 1 ([]), .own false 3 ([]), .own false 1 ([]), .own false 1 ([]), .own false 1 ([])] ∧ τ 39 = sb t39v) ∧ w_Stq_J1 ev s wv t39v = some r) fun M1 m1 => ⟨?_, ?_⟩
 · obtain ⟨v, g1, h⟩ := bS h
   try simp +decide only [go_sem]
   refine ⟨_, w_fi_ok g1, ?_⟩
   try simp +decide only [go_sem]
   refine gI h (fun e1 h => ?_) fun e1 h => ?_
   · try simp +decide only [go_sem, e1]
     refine m1 _ ⟨true, ?_, h⟩
     simp +decide only [go_sem, e1]
   try simp +decide only [go_sem, e1]
   refine gI h (fun e2 h => ?_) fun e2 h => ?_
   · try simp +decide only [go_sem, e1, e2]
     refine m1 _ ⟨true, ?_, h⟩
     simp +decide only [go_sem, e1, e2]
   try simp +decide only [go_sem, e1, e2]
   refine gI h (fun e3 h => ?_) fun e3 h => ?_
   · try simp +decide only [go_sem, e1, e2, e3]
     refine m1 _ ⟨true, ?_, h⟩
     simp +decide only [go_sem, e1, e2, e3]
   try simp +decide only [go_sem, e1, e2, e3]
   refine gI h (fun e4 h => ?_) fun e4 h => ?_
   · try simp +decide only [go_sem, e1, e2, e3, e4]
     refine m1 _ ⟨true, ?_, h⟩
     simp +decide only [go_sem, e1, e2, e3, e4]
   try simp +decide only [go_sem, e1, e2, e3, e4]
   refine m1 _ ⟨decide (ev.Kind > 23), ?_, h⟩
   simp +decide only [go_sem, e1, e2, e3, e4]
 rintro τ1 ⟨t39v, s1, h⟩
 try simp +decide only [go_sem, s1]
 refine cI h (fun e5 h => ?_) fun e5 h => ?_
 · obtain rfl := Option.some.inj h
   simp +decide only [go_sem, s1, e5]
 try simp +decide only [go_sem, s1, e5]
 refine cutH (fun τ => ∃ t70v : Bool, (τ 3 = bA 6 (eWorld wv) ∧ τ 4 = bA 7 (eSnapshot s) ∧ τ 5 = bA 7 (eEvent ev) ∧ τ 6 = bA 7 [.own false 2 ([]), si 0, .own false 1 ([]), .own false 3 ([]), .own false 1 ([]), .own false 1 ([]), .own false 1 ([])] ∧ τ 70 = sb t70v) ∧ w_Stq_J2 ev s wv t70v = some r) fun M2 m2 => ⟨?_, ?_⟩
 · obtain ⟨v_1, g2, h⟩ := bS h
   try simp +decide only [go_sem, s1, e5]
   refine ⟨_, o_En_ok g2, ?_⟩
   try simp +decide only [go_sem, s1, e5]
   refine gI h (fun e6 h => ?_) fun e6 h => ?_
   · try simp +decide only [go_sem, s1, e5, e6]
     refine m2 _ ⟨true, ?_, h⟩
     simp +decide only [go_sem, s1, e5, e6]
   obtain ⟨v_2, g3, h⟩ := bS h
   try simp +decide only [go_sem, s1, e5, e6]
   refine ⟨_, w_pl_ok g3, ?_⟩
   try simp +decide only [go_sem, s1, e5, e6]
   refine gI h (fun e7 h => ?_) fun e7 h => ?_
   · try simp +decide only [go_sem, s1, e5, e6, e7]
     refine m2 _ ⟨true, ?_, h⟩
     simp +decide only [go_sem, s1, e5, e6, e7]
   obtain ⟨v_3, g4, h⟩ := bS h
   try simp +decide only [go_sem, s1, e5, e6, e7]
   refine ⟨_, w_de_ok g4, ?_⟩
   try simp +decide only [go_sem, s1, e5, e6, e7]
   refine gI h (fun e8 h => ?_) fun e8 h => ?_
   · try simp +decide only [go_sem, s1, e5, e6, e7, e8]
     refine m2 _ ⟨true, ?_, h⟩
     simp +decide only [go_sem, s1, e5, e6, e7, e8]
   obtain ⟨v_4, g5, h⟩ := bS h
   try simp +decide only [go_sem, s1, e5, e6, e7, e8]
   refine ⟨_, w_va_ok g5, ?_⟩
   try simp +decide only [go_sem, s1, e5, e6, e7, e8]
   refine m2 _ ⟨!v_4, ?_, h⟩
   simp +decide only [go_sem, s1, e5, e6, e7, e8]
 rintro τ2 ⟨t70v, s2, h⟩
 try simp +decide only [go_sem, s2]
 refine cI h (fun e9 h => ?_) fun e9 h => ?_
 · obtain rfl := Option.some.inj h
   simp +decide only [go_sem, s2, e9]
 try simp +decide only [go_sem, s2, e9]
 refine cutH (fun τ => ∃ wake : Int, (τ 3 = bA 6 (eWorld wv) ∧ τ 4 = bA 7 (eSnapshot s) ∧ τ 5 = bA 7 (eEvent ev) ∧ τ 6 = bA 7 [.own false 2 ([]), si 0, .own false 1 ([]), .own false 3 ([]), .own false 1 ([]), .own false 1 ([]), .own false 1 ([])] ∧ τ 8 = si wake) ∧ w_Stq_J3 ev s wv wake = some r) fun M3 m3 => ⟨?_, ?_⟩
 · try simp +decide only [go_sem, s2, e9]
   refine cI h (fun e10 h => ?_) fun e10 h => ?_
   · try simp +decide only [go_sem, s2, e9, e10]
     refine m3 _ ⟨ev.Value, ?_, h⟩
     simp +decide only [go_sem, s2, e9, e10]
   try simp +decide only [go_sem, s2, e9, e10]
   refine m3 _ ⟨(-1), ?_, h⟩
   simp +decide only [go_sem, s2, e9, e10]
 rintro τ3 ⟨wake, s3, h⟩
 obtain ⟨v_5, g6, h⟩ := bS h
 try simp +decide only [go_sem, s3]
 refine ⟨_, o_Ap_ok g6, ?_⟩
 try simp +decide only [go_sem, s3]
 refine cI h (fun e11 h => ?_) fun e11 h => ?_
 · obtain rfl := Option.some.inj h
   simp +decide only [go_sem, s3, e11]
 obtain ⟨v_6, g7, h⟩ := bS h
 try simp +decide only [go_sem, s3, e11]
 refine ⟨_, s_Clinq_ok g7, ?_⟩
 obtain ⟨v_7, g8, h⟩ := bS h
 try simp +decide only [go_sem, s3, e11]
 refine ⟨_, s_Clinq_ok g8, ?_⟩
 obtain ⟨v_8, g9, h⟩ := bS h
 try simp +decide only [go_sem, s3, e11]
 refine ⟨_, s_Clin_ok g9, ?_⟩
 try simp +decide only [go_sem, s3, e11]
 refine cutH (fun τ => ∃ nv : SSnapshot, (τ 5 = bA 7 (eEvent ev) ∧ τ 6 = bA 7 [.own false 2 ([]), si 0, .own false 1 ([]), .own false 3 ([]), .own false 1 ([]), .own false 1 ([]), .own false 1 ([])] ∧ τ 12 = bA 7 (eSnapshoto nv)) ∧ w_Stq_J4 ev nv = some r) fun M4 m4 => ⟨?_, ?_⟩
 · try simp +decide only [go_sem, s3, e11]
   refine cI h (fun e12 h => ?_) fun e12 h => ?_
   · obtain ⟨x, g10, h⟩ := gB h
     try simp +decide only [go_sem, s3, e11, e12, g10]
     refine m4 _ ⟨(SSnapshot.mk v_5.1 (v_6.set ev.Obj.toNat ev.Value) v_7 v_8), ?_, h⟩
     simp +decide only [go_sem, s3, e11, e12, g10]
   try simp +decide only [go_sem, s3, e11, e12]
   refine cI h (fun e13 h => ?_) fun e13 h => ?_
   · obtain ⟨x_1, g11, h⟩ := gB h
     try simp +decide only [go_sem, s3, e11, e12, e13, g11]
     refine m4 _ ⟨(SSnapshot.mk v_5.1 v_6 (v_7.set ev.Obj.toNat ev.Value) v_8), ?_, h⟩
     simp +decide only [go_sem, s3, e11, e12, e13, g11]
   try simp +decide only [go_sem, s3, e11, e12, e13]
   refine m4 _ ⟨(SSnapshot.mk v_5.1 v_6 v_7 v_8), ?_, h⟩
   simp +decide only [go_sem, s3, e11, e12, e13]
 rintro τ4 ⟨nv, s4, h⟩
 obtain ⟨x_2, g12, h⟩ := gB h
 obtain rfl := Option.some.inj h
 simp +decide only [go_sem, s4, g12]
def f10c : IC := (sR [⟨some ⟨3, [9, 11], []⟩, .bx 7 (.t 1), none⟩, iB 4 false]
(cutS (sR [iFr 9 3 5 3, iL 10 9, iFr 11 3 6 3, iL 12 11, i0 13 (.bld [.own false 1 [], .own false 1 []] [(0, 1, .t 10), (1, 1, .t 12)]), i0 14 (.cp (.c (.sc (.int .i64 0))))]
(.block 0 (.loop (sR [iP 15 .lss 14 2]
(.seq (.cond (.t 15) .skip (.exit 0))
(cutS (.block 1 (cutS (.reg [i0 16 (.idx false 2 1 (.t 13) (.t 14)), iM 6 16])
(sR [iC 17 6, i0 18 (.len (.t 17)), i0 19 (.cp (.c (.sc (.int .i64 0))))]
(.block 2 (.loop (sR [iO 20 .lss 19 18]
(.seq (.cond (.t 20) .skip (.exit 2))
(.seq (.block 3 (sR [iI 21 1 17 19, iL 22 21, iM 8 22]
(cutS (.reg [iC 23 8, iP 24 .lss 23 0, iC 25 24, j0 26 (.cp (.t 8)) 25 false, j0 27 (.cp (.t 0)) 25 false, j0 28 (.len (.t 27)) 25 false, j0 29 (.bin .geq (.t 26) (.t 28)) 25 false, i0 30 (.pick (.t 25) (.c (.sc (.bool true))) (.t 29)), iC 31 30, j0 32 (.cp (.t 0)) 31 false, j0 33 (.cp (.t 8)) 31 false, j0 34 (.iad 1 (.t 32) (.t 33)) 31 false, jL 35 34 31 false, j0 36 (.un .not (.t 35)) 31 false, i0 37 (.pick (.t 31) (.c (.sc (.bool true))) (.t 36))])
(.cond (.t 37) (sR [iB 4 false]
.ret) .skip))))
(.reg [iP 38 .add 19 1, iC 19 38])))))))))
(.reg [iP 39 .add 14 1, iC 14 39])))))))
(sR [iB 4 true]
.ret)))
def f10g : Gi := ⟨[(9, [3]), (11, [3])]⟩
def f10r : List RV := [.tmp 4]
def f10 : FI := ⟨f10c, f10g, f10r⟩
theorem chk10 : chkF Tryd.prog Tryd.f10 f10 = true := by kernel_rfl
def w_alRe_J4 : Option Bool :=
  some true
def w_alRe_J3 (L1 : Int → Option Bool) (t14v : Int) : Option Bool :=
  L1 (w64 (t14v + 1))
def w_alRe_J2 (L2 : Int → Option Bool) (t19v : Int) (t37v : Bool) : Option Bool :=
  if t37v then
    some false
  else
  L2 (w64 (t19v + 1))
def w_alRe_L2 (L1 : Int → Option Bool) (l : List Int) (reads : List Bool) (t14v : Int) (L2 : Int → Option Bool) (t19v : Int) : Option Bool :=
  if decide (t19v < (l.length : Int)) then
    (gt l t19v).bind fun x =>
    if decide (x < 0) then
      w_alRe_J2 L2 t19v true
    else
    if decide (x ≥ (reads.length : Int)) then
      w_alRe_J2 L2 t19v true
    else
    (gt reads x).bind fun x_1 =>
    w_alRe_J2 L2 t19v (!x_1)
  else
  w_alRe_J3 L1 t14v
def w_alRe_L2r (L1 : Int → Option Bool) (l : List Int) (reads : List Bool) (t14v : Int) : Nat → Int → Option Bool
  | 0, _ => none
  | n + 1, t19v => w_alRe_L2 L1 l reads t14v (w_alRe_L2r L1 l reads t14v n) t19v
def w_alRe_J1 (L1 : Int → Option Bool) (reads : List Bool) (t14v : Int) (l : List Int) : Option Bool :=
  w_alRe_L2r L1 l reads t14v big 0
def w_alRe_L1 (ev : SEvent) (reads : List Bool) (L1 : Int → Option Bool) (t14v : Int) : Option Bool :=
  if decide (t14v < 2) then
    if t14v == 0 then
      w_alRe_J1 L1 reads t14v ev.Deps
    else
    if t14v == 1 then
      w_alRe_J1 L1 reads t14v ev.From
    else
    none
  else
  w_alRe_J4
def w_alRe_L1r (ev : SEvent) (reads : List Bool) : Nat → Int → Option Bool
  | 0, _ => none
  | n + 1, t14v => w_alRe_L1 ev reads (w_alRe_L1r ev reads n) t14v
def w_alRe (reads : List Bool) (ev : SEvent) : Option Bool :=
  w_alRe_L1r ev reads big 0
theorem w_alRe_ok {reads : List Bool} {ev : SEvent} {r : Bool} (h : w_alRe reads ev = some r) : Says Tryd.prog 10 [.sl false 1 (reads.map eB), .agg (eEvent ev)] (sb r) := by
 refine says_of mix Tryd.func10 chk10 (of_decide_eq_true (by kernel_rfl)) rfl ?_
 simp only [f10, f10c, f10g, f10r]
 try simp +decide only [go_sem]
 refine cutH (fun τ => (True) ∧ w_alRe_J4 = some r) fun M4 m4 => ⟨?_, ?_⟩
 · try simp +decide only [go_sem]
   refine loopH (fun n τ => ∃ t14v : Int, (τ 0 = .sl false 1 (reads.map eB) ∧ τ 13 = .agg [.sl false 1 (ev.Deps.map eI), .sl false 1 (ev.From.map eI)] ∧ τ 14 = si t14v) ∧ w_alRe_L1r ev reads n t14v = some r) ⟨0, ?_, h⟩ fun n1 τ1 N1 => ?_
   · simp +decide only [go_sem]
   rintro ⟨t14v, s1, h⟩ k1
   cases n1 with
   | zero => exact no_none h
   | succ n1 =>
    rw [w_alRe_L1r] at h; generalize q1 : w_alRe_L1r ev reads n1 = L1 at h
    try simp +decide only [go_sem, s1]
    refine cI h (fun e1 h => ?_) fun e1 h => ?_
    · try simp +decide only [go_sem, s1, e1]
      refine cutH (fun τ => (τ 0 = .sl false 1 (reads.map eB) ∧ τ 13 = .agg [.sl false 1 (ev.Deps.map eI), .sl false 1 (ev.From.map eI)] ∧ τ 14 = si t14v) ∧ w_alRe_J3 L1 t14v = some r) fun M3 m3 => ⟨?_, ?_⟩
      · try simp +decide only [go_sem, s1, e1]
        refine cutH (fun τ => ∃ l : List Int, (τ 0 = .sl false 1 (reads.map eB) ∧ τ 6 = .sl false 1 (l.map eI) ∧ τ 13 = .agg [.sl false 1 (ev.Deps.map eI), .sl false 1 (ev.From.map eI)] ∧ τ 14 = si t14v) ∧ w_alRe_J1 L1 reads t14v l = some r) fun M1 m1 => ⟨?_, ?_⟩
        · rcases acase2 h with ⟨e2, h⟩ | ⟨e2, h⟩
          · obtain rfl := e2
            try simp +decide only [go_sem, s1, e1]
            refine m1 _ ⟨ev.Deps, ?_, h⟩
            simp +decide only [go_sem, s1, e1]
          · obtain rfl := e2
            try simp +decide only [go_sem, s1, e1]
            refine m1 _ ⟨ev.From, ?_, h⟩
            simp +decide only [go_sem, s1, e1]
        rintro τ1 ⟨l, s1, h⟩
        try simp +decide only [go_sem, s1]
        refine loopH (fun n τ => ∃ t19v : Int, (τ 0 = .sl false 1 (reads.map eB) ∧ τ 13 = .agg [.sl false 1 (ev.Deps.map eI), .sl false 1 (ev.From.map eI)] ∧ τ 14 = si t14v ∧ τ 17 = .sl false 1 (l.map eI) ∧ τ 18 = si (l.length : Int) ∧ τ 19 = si t19v) ∧ w_alRe_L2r L1 l reads t14v n t19v = some r) ⟨0, ?_, h⟩ fun n2 τ2 N2 => ?_
        · simp +decide only [go_sem, s1]
        rintro ⟨t19v, s2, h⟩ k2
        cases n2 with
        | zero => exact no_none h
        | succ n2 =>
         rw [w_alRe_L2r] at h; generalize q2 : w_alRe_L2r L1 l reads t14v n2 = L2 at h
         try simp +decide only [go_sem, s2]
         refine cI h (fun e3 h => ?_) fun e3 h => ?_
         · obtain ⟨x, g1, h⟩ := gB h
           try simp +decide only [go_sem, s2, e3, g1]
           refine cutH (fun τ => ∃ t37v : Bool, (τ 0 = .sl false 1 (reads.map eB) ∧ τ 13 = .agg [.sl false 1 (ev.Deps.map eI), .sl false 1 (ev.From.map eI)] ∧ τ 14 = si t14v ∧ τ 17 = .sl false 1 (l.map eI) ∧ τ 18 = si (l.length : Int) ∧ τ 19 = si t19v ∧ τ 37 = sb t37v) ∧ w_alRe_J2 L2 t19v t37v = some r) fun M2 m2 => ⟨?_, ?_⟩
           · try simp +decide only [go_sem, s2, e3, g1]
             refine gI h (fun e4 h => ?_) fun e4 h => ?_
             · try simp +decide only [go_sem, s2, e3, g1, e4]
               refine m2 _ ⟨true, ?_, h⟩
               simp +decide only [go_sem, s2, e3, g1, e4]
             try simp +decide only [go_sem, s2, e3, g1, e4]
             refine gI h (fun e5 h => ?_) fun e5 h => ?_
             · try simp +decide only [go_sem, s2, e3, g1, e4, e5]
               refine m2 _ ⟨true, ?_, h⟩
               simp +decide only [go_sem, s2, e3, g1, e4, e5]
             obtain ⟨x_1, g2, h⟩ := gB h
             try simp +decide only [go_sem, s2, e3, g1, e4, e5, g2]
             refine m2 _ ⟨!x_1, ?_, h⟩
             simp +decide only [go_sem, s2, e3, g1, e4, e5, g2]
           rintro τ2 ⟨t37v, s2, h⟩
           try simp +decide only [go_sem, s2]
           refine cI h (fun e6 h => ?_) fun e6 h => ?_
           · obtain rfl := Option.some.inj h
             simp +decide only [go_sem, s2, e6]
           try simp +decide only [go_sem, s2, e6]
           refine k2 n2 (Nat.lt_succ_self _) _ ⟨w64 (t19v + 1), ?_, q2.symm ▸ h⟩
           simp +decide only [go_sem, s2, e6]
         try simp +decide only [go_sem, s2, e3]
         refine m3 _ ⟨?_, h⟩
         simp +decide only [go_sem, s2, e3]
      rintro τ3 ⟨s3, h⟩
      try simp +decide only [go_sem, s3]
      refine k1 n1 (Nat.lt_succ_self _) _ ⟨w64 (t14v + 1), ?_, q1.symm ▸ h⟩
      simp +decide only [go_sem, s3]
    try simp +decide only [go_sem, s1, e1]
    refine m4 _ ⟨?_, h⟩
    simp +decide only [go_sem, s1, e1]
 rintro τ4 ⟨_, h⟩
 obtain rfl := Option.some.inj h
 simp +decide only [go_sem]
end Go.Abs
