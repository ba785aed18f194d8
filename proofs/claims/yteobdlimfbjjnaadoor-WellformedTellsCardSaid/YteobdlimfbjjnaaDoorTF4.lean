/- Typed programs: object.ready, object.Enabled, wellformed.placed, wellformed.determined. -/
import Derived.Test.YteobdlimfbjjnaaDoorTE
import Derived.Test.YteobdlimfbjjnaaDoorTF3
import Derived.Test.YteobdlimfbjjnaaDoorTF2
set_option linter.unusedSimpArgs false
namespace Go.Abs
open Go.Proofs
set_option maxRecDepth 100000
set_option maxHeartbeats 4000000
def f43c : IC := (sR [⟨some ⟨5, [115], []⟩, .bx 6 (.t 0), none⟩, ⟨some ⟨6, [14, 23, 31, 42, 50, 63, 73, 83, 88, 94, 103, 113, 132, 146, 156, 164], []⟩, .bx 4 (.t 1), none⟩, iB 10 false]
(.seq (sR [iC 11 3]
(.block 0 (sR [iQ 13 11 6, iM 12 13]
(.cond (.t 12) (sR [iFr 14 6 0 6, iL 15 14, iC 16 4, iI 17 2 15 16, iF 18 0 17, iL 19 18, iQ 20 19 (-1), iM 10 20]
.ret) (sR [iQ 22 11 10, iM 21 22]
(.cond (.t 21) (cutS (.reg [iFr 23 6 0 6, iL 24 23, iC 25 4, iI 26 2 24 25, iF 27 0 26, iL 28 27, iQ 29 28 (-1), iC 30 29, jFr 31 6 0 6 30 true, jL 32 31 30 true, j0 33 (.cp (.t 4)) 30 true, j0 34 (.iad 2 (.t 32) (.t 33)) 30 true, jF 35 1 34 30 true, jL 36 35 30 true, j0 37 (.len (.t 36)) 30 true, j0 38 (.bin .eql (.t 37) (.c (.sc (.int .i64 0)))) 30 true, i0 39 (.pick (.t 30) (.t 38) (.c (.sc (.bool false)))), iM 10 39])
.ret) (sR [iQ 41 11 8, iM 40 41]
(.cond (.t 40) (cutS (.reg [iFr 42 6 0 6, iL 43 42, iC 44 4, iI 45 2 43 44, iF 46 0 45, iL 47 46, iQ 48 47 (-1), iC 49 48, jFr 50 6 0 6 49 true, jL 51 50 49 true, j0 52 (.cp (.t 4)) 49 true, j0 53 (.iad 2 (.t 51) (.t 52)) 49 true, jF 54 1 53 49 true, jL 55 54 49 true, j0 56 (.cp (.t 2)) 49 true, j0 57 (.call 63 [.t 55, .t 56] 0) 49 true, j0 58 (.un .not (.t 57)) 49 true, i0 59 (.pick (.t 49) (.t 58) (.c (.sc (.bool false)))), iM 10 59])
.ret) (cutS (sR [iQ 61 11 7, iM 60 61]
(.cond (.t 60) .skip (.reg [iQ 62 11 11, iM 60 62])))
(.cond (.t 60) (sR [iFr 63 6 0 6, iL 64 63, iC 65 4, iI 66 2 64 65, iF 67 0 66, iL 68 67, iC 69 2, iO 70 .eql 68 69, iM 10 70]
.ret) (sR [iQ 72 11 9, iM 71 72]
(.cond (.t 71) (sR [iFr 73 6 0 6, iL 74 73, iC 75 4, iI 76 2 74 75, iF 77 1 76, iL 78 77, iC 79 2, i0 80 (.call 63 [.t 78, .t 79] 0), iM 10 80]
.ret) (sR [iQ 82 11 12, iM 81 82]
(.cond (.t 81) (sR [iFr 83 6 1 6, iL 84 83, iQ 85 84 (-1), iM 10 85]
.ret) (sR [iQ 87 11 13, iM 86 87]
(.cond (.t 86) (sR [iFr 88 6 1 6, iL 89 88, iC 90 2, iO 91 .eql 89 90, iM 10 91]
.ret) (sR [iQ 93 11 14, iM 92 93]
(.cond (.t 92) (sR [iFr 94 6 3 6, iL 95 94, iC 96 2, iI 97 3 95 96, iF 98 2 97, iL 99 98, iN 100 99, iM 10 100]
.ret) (sR [iQ 102 11 15, iM 101 102]
(.cond (.t 101) (sR [iFr 103 6 3 6, iL 104 103, iC 105 2, iI 106 3 104 105, iF 107 2 106, iL 108 107, iM 10 108]
.ret) (cutS (sR [iQ 110 11 16, iM 109 110]
(.cond (.t 109) .skip (sR [iQ 111 11 18, iM 109 111]
(.cond (.t 109) .skip (.reg [iQ 112 11 19, iM 109 112])))))
(.cond (.t 109) (sR [iFr 113 6 0 6, iL 114 113, iFr 115 5 2 5, iL 116 115, iC 117 4, iI 118 2 116 117, iF 119 1 118, iL 120 119, iI 121 2 114 120, iF 122 0 121, iL 123 122, iC 124 2, iO 125 .eql 123 124, iM 10 125]
.ret) (sR [iQ 127 11 20, iM 126 127]
(.cond (.t 126) (cutS (.reg [iC 128 4, iC 129 2, iO 130 .neq 128 129, iC 131 130, jFr 132 6 3 6 131 true, jL 133 132 131 true, j0 134 (.cp (.t 4)) 131 true, j0 135 (.iad 3 (.t 133) (.t 134)) 131 true, jF 136 0 135 131 true, jL 137 136 131 true, j0 138 (.bin .eql (.t 137) (.c (.sc (.int .i64 0)))) 131 true, i0 139 (.pick (.t 131) (.t 138) (.c (.sc (.bool false)))), iM 10 139])
.ret) (sR [iQ 141 11 21, iM 140 141]
(.cond (.t 140) (cutS (.reg [iC 142 4, iC 143 2, iO 144 .neq 142 143, iC 145 144, jFr 146 6 3 6 145 true, jL 147 146 145 true, j0 148 (.cp (.t 4)) 145 true, j0 149 (.iad 3 (.t 147) (.t 148)) 145 true, jF 150 0 149 145 true, jL 151 150 145 true, j0 152 (.bin .eql (.t 151) (.c (.sc (.int .i64 5)))) 145 true, i0 153 (.pick (.t 145) (.t 152) (.c (.sc (.bool false)))), iM 10 153])
.ret) (sR [iQ 155 11 22, iM 154 155]
(.cond (.t 154) (sR [iFr 156 6 2 6, iL 157 156, iC 158 4, iI 159 1 157 158, iL 160 159, iN 161 160, iM 10 161]
.ret) (sR [iQ 163 11 23, iM 162 163]
(.cond (.t 162) (sR [iFr 164 6 2 6, iL 165 164, iC 166 4, iI 167 1 165 166, iL 168 167, iM 10 168]
.ret) .skip))))))))))))))))))))))))))))))
(sR [iB 10 true]
.ret)))
def f43g : Gi := ⟨[(14, [6]), (23, [6]), (31, [6]), (42, [6]), (50, [6]), (63, [6]), (73, [6]), (83, [6]), (88, [6]), (94, [6]), (103, [6]), (113, [6]), (115, [5]), (132, [6]), (146, [6]), (156, [6]), (164, [6])]⟩
def f43r : List RV := [.tmp 10]
def f43 : FI := ⟨f43c, f43g, f43r⟩
theorem chk43 : chkF Tryd.prog Tryd.f43 f43 = true := by kernel_rfl
def o_re_J1 (t10v : Bool) : Option Bool :=
  some t10v
def o_re_J2 (t10v_1 : Bool) : Option Bool :=
  some t10v_1
def o_re_J5 (t10v_2 : Bool) : Option Bool :=
  some t10v_2
def o_re_J6 (t10v_3 : Bool) : Option Bool :=
  some t10v_3
def o_re_J4 (kind : Int) (obj : Int) (s : SSync) (thread : Int) (wv : SWorld) (t109v : Bool) : Option Bool :=
  if t109v then
    (gt wv.Conds obj).bind fun x_7 =>
    (gt s.Locks x_7.Mutex).bind fun x_8 =>
    some (x_8.Owner == thread)
  else
  if kind == 20 then
    if obj != thread then
      (gt s.Threads obj).bind fun x_9 =>
      o_re_J5 (x_9.Status == 0)
    else
    o_re_J5 false
  else
  if kind == 21 then
    if obj != thread then
      (gt s.Threads obj).bind fun x_10 =>
      o_re_J6 (x_10.Status == 5)
    else
    o_re_J6 false
  else
  if kind == 22 then
    (gt s.Done obj).bind fun x_11 =>
    some (!x_11)
  else
  if kind == 23 then
    (gt s.Done obj).bind fun x_12 =>
    some x_12
  else
  some true
def o_re_J3 (kind : Int) (obj : Int) (s : SSync) (thread : Int) (wv : SWorld) (t60v : Bool) : Option Bool :=
  if t60v then
    (gt s.Locks obj).bind fun x_3 =>
    some (x_3.Owner == thread)
  else
  if kind == 9 then
    (gt s.Locks obj).bind fun x_4 =>
    (s_Co x_4.Readers thread).bind fun v_1 =>
    some v_1
  else
  if kind == 12 then
    some (s.Tx == (-1))
  else
  if kind == 13 then
    some (s.Tx == thread)
  else
  if kind == 14 then
    (gt s.Threads thread).bind fun x_5 =>
    some (!x_5.Atomic)
  else
  if kind == 15 then
    (gt s.Threads thread).bind fun x_6 =>
    some x_6.Atomic
  else
  if kind == 16 then
    o_re_J4 kind obj s thread wv (kind == 16)
  else
  if kind == 18 then
    o_re_J4 kind obj s thread wv (kind == 18)
  else
  o_re_J4 kind obj s thread wv (kind == 19)
def o_re (wv : SWorld) (s : SSync) (thread : Int) (kind : Int) (obj : Int) : Option Bool :=
  if kind == 6 then
    (gt s.Locks obj).bind fun x =>
    some (x.Owner == (-1))
  else
  if kind == 10 then
    (gt s.Locks obj).bind fun x_1 =>
    if x_1.Owner == (-1) then
      o_re_J1 ((x_1.Readers.length : Int) == 0)
    else
    o_re_J1 false
  else
  if kind == 8 then
    (gt s.Locks obj).bind fun x_2 =>
    if x_2.Owner == (-1) then
      (s_Co x_2.Readers thread).bind fun v =>
      o_re_J2 (!v)
    else
    o_re_J2 false
  else
  if kind == 7 then
    o_re_J3 kind obj s thread wv (kind == 7)
  else
  o_re_J3 kind obj s thread wv (kind == 11)
theorem o_re_ok {wv : SWorld} {s : SSync} {thread : Int} {kind : Int} {obj : Int} {r : Bool} (h : o_re wv s thread kind obj = some r) : Says Tryd.prog 43 [.agg (eWorld wv), .agg (eSync s), si thread, si kind, si obj] (sb r) := by
 refine says_of mix Tryd.func43 chk43 (of_decide_eq_true (by kernel_rfl)) rfl ?_
 simp only [f43, f43c, f43g, f43r]
 try simp +decide only [go_sem]
 refine cI h (fun e1 h => ?_) fun e1 h => ?_
 · obtain ⟨x, g1, h⟩ := gB h
   obtain rfl := Option.some.inj h
   simp +decide only [go_sem, e1, g1]
 try simp +decide only [go_sem, e1]
 refine cI h (fun e2 h => ?_) fun e2 h => ?_
 · try simp +decide only [go_sem, e1, e2]
   refine cutH (fun τ => ∃ t10v : Bool, (τ 10 = sb t10v) ∧ o_re_J1 t10v = some r) fun M1 m1 => ⟨?_, ?_⟩
   · obtain ⟨x_1, g2, h⟩ := gB h
     try simp +decide only [go_sem, e1, e2, g2]
     refine gI h (fun e3 h => ?_) fun e3 h => ?_
     · try simp +decide only [go_sem, e1, e2, g2, e3]
       refine m1 _ ⟨(x_1.Readers.length : Int) == 0, ?_, h⟩
       simp +decide only [go_sem, e1, e2, g2, e3]
     try simp +decide only [go_sem, e1, e2, g2, e3]
     refine m1 _ ⟨false, ?_, h⟩
     simp +decide only [go_sem, e1, e2, g2, e3]
   rintro τ1 ⟨t10v, s1, h⟩
   obtain rfl := Option.some.inj h
   simp +decide only [go_sem, s1]
 try simp +decide only [go_sem, e1, e2]
 refine cI h (fun e4 h => ?_) fun e4 h => ?_
 · try simp +decide only [go_sem, e1, e2, e4]
   refine cutH (fun τ => ∃ t10v_1 : Bool, (τ 10 = sb t10v_1) ∧ o_re_J2 t10v_1 = some r) fun M2 m2 => ⟨?_, ?_⟩
   · obtain ⟨x_2, g3, h⟩ := gB h
     try simp +decide only [go_sem, e1, e2, e4, g3]
     refine gI h (fun e5 h => ?_) fun e5 h => ?_
     · obtain ⟨v, g4, h⟩ := bS h
       try simp +decide only [go_sem, e1, e2, e4, g3, e5]
       refine ⟨_, s_Co_ok g4, ?_⟩
       try simp +decide only [go_sem, e1, e2, e4, g3, e5]
       refine m2 _ ⟨!v, ?_, h⟩
       simp +decide only [go_sem, e1, e2, e4, g3, e5]
     try simp +decide only [go_sem, e1, e2, e4, g3, e5]
     refine m2 _ ⟨false, ?_, h⟩
     simp +decide only [go_sem, e1, e2, e4, g3, e5]
   rintro τ2 ⟨t10v_1, s2, h⟩
   obtain rfl := Option.some.inj h
   simp +decide only [go_sem, s2]
 try simp +decide only [go_sem, e1, e2, e4]
 refine cutH (fun τ => ∃ t60v : Bool, (τ 2 = si thread ∧ τ 4 = si obj ∧ τ 5 = bA 6 (eWorld wv) ∧ τ 6 = bA 4 (eSync s) ∧ τ 11 = si kind ∧ τ 60 = sb t60v) ∧ o_re_J3 kind obj s thread wv t60v = some r) fun M3 m3 => ⟨?_, ?_⟩
 · try simp +decide only [go_sem, e1, e2, e4]
   refine cI h (fun e6 h => ?_) fun e6 h => ?_
   · try simp +decide only [go_sem, e1, e2, e4, e6]
     refine m3 _ ⟨kind == 7, ?_, h⟩
     simp +decide only [go_sem, e1, e2, e4, e6]
   try simp +decide only [go_sem, e1, e2, e4, e6]
   refine m3 _ ⟨kind == 11, ?_, h⟩
   simp +decide only [go_sem, e1, e2, e4, e6]
 rintro τ3 ⟨t60v, s3, h⟩
 try simp +decide only [go_sem, s3]
 refine cI h (fun e7 h => ?_) fun e7 h => ?_
 · obtain ⟨x_3, g5, h⟩ := gB h
   obtain rfl := Option.some.inj h
   simp +decide only [go_sem, s3, e7, g5]
 try simp +decide only [go_sem, s3, e7]
 refine cI h (fun e8 h => ?_) fun e8 h => ?_
 · obtain ⟨x_4, g6, h⟩ := gB h
   obtain ⟨v_1, g7, h⟩ := bS h
   try simp +decide only [go_sem, s3, e7, e8, g6]
   refine ⟨_, s_Co_ok g7, ?_⟩
   obtain rfl := Option.some.inj h
   simp +decide only [go_sem, s3, e7, e8, g6]
 try simp +decide only [go_sem, s3, e7, e8]
 refine cI h (fun e9 h => ?_) fun e9 h => ?_
 · obtain rfl := Option.some.inj h
   simp +decide only [go_sem, s3, e7, e8, e9]
 try simp +decide only [go_sem, s3, e7, e8, e9]
 refine cI h (fun e10 h => ?_) fun e10 h => ?_
 · obtain rfl := Option.some.inj h
   simp +decide only [go_sem, s3, e7, e8, e9, e10]
 try simp +decide only [go_sem, s3, e7, e8, e9, e10]
 refine cI h (fun e11 h => ?_) fun e11 h => ?_
 · obtain ⟨x_5, g8, h⟩ := gB h
   obtain rfl := Option.some.inj h
   simp +decide only [go_sem, s3, e7, e8, e9, e10, e11, g8]
 try simp +decide only [go_sem, s3, e7, e8, e9, e10, e11]
 refine cI h (fun e12 h => ?_) fun e12 h => ?_
 · obtain ⟨x_6, g9, h⟩ := gB h
   obtain rfl := Option.some.inj h
   simp +decide only [go_sem, s3, e7, e8, e9, e10, e11, e12, g9]
 try simp +decide only [go_sem, s3, e7, e8, e9, e10, e11, e12]
 refine cutH (fun τ => ∃ t109v : Bool, (τ 2 = si thread ∧ τ 4 = si obj ∧ τ 5 = bA 6 (eWorld wv) ∧ τ 6 = bA 4 (eSync s) ∧ τ 11 = si kind ∧ τ 109 = sb t109v) ∧ o_re_J4 kind obj s thread wv t109v = some r) fun M4 m4 => ⟨?_, ?_⟩
 · try simp +decide only [go_sem, s3, e7, e8, e9, e10, e11, e12]
   refine cI h (fun e13 h => ?_) fun e13 h => ?_
   · try simp +decide only [go_sem, s3, e7, e8, e9, e10, e11, e12, e13]
     refine m4 _ ⟨kind == 16, ?_, h⟩
     simp +decide only [go_sem, s3, e7, e8, e9, e10, e11, e12, e13]
   try simp +decide only [go_sem, s3, e7, e8, e9, e10, e11, e12, e13]
   refine cI h (fun e14 h => ?_) fun e14 h => ?_
   · try simp +decide only [go_sem, s3, e7, e8, e9, e10, e11, e12, e13, e14]
     refine m4 _ ⟨kind == 18, ?_, h⟩
     simp +decide only [go_sem, s3, e7, e8, e9, e10, e11, e12, e13, e14]
   try simp +decide only [go_sem, s3, e7, e8, e9, e10, e11, e12, e13, e14]
   refine m4 _ ⟨kind == 19, ?_, h⟩
   simp +decide only [go_sem, s3, e7, e8, e9, e10, e11, e12, e13, e14]
 rintro τ4 ⟨t109v, s4, h⟩
 try simp +decide only [go_sem, s4]
 refine cI h (fun e15 h => ?_) fun e15 h => ?_
 · obtain ⟨x_7, g10, h⟩ := gB h
   obtain ⟨x_8, g11, h⟩ := gB h
   obtain rfl := Option.some.inj h
   simp +decide only [go_sem, s4, e15, g10, g11]
 try simp +decide only [go_sem, s4, e15]
 refine cI h (fun e16 h => ?_) fun e16 h => ?_
 · try simp +decide only [go_sem, s4, e15, e16]
   refine cutH (fun τ => ∃ t10v_2 : Bool, (τ 10 = sb t10v_2) ∧ o_re_J5 t10v_2 = some r) fun M5 m5 => ⟨?_, ?_⟩
   · try simp +decide only [go_sem, s4, e15, e16]
     refine gI h (fun e17 h => ?_) fun e17 h => ?_
     · obtain ⟨x_9, g12, h⟩ := gB h
       try simp +decide only [go_sem, s4, e15, e16, e17, g12]
       refine m5 _ ⟨x_9.Status == 0, ?_, h⟩
       simp +decide only [go_sem, s4, e15, e16, e17, g12]
     try simp +decide only [go_sem, s4, e15, e16, e17]
     refine m5 _ ⟨false, ?_, h⟩
     simp +decide only [go_sem, s4, e15, e16, e17]
   rintro τ5 ⟨t10v_2, s5, h⟩
   obtain rfl := Option.some.inj h
   simp +decide only [go_sem, s5]
 try simp +decide only [go_sem, s4, e15, e16]
 refine cI h (fun e18 h => ?_) fun e18 h => ?_
 · try simp +decide only [go_sem, s4, e15, e16, e18]
   refine cutH (fun τ => ∃ t10v_3 : Bool, (τ 10 = sb t10v_3) ∧ o_re_J6 t10v_3 = some r) fun M6 m6 => ⟨?_, ?_⟩
   · try simp +decide only [go_sem, s4, e15, e16, e18]
     refine gI h (fun e19 h => ?_) fun e19 h => ?_
     · obtain ⟨x_10, g13, h⟩ := gB h
       try simp +decide only [go_sem, s4, e15, e16, e18, e19, g13]
       refine m6 _ ⟨x_10.Status == 5, ?_, h⟩
       simp +decide only [go_sem, s4, e15, e16, e18, e19, g13]
     try simp +decide only [go_sem, s4, e15, e16, e18, e19]
     refine m6 _ ⟨false, ?_, h⟩
     simp +decide only [go_sem, s4, e15, e16, e18, e19]
   rintro τ6 ⟨t10v_3, s6, h⟩
   obtain rfl := Option.some.inj h
   simp +decide only [go_sem, s6]
 try simp +decide only [go_sem, s4, e15, e16, e18]
 refine cI h (fun e20 h => ?_) fun e20 h => ?_
 · obtain ⟨x_11, g14, h⟩ := gB h
   obtain rfl := Option.some.inj h
   simp +decide only [go_sem, s4, e15, e16, e18, e20, g14]
 try simp +decide only [go_sem, s4, e15, e16, e18, e20]
 refine cI h (fun e21 h => ?_) fun e21 h => ?_
 · obtain ⟨x_12, g15, h⟩ := gB h
   obtain rfl := Option.some.inj h
   simp +decide only [go_sem, s4, e15, e16, e18, e20, e21, g15]
 obtain rfl := Option.some.inj h
 simp +decide only [go_sem, s4, e15, e16, e18, e20, e21]
def f21c : IC := (sR [⟨some ⟨5, [18, 56], []⟩, .bx 6 (.t 0), none⟩, ⟨some ⟨6, [31, 54], []⟩, .bx 4 (.t 1), none⟩, iB 10 false]
(.seq (cutS (.reg [i0 12 (.ld true 6 (.t 5)), i0 13 (.ld true 4 (.t 6)), i0 14 (.call 40 [.t 12, .t 13] 0), iN 15 14, iC 16 15, j0 17 (.cp (.t 2)) 16 false, jFr 18 5 4 5 16 false, jL 19 18 16 false, j0 20 (.len (.t 19)) 16 false, j0 21 (.call 41 [.t 17, .t 20] 0) 16 false, j0 22 (.un .not (.t 21)) 16 false, i0 23 (.pick (.t 16) (.c (.sc (.bool true))) (.t 22)), iC 24 23, j0 25 (.ld true 6 (.t 5)) 24 false, j0 26 (.cp (.t 3)) 24 false, j0 27 (.cp (.t 4)) 24 false, j0 28 (.call 42 [.t 25, .t 26, .t 27] 0) 24 false, j0 29 (.un .not (.t 28)) 24 false, i0 30 (.pick (.t 24) (.c (.sc (.bool true))) (.t 29))])
(.cond (.t 30) (sR [iB 10 false]
.ret) .skip))
(sR [iFr 31 6 3 6, iL 32 31, iC 33 2, iI 34 3 32 33, i0 35 (.ld true 3 (.t 34)), ⟨some ⟨11, [39, 44, 48, 67], []⟩, .bx 3 (.c (.agg [.sc (.int .i64 0), .sc (.int .i64 0), .sc (.bool false)])), none⟩, iS 3 11 35]
(.seq (sR [iC 36 3]
(.block 0 (sR [iQ 38 36 1, iM 37 38]
(.cond (.t 37) (sR [iFr 39 11 0 11, iL 40 39, iQ 41 40 1, iM 10 41]
.ret) (sR [iQ 43 36 17, iM 42 43]
(.cond (.t 42) (cutS (.reg [iFr 44 11 0 11, iL 45 44, iQ 46 45 4, iC 47 46, jFr 48 11 1 11 47 true, jL 49 48 47 true, j0 50 (.cp (.t 4)) 47 true, j0 51 (.bin .eql (.t 49) (.t 50)) 47 true, i0 52 (.pick (.t 47) (.t 51) (.c (.sc (.bool false)))), iC 53 52, jFr 54 6 0 6 53 true, jL 55 54 53 true, jFr 56 5 2 5 53 true, jL 57 56 53 true, j0 58 (.cp (.t 4)) 53 true, j0 59 (.iad 2 (.t 57) (.t 58)) 53 true, jF 60 1 59 53 true, jL 61 60 53 true, j0 62 (.iad 2 (.t 55) (.t 61)) 53 true, jF 63 0 62 53 true, jL 64 63 53 true, j0 65 (.bin .eql (.t 64) (.c (.sc (.int .i64 (-1))))) 53 true, i0 66 (.pick (.t 53) (.t 65) (.c (.sc (.bool false)))), iM 10 66])
.ret) .skip))))))
(cutS (.reg [iFr 67 11 0 11, iL 68 67, iQ 69 68 2, iC 70 69, j0 71 (.ld true 6 (.t 5)) 70 true, j0 72 (.ld true 4 (.t 6)) 70 true, j0 73 (.cp (.t 2)) 70 true, j0 74 (.cp (.t 3)) 70 true, j0 75 (.cp (.t 4)) 70 true, j0 76 (.call 43 [.t 71, .t 72, .t 73, .t 74, .t 75] 0) 70 true, i0 77 (.pick (.t 70) (.t 76) (.c (.sc (.bool false)))), iM 10 77])
.ret)))))
def f21g : Gi := ⟨[(18, [5]), (31, [6]), (39, [11]), (44, [11]), (48, [11]), (54, [6]), (56, [5]), (67, [11])]⟩
def f21r : List RV := [.tmp 10]
def f21 : FI := ⟨f21c, f21g, f21r⟩
theorem chk21 : chkF Tryd.prog Tryd.f21 f21 = true := by kernel_rfl
def o_En_J2 (t10v : Bool) : Option Bool :=
  some t10v
def o_En_J3 (t10v_1 : Bool) : Option Bool :=
  some t10v_1
def o_En_J1 (kind : Int) (obj : Int) (s : SSync) (thread : Int) (wv : SWorld) (t30v : Bool) : Option Bool :=
  if t30v then
    some false
  else
  (gt s.Threads thread).bind fun x =>
  if kind == 1 then
    some (x.Status == 1)
  else
  if kind == 17 then
    if x.Status == 4 then
      if x.Cond == obj then
        (gt wv.Conds obj).bind fun x_1 =>
        (gt s.Locks x_1.Mutex).bind fun x_2 =>
        o_En_J2 (x_2.Owner == (-1))
      else
      o_En_J2 false
    else
    o_En_J2 false
  else
  if x.Status == 2 then
    (o_re wv s thread kind obj).bind fun v_3 =>
    o_En_J3 v_3
  else
  o_En_J3 false
def o_En (wv : SWorld) (s : SSync) (thread : Int) (kind : Int) (obj : Int) : Option Bool :=
  (o_Fi wv s).bind fun v =>
  if !v then
    o_En_J1 kind obj s thread wv true
  else
  (o_wi thread (wv.Threads.length : Int)).bind fun v_1 =>
  if !v_1 then
    o_En_J1 kind obj s thread wv true
  else
  (o_al wv kind obj).bind fun v_2 =>
  o_En_J1 kind obj s thread wv (!v_2)
theorem o_En_ok {wv : SWorld} {s : SSync} {thread : Int} {kind : Int} {obj : Int} {r : Bool} (h : o_En wv s thread kind obj = some r) : Says Tryd.prog 21 [.agg (eWorld wv), .agg (eSync s), si thread, si kind, si obj] (sb r) := by
 refine says_of mix Tryd.func21 chk21 (of_decide_eq_true (by kernel_rfl)) rfl ?_
 simp only [f21, f21c, f21g, f21r]
 try simp +decide only [go_sem]
 refine cutH (fun τ => ∃ t30v : Bool, (τ 2 = si thread ∧ τ 3 = si kind ∧ τ 4 = si obj ∧ τ 5 = bA 6 (eWorld wv) ∧ τ 6 = bA 4 (eSync s) ∧ τ 30 = sb t30v) ∧ o_En_J1 kind obj s thread wv t30v = some r) fun M1 m1 => ⟨?_, ?_⟩
 · obtain ⟨v, g1, h⟩ := bS h
   try simp +decide only [go_sem]
   refine ⟨_, o_Fi_ok g1, ?_⟩
   try simp +decide only [go_sem]
   refine gI h (fun e1 h => ?_) fun e1 h => ?_
   · try simp +decide only [go_sem, e1]
     refine m1 _ ⟨true, ?_, h⟩
     simp +decide only [go_sem, e1]
   obtain ⟨v_1, g2, h⟩ := bS h
   try simp +decide only [go_sem, e1]
   refine ⟨_, o_wi_ok g2, ?_⟩
   try simp +decide only [go_sem, e1]
   refine gI h (fun e2 h => ?_) fun e2 h => ?_
   · try simp +decide only [go_sem, e1, e2]
     refine m1 _ ⟨true, ?_, h⟩
     simp +decide only [go_sem, e1, e2]
   obtain ⟨v_2, g3, h⟩ := bS h
   try simp +decide only [go_sem, e1, e2]
   refine ⟨_, o_al_ok g3, ?_⟩
   try simp +decide only [go_sem, e1, e2]
   refine m1 _ ⟨!v_2, ?_, h⟩
   simp +decide only [go_sem, e1, e2]
 rintro τ1 ⟨t30v, s1, h⟩
 try simp +decide only [go_sem, s1]
 refine cI h (fun e3 h => ?_) fun e3 h => ?_
 · obtain rfl := Option.some.inj h
   simp +decide only [go_sem, s1, e3]
 obtain ⟨x, g4, h⟩ := gB h
 try simp +decide only [go_sem, s1, e3, g4]
 refine cI h (fun e4 h => ?_) fun e4 h => ?_
 · obtain rfl := Option.some.inj h
   simp +decide only [go_sem, s1, e3, g4, e4]
 try simp +decide only [go_sem, s1, e3, g4, e4]
 refine cI h (fun e5 h => ?_) fun e5 h => ?_
 · try simp +decide only [go_sem, s1, e3, g4, e4, e5]
   refine cutH (fun τ => ∃ t10v : Bool, (τ 10 = sb t10v) ∧ o_En_J2 t10v = some r) fun M2 m2 => ⟨?_, ?_⟩
   · try simp +decide only [go_sem, s1, e3, g4, e4, e5]
     refine gI h (fun e6 h => ?_) fun e6 h => ?_
     · try simp +decide only [go_sem, s1, e3, g4, e4, e5, e6]
       refine gI h (fun e7 h => ?_) fun e7 h => ?_
       · obtain ⟨x_1, g5, h⟩ := gB h
         obtain ⟨x_2, g6, h⟩ := gB h
         try simp +decide only [go_sem, s1, e3, g4, e4, e5, e6, e7, g5, g6]
         refine m2 _ ⟨x_2.Owner == (-1), ?_, h⟩
         simp +decide only [go_sem, s1, e3, g4, e4, e5, e6, e7, g5, g6]
       try simp +decide only [go_sem, s1, e3, g4, e4, e5, e6, e7]
       refine m2 _ ⟨false, ?_, h⟩
       simp +decide only [go_sem, s1, e3, g4, e4, e5, e6, e7]
     try simp +decide only [go_sem, s1, e3, g4, e4, e5, e6]
     refine m2 _ ⟨false, ?_, h⟩
     simp +decide only [go_sem, s1, e3, g4, e4, e5, e6]
   rintro τ2 ⟨t10v, s2, h⟩
   obtain rfl := Option.some.inj h
   simp +decide only [go_sem, s2]
 try simp +decide only [go_sem, s1, e3, g4, e4, e5]
 refine cutH (fun τ => ∃ t10v_1 : Bool, (τ 10 = sb t10v_1) ∧ o_En_J3 t10v_1 = some r) fun M3 m3 => ⟨?_, ?_⟩
 · try simp +decide only [go_sem, s1, e3, g4, e4, e5]
   refine gI h (fun e8 h => ?_) fun e8 h => ?_
   · obtain ⟨v_3, g7, h⟩ := bS h
     try simp +decide only [go_sem, s1, e3, g4, e4, e5, e8]
     refine ⟨_, o_re_ok g7, ?_⟩
     try simp +decide only [go_sem, s1, e3, g4, e4, e5, e8]
     refine m3 _ ⟨v_3, ?_, h⟩
     simp +decide only [go_sem, s1, e3, g4, e4, e5, e8]
   try simp +decide only [go_sem, s1, e3, g4, e4, e5, e8]
   refine m3 _ ⟨false, ?_, h⟩
   simp +decide only [go_sem, s1, e3, g4, e4, e5, e8]
 rintro τ3 ⟨t10v_1, s3, h⟩
 obtain rfl := Option.some.inj h
 simp +decide only [go_sem, s3]
def f22c : IC := (sR [⟨some ⟨2, [22, 28], []⟩, .bx 6 (.t 0), none⟩, ⟨some ⟨3, [5, 9, 13, 16, 20, 30, 35], []⟩, .bx 7 (.t 1), none⟩, iB 4 false]
(.seq (cutS (.reg [iFr 5 3 1 3, iL 6 5, iQ 7 6 1, iC 8 7, jFr 9 3 1 3 8 false, jL 10 9 8 false, j0 11 (.bin .eql (.t 10) (.c (.sc (.int .i64 2)))) 8 false, i0 12 (.pick (.t 8) (.c (.sc (.bool true))) (.t 11))])
(.cond (.t 12) (sR [iFr 13 3 4 3, iL 14 13, iQ 15 14 (-1), iM 4 15]
.ret) .skip))
(cutS (.reg [iFr 16 3 4 3, iL 17 16, iP 18 .geq 17 0, iC 19 18, jFr 20 3 4 3 19 true, jL 21 20 19 true, jFr 22 2 5 2 19 true, jL 23 22 19 true, j0 24 (.len (.t 23)) 19 true, j0 25 (.bin .lss (.t 21) (.t 24)) 19 true, i0 26 (.pick (.t 19) (.t 25) (.c (.sc (.bool false)))), iC 27 26, jFr 28 2 5 2 27 true, jL 29 28 27 true, jFr 30 3 4 3 27 true, jL 31 30 27 true, j0 32 (.iad 3 (.t 29) (.t 31)) 27 true, jF 33 0 32 27 true, jL 34 33 27 true, jFr 35 3 0 3 27 true, jL 36 35 27 true, j0 37 (.bin .eql (.t 34) (.t 36)) 27 true, i0 38 (.pick (.t 27) (.t 37) (.c (.sc (.bool false)))), iM 4 38])
.ret)))
def f22g : Gi := ⟨[(5, [3]), (9, [3]), (13, [3]), (16, [3]), (20, [3]), (22, [2]), (28, [2]), (30, [3]), (35, [3])]⟩
def f22r : List RV := [.tmp 4]
def f22 : FI := ⟨f22c, f22g, f22r⟩
theorem chk22 : chkF Tryd.prog Tryd.f22 f22 = true := by kernel_rfl
def w_pl_J2 (t4v : Bool) : Option Bool :=
  some t4v
def w_pl_J1 (ev : SEvent) (wv : SWorld) (t12v : Bool) : Option Bool :=
  if t12v then
    some (ev.Site == (-1))
  else
  if decide (ev.Site ≥ 0) then
    if decide (ev.Site < (wv.Sites.length : Int)) then
      (gt wv.Sites ev.Site).bind fun x =>
      w_pl_J2 (x.Thread == ev.Thread)
    else
    w_pl_J2 false
  else
  w_pl_J2 false
def w_pl (wv : SWorld) (ev : SEvent) : Option Bool :=
  if ev.Kind == 1 then
    w_pl_J1 ev wv true
  else
  w_pl_J1 ev wv (ev.Kind == 2)
theorem w_pl_ok {wv : SWorld} {ev : SEvent} {r : Bool} (h : w_pl wv ev = some r) : Says Tryd.prog 22 [.agg (eWorld wv), .agg (eEvent ev)] (sb r) := by
 refine says_of mix Tryd.func22 chk22 (of_decide_eq_true (by kernel_rfl)) rfl ?_
 simp only [f22, f22c, f22g, f22r]
 try simp +decide only [go_sem]
 refine cutH (fun τ => ∃ t12v : Bool, (τ 2 = bA 6 (eWorld wv) ∧ τ 3 = bA 7 (eEvent ev) ∧ τ 12 = sb t12v) ∧ w_pl_J1 ev wv t12v = some r) fun M1 m1 => ⟨?_, ?_⟩
 · try simp +decide only [go_sem]
   refine gI h (fun e1 h => ?_) fun e1 h => ?_
   · try simp +decide only [go_sem, e1]
     refine m1 _ ⟨true, ?_, h⟩
     simp +decide only [go_sem, e1]
   try simp +decide only [go_sem, e1]
   refine m1 _ ⟨ev.Kind == 2, ?_, h⟩
   simp +decide only [go_sem, e1]
 rintro τ1 ⟨t12v, s1, h⟩
 try simp +decide only [go_sem, s1]
 refine cI h (fun e2 h => ?_) fun e2 h => ?_
 · obtain rfl := Option.some.inj h
   simp +decide only [go_sem, s1, e2]
 try simp +decide only [go_sem, s1, e2]
 refine cutH (fun τ => ∃ t4v : Bool, (τ 4 = sb t4v) ∧ w_pl_J2 t4v = some r) fun M2 m2 => ⟨?_, ?_⟩
 · try simp +decide only [go_sem, s1, e2]
   refine gI h (fun e3 h => ?_) fun e3 h => ?_
   · try simp +decide only [go_sem, s1, e2, e3]
     refine gI h (fun e4 h => ?_) fun e4 h => ?_
     · obtain ⟨x, g1, h⟩ := gB h
       try simp +decide only [go_sem, s1, e2, e3, e4, g1]
       refine m2 _ ⟨x.Thread == ev.Thread, ?_, h⟩
       simp +decide only [go_sem, s1, e2, e3, e4, g1]
     try simp +decide only [go_sem, s1, e2, e3, e4]
     refine m2 _ ⟨false, ?_, h⟩
     simp +decide only [go_sem, s1, e2, e3, e4]
   try simp +decide only [go_sem, s1, e2, e3]
   refine m2 _ ⟨false, ?_, h⟩
   simp +decide only [go_sem, s1, e2, e3]
 rintro τ2 ⟨t4v, s2, h⟩
 obtain rfl := Option.some.inj h
 simp +decide only [go_sem, s2]
def f23c : IC := (sR [⟨some ⟨3, [23], []⟩, .bx 6 (.t 0), none⟩, ⟨some ⟨4, [76], []⟩, .bx 7 (.t 1), none⟩, ⟨some ⟨5, [14, 18, 25, 32, 38, 42, 47, 49, 78], []⟩, .bx 7 (.t 2), none⟩, iB 6 false]
(cutS (.reg [iFr 14 5 1 5, iL 15 14, iQ 16 15 3, iC 17 16, jFr 18 5 1 5 17 false, jL 19 18 17 false, j0 20 (.bin .eql (.t 19) (.c (.sc (.int .i64 4)))) 17 false, i0 21 (.pick (.t 17) (.c (.sc (.bool true))) (.t 20)), iC 22 21, jFr 23 3 0 3 22 true, jL 24 23 22 true, jFr 25 5 2 5 22 true, jL 26 25 22 true, j0 27 (.iad 5 (.t 24) (.t 26)) 22 true, jF 28 2 27 22 true, jL 29 28 22 true, j0 30 (.bin .neq (.t 29) (.c (.sc (.int .i64 0)))) 22 true, i0 31 (.pick (.t 22) (.t 30) (.c (.sc (.bool false)))), iM 7 31])
(cutS (.reg [iFr 32 5 1 5, iL 33 32, iQ 34 33 5, iC 35 34, j0 36 (.cp (.t 7)) 35 false, i0 37 (.pick (.t 35) (.c (.sc (.bool true))) (.t 36)), iFr 38 5 1 5, iL 39 38, iQ 40 39 4, iC 41 40, jFr 42 5 1 5 41 false, jL 43 42 41 false, j0 44 (.bin .eql (.t 43) (.c (.sc (.int .i64 22)))) 41 false, i0 45 (.pick (.t 41) (.c (.sc (.bool true))) (.t 44)), i0 46 (.bld [.sc (.bool false), .sc (.bool false)] [(0, 1, .t 37), (1, 1, .t 45)]), ⟨some ⟨8, [61], []⟩, .bx 2 (.c (.agg [.sc (.bool false), .sc (.bool false)])), none⟩, iS 2 8 46])
(cutS (sR [iFr 47 5 5 5, iL 48 47, iFr 49 5 6 5, iL 50 49, i0 51 (.bld [.own false 1 [], .own false 1 []] [(0, 1, .t 48), (1, 1, .t 50)]), i0 52 (.cp (.c (.sc (.int .i64 0))))]
(.block 0 (.loop (sR [iP 53 .lss 52 2]
(.seq (.cond (.t 53) .skip (.exit 0))
(cutS (.block 1 (cutS (.reg [iC 54 52, i0 55 (.idx false 2 1 (.t 51) (.t 52)), iM 9 54, iM 10 55])
(.seq (cutS (.reg [iC 56 10, i0 57 (.len (.t 56)), iP 58 .gtr 57 0, iC 59 58, j0 60 (.cp (.t 9)) 59 true, j1 61 8 (.aad 2 1 (.t 8) (.t 60)) 59 true, jL 62 61 59 true, j0 63 (.un .not (.t 62)) 59 true, i0 64 (.pick (.t 59) (.t 63) (.c (.sc (.bool false))))])
(.cond (.t 64) (sR [iB 6 false]
.ret) .skip))
(sR [iK 11 0]
(sR [iC 65 10, i0 66 (.len (.t 65)), i0 67 (.cp (.c (.sc (.int .i64 0))))]
(.block 2 (.loop (sR [iO 68 .lss 67 66]
(.seq (.cond (.t 68) .skip (.exit 2))
(.seq (.block 3 (sR [iI 69 1 65 67, iL 70 69, iM 13 70]
(.seq (cutS (.reg [iC 71 13, iC 72 11, iO 73 .leq 71 72, iC 74 73, j0 75 (.cp (.t 13)) 74 false, jFr 76 4 6 4 74 false, jL 77 76 74 false, jFr 78 5 0 5 74 false, jL 79 78 74 false, j0 80 (.iad 1 (.t 77) (.t 79)) 74 false, jL 81 80 74 false, j0 82 (.bin .geq (.t 75) (.t 81)) 74 false, i0 83 (.pick (.t 74) (.c (.sc (.bool true))) (.t 82))])
(.cond (.t 83) (sR [iB 6 false]
.ret) .skip))
(.reg [iC 84 13, iM 11 84]))))
(.reg [iP 85 .add 67 1, iC 67 85])))))))))))
(.reg [iP 86 .add 52 1, iC 52 86])))))))
(sR [iB 6 true]
.ret)))))
def f23g : Gi := ⟨[(14, [5]), (18, [5]), (23, [3]), (25, [5]), (32, [5]), (38, [5]), (42, [5]), (47, [5]), (49, [5]), (61, [8]), (76, [4]), (78, [5])]⟩
def f23r : List RV := [.tmp 6]
def f23 : FI := ⟨f23c, f23g, f23r⟩
theorem chk23 : chkF Tryd.prog Tryd.f23 f23 = true := by kernel_rfl
def w_de_J7 : Option Bool :=
  some true
def w_de_J6 (L1 : Int → Option Bool) (t52v : Int) : Option Bool :=
  L1 (w64 (t52v + 1))
def w_de_J5 (L2 : Int → Int → Option Bool) (t67v : Int) (x_2 : Int) (t83v : Bool) : Option Bool :=
  if t83v then
    some false
  else
  L2 x_2 (w64 (t67v + 1))
def w_de_L2 (L1 : Int → Option Bool) (ev : SEvent) (l : List Int) (s : SSnapshot) (t52v : Int) (L2 : Int → Int → Option Bool) (last : Int) (t67v : Int) : Option Bool :=
  if decide (t67v < (l.length : Int)) then
    (gt l t67v).bind fun x_2 =>
    if decide (x_2 ≤ last) then
      w_de_J5 L2 t67v x_2 true
    else
    (gt s.Count ev.Thread).bind fun x_3 =>
    w_de_J5 L2 t67v x_2 (decide (x_2 ≥ x_3))
  else
  w_de_J6 L1 t52v
def w_de_L2r (L1 : Int → Option Bool) (ev : SEvent) (l : List Int) (s : SSnapshot) (t52v : Int) : Nat → Int → Int → Option Bool
  | 0, _, _ => none
  | n + 1, last, t67v => w_de_L2 L1 ev l s t52v (w_de_L2r L1 ev l s t52v n) last t67v
def w_de_J4 (L1 : Int → Option Bool) (ev : SEvent) (l : List Int) (s : SSnapshot) (t52v : Int) (t64v : Bool) : Option Bool :=
  if t64v then
    some false
  else
  w_de_L2r L1 ev l s t52v big 0 0
def w_de_J3 (L1 : Int → Option Bool) (allowed : Bool) (allowed_1 : Bool) (ev : SEvent) (s : SSnapshot) (t52v : Int) (l : List Int) : Option Bool :=
  if decide ((l.length : Int) > 0) then
    if t52v == 0 then
      w_de_J4 L1 ev l s t52v (!allowed)
    else
    if t52v == 1 then
      w_de_J4 L1 ev l s t52v (!allowed_1)
    else
    none
  else
  w_de_J4 L1 ev l s t52v false
def w_de_L1 (allowed : Bool) (allowed_1 : Bool) (ev : SEvent) (s : SSnapshot) (L1 : Int → Option Bool) (t52v : Int) : Option Bool :=
  if decide (t52v < 2) then
    if t52v == 0 then
      w_de_J3 L1 allowed allowed_1 ev s t52v ev.Deps
    else
    if t52v == 1 then
      w_de_J3 L1 allowed allowed_1 ev s t52v ev.From
    else
    none
  else
  w_de_J7
def w_de_L1r (allowed : Bool) (allowed_1 : Bool) (ev : SEvent) (s : SSnapshot) : Nat → Int → Option Bool
  | 0, _ => none
  | n + 1, t52v => w_de_L1 allowed allowed_1 ev s (w_de_L1r allowed allowed_1 ev s n) t52v
def w_de_J2 (ev : SEvent) (s : SSnapshot) (allowed : Bool) (allowed_1 : Bool) : Option Bool :=
  w_de_L1r allowed allowed_1 ev s big 0
def w_de_J1 (ev : SEvent) (s : SSnapshot) (element : Bool) : Option Bool :=
  if ev.Kind == 5 then
    if ev.Kind == 4 then
      w_de_J2 ev s true true
    else
    w_de_J2 ev s true (ev.Kind == 22)
  else
  if ev.Kind == 4 then
    w_de_J2 ev s element true
  else
  w_de_J2 ev s element (ev.Kind == 22)
def w_de (wv : SWorld) (s : SSnapshot) (ev : SEvent) : Option Bool :=
  if ev.Kind == 3 then
    (gt wv.Cells ev.Obj).bind fun x =>
    w_de_J1 ev s (x.Size != 0)
  else
  if ev.Kind == 4 then
    (gt wv.Cells ev.Obj).bind fun x_1 =>
    w_de_J1 ev s (x_1.Size != 0)
  else
  w_de_J1 ev s false
theorem w_de_ok {wv : SWorld} {s : SSnapshot} {ev : SEvent} {r : Bool} (h : w_de wv s ev = some r) : Says Tryd.prog 23 [.agg (eWorld wv), .agg (eSnapshot s), .agg (eEvent ev)] (sb r) := by
 refine says_of mix Tryd.func23 chk23 (of_decide_eq_true (by kernel_rfl)) rfl ?_
 simp only [f23, f23c, f23g, f23r]
 try simp +decide only [go_sem]
 refine cutH (fun τ => ∃ element : Bool, (τ 4 = bA 7 (eSnapshot s) ∧ τ 5 = bA 7 (eEvent ev) ∧ τ 7 = sb element) ∧ w_de_J1 ev s element = some r) fun M1 m1 => ⟨?_, ?_⟩
 · try simp +decide only [go_sem]
   refine gI h (fun e1 h => ?_) fun e1 h => ?_
   · obtain ⟨x, g1, h⟩ := gB h
     try simp +decide only [go_sem, e1, g1]
     refine m1 _ ⟨x.Size != 0, ?_, h⟩
     simp +decide only [go_sem, e1, g1]
   try simp +decide only [go_sem, e1]
   refine gI h (fun e2 h => ?_) fun e2 h => ?_
   · obtain ⟨x_1, g2, h⟩ := gB h
     try simp +decide only [go_sem, e1, e2, g2]
     refine m1 _ ⟨x_1.Size != 0, ?_, h⟩
     simp +decide only [go_sem, e1, e2, g2]
   try simp +decide only [go_sem, e1, e2]
   refine m1 _ ⟨false, ?_, h⟩
   simp +decide only [go_sem, e1, e2]
 rintro τ1 ⟨element, s1, h⟩
 try simp +decide only [go_sem, s1]
 refine cutH (fun τ => ∃ allowed : Bool, ∃ allowed_1 : Bool, (τ 4 = bA 7 (eSnapshot s) ∧ τ 5 = bA 7 (eEvent ev) ∧ τ 8 = bA 2 [sb allowed, sb allowed_1]) ∧ w_de_J2 ev s allowed allowed_1 = some r) fun M2 m2 => ⟨?_, ?_⟩
 · try simp +decide only [go_sem, s1]
   refine gI h (fun e3 h => ?_) fun e3 h => ?_
   · try simp +decide only [go_sem, s1, e3]
     refine gI h (fun e4 h => ?_) fun e4 h => ?_
     · try simp +decide only [go_sem, s1, e3, e4]
       refine m2 _ ⟨true, true, ?_, h⟩
       simp +decide only [go_sem, s1, e3, e4]
     try simp +decide only [go_sem, s1, e3, e4]
     refine m2 _ ⟨true, ev.Kind == 22, ?_, h⟩
     simp +decide only [go_sem, s1, e3, e4]
   try simp +decide only [go_sem, s1, e3]
   refine gI h (fun e5 h => ?_) fun e5 h => ?_
   · try simp +decide only [go_sem, s1, e3, e5]
     refine m2 _ ⟨element, true, ?_, h⟩
     simp +decide only [go_sem, s1, e3, e5]
   try simp +decide only [go_sem, s1, e3, e5]
   refine m2 _ ⟨element, ev.Kind == 22, ?_, h⟩
   simp +decide only [go_sem, s1, e3, e5]
 rintro τ2 ⟨allowed, allowed_1, s2, h⟩
 try simp +decide only [go_sem, s2]
 refine cutH (fun τ => (True) ∧ w_de_J7 = some r) fun M7 m7 => ⟨?_, ?_⟩
 · try simp +decide only [go_sem, s2]
   refine loopH (fun n τ => ∃ t52v : Int, (τ 4 = bA 7 (eSnapshot s) ∧ τ 5 = bA 7 (eEvent ev) ∧ τ 8 = bA 2 [sb allowed, sb allowed_1] ∧ τ 51 = .agg [.sl false 1 (ev.Deps.map eI), .sl false 1 (ev.From.map eI)] ∧ τ 52 = si t52v) ∧ w_de_L1r allowed allowed_1 ev s n t52v = some r) ⟨0, ?_, h⟩ fun n1 τ1 N1 => ?_
   · simp +decide only [go_sem, s2]
   rintro ⟨t52v, s1, h⟩ k1
   cases n1 with
   | zero => exact no_none h
   | succ n1 =>
    rw [w_de_L1r] at h; generalize q1 : w_de_L1r allowed allowed_1 ev s n1 = L1 at h
    try simp +decide only [go_sem, s1]
    refine cI h (fun e6 h => ?_) fun e6 h => ?_
    · try simp +decide only [go_sem, s1, e6]
      refine cutH (fun τ => (τ 4 = bA 7 (eSnapshot s) ∧ τ 5 = bA 7 (eEvent ev) ∧ τ 8 = bA 2 [sb allowed, sb allowed_1] ∧ τ 51 = .agg [.sl false 1 (ev.Deps.map eI), .sl false 1 (ev.From.map eI)] ∧ τ 52 = si t52v) ∧ w_de_J6 L1 t52v = some r) fun M6 m6 => ⟨?_, ?_⟩
      · try simp +decide only [go_sem, s1, e6]
        refine cutH (fun τ => ∃ l : List Int, (τ 4 = bA 7 (eSnapshot s) ∧ τ 5 = bA 7 (eEvent ev) ∧ τ 8 = bA 2 [sb allowed, sb allowed_1] ∧ τ 9 = si t52v ∧ τ 10 = .sl false 1 (l.map eI) ∧ τ 51 = .agg [.sl false 1 (ev.Deps.map eI), .sl false 1 (ev.From.map eI)] ∧ τ 52 = si t52v) ∧ w_de_J3 L1 allowed allowed_1 ev s t52v l = some r) fun M3 m3 => ⟨?_, ?_⟩
        · rcases acase2 h with ⟨e7, h⟩ | ⟨e7, h⟩
          · obtain rfl := e7
            try simp +decide only [go_sem, s1, e6]
            refine m3 _ ⟨ev.Deps, ?_, h⟩
            simp +decide only [go_sem, s1, e6]
          · obtain rfl := e7
            try simp +decide only [go_sem, s1, e6]
            refine m3 _ ⟨ev.From, ?_, h⟩
            simp +decide only [go_sem, s1, e6]
        rintro τ3 ⟨l, s3, h⟩
        try simp +decide only [go_sem, s3]
        refine cutH (fun τ => ∃ t64v : Bool, (τ 4 = bA 7 (eSnapshot s) ∧ τ 5 = bA 7 (eEvent ev) ∧ τ 8 = bA 2 [sb allowed, sb allowed_1] ∧ τ 10 = .sl false 1 (l.map eI) ∧ τ 51 = .agg [.sl false 1 (ev.Deps.map eI), .sl false 1 (ev.From.map eI)] ∧ τ 52 = si t52v ∧ τ 64 = sb t64v) ∧ w_de_J4 L1 ev l s t52v t64v = some r) fun M4 m4 => ⟨?_, ?_⟩
        · try simp +decide only [go_sem, s3]
          refine gI h (fun e8 h => ?_) fun e8 h => ?_
          · rcases acase2 h with ⟨e9, h⟩ | ⟨e9, h⟩
            · obtain rfl := e9
              try simp +decide only [go_sem, s3, e8]
              refine m4 _ ⟨!allowed, ?_, h⟩
              simp +decide only [go_sem, s3, e8]
            · obtain rfl := e9
              try simp +decide only [go_sem, s3, e8]
              refine m4 _ ⟨!allowed_1, ?_, h⟩
              simp +decide only [go_sem, s3, e8]
          try simp +decide only [go_sem, s3, e8]
          refine m4 _ ⟨false, ?_, h⟩
          simp +decide only [go_sem, s3, e8]
        rintro τ4 ⟨t64v, s4, h⟩
        try simp +decide only [go_sem, s4]
        refine cI h (fun e10 h => ?_) fun e10 h => ?_
        · obtain rfl := Option.some.inj h
          simp +decide only [go_sem, s4, e10]
        try simp +decide only [go_sem, s4, e10]
        refine loopH (fun n τ => ∃ last : Int, ∃ t67v : Int, (τ 4 = bA 7 (eSnapshot s) ∧ τ 5 = bA 7 (eEvent ev) ∧ τ 8 = bA 2 [sb allowed, sb allowed_1] ∧ τ 11 = si last ∧ τ 51 = .agg [.sl false 1 (ev.Deps.map eI), .sl false 1 (ev.From.map eI)] ∧ τ 52 = si t52v ∧ τ 65 = .sl false 1 (l.map eI) ∧ τ 66 = si (l.length : Int) ∧ τ 67 = si t67v) ∧ w_de_L2r L1 ev l s t52v n last t67v = some r) ⟨0, 0, ?_, h⟩ fun n2 τ2 N2 => ?_
        · simp +decide only [go_sem, s4, e10]
        rintro ⟨last, t67v, s2, h⟩ k2
        cases n2 with
        | zero => exact no_none h
        | succ n2 =>
         rw [w_de_L2r] at h; generalize q2 : w_de_L2r L1 ev l s t52v n2 = L2 at h
         try simp +decide only [go_sem, s2]
         refine cI h (fun e11 h => ?_) fun e11 h => ?_
         · obtain ⟨x_2, g3, h⟩ := gB h
           try simp +decide only [go_sem, s2, e11, g3]
           refine cutH (fun τ => ∃ t83v : Bool, (τ 4 = bA 7 (eSnapshot s) ∧ τ 5 = bA 7 (eEvent ev) ∧ τ 8 = bA 2 [sb allowed, sb allowed_1] ∧ τ 13 = si x_2 ∧ τ 51 = .agg [.sl false 1 (ev.Deps.map eI), .sl false 1 (ev.From.map eI)] ∧ τ 52 = si t52v ∧ τ 65 = .sl false 1 (l.map eI) ∧ τ 66 = si (l.length : Int) ∧ τ 67 = si t67v ∧ τ 83 = sb t83v) ∧ w_de_J5 L2 t67v x_2 t83v = some r) fun M5 m5 => ⟨?_, ?_⟩
           · try simp +decide only [go_sem, s2, e11, g3]
             refine gI h (fun e12 h => ?_) fun e12 h => ?_
             · try simp +decide only [go_sem, s2, e11, g3, e12]
               refine m5 _ ⟨true, ?_, h⟩
               simp +decide only [go_sem, s2, e11, g3, e12]
             obtain ⟨x_3, g4, h⟩ := gB h
             try simp +decide only [go_sem, s2, e11, g3, e12, g4]
             refine m5 _ ⟨decide (x_2 ≥ x_3), ?_, h⟩
             simp +decide only [go_sem, s2, e11, g3, e12, g4]
           rintro τ5 ⟨t83v, s5, h⟩
           try simp +decide only [go_sem, s5]
           refine cI h (fun e13 h => ?_) fun e13 h => ?_
           · obtain rfl := Option.some.inj h
             simp +decide only [go_sem, s5, e13]
           try simp +decide only [go_sem, s5, e13]
           refine k2 n2 (Nat.lt_succ_self _) _ ⟨x_2, w64 (t67v + 1), ?_, q2.symm ▸ h⟩
           simp +decide only [go_sem, s5, e13]
         try simp +decide only [go_sem, s2, e11]
         refine m6 _ ⟨?_, h⟩
         simp +decide only [go_sem, s2, e11]
      rintro τ6 ⟨s6, h⟩
      try simp +decide only [go_sem, s6]
      refine k1 n1 (Nat.lt_succ_self _) _ ⟨w64 (t52v + 1), ?_, q1.symm ▸ h⟩
      simp +decide only [go_sem, s6]
    try simp +decide only [go_sem, s1, e6]
    refine m7 _ ⟨?_, h⟩
    simp +decide only [go_sem, s1, e6]
 rintro τ7 ⟨_, h⟩
 obtain rfl := Option.some.inj h
 simp +decide only [go_sem]
end Go.Abs
