/- Typed programs: interleaveref08.named, interleaveref07.Has, interleaveref08.Enabled, interleaveref16.numbers. -/
import Derived.Test.YteobdlimfbjjnaaDoorTE
import Derived.Test.YteobdlimfbjjnaaDoorTF11
set_option linter.unusedSimpArgs false
namespace Go.Abs
open Go.Proofs
set_option maxRecDepth 100000
set_option maxHeartbeats 4000000
def f56c : IC := (sR [⟨some ⟨3, [22, 30, 35, 49, 54, 67, 75, 83], []⟩, .bx 6 (.t 0), none⟩, iB 6 false]
(.seq (sR [iC 7 1]
(.block 0 (cutS (sR [iQ 9 7 1, iM 8 9]
(.cond (.t 8) .skip (sR [iQ 10 7 2, iM 8 10]
(.cond (.t 8) .skip (sR [iQ 11 7 5, iM 8 11]
(.cond (.t 8) .skip (sR [iQ 12 7 12, iM 8 12]
(.cond (.t 8) .skip (sR [iQ 13 7 13, iM 8 13]
(.cond (.t 8) .skip (sR [iQ 14 7 14, iM 8 14]
(.cond (.t 8) .skip (.reg [iQ 15 7 15, iM 8 15])))))))))))))
(.cond (.t 8) (sR [iC 16 2, iQ 17 16 (-1), iM 6 17]
.ret) (cutS (sR [iQ 19 7 3, iM 18 19]
(.cond (.t 18) .skip (.reg [iQ 20 7 4, iM 18 20])))
(.cond (.t 18) (sR [iC 21 2, iFr 22 3 0 3, iL 23 22, i0 24 (.len (.t 23)), i0 25 (.call 55 [.t 21, .t 24] 0), iM 6 25]
.ret) (cutS (sR [iQ 27 7 6, iM 26 27]
(.cond (.t 26) .skip (.reg [iQ 28 7 7, iM 26 28])))
(.cond (.t 26) (cutS (.reg [iC 29 2, iFr 30 3 1 3, iL 31 30, i0 32 (.len (.t 31)), i0 33 (.call 55 [.t 29, .t 32] 0), iC 34 33, jFr 35 3 1 3 34 true, jL 36 35 34 true, j0 37 (.cp (.t 2)) 34 true, j0 38 (.iad 2 (.t 36) (.t 37)) 34 true, jF 39 1 38 34 true, jL 40 39 34 true, j0 41 (.un .not (.t 40)) 34 true, i0 42 (.pick (.t 34) (.t 41) (.c (.sc (.bool false)))), iM 6 42])
.ret) (cutS (sR [iQ 44 7 8, iM 43 44]
(.cond (.t 43) .skip (sR [iQ 45 7 9, iM 43 45]
(.cond (.t 43) .skip (sR [iQ 46 7 10, iM 43 46]
(.cond (.t 43) .skip (.reg [iQ 47 7 11, iM 43 47])))))))
(.cond (.t 43) (cutS (.reg [iC 48 2, iFr 49 3 1 3, iL 50 49, i0 51 (.len (.t 50)), i0 52 (.call 55 [.t 48, .t 51] 0), iC 53 52, jFr 54 3 1 3 53 true, jL 55 54 53 true, j0 56 (.cp (.t 2)) 53 true, j0 57 (.iad 2 (.t 55) (.t 56)) 53 true, jF 58 1 57 53 true, jL 59 58 53 true, i0 60 (.pick (.t 53) (.t 59) (.c (.sc (.bool false)))), iM 6 60])
.ret) (cutS (sR [iQ 62 7 16, iM 61 62]
(.cond (.t 61) .skip (sR [iQ 63 7 17, iM 61 63]
(.cond (.t 61) .skip (sR [iQ 64 7 18, iM 61 64]
(.cond (.t 61) .skip (.reg [iQ 65 7 19, iM 61 65])))))))
(.cond (.t 61) (sR [iC 66 2, iFr 67 3 2 3, iL 68 67, i0 69 (.len (.t 68)), i0 70 (.call 55 [.t 66, .t 69] 0), iM 6 70]
.ret) (cutS (sR [iQ 72 7 20, iM 71 72]
(.cond (.t 71) .skip (.reg [iQ 73 7 21, iM 71 73])))
(.cond (.t 71) (sR [iC 74 2, iFr 75 3 4 3, iL 76 75, i0 77 (.len (.t 76)), i0 78 (.call 55 [.t 74, .t 77] 0), iM 6 78]
.ret) (cutS (sR [iQ 80 7 22, iM 79 80]
(.cond (.t 79) .skip (.reg [iQ 81 7 23, iM 79 81])))
(.cond (.t 79) (sR [iC 82 2, iFr 83 3 3 3, iL 84 83, i0 85 (.len (.t 84)), i0 86 (.call 55 [.t 82, .t 85] 0), iM 6 86]
.ret) .skip))))))))))))))))
(sR [iB 6 false]
.ret)))
def f56g : Gi := ⟨[(22, [3]), (30, [3]), (35, [3]), (49, [3]), (54, [3]), (67, [3]), (75, [3]), (83, [3])]⟩
def f56r : List RV := [.tmp 6]
def f56 : FI := ⟨f56c, f56g, f56r⟩
theorem chk56 : chkF Tryd.prog Tryd.f56 f56 = true := by kernel_rfl
def r08_na_J4 (t6v : Bool) : Option Bool :=
  some t6v
def r08_na_J6 (t6v_1 : Bool) : Option Bool :=
  some t6v_1
def r08_na_J9 (obj : Int) (wv : SWorld) (t79v : Bool) : Option Bool :=
  if t79v then
    (r08_in obj (wv.Futures.length : Int)).bind fun v_5 =>
    some v_5
  else
  some false
def r08_na_J8 (kind : Int) (obj : Int) (wv : SWorld) (t71v : Bool) : Option Bool :=
  if t71v then
    (r08_in obj (wv.Threads.length : Int)).bind fun v_4 =>
    some v_4
  else
  if kind == 22 then
    r08_na_J9 obj wv (kind == 22)
  else
  r08_na_J9 obj wv (kind == 23)
def r08_na_J7 (kind : Int) (obj : Int) (wv : SWorld) (t61v : Bool) : Option Bool :=
  if t61v then
    (r08_in obj (wv.Conds.length : Int)).bind fun v_3 =>
    some v_3
  else
  if kind == 20 then
    r08_na_J8 kind obj wv (kind == 20)
  else
  r08_na_J8 kind obj wv (kind == 21)
def r08_na_J5 (kind : Int) (obj : Int) (wv : SWorld) (t43v : Bool) : Option Bool :=
  if t43v then
    (r08_in obj (wv.Locks.length : Int)).bind fun v_2 =>
    if v_2 then
      (gt wv.Locks obj).bind fun x_1 =>
      r08_na_J6 x_1.RW
    else
    r08_na_J6 false
  else
  if kind == 16 then
    r08_na_J7 kind obj wv (kind == 16)
  else
  if kind == 17 then
    r08_na_J7 kind obj wv (kind == 17)
  else
  if kind == 18 then
    r08_na_J7 kind obj wv (kind == 18)
  else
  r08_na_J7 kind obj wv (kind == 19)
def r08_na_J3 (kind : Int) (obj : Int) (wv : SWorld) (t26v : Bool) : Option Bool :=
  if t26v then
    (r08_in obj (wv.Locks.length : Int)).bind fun v_1 =>
    if v_1 then
      (gt wv.Locks obj).bind fun x =>
      r08_na_J4 (!x.RW)
    else
    r08_na_J4 false
  else
  if kind == 8 then
    r08_na_J5 kind obj wv (kind == 8)
  else
  if kind == 9 then
    r08_na_J5 kind obj wv (kind == 9)
  else
  if kind == 10 then
    r08_na_J5 kind obj wv (kind == 10)
  else
  r08_na_J5 kind obj wv (kind == 11)
def r08_na_J2 (kind : Int) (obj : Int) (wv : SWorld) (t18v : Bool) : Option Bool :=
  if t18v then
    (r08_in obj (wv.Cells.length : Int)).bind fun v =>
    some v
  else
  if kind == 6 then
    r08_na_J3 kind obj wv (kind == 6)
  else
  r08_na_J3 kind obj wv (kind == 7)
def r08_na_J1 (kind : Int) (obj : Int) (wv : SWorld) (t8v : Bool) : Option Bool :=
  if t8v then
    some (obj == (-1))
  else
  if kind == 3 then
    r08_na_J2 kind obj wv (kind == 3)
  else
  r08_na_J2 kind obj wv (kind == 4)
def r08_na (wv : SWorld) (kind : Int) (obj : Int) : Option Bool :=
  if kind == 1 then
    r08_na_J1 kind obj wv (kind == 1)
  else
  if kind == 2 then
    r08_na_J1 kind obj wv (kind == 2)
  else
  if kind == 5 then
    r08_na_J1 kind obj wv (kind == 5)
  else
  if kind == 12 then
    r08_na_J1 kind obj wv (kind == 12)
  else
  if kind == 13 then
    r08_na_J1 kind obj wv (kind == 13)
  else
  if kind == 14 then
    r08_na_J1 kind obj wv (kind == 14)
  else
  r08_na_J1 kind obj wv (kind == 15)
theorem r08_na_ok {wv : SWorld} {kind : Int} {obj : Int} {r : Bool} (h : r08_na wv kind obj = some r) : Says Tryd.prog 56 [.agg (eWorld wv), si kind, si obj] (sb r) := by
 refine says_of mix Tryd.func56 chk56 (of_decide_eq_true (by kernel_rfl)) rfl ?_
 simp only [f56, f56c, f56g, f56r]
 try simp +decide only [go_sem]
 refine cutH (fun τ => ∃ t8v : Bool, (τ 2 = si obj ∧ τ 3 = bA 6 (eWorld wv) ∧ τ 7 = si kind ∧ τ 8 = sb t8v) ∧ r08_na_J1 kind obj wv t8v = some r) fun M1 m1 => ⟨?_, ?_⟩
 · try simp +decide only [go_sem]
   refine cI h (fun e1 h => ?_) fun e1 h => ?_
   · try simp +decide only [go_sem, e1]
     refine m1 _ ⟨kind == 1, ?_, h⟩
     simp +decide only [go_sem, e1]
   try simp +decide only [go_sem, e1]
   refine cI h (fun e2 h => ?_) fun e2 h => ?_
   · try simp +decide only [go_sem, e1, e2]
     refine m1 _ ⟨kind == 2, ?_, h⟩
     simp +decide only [go_sem, e1, e2]
   try simp +decide only [go_sem, e1, e2]
   refine cI h (fun e3 h => ?_) fun e3 h => ?_
   · try simp +decide only [go_sem, e1, e2, e3]
     refine m1 _ ⟨kind == 5, ?_, h⟩
     simp +decide only [go_sem, e1, e2, e3]
   try simp +decide only [go_sem, e1, e2, e3]
   refine cI h (fun e4 h => ?_) fun e4 h => ?_
   · try simp +decide only [go_sem, e1, e2, e3, e4]
     refine m1 _ ⟨kind == 12, ?_, h⟩
     simp +decide only [go_sem, e1, e2, e3, e4]
   try simp +decide only [go_sem, e1, e2, e3, e4]
   refine cI h (fun e5 h => ?_) fun e5 h => ?_
   · try simp +decide only [go_sem, e1, e2, e3, e4, e5]
     refine m1 _ ⟨kind == 13, ?_, h⟩
     simp +decide only [go_sem, e1, e2, e3, e4, e5]
   try simp +decide only [go_sem, e1, e2, e3, e4, e5]
   refine cI h (fun e6 h => ?_) fun e6 h => ?_
   · try simp +decide only [go_sem, e1, e2, e3, e4, e5, e6]
     refine m1 _ ⟨kind == 14, ?_, h⟩
     simp +decide only [go_sem, e1, e2, e3, e4, e5, e6]
   try simp +decide only [go_sem, e1, e2, e3, e4, e5, e6]
   refine m1 _ ⟨kind == 15, ?_, h⟩
   simp +decide only [go_sem, e1, e2, e3, e4, e5, e6]
 rintro τ1 ⟨t8v, s1, h⟩
 try simp +decide only [go_sem, s1]
 refine cI h (fun e7 h => ?_) fun e7 h => ?_
 · obtain rfl := Option.some.inj h
   simp +decide only [go_sem, s1, e7]
 try simp +decide only [go_sem, s1, e7]
 refine cutH (fun τ => ∃ t18v : Bool, (τ 2 = si obj ∧ τ 3 = bA 6 (eWorld wv) ∧ τ 7 = si kind ∧ τ 18 = sb t18v) ∧ r08_na_J2 kind obj wv t18v = some r) fun M2 m2 => ⟨?_, ?_⟩
 · try simp +decide only [go_sem, s1, e7]
   refine cI h (fun e8 h => ?_) fun e8 h => ?_
   · try simp +decide only [go_sem, s1, e7, e8]
     refine m2 _ ⟨kind == 3, ?_, h⟩
     simp +decide only [go_sem, s1, e7, e8]
   try simp +decide only [go_sem, s1, e7, e8]
   refine m2 _ ⟨kind == 4, ?_, h⟩
   simp +decide only [go_sem, s1, e7, e8]
 rintro τ2 ⟨t18v, s2, h⟩
 try simp +decide only [go_sem, s2]
 refine cI h (fun e9 h => ?_) fun e9 h => ?_
 · obtain ⟨v, g1, h⟩ := bS h
   try simp +decide only [go_sem, s2, e9]
   refine ⟨_, r08_in_ok g1, ?_⟩
   obtain rfl := Option.some.inj h
   simp +decide only [go_sem, s2, e9]
 try simp +decide only [go_sem, s2, e9]
 refine cutH (fun τ => ∃ t26v : Bool, (τ 2 = si obj ∧ τ 3 = bA 6 (eWorld wv) ∧ τ 7 = si kind ∧ τ 26 = sb t26v) ∧ r08_na_J3 kind obj wv t26v = some r) fun M3 m3 => ⟨?_, ?_⟩
 · try simp +decide only [go_sem, s2, e9]
   refine cI h (fun e10 h => ?_) fun e10 h => ?_
   · try simp +decide only [go_sem, s2, e9, e10]
     refine m3 _ ⟨kind == 6, ?_, h⟩
     simp +decide only [go_sem, s2, e9, e10]
   try simp +decide only [go_sem, s2, e9, e10]
   refine m3 _ ⟨kind == 7, ?_, h⟩
   simp +decide only [go_sem, s2, e9, e10]
 rintro τ3 ⟨t26v, s3, h⟩
 try simp +decide only [go_sem, s3]
 refine cI h (fun e11 h => ?_) fun e11 h => ?_
 · try simp +decide only [go_sem, s3, e11]
   refine cutH (fun τ => ∃ t6v : Bool, (τ 6 = sb t6v) ∧ r08_na_J4 t6v = some r) fun M4 m4 => ⟨?_, ?_⟩
   · obtain ⟨v_1, g2, h⟩ := bS h
     try simp +decide only [go_sem, s3, e11]
     refine ⟨_, r08_in_ok g2, ?_⟩
     try simp +decide only [go_sem, s3, e11]
     refine gI h (fun e12 h => ?_) fun e12 h => ?_
     · obtain ⟨x, g3, h⟩ := gB h
       try simp +decide only [go_sem, s3, e11, e12, g3]
       refine m4 _ ⟨!x.RW, ?_, h⟩
       simp +decide only [go_sem, s3, e11, e12, g3]
     try simp +decide only [go_sem, s3, e11, e12]
     refine m4 _ ⟨false, ?_, h⟩
     simp +decide only [go_sem, s3, e11, e12]
   rintro τ4 ⟨t6v, s4, h⟩
   obtain rfl := Option.some.inj h
   simp +decide only [go_sem, s4]
 try simp +decide only [go_sem, s3, e11]
 refine cutH (fun τ => ∃ t43v : Bool, (τ 2 = si obj ∧ τ 3 = bA 6 (eWorld wv) ∧ τ 7 = si kind ∧ τ 43 = sb t43v) ∧ r08_na_J5 kind obj wv t43v = some r) fun M5 m5 => ⟨?_, ?_⟩
 · try simp +decide only [go_sem, s3, e11]
   refine cI h (fun e13 h => ?_) fun e13 h => ?_
   · try simp +decide only [go_sem, s3, e11, e13]
     refine m5 _ ⟨kind == 8, ?_, h⟩
     simp +decide only [go_sem, s3, e11, e13]
   try simp +decide only [go_sem, s3, e11, e13]
   refine cI h (fun e14 h => ?_) fun e14 h => ?_
   · try simp +decide only [go_sem, s3, e11, e13, e14]
     refine m5 _ ⟨kind == 9, ?_, h⟩
     simp +decide only [go_sem, s3, e11, e13, e14]
   try simp +decide only [go_sem, s3, e11, e13, e14]
   refine cI h (fun e15 h => ?_) fun e15 h => ?_
   · try simp +decide only [go_sem, s3, e11, e13, e14, e15]
     refine m5 _ ⟨kind == 10, ?_, h⟩
     simp +decide only [go_sem, s3, e11, e13, e14, e15]
   try simp +decide only [go_sem, s3, e11, e13, e14, e15]
   refine m5 _ ⟨kind == 11, ?_, h⟩
   simp +decide only [go_sem, s3, e11, e13, e14, e15]
 rintro τ5 ⟨t43v, s5, h⟩
 try simp +decide only [go_sem, s5]
 refine cI h (fun e16 h => ?_) fun e16 h => ?_
 · try simp +decide only [go_sem, s5, e16]
   refine cutH (fun τ => ∃ t6v_1 : Bool, (τ 6 = sb t6v_1) ∧ r08_na_J6 t6v_1 = some r) fun M6 m6 => ⟨?_, ?_⟩
   · obtain ⟨v_2, g4, h⟩ := bS h
     try simp +decide only [go_sem, s5, e16]
     refine ⟨_, r08_in_ok g4, ?_⟩
     try simp +decide only [go_sem, s5, e16]
     refine gI h (fun e17 h => ?_) fun e17 h => ?_
     · obtain ⟨x_1, g5, h⟩ := gB h
       try simp +decide only [go_sem, s5, e16, e17, g5]
       refine m6 _ ⟨x_1.RW, ?_, h⟩
       simp +decide only [go_sem, s5, e16, e17, g5]
     try simp +decide only [go_sem, s5, e16, e17]
     refine m6 _ ⟨false, ?_, h⟩
     simp +decide only [go_sem, s5, e16, e17]
   rintro τ6 ⟨t6v_1, s6, h⟩
   obtain rfl := Option.some.inj h
   simp +decide only [go_sem, s6]
 try simp +decide only [go_sem, s5, e16]
 refine cutH (fun τ => ∃ t61v : Bool, (τ 2 = si obj ∧ τ 3 = bA 6 (eWorld wv) ∧ τ 7 = si kind ∧ τ 61 = sb t61v) ∧ r08_na_J7 kind obj wv t61v = some r) fun M7 m7 => ⟨?_, ?_⟩
 · try simp +decide only [go_sem, s5, e16]
   refine cI h (fun e18 h => ?_) fun e18 h => ?_
   · try simp +decide only [go_sem, s5, e16, e18]
     refine m7 _ ⟨kind == 16, ?_, h⟩
     simp +decide only [go_sem, s5, e16, e18]
   try simp +decide only [go_sem, s5, e16, e18]
   refine cI h (fun e19 h => ?_) fun e19 h => ?_
   · try simp +decide only [go_sem, s5, e16, e18, e19]
     refine m7 _ ⟨kind == 17, ?_, h⟩
     simp +decide only [go_sem, s5, e16, e18, e19]
   try simp +decide only [go_sem, s5, e16, e18, e19]
   refine cI h (fun e20 h => ?_) fun e20 h => ?_
   · try simp +decide only [go_sem, s5, e16, e18, e19, e20]
     refine m7 _ ⟨kind == 18, ?_, h⟩
     simp +decide only [go_sem, s5, e16, e18, e19, e20]
   try simp +decide only [go_sem, s5, e16, e18, e19, e20]
   refine m7 _ ⟨kind == 19, ?_, h⟩
   simp +decide only [go_sem, s5, e16, e18, e19, e20]
 rintro τ7 ⟨t61v, s7, h⟩
 try simp +decide only [go_sem, s7]
 refine cI h (fun e21 h => ?_) fun e21 h => ?_
 · obtain ⟨v_3, g6, h⟩ := bS h
   try simp +decide only [go_sem, s7, e21]
   refine ⟨_, r08_in_ok g6, ?_⟩
   obtain rfl := Option.some.inj h
   simp +decide only [go_sem, s7, e21]
 try simp +decide only [go_sem, s7, e21]
 refine cutH (fun τ => ∃ t71v : Bool, (τ 2 = si obj ∧ τ 3 = bA 6 (eWorld wv) ∧ τ 7 = si kind ∧ τ 71 = sb t71v) ∧ r08_na_J8 kind obj wv t71v = some r) fun M8 m8 => ⟨?_, ?_⟩
 · try simp +decide only [go_sem, s7, e21]
   refine cI h (fun e22 h => ?_) fun e22 h => ?_
   · try simp +decide only [go_sem, s7, e21, e22]
     refine m8 _ ⟨kind == 20, ?_, h⟩
     simp +decide only [go_sem, s7, e21, e22]
   try simp +decide only [go_sem, s7, e21, e22]
   refine m8 _ ⟨kind == 21, ?_, h⟩
   simp +decide only [go_sem, s7, e21, e22]
 rintro τ8 ⟨t71v, s8, h⟩
 try simp +decide only [go_sem, s8]
 refine cI h (fun e23 h => ?_) fun e23 h => ?_
 · obtain ⟨v_4, g7, h⟩ := bS h
   try simp +decide only [go_sem, s8, e23]
   refine ⟨_, r08_in_ok g7, ?_⟩
   obtain rfl := Option.some.inj h
   simp +decide only [go_sem, s8, e23]
 try simp +decide only [go_sem, s8, e23]
 refine cutH (fun τ => ∃ t79v : Bool, (τ 2 = si obj ∧ τ 3 = bA 6 (eWorld wv) ∧ τ 79 = sb t79v) ∧ r08_na_J9 obj wv t79v = some r) fun M9 m9 => ⟨?_, ?_⟩
 · try simp +decide only [go_sem, s8, e23]
   refine cI h (fun e24 h => ?_) fun e24 h => ?_
   · try simp +decide only [go_sem, s8, e23, e24]
     refine m9 _ ⟨kind == 22, ?_, h⟩
     simp +decide only [go_sem, s8, e23, e24]
   try simp +decide only [go_sem, s8, e23, e24]
   refine m9 _ ⟨kind == 23, ?_, h⟩
   simp +decide only [go_sem, s8, e23, e24]
 rintro τ9 ⟨t79v, s9, h⟩
 try simp +decide only [go_sem, s9]
 refine cI h (fun e25 h => ?_) fun e25 h => ?_
 · obtain ⟨v_5, g8, h⟩ := bS h
   try simp +decide only [go_sem, s9, e25]
   refine ⟨_, r08_in_ok g8, ?_⟩
   obtain rfl := Option.some.inj h
   simp +decide only [go_sem, s9, e25]
 obtain rfl := Option.some.inj h
 simp +decide only [go_sem, s9, e25]
def f57c : IC := (sR [iB 4 false]
(cutS (sR [iK 5 0]
(.block 0 (.loop (.seq (sR [iC 6 5, iC 7 0, i0 8 (.len (.t 7)), iO 9 .lss 6 8]
(.cond (.t 9) .skip (.exit 0)))
(.seq (.block 1 (sR [iC 12 0, iC 13 5, iI 14 1 12 13, iL 15 14, iC 16 1, iO 17 .eql 15 16]
(.cond (.t 17) (sR [iB 4 true]
.ret) .skip)))
(.reg [iC 10 5, iP 11 .add 10 1, iM 5 11]))))))
(sR [iB 4 false]
.ret)))
def f57g : Gi := ⟨[]⟩
def f57r : List RV := [.tmp 4]
def f57 : FI := ⟨f57c, f57g, f57r⟩
theorem chk57 : chkF Tryd.prog Tryd.f57 f57 = true := by kernel_rfl
def r07_Ha_J1 : Option Bool :=
  some false
def r07_Ha_L1 (l : List Int) (nv : Int) (L1 : Int → Option Bool) (i : Int) : Option Bool :=
  if decide (i < (l.length : Int)) then
    (gt l i).bind fun x =>
    if x == nv then
      some true
    else
    L1 (w64 (i + 1))
  else
  r07_Ha_J1
def r07_Ha_L1r (l : List Int) (nv : Int) : Nat → Int → Option Bool
  | 0, _ => none
  | n + 1, i => r07_Ha_L1 l nv (r07_Ha_L1r l nv n) i
def r07_Ha (l : List Int) (nv : Int) : Option Bool :=
  r07_Ha_L1r l nv big 0
theorem r07_Ha_ok {l : List Int} {nv : Int} {r : Bool} (h : r07_Ha l nv = some r) : Says Tryd.prog 57 [.sl false 1 (l.map eI), si nv] (sb r) := by
 refine says_of mix Tryd.func57 chk57 (of_decide_eq_true (by kernel_rfl)) rfl ?_
 simp only [f57, f57c, f57g, f57r]
 try simp +decide only [go_sem]
 refine cutH (fun τ => (True) ∧ r07_Ha_J1 = some r) fun M1 m1 => ⟨?_, ?_⟩
 · try simp +decide only [go_sem]
   refine loopH (fun n τ => ∃ i : Int, (τ 0 = .sl false 1 (l.map eI) ∧ τ 1 = si nv ∧ τ 5 = si i) ∧ r07_Ha_L1r l nv n i = some r) ⟨0, ?_, h⟩ fun n1 τ1 N1 => ?_
   · simp +decide only [go_sem]
   rintro ⟨i, s1, h⟩ k1
   cases n1 with
   | zero => exact no_none h
   | succ n1 =>
    rw [r07_Ha_L1r] at h; generalize q1 : r07_Ha_L1r l nv n1 = L1 at h
    try simp +decide only [go_sem, s1]
    refine cI h (fun e1 h => ?_) fun e1 h => ?_
    · obtain ⟨x, g1, h⟩ := gB h
      try simp +decide only [go_sem, s1, e1, g1]
      refine cI h (fun e2 h => ?_) fun e2 h => ?_
      · obtain rfl := Option.some.inj h
        simp +decide only [go_sem, s1, e1, g1, e2]
      try simp +decide only [go_sem, s1, e1, g1, e2]
      refine k1 n1 (Nat.lt_succ_self _) _ ⟨w64 (i + 1), ?_, q1.symm ▸ h⟩
      simp +decide only [go_sem, s1, e1, g1, e2]
    try simp +decide only [go_sem, s1, e1]
    refine m1 _ ⟨?_, h⟩
    simp +decide only [go_sem, s1, e1]
 rintro τ1 ⟨_, h⟩
 obtain rfl := Option.some.inj h
 simp +decide only [go_sem]
def f34c : IC := (sR [⟨some ⟨5, [18, 56, 166], []⟩, .bx 6 (.t 0), none⟩, ⟨some ⟨6, [31, 54, 73, 82, 90, 101, 109, 122, 132, 142, 147, 164, 183, 197, 207, 215], []⟩, .bx 4 (.t 1), none⟩, iB 10 false]
(.seq (cutS (.reg [i0 12 (.ld true 6 (.t 5)), i0 13 (.ld true 4 (.t 6)), i0 14 (.call 54 [.t 12, .t 13] 0), iN 15 14, iC 16 15, j0 17 (.cp (.t 2)) 16 false, jFr 18 5 4 5 16 false, jL 19 18 16 false, j0 20 (.len (.t 19)) 16 false, j0 21 (.call 55 [.t 17, .t 20] 0) 16 false, j0 22 (.un .not (.t 21)) 16 false, i0 23 (.pick (.t 16) (.c (.sc (.bool true))) (.t 22)), iC 24 23, j0 25 (.ld true 6 (.t 5)) 24 false, j0 26 (.cp (.t 3)) 24 false, j0 27 (.cp (.t 4)) 24 false, j0 28 (.call 56 [.t 25, .t 26, .t 27] 0) 24 false, j0 29 (.un .not (.t 28)) 24 false, i0 30 (.pick (.t 24) (.c (.sc (.bool true))) (.t 29))])
(.cond (.t 30) (sR [iB 10 false]
.ret) .skip))
(sR [iFr 31 6 3 6, iL 32 31, iC 33 2, iI 34 3 32 33, i0 35 (.ld true 3 (.t 34)), ⟨some ⟨11, [39, 44, 48, 67, 153, 158], []⟩, .bx 3 (.c (.agg [.sc (.int .i64 0), .sc (.int .i64 0), .sc (.bool false)])), none⟩, iS 3 11 35]
(.seq (sR [iC 36 3]
(.block 0 (sR [iQ 38 36 1, iM 37 38]
(.cond (.t 37) (sR [iFr 39 11 0 11, iL 40 39, iQ 41 40 1, iM 10 41]
.ret) (sR [iQ 43 36 17, iM 42 43]
(.cond (.t 42) (cutS (.reg [iFr 44 11 0 11, iL 45 44, iQ 46 45 4, iC 47 46, jFr 48 11 1 11 47 true, jL 49 48 47 true, j0 50 (.cp (.t 4)) 47 true, j0 51 (.bin .eql (.t 49) (.t 50)) 47 true, i0 52 (.pick (.t 47) (.t 51) (.c (.sc (.bool false)))), iC 53 52, jFr 54 6 0 6 53 true, jL 55 54 53 true, jFr 56 5 2 5 53 true, jL 57 56 53 true, j0 58 (.cp (.t 4)) 53 true, j0 59 (.iad 2 (.t 57) (.t 58)) 53 true, jF 60 1 59 53 true, jL 61 60 53 true, j0 62 (.iad 2 (.t 55) (.t 61)) 53 true, jF 63 0 62 53 true, jL 64 63 53 true, j0 65 (.bin .eql (.t 64) (.c (.sc (.int .i64 (-1))))) 53 true, i0 66 (.pick (.t 53) (.t 65) (.c (.sc (.bool false)))), iM 10 66])
.ret) .skip))))))
(.seq (sR [iFr 67 11 0 11, iL 68 67, iP 69 .neq 68 2]
(.cond (.t 69) (sR [iB 10 false]
.ret) .skip))
(.seq (sR [iC 70 3]
(.block 1 (sR [iQ 72 70 6, iM 71 72]
(.cond (.t 71) (sR [iFr 73 6 0 6, iL 74 73, iC 75 4, iI 76 2 74 75, iF 77 0 76, iL 78 77, iQ 79 78 (-1), iM 10 79]
.ret) (sR [iQ 81 70 10, iM 80 81]
(.cond (.t 80) (cutS (.reg [iFr 82 6 0 6, iL 83 82, iC 84 4, iI 85 2 83 84, iF 86 0 85, iL 87 86, iQ 88 87 (-1), iC 89 88, jFr 90 6 0 6 89 true, jL 91 90 89 true, j0 92 (.cp (.t 4)) 89 true, j0 93 (.iad 2 (.t 91) (.t 92)) 89 true, jF 94 1 93 89 true, jL 95 94 89 true, j0 96 (.len (.t 95)) 89 true, j0 97 (.bin .eql (.t 96) (.c (.sc (.int .i64 0)))) 89 true, i0 98 (.pick (.t 89) (.t 97) (.c (.sc (.bool false)))), iM 10 98])
.ret) (sR [iQ 100 70 8, iM 99 100]
(.cond (.t 99) (cutS (.reg [iFr 101 6 0 6, iL 102 101, iC 103 4, iI 104 2 102 103, iF 105 0 104, iL 106 105, iQ 107 106 (-1), iC 108 107, jFr 109 6 0 6 108 true, jL 110 109 108 true, j0 111 (.cp (.t 4)) 108 true, j0 112 (.iad 2 (.t 110) (.t 111)) 108 true, jF 113 1 112 108 true, jL 114 113 108 true, j0 115 (.cp (.t 2)) 108 true, j0 116 (.call 57 [.t 114, .t 115] 0) 108 true, j0 117 (.un .not (.t 116)) 108 true, i0 118 (.pick (.t 108) (.t 117) (.c (.sc (.bool false)))), iM 10 118])
.ret) (cutS (sR [iQ 120 70 7, iM 119 120]
(.cond (.t 119) .skip (.reg [iQ 121 70 11, iM 119 121])))
(.cond (.t 119) (sR [iFr 122 6 0 6, iL 123 122, iC 124 4, iI 125 2 123 124, iF 126 0 125, iL 127 126, iC 128 2, iO 129 .eql 127 128, iM 10 129]
.ret) (sR [iQ 131 70 9, iM 130 131]
(.cond (.t 130) (sR [iFr 132 6 0 6, iL 133 132, iC 134 4, iI 135 2 133 134, iF 136 1 135, iL 137 136, iC 138 2, i0 139 (.call 57 [.t 137, .t 138] 0), iM 10 139]
.ret) (sR [iQ 141 70 12, iM 140 141]
(.cond (.t 140) (sR [iFr 142 6 1 6, iL 143 142, iQ 144 143 (-1), iM 10 144]
.ret) (sR [iQ 146 70 13, iM 145 146]
(.cond (.t 145) (sR [iFr 147 6 1 6, iL 148 147, iC 149 2, iO 150 .eql 148 149, iM 10 150]
.ret) (sR [iQ 152 70 14, iM 151 152]
(.cond (.t 151) (sR [iFr 153 11 2 11, iL 154 153, iN 155 154, iM 10 155]
.ret) (sR [iQ 157 70 15, iM 156 157]
(.cond (.t 156) (sR [iFr 158 11 2 11, iL 159 158, iM 10 159]
.ret) (cutS (sR [iQ 161 70 16, iM 160 161]
(.cond (.t 160) .skip (sR [iQ 162 70 18, iM 160 162]
(.cond (.t 160) .skip (.reg [iQ 163 70 19, iM 160 163])))))
(.cond (.t 160) (sR [iFr 164 6 0 6, iL 165 164, iFr 166 5 2 5, iL 167 166, iC 168 4, iI 169 2 167 168, iF 170 1 169, iL 171 170, iI 172 2 165 171, iF 173 0 172, iL 174 173, iC 175 2, iO 176 .eql 174 175, iM 10 176]
.ret) (sR [iQ 178 70 20, iM 177 178]
(.cond (.t 177) (cutS (.reg [iC 179 4, iC 180 2, iO 181 .neq 179 180, iC 182 181, jFr 183 6 3 6 182 true, jL 184 183 182 true, j0 185 (.cp (.t 4)) 182 true, j0 186 (.iad 3 (.t 184) (.t 185)) 182 true, jF 187 0 186 182 true, jL 188 187 182 true, j0 189 (.bin .eql (.t 188) (.c (.sc (.int .i64 0)))) 182 true, i0 190 (.pick (.t 182) (.t 189) (.c (.sc (.bool false)))), iM 10 190])
.ret) (sR [iQ 192 70 21, iM 191 192]
(.cond (.t 191) (cutS (.reg [iC 193 4, iC 194 2, iO 195 .neq 193 194, iC 196 195, jFr 197 6 3 6 196 true, jL 198 197 196 true, j0 199 (.cp (.t 4)) 196 true, j0 200 (.iad 3 (.t 198) (.t 199)) 196 true, jF 201 0 200 196 true, jL 202 201 196 true, j0 203 (.bin .eql (.t 202) (.c (.sc (.int .i64 5)))) 196 true, i0 204 (.pick (.t 196) (.t 203) (.c (.sc (.bool false)))), iM 10 204])
.ret) (sR [iQ 206 70 22, iM 205 206]
(.cond (.t 205) (sR [iFr 207 6 2 6, iL 208 207, iC 209 4, iI 210 1 208 209, iL 211 210, iN 212 211, iM 10 212]
.ret) (sR [iQ 214 70 23, iM 213 214]
(.cond (.t 213) (sR [iFr 215 6 2 6, iL 216 215, iC 217 4, iI 218 1 216 217, iL 219 218, iM 10 219]
.ret) .skip))))))))))))))))))))))))))))))
(sR [iB 10 true]
.ret)))))))
def f34g : Gi := ⟨[(18, [5]), (31, [6]), (39, [11]), (44, [11]), (48, [11]), (54, [6]), (56, [5]), (67, [11]), (73, [6]), (82, [6]), (90, [6]), (101, [6]), (109, [6]), (122, [6]), (132, [6]), (142, [6]), (147, [6]), (153, [11]), (158, [11]), (164, [6]), (166, [5]), (183, [6]), (197, [6]), (207, [6]), (215, [6])]⟩
def f34r : List RV := [.tmp 10]
def f34 : FI := ⟨f34c, f34g, f34r⟩
theorem chk34 : chkF Tryd.prog Tryd.f34 f34 = true := by kernel_rfl
def r08_En_J2 (t10v : Bool) : Option Bool :=
  some t10v
def r08_En_J3 (t10v_1 : Bool) : Option Bool :=
  some t10v_1
def r08_En_J4 (t10v_2 : Bool) : Option Bool :=
  some t10v_2
def r08_En_J7 (t10v_3 : Bool) : Option Bool :=
  some t10v_3
def r08_En_J8 (t10v_4 : Bool) : Option Bool :=
  some t10v_4
def r08_En_J6 (kind : Int) (obj : Int) (s : SSync) (thread : Int) (wv : SWorld) (t160v : Bool) : Option Bool :=
  if t160v then
    (gt wv.Conds obj).bind fun x_8 =>
    (gt s.Locks x_8.Mutex).bind fun x_9 =>
    some (x_9.Owner == thread)
  else
  if kind == 20 then
    if obj != thread then
      (gt s.Threads obj).bind fun x_10 =>
      r08_En_J7 (x_10.Status == 0)
    else
    r08_En_J7 false
  else
  if kind == 21 then
    if obj != thread then
      (gt s.Threads obj).bind fun x_11 =>
      r08_En_J8 (x_11.Status == 5)
    else
    r08_En_J8 false
  else
  if kind == 22 then
    (gt s.Done obj).bind fun x_12 =>
    some (!x_12)
  else
  if kind == 23 then
    (gt s.Done obj).bind fun x_13 =>
    some x_13
  else
  some true
def r08_En_J5 (kind : Int) (obj : Int) (s : SSync) (thread : Int) (wv : SWorld) (x : SThreadSync) (t119v : Bool) : Option Bool :=
  if t119v then
    (gt s.Locks obj).bind fun x_6 =>
    some (x_6.Owner == thread)
  else
  if kind == 9 then
    (gt s.Locks obj).bind fun x_7 =>
    (r07_Ha x_7.Readers thread).bind fun v_4 =>
    some v_4
  else
  if kind == 12 then
    some (s.Tx == (-1))
  else
  if kind == 13 then
    some (s.Tx == thread)
  else
  if kind == 14 then
    some (!x.Atomic)
  else
  if kind == 15 then
    some x.Atomic
  else
  if kind == 16 then
    r08_En_J6 kind obj s thread wv (kind == 16)
  else
  if kind == 18 then
    r08_En_J6 kind obj s thread wv (kind == 18)
  else
  r08_En_J6 kind obj s thread wv (kind == 19)
def r08_En_J1 (kind : Int) (obj : Int) (s : SSync) (thread : Int) (wv : SWorld) (t30v : Bool) : Option Bool :=
  if t30v then
    some false
  else
  (gt s.Threads thread).bind fun x =>
  if kind == 1 then
    some (x.Status == 1)
  else
  if kind == 17 then
    if x.Status == 4 then
      if x.Cond == obj then
        (gt wv.Conds obj).bind fun x_1 =>
        (gt s.Locks x_1.Mutex).bind fun x_2 =>
        r08_En_J2 (x_2.Owner == (-1))
      else
      r08_En_J2 false
    else
    r08_En_J2 false
  else
  if x.Status != 2 then
    some false
  else
  if kind == 6 then
    (gt s.Locks obj).bind fun x_3 =>
    some (x_3.Owner == (-1))
  else
  if kind == 10 then
    (gt s.Locks obj).bind fun x_4 =>
    if x_4.Owner == (-1) then
      r08_En_J3 ((x_4.Readers.length : Int) == 0)
    else
    r08_En_J3 false
  else
  if kind == 8 then
    (gt s.Locks obj).bind fun x_5 =>
    if x_5.Owner == (-1) then
      (r07_Ha x_5.Readers thread).bind fun v_3 =>
      r08_En_J4 (!v_3)
    else
    r08_En_J4 false
  else
  if kind == 7 then
    r08_En_J5 kind obj s thread wv x (kind == 7)
  else
  r08_En_J5 kind obj s thread wv x (kind == 11)
def r08_En (wv : SWorld) (s : SSync) (thread : Int) (kind : Int) (obj : Int) : Option Bool :=
  (r08_Fi wv s).bind fun v =>
  if !v then
    r08_En_J1 kind obj s thread wv true
  else
  (r08_in thread (wv.Threads.length : Int)).bind fun v_1 =>
  if !v_1 then
    r08_En_J1 kind obj s thread wv true
  else
  (r08_na wv kind obj).bind fun v_2 =>
  r08_En_J1 kind obj s thread wv (!v_2)
theorem r08_En_ok {wv : SWorld} {s : SSync} {thread : Int} {kind : Int} {obj : Int} {r : Bool} (h : r08_En wv s thread kind obj = some r) : Says Tryd.prog 34 [.agg (eWorld wv), .agg (eSync s), si thread, si kind, si obj] (sb r) := by
 refine says_of mix Tryd.func34 chk34 (of_decide_eq_true (by kernel_rfl)) rfl ?_
 simp only [f34, f34c, f34g, f34r]
 try simp +decide only [go_sem]
 refine cutH (fun τ => ∃ t30v : Bool, (τ 2 = si thread ∧ τ 3 = si kind ∧ τ 4 = si obj ∧ τ 5 = bA 6 (eWorld wv) ∧ τ 6 = bA 4 (eSync s) ∧ τ 30 = sb t30v) ∧ r08_En_J1 kind obj s thread wv t30v = some r) fun M1 m1 => ⟨?_, ?_⟩
 · obtain ⟨v, g1, h⟩ := bS h
   try simp +decide only [go_sem]
   refine ⟨_, r08_Fi_ok g1, ?_⟩
   try simp +decide only [go_sem]
   refine gI h (fun e1 h => ?_) fun e1 h => ?_
   · try simp +decide only [go_sem, e1]
     refine m1 _ ⟨true, ?_, h⟩
     simp +decide only [go_sem, e1]
   obtain ⟨v_1, g2, h⟩ := bS h
   try simp +decide only [go_sem, e1]
   refine ⟨_, r08_in_ok g2, ?_⟩
   try simp +decide only [go_sem, e1]
   refine gI h (fun e2 h => ?_) fun e2 h => ?_
   · try simp +decide only [go_sem, e1, e2]
     refine m1 _ ⟨true, ?_, h⟩
     simp +decide only [go_sem, e1, e2]
   obtain ⟨v_2, g3, h⟩ := bS h
   try simp +decide only [go_sem, e1, e2]
   refine ⟨_, r08_na_ok g3, ?_⟩
   try simp +decide only [go_sem, e1, e2]
   refine m1 _ ⟨!v_2, ?_, h⟩
   simp +decide only [go_sem, e1, e2]
 rintro τ1 ⟨t30v, s1, h⟩
 try simp +decide only [go_sem, s1]
 refine cI h (fun e3 h => ?_) fun e3 h => ?_
 · obtain rfl := Option.some.inj h
   simp +decide only [go_sem, s1, e3]
 obtain ⟨x, g4, h⟩ := gB h
 try simp +decide only [go_sem, s1, e3, g4]
 refine cI h (fun e4 h => ?_) fun e4 h => ?_
 · obtain rfl := Option.some.inj h
   simp +decide only [go_sem, s1, e3, g4, e4]
 try simp +decide only [go_sem, s1, e3, g4, e4]
 refine cI h (fun e5 h => ?_) fun e5 h => ?_
 · try simp +decide only [go_sem, s1, e3, g4, e4, e5]
   refine cutH (fun τ => ∃ t10v : Bool, (τ 10 = sb t10v) ∧ r08_En_J2 t10v = some r) fun M2 m2 => ⟨?_, ?_⟩
   · try simp +decide only [go_sem, s1, e3, g4, e4, e5]
     refine gI h (fun e6 h => ?_) fun e6 h => ?_
     · try simp +decide only [go_sem, s1, e3, g4, e4, e5, e6]
       refine gI h (fun e7 h => ?_) fun e7 h => ?_
       · obtain ⟨x_1, g5, h⟩ := gB h
         obtain ⟨x_2, g6, h⟩ := gB h
         try simp +decide only [go_sem, s1, e3, g4, e4, e5, e6, e7, g5, g6]
         refine m2 _ ⟨x_2.Owner == (-1), ?_, h⟩
         simp +decide only [go_sem, s1, e3, g4, e4, e5, e6, e7, g5, g6]
       try simp +decide only [go_sem, s1, e3, g4, e4, e5, e6, e7]
       refine m2 _ ⟨false, ?_, h⟩
       simp +decide only [go_sem, s1, e3, g4, e4, e5, e6, e7]
     try simp +decide only [go_sem, s1, e3, g4, e4, e5, e6]
     refine m2 _ ⟨false, ?_, h⟩
     simp +decide only [go_sem, s1, e3, g4, e4, e5, e6]
   rintro τ2 ⟨t10v, s2, h⟩
   obtain rfl := Option.some.inj h
   simp +decide only [go_sem, s2]
 try simp +decide only [go_sem, s1, e3, g4, e4, e5]
 refine cI h (fun e8 h => ?_) fun e8 h => ?_
 · obtain rfl := Option.some.inj h
   simp +decide only [go_sem, s1, e3, g4, e4, e5, e8]
 try simp +decide only [go_sem, s1, e3, g4, e4, e5, e8]
 refine cI h (fun e9 h => ?_) fun e9 h => ?_
 · obtain ⟨x_3, g7, h⟩ := gB h
   obtain rfl := Option.some.inj h
   simp +decide only [go_sem, s1, e3, g4, e4, e5, e8, e9, g7]
 try simp +decide only [go_sem, s1, e3, g4, e4, e5, e8, e9]
 refine cI h (fun e10 h => ?_) fun e10 h => ?_
 · try simp +decide only [go_sem, s1, e3, g4, e4, e5, e8, e9, e10]
   refine cutH (fun τ => ∃ t10v_1 : Bool, (τ 10 = sb t10v_1) ∧ r08_En_J3 t10v_1 = some r) fun M3 m3 => ⟨?_, ?_⟩
   · obtain ⟨x_4, g8, h⟩ := gB h
     try simp +decide only [go_sem, s1, e3, g4, e4, e5, e8, e9, e10, g8]
     refine gI h (fun e11 h => ?_) fun e11 h => ?_
     · try simp +decide only [go_sem, s1, e3, g4, e4, e5, e8, e9, e10, g8, e11]
       refine m3 _ ⟨(x_4.Readers.length : Int) == 0, ?_, h⟩
       simp +decide only [go_sem, s1, e3, g4, e4, e5, e8, e9, e10, g8, e11]
     try simp +decide only [go_sem, s1, e3, g4, e4, e5, e8, e9, e10, g8, e11]
     refine m3 _ ⟨false, ?_, h⟩
     simp +decide only [go_sem, s1, e3, g4, e4, e5, e8, e9, e10, g8, e11]
   rintro τ3 ⟨t10v_1, s3, h⟩
   obtain rfl := Option.some.inj h
   simp +decide only [go_sem, s3]
 try simp +decide only [go_sem, s1, e3, g4, e4, e5, e8, e9, e10]
 refine cI h (fun e12 h => ?_) fun e12 h => ?_
 · try simp +decide only [go_sem, s1, e3, g4, e4, e5, e8, e9, e10, e12]
   refine cutH (fun τ => ∃ t10v_2 : Bool, (τ 10 = sb t10v_2) ∧ r08_En_J4 t10v_2 = some r) fun M4 m4 => ⟨?_, ?_⟩
   · obtain ⟨x_5, g9, h⟩ := gB h
     try simp +decide only [go_sem, s1, e3, g4, e4, e5, e8, e9, e10, e12, g9]
     refine gI h (fun e13 h => ?_) fun e13 h => ?_
     · obtain ⟨v_3, g10, h⟩ := bS h
       try simp +decide only [go_sem, s1, e3, g4, e4, e5, e8, e9, e10, e12, g9, e13]
       refine ⟨_, r07_Ha_ok g10, ?_⟩
       try simp +decide only [go_sem, s1, e3, g4, e4, e5, e8, e9, e10, e12, g9, e13]
       refine m4 _ ⟨!v_3, ?_, h⟩
       simp +decide only [go_sem, s1, e3, g4, e4, e5, e8, e9, e10, e12, g9, e13]
     try simp +decide only [go_sem, s1, e3, g4, e4, e5, e8, e9, e10, e12, g9, e13]
     refine m4 _ ⟨false, ?_, h⟩
     simp +decide only [go_sem, s1, e3, g4, e4, e5, e8, e9, e10, e12, g9, e13]
   rintro τ4 ⟨t10v_2, s4, h⟩
   obtain rfl := Option.some.inj h
   simp +decide only [go_sem, s4]
 try simp +decide only [go_sem, s1, e3, g4, e4, e5, e8, e9, e10, e12]
 refine cutH (fun τ => ∃ t119v : Bool, (τ 2 = si thread ∧ τ 4 = si obj ∧ τ 5 = bA 6 (eWorld wv) ∧ τ 6 = bA 4 (eSync s) ∧ τ 11 = bA 3 (eThreadSync x) ∧ τ 70 = si kind ∧ τ 119 = sb t119v) ∧ r08_En_J5 kind obj s thread wv x t119v = some r) fun M5 m5 => ⟨?_, ?_⟩
 · try simp +decide only [go_sem, s1, e3, g4, e4, e5, e8, e9, e10, e12]
   refine cI h (fun e14 h => ?_) fun e14 h => ?_
   · try simp +decide only [go_sem, s1, e3, g4, e4, e5, e8, e9, e10, e12, e14]
     refine m5 _ ⟨kind == 7, ?_, h⟩
     simp +decide only [go_sem, s1, e3, g4, e4, e5, e8, e9, e10, e12, e14]
   try simp +decide only [go_sem, s1, e3, g4, e4, e5, e8, e9, e10, e12, e14]
   refine m5 _ ⟨kind == 11, ?_, h⟩
   simp +decide only [go_sem, s1, e3, g4, e4, e5, e8, e9, e10, e12, e14]
 rintro τ5 ⟨t119v, s5, h⟩
 try simp +decide only [go_sem, s5]
 refine cI h (fun e15 h => ?_) fun e15 h => ?_
 · obtain ⟨x_6, g11, h⟩ := gB h
   obtain rfl := Option.some.inj h
   simp +decide only [go_sem, s5, e15, g11]
 try simp +decide only [go_sem, s5, e15]
 refine cI h (fun e16 h => ?_) fun e16 h => ?_
 · obtain ⟨x_7, g12, h⟩ := gB h
   obtain ⟨v_4, g13, h⟩ := bS h
   try simp +decide only [go_sem, s5, e15, e16, g12]
   refine ⟨_, r07_Ha_ok g13, ?_⟩
   obtain rfl := Option.some.inj h
   simp +decide only [go_sem, s5, e15, e16, g12]
 try simp +decide only [go_sem, s5, e15, e16]
 refine cI h (fun e17 h => ?_) fun e17 h => ?_
 · obtain rfl := Option.some.inj h
   simp +decide only [go_sem, s5, e15, e16, e17]
 try simp +decide only [go_sem, s5, e15, e16, e17]
 refine cI h (fun e18 h => ?_) fun e18 h => ?_
 · obtain rfl := Option.some.inj h
   simp +decide only [go_sem, s5, e15, e16, e17, e18]
 try simp +decide only [go_sem, s5, e15, e16, e17, e18]
 refine cI h (fun e19 h => ?_) fun e19 h => ?_
 · obtain rfl := Option.some.inj h
   simp +decide only [go_sem, s5, e15, e16, e17, e18, e19]
 try simp +decide only [go_sem, s5, e15, e16, e17, e18, e19]
 refine cI h (fun e20 h => ?_) fun e20 h => ?_
 · obtain rfl := Option.some.inj h
   simp +decide only [go_sem, s5, e15, e16, e17, e18, e19, e20]
 try simp +decide only [go_sem, s5, e15, e16, e17, e18, e19, e20]
 refine cutH (fun τ => ∃ t160v : Bool, (τ 2 = si thread ∧ τ 4 = si obj ∧ τ 5 = bA 6 (eWorld wv) ∧ τ 6 = bA 4 (eSync s) ∧ τ 70 = si kind ∧ τ 160 = sb t160v) ∧ r08_En_J6 kind obj s thread wv t160v = some r) fun M6 m6 => ⟨?_, ?_⟩
 · try simp +decide only [go_sem, s5, e15, e16, e17, e18, e19, e20]
   refine cI h (fun e21 h => ?_) fun e21 h => ?_
   · try simp +decide only [go_sem, s5, e15, e16, e17, e18, e19, e20, e21]
     refine m6 _ ⟨kind == 16, ?_, h⟩
     simp +decide only [go_sem, s5, e15, e16, e17, e18, e19, e20, e21]
   try simp +decide only [go_sem, s5, e15, e16, e17, e18, e19, e20, e21]
   refine cI h (fun e22 h => ?_) fun e22 h => ?_
   · try simp +decide only [go_sem, s5, e15, e16, e17, e18, e19, e20, e21, e22]
     refine m6 _ ⟨kind == 18, ?_, h⟩
     simp +decide only [go_sem, s5, e15, e16, e17, e18, e19, e20, e21, e22]
   try simp +decide only [go_sem, s5, e15, e16, e17, e18, e19, e20, e21, e22]
   refine m6 _ ⟨kind == 19, ?_, h⟩
   simp +decide only [go_sem, s5, e15, e16, e17, e18, e19, e20, e21, e22]
 rintro τ6 ⟨t160v, s6, h⟩
 try simp +decide only [go_sem, s6]
 refine cI h (fun e23 h => ?_) fun e23 h => ?_
 · obtain ⟨x_8, g14, h⟩ := gB h
   obtain ⟨x_9, g15, h⟩ := gB h
   obtain rfl := Option.some.inj h
   simp +decide only [go_sem, s6, e23, g14, g15]
 try simp +decide only [go_sem, s6, e23]
 refine cI h (fun e24 h => ?_) fun e24 h => ?_
 · try simp +decide only [go_sem, s6, e23, e24]
   refine cutH (fun τ => ∃ t10v_3 : Bool, (τ 10 = sb t10v_3) ∧ r08_En_J7 t10v_3 = some r) fun M7 m7 => ⟨?_, ?_⟩
   · try simp +decide only [go_sem, s6, e23, e24]
     refine gI h (fun e25 h => ?_) fun e25 h => ?_
     · obtain ⟨x_10, g16, h⟩ := gB h
       try simp +decide only [go_sem, s6, e23, e24, e25, g16]
       refine m7 _ ⟨x_10.Status == 0, ?_, h⟩
       simp +decide only [go_sem, s6, e23, e24, e25, g16]
     try simp +decide only [go_sem, s6, e23, e24, e25]
     refine m7 _ ⟨false, ?_, h⟩
     simp +decide only [go_sem, s6, e23, e24, e25]
   rintro τ7 ⟨t10v_3, s7, h⟩
   obtain rfl := Option.some.inj h
   simp +decide only [go_sem, s7]
 try simp +decide only [go_sem, s6, e23, e24]
 refine cI h (fun e26 h => ?_) fun e26 h => ?_
 · try simp +decide only [go_sem, s6, e23, e24, e26]
   refine cutH (fun τ => ∃ t10v_4 : Bool, (τ 10 = sb t10v_4) ∧ r08_En_J8 t10v_4 = some r) fun M8 m8 => ⟨?_, ?_⟩
   · try simp +decide only [go_sem, s6, e23, e24, e26]
     refine gI h (fun e27 h => ?_) fun e27 h => ?_
     · obtain ⟨x_11, g17, h⟩ := gB h
       try simp +decide only [go_sem, s6, e23, e24, e26, e27, g17]
       refine m8 _ ⟨x_11.Status == 5, ?_, h⟩
       simp +decide only [go_sem, s6, e23, e24, e26, e27, g17]
     try simp +decide only [go_sem, s6, e23, e24, e26, e27]
     refine m8 _ ⟨false, ?_, h⟩
     simp +decide only [go_sem, s6, e23, e24, e26, e27]
   rintro τ8 ⟨t10v_4, s8, h⟩
   obtain rfl := Option.some.inj h
   simp +decide only [go_sem, s8]
 try simp +decide only [go_sem, s6, e23, e24, e26]
 refine cI h (fun e28 h => ?_) fun e28 h => ?_
 · obtain ⟨x_12, g18, h⟩ := gB h
   obtain rfl := Option.some.inj h
   simp +decide only [go_sem, s6, e23, e24, e26, e28, g18]
 try simp +decide only [go_sem, s6, e23, e24, e26, e28]
 refine cI h (fun e29 h => ?_) fun e29 h => ?_
 · obtain ⟨x_13, g19, h⟩ := gB h
   obtain rfl := Option.some.inj h
   simp +decide only [go_sem, s6, e23, e24, e26, e28, e29, g19]
 obtain rfl := Option.some.inj h
 simp +decide only [go_sem, s6, e23, e24, e26, e28, e29]
def f35c : IC := (sR [iB 4 false]
(cutS (sR [iK 5 0]
(.block 0 (.loop (.seq (sR [iC 6 5, iC 7 0, i0 8 (.len (.t 7)), iO 9 .lss 6 8]
(.cond (.t 9) .skip (.exit 0)))
(.seq (.block 1 (cutS (.reg [iC 12 0, iC 13 5, iI 14 1 12 13, iL 15 14, iP 16 .lss 15 1, iC 17 16, j0 18 (.cp (.t 0)) 17 false, j0 19 (.cp (.t 5)) 17 false, j0 20 (.iad 1 (.t 18) (.t 19)) 17 false, jL 21 20 17 false, j0 22 (.cp (.t 1)) 17 false, j0 23 (.bin .geq (.t 21) (.t 22)) 17 false, i0 24 (.pick (.t 17) (.c (.sc (.bool true))) (.t 23)), iC 25 24, j0 26 (.cp (.t 5)) 25 false, j0 27 (.bin .gtr (.t 26) (.c (.sc (.int .i64 0)))) 25 false, j0 28 (.cp (.t 27)) 25 false, j0 29 (.cp (.t 0)) 28 true, j0 30 (.cp (.t 5)) 28 true, j0 31 (.iad 1 (.t 29) (.t 30)) 28 true, jL 32 31 28 true, j0 33 (.cp (.t 0)) 28 true, j0 34 (.cp (.t 5)) 28 true, j0 35 (.bin .sub (.t 34) (.c (.sc (.int .i64 1)))) 28 true, j0 36 (.iad 1 (.t 33) (.t 35)) 28 true, jL 37 36 28 true, j0 38 (.bin .leq (.t 32) (.t 37)) 28 true, j0 39 (.pick (.t 28) (.t 38) (.c (.sc (.bool false)))) 25 false, i0 40 (.pick (.t 25) (.c (.sc (.bool true))) (.t 39))])
(.cond (.t 40) (sR [iB 4 false]
.ret) .skip)))
(.reg [iC 10 5, iP 11 .add 10 1, iM 5 11]))))))
(sR [iB 4 true]
.ret)))
def f35g : Gi := ⟨[]⟩
def f35r : List RV := [.tmp 4]
def f35 : FI := ⟨f35c, f35g, f35r⟩
theorem chk35 : chkF Tryd.prog Tryd.f35 f35 = true := by kernel_rfl
def r16_nu_J2 : Option Bool :=
  some true
def r16_nu_J1 (L1 : Int → Option Bool) (i : Int) (t40v : Bool) : Option Bool :=
  if t40v then
    some false
  else
  L1 (w64 (i + 1))
def r16_nu_L1 (count : Int) (l : List Int) (L1 : Int → Option Bool) (i : Int) : Option Bool :=
  if decide (i < (l.length : Int)) then
    (gt l i).bind fun x =>
    if decide (x < 1) then
      r16_nu_J1 L1 i true
    else
    if decide (x ≥ count) then
      r16_nu_J1 L1 i true
    else
    if decide (i > 0) then
      (gt l (w64 (i - 1))).bind fun x_1 =>
      r16_nu_J1 L1 i (decide (x ≤ x_1))
    else
    r16_nu_J1 L1 i false
  else
  r16_nu_J2
def r16_nu_L1r (count : Int) (l : List Int) : Nat → Int → Option Bool
  | 0, _ => none
  | n + 1, i => r16_nu_L1 count l (r16_nu_L1r count l n) i
def r16_nu (l : List Int) (count : Int) : Option Bool :=
  r16_nu_L1r count l big 0
theorem r16_nu_ok {l : List Int} {count : Int} {r : Bool} (h : r16_nu l count = some r) : Says Tryd.prog 35 [.sl false 1 (l.map eI), si count] (sb r) := by
 refine says_of mix Tryd.func35 chk35 (of_decide_eq_true (by kernel_rfl)) rfl ?_
 simp only [f35, f35c, f35g, f35r]
 try simp +decide only [go_sem]
 refine cutH (fun τ => (True) ∧ r16_nu_J2 = some r) fun M2 m2 => ⟨?_, ?_⟩
 · try simp +decide only [go_sem]
   refine loopH (fun n τ => ∃ i : Int, (τ 0 = .sl false 1 (l.map eI) ∧ τ 1 = si count ∧ τ 5 = si i) ∧ r16_nu_L1r count l n i = some r) ⟨0, ?_, h⟩ fun n1 τ1 N1 => ?_
   · simp +decide only [go_sem]
   rintro ⟨i, s1, h⟩ k1
   cases n1 with
   | zero => exact no_none h
   | succ n1 =>
    rw [r16_nu_L1r] at h; generalize q1 : r16_nu_L1r count l n1 = L1 at h
    try simp +decide only [go_sem, s1]
    refine cI h (fun e1 h => ?_) fun e1 h => ?_
    · try simp +decide only [go_sem, s1, e1]
      refine cutH (fun τ => ∃ t40v : Bool, (τ 0 = .sl false 1 (l.map eI) ∧ τ 1 = si count ∧ τ 5 = si i ∧ τ 40 = sb t40v) ∧ r16_nu_J1 L1 i t40v = some r) fun M1 m1 => ⟨?_, ?_⟩
      · obtain ⟨x, g1, h⟩ := gB h
        try simp +decide only [go_sem, s1, e1, g1]
        refine gI h (fun e2 h => ?_) fun e2 h => ?_
        · try simp +decide only [go_sem, s1, e1, g1, e2]
          refine m1 _ ⟨true, ?_, h⟩
          simp +decide only [go_sem, s1, e1, g1, e2]
        try simp +decide only [go_sem, s1, e1, g1, e2]
        refine gI h (fun e3 h => ?_) fun e3 h => ?_
        · try simp +decide only [go_sem, s1, e1, g1, e2, e3]
          refine m1 _ ⟨true, ?_, h⟩
          simp +decide only [go_sem, s1, e1, g1, e2, e3]
        try simp +decide only [go_sem, s1, e1, g1, e2, e3]
        refine gI h (fun e4 h => ?_) fun e4 h => ?_
        · obtain ⟨x_1, g2, h⟩ := gB h
          try simp +decide only [go_sem, s1, e1, g1, e2, e3, e4, g2]
          refine m1 _ ⟨decide (x ≤ x_1), ?_, h⟩
          simp +decide only [go_sem, s1, e1, g1, e2, e3, e4, g2]
        try simp +decide only [go_sem, s1, e1, g1, e2, e3, e4]
        refine m1 _ ⟨false, ?_, h⟩
        simp +decide only [go_sem, s1, e1, g1, e2, e3, e4]
      rintro τ1 ⟨t40v, s1, h⟩
      try simp +decide only [go_sem, s1]
      refine cI h (fun e5 h => ?_) fun e5 h => ?_
      · obtain rfl := Option.some.inj h
        simp +decide only [go_sem, s1, e5]
      try simp +decide only [go_sem, s1, e5]
      refine k1 n1 (Nat.lt_succ_self _) _ ⟨w64 (i + 1), ?_, q1.symm ▸ h⟩
      simp +decide only [go_sem, s1, e5]
    try simp +decide only [go_sem, s1, e1]
    refine m2 _ ⟨?_, h⟩
    simp +decide only [go_sem, s1, e1]
 rintro τ2 ⟨_, h⟩
 obtain rfl := Option.some.inj h
 simp +decide only [go_sem]
end Go.Abs
