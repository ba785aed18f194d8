/- Typed programs: wellformed.fits, object.allowed, slices.Index[[]int,int], slices.Contains[[]int,int]. -/
import Derived.Test.YteobdlimfbjjnaaDoorTE
import Derived.Test.YteobdlimfbjjnaaDoorTF2
set_option linter.unusedSimpArgs false
namespace Go.Abs
open Go.Proofs
set_option maxRecDepth 100000
set_option maxHeartbeats 4000000
def f20c : IC := (sR [⟨some ⟨2, [13, 22, 31], []⟩, .bx 6 (.t 0), none⟩, ⟨some ⟨3, [6, 10, 19, 28], []⟩, .bx 7 (.t 1), none⟩, iB 4 false]
(cutS (.reg [i0 5 (.ld true 6 (.t 2)), iFr 6 3 0 3, i0 7 (.ld true 4 (.t 6)), i0 8 (.call 40 [.t 5, .t 7] 0), iC 9 8, jFr 10 3 4 3 9 true, jL 11 10 9 true, j0 12 (.len (.t 11)) 9 true, jFr 13 2 0 2 9 true, jL 14 13 9 true, j0 15 (.len (.t 14)) 9 true, j0 16 (.bin .eql (.t 12) (.t 15)) 9 true, i0 17 (.pick (.t 9) (.t 16) (.c (.sc (.bool false)))), iC 18 17, jFr 19 3 5 3 18 true, jL 20 19 18 true, j0 21 (.len (.t 20)) 18 true, jFr 22 2 3 2 18 true, jL 23 22 18 true, j0 24 (.len (.t 23)) 18 true, j0 25 (.bin .eql (.t 21) (.t 24)) 18 true, i0 26 (.pick (.t 18) (.t 25) (.c (.sc (.bool false)))), iC 27 26, jFr 28 3 6 3 27 true, jL 29 28 27 true, j0 30 (.len (.t 29)) 27 true, jFr 31 2 4 2 27 true, jL 32 31 27 true, j0 33 (.len (.t 32)) 27 true, j0 34 (.bin .eql (.t 30) (.t 33)) 27 true, i0 35 (.pick (.t 27) (.t 34) (.c (.sc (.bool false)))), iM 4 35])
.ret))
def f20g : Gi := ⟨[(6, [3]), (10, [3]), (13, [2]), (19, [3]), (22, [2]), (28, [3]), (31, [2])]⟩
def f20r : List RV := [.tmp 4]
def f20 : FI := ⟨f20c, f20g, f20r⟩
theorem chk20 : chkF Tryd.prog Tryd.f20 f20 = true := by kernel_rfl
def w_fi_J1 (t4v : Bool) : Option Bool :=
  some t4v
def w_fi (wv : SWorld) (s : SSnapshot) : Option Bool :=
  (o_Fi wv s.Sync).bind fun v =>
  if v then
    if (s.Cells.length : Int) == (wv.Cells.length : Int) then
      if (s.Futures.length : Int) == (wv.Futures.length : Int) then
        w_fi_J1 ((s.Count.length : Int) == (wv.Threads.length : Int))
      else
      w_fi_J1 false
    else
    w_fi_J1 false
  else
  w_fi_J1 false
theorem w_fi_ok {wv : SWorld} {s : SSnapshot} {r : Bool} (h : w_fi wv s = some r) : Says Tryd.prog 20 [.agg (eWorld wv), .agg (eSnapshot s)] (sb r) := by
 refine says_of mix Tryd.func20 chk20 (of_decide_eq_true (by kernel_rfl)) rfl ?_
 simp only [f20, f20c, f20g, f20r]
 try simp +decide only [go_sem]
 refine cutH (fun τ => ∃ t4v : Bool, (τ 4 = sb t4v) ∧ w_fi_J1 t4v = some r) fun M1 m1 => ⟨?_, ?_⟩
 · obtain ⟨v, g1, h⟩ := bS h
   try simp +decide only [go_sem]
   refine ⟨_, o_Fi_ok g1, ?_⟩
   try simp +decide only [go_sem]
   refine gI h (fun e1 h => ?_) fun e1 h => ?_
   · try simp +decide only [go_sem, e1]
     refine gI h (fun e2 h => ?_) fun e2 h => ?_
     · try simp +decide only [go_sem, e1, e2]
       refine gI h (fun e3 h => ?_) fun e3 h => ?_
       · try simp +decide only [go_sem, e1, e2, e3]
         refine m1 _ ⟨(s.Count.length : Int) == (wv.Threads.length : Int), ?_, h⟩
         simp +decide only [go_sem, e1, e2, e3]
       try simp +decide only [go_sem, e1, e2, e3]
       refine m1 _ ⟨false, ?_, h⟩
       simp +decide only [go_sem, e1, e2, e3]
     try simp +decide only [go_sem, e1, e2]
     refine m1 _ ⟨false, ?_, h⟩
     simp +decide only [go_sem, e1, e2]
   try simp +decide only [go_sem, e1]
   refine m1 _ ⟨false, ?_, h⟩
   simp +decide only [go_sem, e1]
 rintro τ1 ⟨t4v, s1, h⟩
 obtain rfl := Option.some.inj h
 simp +decide only [go_sem, s1]
def f42c : IC := (sR [⟨some ⟨3, [22, 30, 35, 49, 54, 67, 75, 83], []⟩, .bx 6 (.t 0), none⟩, iB 6 false]
(.seq (sR [iC 7 1]
(.block 0 (cutS (sR [iQ 9 7 1, iM 8 9]
(.cond (.t 8) .skip (sR [iQ 10 7 2, iM 8 10]
(.cond (.t 8) .skip (sR [iQ 11 7 5, iM 8 11]
(.cond (.t 8) .skip (sR [iQ 12 7 12, iM 8 12]
(.cond (.t 8) .skip (sR [iQ 13 7 13, iM 8 13]
(.cond (.t 8) .skip (sR [iQ 14 7 14, iM 8 14]
(.cond (.t 8) .skip (.reg [iQ 15 7 15, iM 8 15])))))))))))))
(.cond (.t 8) (sR [iC 16 2, iQ 17 16 (-1), iM 6 17]
.ret) (cutS (sR [iQ 19 7 3, iM 18 19]
(.cond (.t 18) .skip (.reg [iQ 20 7 4, iM 18 20])))
(.cond (.t 18) (sR [iC 21 2, iFr 22 3 0 3, iL 23 22, i0 24 (.len (.t 23)), i0 25 (.call 41 [.t 21, .t 24] 0), iM 6 25]
.ret) (cutS (sR [iQ 27 7 6, iM 26 27]
(.cond (.t 26) .skip (.reg [iQ 28 7 7, iM 26 28])))
(.cond (.t 26) (cutS (.reg [iC 29 2, iFr 30 3 1 3, iL 31 30, i0 32 (.len (.t 31)), i0 33 (.call 41 [.t 29, .t 32] 0), iC 34 33, jFr 35 3 1 3 34 true, jL 36 35 34 true, j0 37 (.cp (.t 2)) 34 true, j0 38 (.iad 2 (.t 36) (.t 37)) 34 true, jF 39 1 38 34 true, jL 40 39 34 true, j0 41 (.un .not (.t 40)) 34 true, i0 42 (.pick (.t 34) (.t 41) (.c (.sc (.bool false)))), iM 6 42])
.ret) (cutS (sR [iQ 44 7 8, iM 43 44]
(.cond (.t 43) .skip (sR [iQ 45 7 9, iM 43 45]
(.cond (.t 43) .skip (sR [iQ 46 7 10, iM 43 46]
(.cond (.t 43) .skip (.reg [iQ 47 7 11, iM 43 47])))))))
(.cond (.t 43) (cutS (.reg [iC 48 2, iFr 49 3 1 3, iL 50 49, i0 51 (.len (.t 50)), i0 52 (.call 41 [.t 48, .t 51] 0), iC 53 52, jFr 54 3 1 3 53 true, jL 55 54 53 true, j0 56 (.cp (.t 2)) 53 true, j0 57 (.iad 2 (.t 55) (.t 56)) 53 true, jF 58 1 57 53 true, jL 59 58 53 true, i0 60 (.pick (.t 53) (.t 59) (.c (.sc (.bool false)))), iM 6 60])
.ret) (cutS (sR [iQ 62 7 16, iM 61 62]
(.cond (.t 61) .skip (sR [iQ 63 7 17, iM 61 63]
(.cond (.t 61) .skip (sR [iQ 64 7 18, iM 61 64]
(.cond (.t 61) .skip (.reg [iQ 65 7 19, iM 61 65])))))))
(.cond (.t 61) (sR [iC 66 2, iFr 67 3 2 3, iL 68 67, i0 69 (.len (.t 68)), i0 70 (.call 41 [.t 66, .t 69] 0), iM 6 70]
.ret) (cutS (sR [iQ 72 7 20, iM 71 72]
(.cond (.t 71) .skip (.reg [iQ 73 7 21, iM 71 73])))
(.cond (.t 71) (sR [iC 74 2, iFr 75 3 4 3, iL 76 75, i0 77 (.len (.t 76)), i0 78 (.call 41 [.t 74, .t 77] 0), iM 6 78]
.ret) (cutS (sR [iQ 80 7 22, iM 79 80]
(.cond (.t 79) .skip (.reg [iQ 81 7 23, iM 79 81])))
(.cond (.t 79) (sR [iC 82 2, iFr 83 3 3 3, iL 84 83, i0 85 (.len (.t 84)), i0 86 (.call 41 [.t 82, .t 85] 0), iM 6 86]
.ret) .skip))))))))))))))))
(sR [iB 6 false]
.ret)))
def f42g : Gi := ⟨[(22, [3]), (30, [3]), (35, [3]), (49, [3]), (54, [3]), (67, [3]), (75, [3]), (83, [3])]⟩
def f42r : List RV := [.tmp 6]
def f42 : FI := ⟨f42c, f42g, f42r⟩
theorem chk42 : chkF Tryd.prog Tryd.f42 f42 = true := by kernel_rfl
def o_al_J4 (t6v : Bool) : Option Bool :=
  some t6v
def o_al_J6 (t6v_1 : Bool) : Option Bool :=
  some t6v_1
def o_al_J9 (obj : Int) (wv : SWorld) (t79v : Bool) : Option Bool :=
  if t79v then
    (o_wi obj (wv.Futures.length : Int)).bind fun v_5 =>
    some v_5
  else
  some false
def o_al_J8 (kind : Int) (obj : Int) (wv : SWorld) (t71v : Bool) : Option Bool :=
  if t71v then
    (o_wi obj (wv.Threads.length : Int)).bind fun v_4 =>
    some v_4
  else
  if kind == 22 then
    o_al_J9 obj wv (kind == 22)
  else
  o_al_J9 obj wv (kind == 23)
def o_al_J7 (kind : Int) (obj : Int) (wv : SWorld) (t61v : Bool) : Option Bool :=
  if t61v then
    (o_wi obj (wv.Conds.length : Int)).bind fun v_3 =>
    some v_3
  else
  if kind == 20 then
    o_al_J8 kind obj wv (kind == 20)
  else
  o_al_J8 kind obj wv (kind == 21)
def o_al_J5 (kind : Int) (obj : Int) (wv : SWorld) (t43v : Bool) : Option Bool :=
  if t43v then
    (o_wi obj (wv.Locks.length : Int)).bind fun v_2 =>
    if v_2 then
      (gt wv.Locks obj).bind fun x_1 =>
      o_al_J6 x_1.RW
    else
    o_al_J6 false
  else
  if kind == 16 then
    o_al_J7 kind obj wv (kind == 16)
  else
  if kind == 17 then
    o_al_J7 kind obj wv (kind == 17)
  else
  if kind == 18 then
    o_al_J7 kind obj wv (kind == 18)
  else
  o_al_J7 kind obj wv (kind == 19)
def o_al_J3 (kind : Int) (obj : Int) (wv : SWorld) (t26v : Bool) : Option Bool :=
  if t26v then
    (o_wi obj (wv.Locks.length : Int)).bind fun v_1 =>
    if v_1 then
      (gt wv.Locks obj).bind fun x =>
      o_al_J4 (!x.RW)
    else
    o_al_J4 false
  else
  if kind == 8 then
    o_al_J5 kind obj wv (kind == 8)
  else
  if kind == 9 then
    o_al_J5 kind obj wv (kind == 9)
  else
  if kind == 10 then
    o_al_J5 kind obj wv (kind == 10)
  else
  o_al_J5 kind obj wv (kind == 11)
def o_al_J2 (kind : Int) (obj : Int) (wv : SWorld) (t18v : Bool) : Option Bool :=
  if t18v then
    (o_wi obj (wv.Cells.length : Int)).bind fun v =>
    some v
  else
  if kind == 6 then
    o_al_J3 kind obj wv (kind == 6)
  else
  o_al_J3 kind obj wv (kind == 7)
def o_al_J1 (kind : Int) (obj : Int) (wv : SWorld) (t8v : Bool) : Option Bool :=
  if t8v then
    some (obj == (-1))
  else
  if kind == 3 then
    o_al_J2 kind obj wv (kind == 3)
  else
  o_al_J2 kind obj wv (kind == 4)
def o_al (wv : SWorld) (kind : Int) (obj : Int) : Option Bool :=
  if kind == 1 then
    o_al_J1 kind obj wv (kind == 1)
  else
  if kind == 2 then
    o_al_J1 kind obj wv (kind == 2)
  else
  if kind == 5 then
    o_al_J1 kind obj wv (kind == 5)
  else
  if kind == 12 then
    o_al_J1 kind obj wv (kind == 12)
  else
  if kind == 13 then
    o_al_J1 kind obj wv (kind == 13)
  else
  if kind == 14 then
    o_al_J1 kind obj wv (kind == 14)
  else
  o_al_J1 kind obj wv (kind == 15)
theorem o_al_ok {wv : SWorld} {kind : Int} {obj : Int} {r : Bool} (h : o_al wv kind obj = some r) : Says Tryd.prog 42 [.agg (eWorld wv), si kind, si obj] (sb r) := by
 refine says_of mix Tryd.func42 chk42 (of_decide_eq_true (by kernel_rfl)) rfl ?_
 simp only [f42, f42c, f42g, f42r]
 try simp +decide only [go_sem]
 refine cutH (fun τ => ∃ t8v : Bool, (τ 2 = si obj ∧ τ 3 = bA 6 (eWorld wv) ∧ τ 7 = si kind ∧ τ 8 = sb t8v) ∧ o_al_J1 kind obj wv t8v = some r) fun M1 m1 => ⟨?_, ?_⟩
 · try simp +decide only [go_sem]
   refine cI h (fun e1 h => ?_) fun e1 h => ?_
   · try simp +decide only [go_sem, e1]
     refine m1 _ ⟨kind == 1, ?_, h⟩
     simp +decide only [go_sem, e1]
   try simp +decide only [go_sem, e1]
   refine cI h (fun e2 h => ?_) fun e2 h => ?_
   · try simp +decide only [go_sem, e1, e2]
     refine m1 _ ⟨kind == 2, ?_, h⟩
     simp +decide only [go_sem, e1, e2]
   try simp +decide only [go_sem, e1, e2]
   refine cI h (fun e3 h => ?_) fun e3 h => ?_
   · try simp +decide only [go_sem, e1, e2, e3]
     refine m1 _ ⟨kind == 5, ?_, h⟩
     simp +decide only [go_sem, e1, e2, e3]
   try simp +decide only [go_sem, e1, e2, e3]
   refine cI h (fun e4 h => ?_) fun e4 h => ?_
   · try simp +decide only [go_sem, e1, e2, e3, e4]
     refine m1 _ ⟨kind == 12, ?_, h⟩
     simp +decide only [go_sem, e1, e2, e3, e4]
   try simp +decide only [go_sem, e1, e2, e3, e4]
   refine cI h (fun e5 h => ?_) fun e5 h => ?_
   · try simp +decide only [go_sem, e1, e2, e3, e4, e5]
     refine m1 _ ⟨kind == 13, ?_, h⟩
     simp +decide only [go_sem, e1, e2, e3, e4, e5]
   try simp +decide only [go_sem, e1, e2, e3, e4, e5]
   refine cI h (fun e6 h => ?_) fun e6 h => ?_
   · try simp +decide only [go_sem, e1, e2, e3, e4, e5, e6]
     refine m1 _ ⟨kind == 14, ?_, h⟩
     simp +decide only [go_sem, e1, e2, e3, e4, e5, e6]
   try simp +decide only [go_sem, e1, e2, e3, e4, e5, e6]
   refine m1 _ ⟨kind == 15, ?_, h⟩
   simp +decide only [go_sem, e1, e2, e3, e4, e5, e6]
 rintro τ1 ⟨t8v, s1, h⟩
 try simp +decide only [go_sem, s1]
 refine cI h (fun e7 h => ?_) fun e7 h => ?_
 · obtain rfl := Option.some.inj h
   simp +decide only [go_sem, s1, e7]
 try simp +decide only [go_sem, s1, e7]
 refine cutH (fun τ => ∃ t18v : Bool, (τ 2 = si obj ∧ τ 3 = bA 6 (eWorld wv) ∧ τ 7 = si kind ∧ τ 18 = sb t18v) ∧ o_al_J2 kind obj wv t18v = some r) fun M2 m2 => ⟨?_, ?_⟩
 · try simp +decide only [go_sem, s1, e7]
   refine cI h (fun e8 h => ?_) fun e8 h => ?_
   · try simp +decide only [go_sem, s1, e7, e8]
     refine m2 _ ⟨kind == 3, ?_, h⟩
     simp +decide only [go_sem, s1, e7, e8]
   try simp +decide only [go_sem, s1, e7, e8]
   refine m2 _ ⟨kind == 4, ?_, h⟩
   simp +decide only [go_sem, s1, e7, e8]
 rintro τ2 ⟨t18v, s2, h⟩
 try simp +decide only [go_sem, s2]
 refine cI h (fun e9 h => ?_) fun e9 h => ?_
 · obtain ⟨v, g1, h⟩ := bS h
   try simp +decide only [go_sem, s2, e9]
   refine ⟨_, o_wi_ok g1, ?_⟩
   obtain rfl := Option.some.inj h
   simp +decide only [go_sem, s2, e9]
 try simp +decide only [go_sem, s2, e9]
 refine cutH (fun τ => ∃ t26v : Bool, (τ 2 = si obj ∧ τ 3 = bA 6 (eWorld wv) ∧ τ 7 = si kind ∧ τ 26 = sb t26v) ∧ o_al_J3 kind obj wv t26v = some r) fun M3 m3 => ⟨?_, ?_⟩
 · try simp +decide only [go_sem, s2, e9]
   refine cI h (fun e10 h => ?_) fun e10 h => ?_
   · try simp +decide only [go_sem, s2, e9, e10]
     refine m3 _ ⟨kind == 6, ?_, h⟩
     simp +decide only [go_sem, s2, e9, e10]
   try simp +decide only [go_sem, s2, e9, e10]
   refine m3 _ ⟨kind == 7, ?_, h⟩
   simp +decide only [go_sem, s2, e9, e10]
 rintro τ3 ⟨t26v, s3, h⟩
 try simp +decide only [go_sem, s3]
 refine cI h (fun e11 h => ?_) fun e11 h => ?_
 · try simp +decide only [go_sem, s3, e11]
   refine cutH (fun τ => ∃ t6v : Bool, (τ 6 = sb t6v) ∧ o_al_J4 t6v = some r) fun M4 m4 => ⟨?_, ?_⟩
   · obtain ⟨v_1, g2, h⟩ := bS h
     try simp +decide only [go_sem, s3, e11]
     refine ⟨_, o_wi_ok g2, ?_⟩
     try simp +decide only [go_sem, s3, e11]
     refine gI h (fun e12 h => ?_) fun e12 h => ?_
     · obtain ⟨x, g3, h⟩ := gB h
       try simp +decide only [go_sem, s3, e11, e12, g3]
       refine m4 _ ⟨!x.RW, ?_, h⟩
       simp +decide only [go_sem, s3, e11, e12, g3]
     try simp +decide only [go_sem, s3, e11, e12]
     refine m4 _ ⟨false, ?_, h⟩
     simp +decide only [go_sem, s3, e11, e12]
   rintro τ4 ⟨t6v, s4, h⟩
   obtain rfl := Option.some.inj h
   simp +decide only [go_sem, s4]
 try simp +decide only [go_sem, s3, e11]
 refine cutH (fun τ => ∃ t43v : Bool, (τ 2 = si obj ∧ τ 3 = bA 6 (eWorld wv) ∧ τ 7 = si kind ∧ τ 43 = sb t43v) ∧ o_al_J5 kind obj wv t43v = some r) fun M5 m5 => ⟨?_, ?_⟩
 · try simp +decide only [go_sem, s3, e11]
   refine cI h (fun e13 h => ?_) fun e13 h => ?_
   · try simp +decide only [go_sem, s3, e11, e13]
     refine m5 _ ⟨kind == 8, ?_, h⟩
     simp +decide only [go_sem, s3, e11, e13]
   try simp +decide only [go_sem, s3, e11, e13]
   refine cI h (fun e14 h => ?_) fun e14 h => ?_
   · try simp +decide only [go_sem, s3, e11, e13, e14]
     refine m5 _ ⟨kind == 9, ?_, h⟩
     simp +decide only [go_sem, s3, e11, e13, e14]
   try simp +decide only [go_sem, s3, e11, e13, e14]
   refine cI h (fun e15 h => ?_) fun e15 h => ?_
   · try simp +decide only [go_sem, s3, e11, e13, e14, e15]
     refine m5 _ ⟨kind == 10, ?_, h⟩
     simp +decide only [go_sem, s3, e11, e13, e14, e15]
   try simp +decide only [go_sem, s3, e11, e13, e14, e15]
   refine m5 _ ⟨kind == 11, ?_, h⟩
   simp +decide only [go_sem, s3, e11, e13, e14, e15]
 rintro τ5 ⟨t43v, s5, h⟩
 try simp +decide only [go_sem, s5]
 refine cI h (fun e16 h => ?_) fun e16 h => ?_
 · try simp +decide only [go_sem, s5, e16]
   refine cutH (fun τ => ∃ t6v_1 : Bool, (τ 6 = sb t6v_1) ∧ o_al_J6 t6v_1 = some r) fun M6 m6 => ⟨?_, ?_⟩
   · obtain ⟨v_2, g4, h⟩ := bS h
     try simp +decide only [go_sem, s5, e16]
     refine ⟨_, o_wi_ok g4, ?_⟩
     try simp +decide only [go_sem, s5, e16]
     refine gI h (fun e17 h => ?_) fun e17 h => ?_
     · obtain ⟨x_1, g5, h⟩ := gB h
       try simp +decide only [go_sem, s5, e16, e17, g5]
       refine m6 _ ⟨x_1.RW, ?_, h⟩
       simp +decide only [go_sem, s5, e16, e17, g5]
     try simp +decide only [go_sem, s5, e16, e17]
     refine m6 _ ⟨false, ?_, h⟩
     simp +decide only [go_sem, s5, e16, e17]
   rintro τ6 ⟨t6v_1, s6, h⟩
   obtain rfl := Option.some.inj h
   simp +decide only [go_sem, s6]
 try simp +decide only [go_sem, s5, e16]
 refine cutH (fun τ => ∃ t61v : Bool, (τ 2 = si obj ∧ τ 3 = bA 6 (eWorld wv) ∧ τ 7 = si kind ∧ τ 61 = sb t61v) ∧ o_al_J7 kind obj wv t61v = some r) fun M7 m7 => ⟨?_, ?_⟩
 · try simp +decide only [go_sem, s5, e16]
   refine cI h (fun e18 h => ?_) fun e18 h => ?_
   · try simp +decide only [go_sem, s5, e16, e18]
     refine m7 _ ⟨kind == 16, ?_, h⟩
     simp +decide only [go_sem, s5, e16, e18]
   try simp +decide only [go_sem, s5, e16, e18]
   refine cI h (fun e19 h => ?_) fun e19 h => ?_
   · try simp +decide only [go_sem, s5, e16, e18, e19]
     refine m7 _ ⟨kind == 17, ?_, h⟩
     simp +decide only [go_sem, s5, e16, e18, e19]
   try simp +decide only [go_sem, s5, e16, e18, e19]
   refine cI h (fun e20 h => ?_) fun e20 h => ?_
   · try simp +decide only [go_sem, s5, e16, e18, e19, e20]
     refine m7 _ ⟨kind == 18, ?_, h⟩
     simp +decide only [go_sem, s5, e16, e18, e19, e20]
   try simp +decide only [go_sem, s5, e16, e18, e19, e20]
   refine m7 _ ⟨kind == 19, ?_, h⟩
   simp +decide only [go_sem, s5, e16, e18, e19, e20]
 rintro τ7 ⟨t61v, s7, h⟩
 try simp +decide only [go_sem, s7]
 refine cI h (fun e21 h => ?_) fun e21 h => ?_
 · obtain ⟨v_3, g6, h⟩ := bS h
   try simp +decide only [go_sem, s7, e21]
   refine ⟨_, o_wi_ok g6, ?_⟩
   obtain rfl := Option.some.inj h
   simp +decide only [go_sem, s7, e21]
 try simp +decide only [go_sem, s7, e21]
 refine cutH (fun τ => ∃ t71v : Bool, (τ 2 = si obj ∧ τ 3 = bA 6 (eWorld wv) ∧ τ 7 = si kind ∧ τ 71 = sb t71v) ∧ o_al_J8 kind obj wv t71v = some r) fun M8 m8 => ⟨?_, ?_⟩
 · try simp +decide only [go_sem, s7, e21]
   refine cI h (fun e22 h => ?_) fun e22 h => ?_
   · try simp +decide only [go_sem, s7, e21, e22]
     refine m8 _ ⟨kind == 20, ?_, h⟩
     simp +decide only [go_sem, s7, e21, e22]
   try simp +decide only [go_sem, s7, e21, e22]
   refine m8 _ ⟨kind == 21, ?_, h⟩
   simp +decide only [go_sem, s7, e21, e22]
 rintro τ8 ⟨t71v, s8, h⟩
 try simp +decide only [go_sem, s8]
 refine cI h (fun e23 h => ?_) fun e23 h => ?_
 · obtain ⟨v_4, g7, h⟩ := bS h
   try simp +decide only [go_sem, s8, e23]
   refine ⟨_, o_wi_ok g7, ?_⟩
   obtain rfl := Option.some.inj h
   simp +decide only [go_sem, s8, e23]
 try simp +decide only [go_sem, s8, e23]
 refine cutH (fun τ => ∃ t79v : Bool, (τ 2 = si obj ∧ τ 3 = bA 6 (eWorld wv) ∧ τ 79 = sb t79v) ∧ o_al_J9 obj wv t79v = some r) fun M9 m9 => ⟨?_, ?_⟩
 · try simp +decide only [go_sem, s8, e23]
   refine cI h (fun e24 h => ?_) fun e24 h => ?_
   · try simp +decide only [go_sem, s8, e23, e24]
     refine m9 _ ⟨kind == 22, ?_, h⟩
     simp +decide only [go_sem, s8, e23, e24]
   try simp +decide only [go_sem, s8, e23, e24]
   refine m9 _ ⟨kind == 23, ?_, h⟩
   simp +decide only [go_sem, s8, e23, e24]
 rintro τ9 ⟨t79v, s9, h⟩
 try simp +decide only [go_sem, s9]
 refine cI h (fun e25 h => ?_) fun e25 h => ?_
 · obtain ⟨v_5, g8, h⟩ := bS h
   try simp +decide only [go_sem, s9, e25]
   refine ⟨_, o_wi_ok g8, ?_⟩
   obtain rfl := Option.some.inj h
   simp +decide only [go_sem, s9, e25]
 obtain rfl := Option.some.inj h
 simp +decide only [go_sem, s9, e25]
def f73c : IC := (sR [iK 4 0]
(cutS (sR [iC 6 0, i0 7 (.len (.t 6)), i0 8 (.cp (.c (.sc (.int .i64 0))))]
(.block 0 (.loop (sR [iO 9 .lss 8 7]
(.seq (.cond (.t 9) .skip (.exit 0))
(.seq (.block 1 (sR [iC 10 8, iM 5 10]
(sR [iC 11 1, iC 12 0, iC 13 5, iI 14 1 12 13, iL 15 14, iO 16 .eql 11 15]
(.cond (.t 16) (sR [iC 17 5, iM 4 17]
.ret) .skip))))
(.reg [iP 18 .add 8 1, iC 8 18])))))))
(sR [iK 4 (-1)]
.ret)))
def f73g : Gi := ⟨[]⟩
def f73r : List RV := [.tmp 4]
def f73 : FI := ⟨f73c, f73g, f73r⟩
theorem chk73 : chkF Tryd.prog Tryd.f73 f73 = true := by kernel_rfl
def s_In_J1 : Option Int :=
  some (-1)
def s_In_L1 (s : List Int) (v : Int) (L1 : Int → Option Int) (t8v : Int) : Option Int :=
  if decide (t8v < (s.length : Int)) then
    (gt s t8v).bind fun x =>
    if v == x then
      some t8v
    else
    L1 (w64 (t8v + 1))
  else
  s_In_J1
def s_In_L1r (s : List Int) (v : Int) : Nat → Int → Option Int
  | 0, _ => none
  | n + 1, t8v => s_In_L1 s v (s_In_L1r s v n) t8v
def s_In (s : List Int) (v : Int) : Option Int :=
  s_In_L1r s v big 0
theorem s_In_ok {s : List Int} {v : Int} {r : Int} (h : s_In s v = some r) : Says Tryd.prog 73 [.sl false 1 (s.map eI), si v] (si r) := by
 refine says_of mix Tryd.func73 chk73 (of_decide_eq_true (by kernel_rfl)) rfl ?_
 simp only [f73, f73c, f73g, f73r]
 try simp +decide only [go_sem]
 refine cutH (fun τ => (True) ∧ s_In_J1 = some r) fun M1 m1 => ⟨?_, ?_⟩
 · try simp +decide only [go_sem]
   refine loopH (fun n τ => ∃ t8v : Int, (τ 0 = .sl false 1 (s.map eI) ∧ τ 1 = si v ∧ τ 7 = si (s.length : Int) ∧ τ 8 = si t8v) ∧ s_In_L1r s v n t8v = some r) ⟨0, ?_, h⟩ fun n1 τ1 N1 => ?_
   · simp +decide only [go_sem]
   rintro ⟨t8v, s1, h⟩ k1
   cases n1 with
   | zero => exact no_none h
   | succ n1 =>
    rw [s_In_L1r] at h; generalize q1 : s_In_L1r s v n1 = L1 at h
    try simp +decide only [go_sem, s1]
    refine cI h (fun e1 h => ?_) fun e1 h => ?_
    · obtain ⟨x, g1, h⟩ := gB h
      try simp +decide only [go_sem, s1, e1, g1]
      refine cI h (fun e2 h => ?_) fun e2 h => ?_
      · obtain rfl := Option.some.inj h
        simp +decide only [go_sem, s1, e1, g1, e2]
      try simp +decide only [go_sem, s1, e1, g1, e2]
      refine k1 n1 (Nat.lt_succ_self _) _ ⟨w64 (t8v + 1), ?_, q1.symm ▸ h⟩
      simp +decide only [go_sem, s1, e1, g1, e2]
    try simp +decide only [go_sem, s1, e1]
    refine m1 _ ⟨?_, h⟩
    simp +decide only [go_sem, s1, e1]
 rintro τ1 ⟨_, h⟩
 obtain rfl := Option.some.inj h
 simp +decide only [go_sem]
def f63c : IC := (sR [iB 4 false]
(sR [iC 5 0, iC 6 1, i0 7 (.call 73 [.t 5, .t 6] 0), iP 8 .geq 7 0, iM 4 8]
.ret))
def f63g : Gi := ⟨[]⟩
def f63r : List RV := [.tmp 4]
def f63 : FI := ⟨f63c, f63g, f63r⟩
theorem chk63 : chkF Tryd.prog Tryd.f63 f63 = true := by kernel_rfl
def s_Co (s : List Int) (v : Int) : Option Bool :=
  (s_In s v).bind fun v_1 =>
  some (decide (v_1 ≥ 0))
theorem s_Co_ok {s : List Int} {v : Int} {r : Bool} (h : s_Co s v = some r) : Says Tryd.prog 63 [.sl false 1 (s.map eI), si v] (sb r) := by
 refine says_of mix Tryd.func63 chk63 (of_decide_eq_true (by kernel_rfl)) rfl ?_
 simp only [f63, f63c, f63g, f63r]
 obtain ⟨v_1, g1, h⟩ := bS h
 try simp +decide only [go_sem]
 refine ⟨_, s_In_ok g1, ?_⟩
 obtain rfl := Option.some.inj h
 simp +decide only [go_sem]
end Go.Abs
