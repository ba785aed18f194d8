/- Typed programs: wellformed.valued, slices.Clone[[]int,int], slices.Clone[[]bool,bool], slices.Clone[[]api.ThreadSync,api.ThreadSync]. -/
import Derived.Test.YteobdlimfbjjnaaDoorTE
set_option linter.unusedSimpArgs false
namespace Go.Abs
open Go.Proofs
set_option maxRecDepth 100000
set_option maxHeartbeats 4000000
def f24c : IC := (sR [⟨some ⟨2, [18, 29, 51, 52, 92, 93], []⟩, .bx 7 (.t 0), none⟩, ⟨some ⟨3, [12, 16, 20, 27, 31, 38, 42, 66, 74, 85, 106, 113, 117], []⟩, .bx 7 (.t 1), none⟩, iB 4 false]
(cutS (sR [iFr 12 3 1 3, iL 13 12]
(.block 0 (sR [iQ 15 13 3, iM 14 15]
(.cond (.t 14) (sR [iFr 16 3 3 3, iL 17 16, iFr 18 2 4 2, iL 19 18, iFr 20 3 2 3, iL 21 20, iI 22 1 19 21, iL 23 22, iO 24 .eql 17 23, iM 4 24]
.ret) (sR [iQ 26 13 23, iM 25 26]
(.cond (.t 25) (sR [iFr 27 3 3 3, iL 28 27, iFr 29 2 5 2, iL 30 29, iFr 31 3 2 3, iL 32 31, iI 33 1 30 32, iL 34 33, iO 35 .eql 28 34, iM 4 35]
.ret) (sR [iQ 37 13 5, iM 36 37]
(.cond (.t 36) (cutS (.reg [iFr 38 3 3 3, iL 39 38, iQ 40 39 0, iC 41 40, jFr 42 3 3 3 41 false, jL 43 42 41 false, j0 44 (.bin .eql (.t 43) (.c (.sc (.int .i64 1)))) 41 false, i0 45 (.pick (.t 41) (.c (.sc (.bool true))) (.t 44)), iM 4 45])
.ret) (cutS (sR [iQ 47 13 4, iM 46 47]
(.cond (.t 46) .skip (.reg [iQ 48 13 22, iM 46 48])))
(.cond (.t 46) (sR [iB 4 true]
.ret) (sR [iQ 50 13 18, iM 49 50]
(.cond (.t 49) (sR [iK 5 0, iB 6 false]
(cutS (sR [iFr 51 2 0 2, iFr 52 2 3 51, iL 53 52, i0 54 (.len (.t 53)), i0 55 (.cp (.c (.sc (.int .i64 0))))]
(.block 1 (.loop (sR [iO 56 .lss 55 54]
(.seq (.cond (.t 56) .skip (.exit 1))
(cutS (.block 2 (sR [iC 57 55, iI 58 3 53 55, i0 59 (.ld true 3 (.t 58)), ⟨some ⟨8, [60, 64], []⟩, .bx 3 (.c (.agg [.sc (.int .i64 0), .sc (.int .i64 0), .sc (.bool false)])), none⟩, iM 7 57, iS 3 8 59]
(cutS (.reg [iFr 60 8 0 8, iL 61 60, iQ 62 61 3, iC 63 62, jFr 64 8 1 8 63 true, jL 65 64 63 true, jFr 66 3 2 3 63 true, jL 67 66 63 true, j0 68 (.bin .eql (.t 65) (.t 67)) 63 true, i0 69 (.pick (.t 63) (.t 68) (.c (.sc (.bool false))))])
(.cond (.t 69) (sR [iC 70 5, iP 71 .add 70 1, iM 5 71]
(.reg [iC 72 6, iC 73 72, jFr 74 3 3 3 73 false, jL 75 74 73 false, j0 76 (.cp (.t 7)) 73 false, j0 77 (.bin .eql (.t 75) (.t 76)) 73 false, i0 78 (.pick (.t 73) (.c (.sc (.bool true))) (.t 77)), iM 6 78])) .skip))))
(.reg [iP 79 .add 55 1, iC 55 79])))))))
(cutS (.reg [iC 80 6, iC 81 80, j0 82 (.cp (.t 5)) 81 false, j0 83 (.bin .eql (.t 82) (.c (.sc (.int .i64 0)))) 81 false, j0 84 (.cp (.t 83)) 81 false, jFr 85 3 3 3 84 true, jL 86 85 84 true, j0 87 (.bin .eql (.t 86) (.c (.sc (.int .i64 (-1))))) 84 true, j0 88 (.pick (.t 84) (.t 87) (.c (.sc (.bool false)))) 81 false, i0 89 (.pick (.t 81) (.c (.sc (.bool true))) (.t 88)), iM 4 89])
.ret))) (sR [iQ 91 13 19, iM 90 91]
(.cond (.t 90) (sR [iK 9 0]
(cutS (sR [iFr 92 2 0 2, iFr 93 2 3 92, iL 94 93, i0 95 (.len (.t 94)), i0 96 (.cp (.c (.sc (.int .i64 0))))]
(.block 3 (.loop (sR [iO 97 .lss 96 95]
(.seq (.cond (.t 97) .skip (.exit 3))
(cutS (.block 4 (sR [iI 98 3 94 96, i0 99 (.ld true 3 (.t 98)), ⟨some ⟨11, [100, 104], []⟩, .bx 3 (.c (.agg [.sc (.int .i64 0), .sc (.int .i64 0), .sc (.bool false)])), none⟩, iS 3 11 99]
(cutS (.reg [iFr 100 11 0 11, iL 101 100, iQ 102 101 3, iC 103 102, jFr 104 11 1 11 103 true, jL 105 104 103 true, jFr 106 3 2 3 103 true, jL 107 106 103 true, j0 108 (.bin .eql (.t 105) (.t 107)) 103 true, i0 109 (.pick (.t 103) (.t 108) (.c (.sc (.bool false))))])
(.cond (.t 109) (.reg [iC 110 9, iP 111 .add 110 1, iM 9 111]) .skip))))
(.reg [iP 112 .add 96 1, iC 96 112])))))))
(sR [iFr 113 3 3 3, iL 114 113, iC 115 9, iO 116 .eql 114 115, iM 4 116]
.ret))) .skip))))))))))))))
(sR [iFr 117 3 3 3, iL 118 117, iQ 119 118 0, iM 4 119]
.ret)))
def f24g : Gi := ⟨[(12, [3]), (16, [3]), (18, [2]), (20, [3]), (27, [3]), (29, [2]), (31, [3]), (38, [3]), (42, [3]), (51, [2]), (52, [2]), (60, [8]), (64, [8]), (66, [3]), (74, [3]), (85, [3]), (92, [2]), (93, [2]), (100, [11]), (104, [11]), (106, [3]), (113, [3]), (117, [3])]⟩
def f24r : List RV := [.tmp 4]
def f24 : FI := ⟨f24c, f24g, f24r⟩
theorem chk24 : chkF Tryd.prog Tryd.f24 f24 = true := by kernel_rfl
def w_va_J10 (ev : SEvent) : Option Bool :=
  some (ev.Value == 0)
def w_va_J1 (t4v : Bool) : Option Bool :=
  some t4v
def w_va_J6 (t4v_1 : Bool) : Option Bool :=
  some t4v_1
def w_va_J5 (ev : SEvent) (waiting_2 : Int) (woken_2 : Bool) : Option Bool :=
  if woken_2 then
    w_va_J6 true
  else
  if waiting_2 == 0 then
    w_va_J6 (ev.Value == (-1))
  else
  w_va_J6 false
def w_va_J4 (L1 : Int → Bool → Int → Option Bool) (t55v : Int) (waiting_1 : Int) (woken_1 : Bool) : Option Bool :=
  L1 waiting_1 woken_1 (w64 (t55v + 1))
def w_va_J3 (L1 : Int → Bool → Int → Option Bool) (ev : SEvent) (t55v : Int) (waiting : Int) (woken : Bool) (t69v : Bool) : Option Bool :=
  if t69v then
    if woken then
      w_va_J4 L1 t55v (w64 (waiting + 1)) true
    else
    w_va_J4 L1 t55v (w64 (waiting + 1)) (ev.Value == t55v)
  else
  w_va_J4 L1 t55v waiting woken
def w_va_L1 (ev : SEvent) (s : SSnapshot) (L1 : Int → Bool → Int → Option Bool) (waiting : Int) (woken : Bool) (t55v : Int) : Option Bool :=
  if decide (t55v < (s.Sync.Threads.length : Int)) then
    (gt s.Sync.Threads t55v).bind fun x_2 =>
    if x_2.Status == 3 then
      w_va_J3 L1 ev t55v waiting woken (x_2.Cond == ev.Obj)
    else
    w_va_J3 L1 ev t55v waiting woken false
  else
  w_va_J5 ev waiting woken
def w_va_L1r (ev : SEvent) (s : SSnapshot) : Nat → Int → Bool → Int → Option Bool
  | 0, _, _, _ => none
  | n + 1, waiting, woken, t55v => w_va_L1 ev s (w_va_L1r ev s n) waiting woken t55v
def w_va_J9 (ev : SEvent) (waiting_5 : Int) : Option Bool :=
  some (ev.Value == waiting_5)
def w_va_J8 (L2 : Int → Int → Option Bool) (t96v : Int) (waiting_4 : Int) : Option Bool :=
  L2 waiting_4 (w64 (t96v + 1))
def w_va_J7 (L2 : Int → Int → Option Bool) (t96v : Int) (waiting_3 : Int) (t109v : Bool) : Option Bool :=
  if t109v then
    w_va_J8 L2 t96v (w64 (waiting_3 + 1))
  else
  w_va_J8 L2 t96v waiting_3
def w_va_L2 (ev : SEvent) (s : SSnapshot) (L2 : Int → Int → Option Bool) (waiting_3 : Int) (t96v : Int) : Option Bool :=
  if decide (t96v < (s.Sync.Threads.length : Int)) then
    (gt s.Sync.Threads t96v).bind fun x_3 =>
    if x_3.Status == 3 then
      w_va_J7 L2 t96v waiting_3 (x_3.Cond == ev.Obj)
    else
    w_va_J7 L2 t96v waiting_3 false
  else
  w_va_J9 ev waiting_3
def w_va_L2r (ev : SEvent) (s : SSnapshot) : Nat → Int → Int → Option Bool
  | 0, _, _ => none
  | n + 1, waiting_3, t96v => w_va_L2 ev s (w_va_L2r ev s n) waiting_3 t96v
def w_va_J2 (ev : SEvent) (s : SSnapshot) (t46v : Bool) : Option Bool :=
  if t46v then
    some true
  else
  if ev.Kind == 18 then
    w_va_L1r ev s big 0 false 0
  else
  if ev.Kind == 19 then
    w_va_L2r ev s big 0 0
  else
  w_va_J10 ev
def w_va (s : SSnapshot) (ev : SEvent) : Option Bool :=
  if ev.Kind == 3 then
    (gt s.Cells ev.Obj).bind fun x =>
    some (ev.Value == x)
  else
  if ev.Kind == 23 then
    (gt s.Futures ev.Obj).bind fun x_1 =>
    some (ev.Value == x_1)
  else
  if ev.Kind == 5 then
    if ev.Value == 0 then
      w_va_J1 true
    else
    w_va_J1 (ev.Value == 1)
  else
  if ev.Kind == 4 then
    w_va_J2 ev s (ev.Kind == 4)
  else
  w_va_J2 ev s (ev.Kind == 22)
theorem w_va_ok {s : SSnapshot} {ev : SEvent} {r : Bool} (h : w_va s ev = some r) : Says Tryd.prog 24 [.agg (eSnapshot s), .agg (eEvent ev)] (sb r) := by
 refine says_of mix Tryd.func24 chk24 (of_decide_eq_true (by kernel_rfl)) rfl ?_
 simp only [f24, f24c, f24g, f24r]
 try simp +decide only [go_sem]
 refine cutH (fun τ => (τ 3 = bA 7 (eEvent ev)) ∧ w_va_J10 ev = some r) fun M10 m10 => ⟨?_, ?_⟩
 · try simp +decide only [go_sem]
   refine cI h (fun e1 h => ?_) fun e1 h => ?_
   · obtain ⟨x, g1, h⟩ := gB h
     obtain rfl := Option.some.inj h
     simp +decide only [go_sem, e1, g1]
   try simp +decide only [go_sem, e1]
   refine cI h (fun e2 h => ?_) fun e2 h => ?_
   · obtain ⟨x_1, g2, h⟩ := gB h
     obtain rfl := Option.some.inj h
     simp +decide only [go_sem, e1, e2, g2]
   try simp +decide only [go_sem, e1, e2]
   refine cI h (fun e3 h => ?_) fun e3 h => ?_
   · try simp +decide only [go_sem, e1, e2, e3]
     refine cutH (fun τ => ∃ t4v : Bool, (τ 4 = sb t4v) ∧ w_va_J1 t4v = some r) fun M1 m1 => ⟨?_, ?_⟩
     · try simp +decide only [go_sem, e1, e2, e3]
       refine gI h (fun e4 h => ?_) fun e4 h => ?_
       · try simp +decide only [go_sem, e1, e2, e3, e4]
         refine m1 _ ⟨true, ?_, h⟩
         simp +decide only [go_sem, e1, e2, e3, e4]
       try simp +decide only [go_sem, e1, e2, e3, e4]
       refine m1 _ ⟨ev.Value == 1, ?_, h⟩
       simp +decide only [go_sem, e1, e2, e3, e4]
     rintro τ1 ⟨t4v, s1, h⟩
     obtain rfl := Option.some.inj h
     simp +decide only [go_sem, s1]
   try simp +decide only [go_sem, e1, e2, e3]
   refine cutH (fun τ => ∃ t46v : Bool, (τ 2 = bA 7 (eSnapshot s) ∧ τ 3 = bA 7 (eEvent ev) ∧ τ 13 = si ev.Kind ∧ τ 46 = sb t46v) ∧ w_va_J2 ev s t46v = some r) fun M2 m2 => ⟨?_, ?_⟩
   · try simp +decide only [go_sem, e1, e2, e3]
     refine cI h (fun e5 h => ?_) fun e5 h => ?_
     · try simp +decide only [go_sem, e1, e2, e3, e5]
       refine m2 _ ⟨ev.Kind == 4, ?_, h⟩
       simp +decide only [go_sem, e1, e2, e3, e5]
     try simp +decide only [go_sem, e1, e2, e3, e5]
     refine m2 _ ⟨ev.Kind == 22, ?_, h⟩
     simp +decide only [go_sem, e1, e2, e3, e5]
   rintro τ2 ⟨t46v, s2, h⟩
   try simp +decide only [go_sem, s2]
   refine cI h (fun e6 h => ?_) fun e6 h => ?_
   · obtain rfl := Option.some.inj h
     simp +decide only [go_sem, s2, e6]
   try simp +decide only [go_sem, s2, e6]
   refine cI h (fun e7 h => ?_) fun e7 h => ?_
   · try simp +decide only [go_sem, s2, e6, e7]
     refine cutH (fun τ => ∃ waiting_2 : Int, ∃ woken_2 : Bool, (τ 3 = bA 7 (eEvent ev) ∧ τ 5 = si waiting_2 ∧ τ 6 = sb woken_2) ∧ w_va_J5 ev waiting_2 woken_2 = some r) fun M5 m5 => ⟨?_, ?_⟩
     · try simp +decide only [go_sem, s2, e6, e7]
       refine loopH (fun n τ => ∃ waiting : Int, ∃ woken : Bool, ∃ t55v : Int, (τ 3 = bA 7 (eEvent ev) ∧ τ 5 = si waiting ∧ τ 6 = sb woken ∧ τ 53 = .sl false 3 (s.Sync.Threads.map eThreadSync) ∧ τ 54 = si (s.Sync.Threads.length : Int) ∧ τ 55 = si t55v) ∧ w_va_L1r ev s n waiting woken t55v = some r) ⟨0, false, 0, ?_, h⟩ fun n1 τ1 N1 => ?_
       · simp +decide only [go_sem, s2, e6, e7]
       rintro ⟨waiting, woken, t55v, s1, h⟩ k1
       cases n1 with
       | zero => exact no_none h
       | succ n1 =>
        rw [w_va_L1r] at h; generalize q1 : w_va_L1r ev s n1 = L1 at h
        try simp +decide only [go_sem, s1]
        refine cI h (fun e8 h => ?_) fun e8 h => ?_
        · try simp +decide only [go_sem, s1, e8]
          refine cutH (fun τ => ∃ waiting_1 : Int, ∃ woken_1 : Bool, (τ 3 = bA 7 (eEvent ev) ∧ τ 5 = si waiting_1 ∧ τ 6 = sb woken_1 ∧ τ 53 = .sl false 3 (s.Sync.Threads.map eThreadSync) ∧ τ 54 = si (s.Sync.Threads.length : Int) ∧ τ 55 = si t55v) ∧ w_va_J4 L1 t55v waiting_1 woken_1 = some r) fun M4 m4 => ⟨?_, ?_⟩
          · obtain ⟨x_2, g3, h⟩ := gB h
            try simp +decide only [go_sem, s1, e8, g3]
            refine cutH (fun τ => ∃ t69v : Bool, (τ 3 = bA 7 (eEvent ev) ∧ τ 5 = si waiting ∧ τ 6 = sb woken ∧ τ 7 = si t55v ∧ τ 53 = .sl false 3 (s.Sync.Threads.map eThreadSync) ∧ τ 54 = si (s.Sync.Threads.length : Int) ∧ τ 55 = si t55v ∧ τ 69 = sb t69v) ∧ w_va_J3 L1 ev t55v waiting woken t69v = some r) fun M3 m3 => ⟨?_, ?_⟩
            · try simp +decide only [go_sem, s1, e8, g3]
              refine gI h (fun e9 h => ?_) fun e9 h => ?_
              · try simp +decide only [go_sem, s1, e8, g3, e9]
                refine m3 _ ⟨x_2.Cond == ev.Obj, ?_, h⟩
                simp +decide only [go_sem, s1, e8, g3, e9]
              try simp +decide only [go_sem, s1, e8, g3, e9]
              refine m3 _ ⟨false, ?_, h⟩
              simp +decide only [go_sem, s1, e8, g3, e9]
            rintro τ3 ⟨t69v, s3, h⟩
            try simp +decide only [go_sem, s3]
            refine cI h (fun e10 h => ?_) fun e10 h => ?_
            · try simp +decide only [go_sem, s3, e10]
              refine gI h (fun e11 h => ?_) fun e11 h => ?_
              · try simp +decide only [go_sem, s3, e10, e11]
                refine m4 _ ⟨w64 (waiting + 1), true, ?_, h⟩
                simp +decide only [go_sem, s3, e10, e11]
              try simp +decide only [go_sem, s3, e10, e11]
              refine m4 _ ⟨w64 (waiting + 1), ev.Value == t55v, ?_, h⟩
              simp +decide only [go_sem, s3, e10, e11]
            try simp +decide only [go_sem, s3, e10]
            refine m4 _ ⟨waiting, woken, ?_, h⟩
            simp +decide only [go_sem, s3, e10]
          rintro τ4 ⟨waiting_1, woken_1, s4, h⟩
          try simp +decide only [go_sem, s4]
          refine k1 n1 (Nat.lt_succ_self _) _ ⟨waiting_1, woken_1, w64 (t55v + 1), ?_, q1.symm ▸ h⟩
          simp +decide only [go_sem, s4]
        try simp +decide only [go_sem, s1, e8]
        refine m5 _ ⟨waiting, woken, ?_, h⟩
        simp +decide only [go_sem, s1, e8]
     rintro τ5 ⟨waiting_2, woken_2, s5, h⟩
     try simp +decide only [go_sem, s5]
     refine cutH (fun τ => ∃ t4v_1 : Bool, (τ 4 = sb t4v_1) ∧ w_va_J6 t4v_1 = some r) fun M6 m6 => ⟨?_, ?_⟩
     · try simp +decide only [go_sem, s5]
       refine gI h (fun e12 h => ?_) fun e12 h => ?_
       · try simp +decide only [go_sem, s5, e12]
         refine m6 _ ⟨true, ?_, h⟩
         simp +decide only [go_sem, s5, e12]
       try simp +decide only [go_sem, s5, e12]
       refine gI h (fun e13 h => ?_) fun e13 h => ?_
       · try simp +decide only [go_sem, s5, e12, e13]
         refine m6 _ ⟨ev.Value == (-1), ?_, h⟩
         simp +decide only [go_sem, s5, e12, e13]
       try simp +decide only [go_sem, s5, e12, e13]
       refine m6 _ ⟨false, ?_, h⟩
       simp +decide only [go_sem, s5, e12, e13]
     rintro τ6 ⟨t4v_1, s6, h⟩
     obtain rfl := Option.some.inj h
     simp +decide only [go_sem, s6]
   try simp +decide only [go_sem, s2, e6, e7]
   refine cI h (fun e14 h => ?_) fun e14 h => ?_
   · try simp +decide only [go_sem, s2, e6, e7, e14]
     refine cutH (fun τ => ∃ waiting_5 : Int, (τ 3 = bA 7 (eEvent ev) ∧ τ 9 = si waiting_5) ∧ w_va_J9 ev waiting_5 = some r) fun M9 m9 => ⟨?_, ?_⟩
     · try simp +decide only [go_sem, s2, e6, e7, e14]
       refine loopH (fun n τ => ∃ waiting_3 : Int, ∃ t96v : Int, (τ 3 = bA 7 (eEvent ev) ∧ τ 9 = si waiting_3 ∧ τ 94 = .sl false 3 (s.Sync.Threads.map eThreadSync) ∧ τ 95 = si (s.Sync.Threads.length : Int) ∧ τ 96 = si t96v) ∧ w_va_L2r ev s n waiting_3 t96v = some r) ⟨0, 0, ?_, h⟩ fun n2 τ2 N2 => ?_
       · simp +decide only [go_sem, s2, e6, e7, e14]
       rintro ⟨waiting_3, t96v, s2, h⟩ k2
       cases n2 with
       | zero => exact no_none h
       | succ n2 =>
        rw [w_va_L2r] at h; generalize q2 : w_va_L2r ev s n2 = L2 at h
        try simp +decide only [go_sem, s2]
        refine cI h (fun e15 h => ?_) fun e15 h => ?_
        · try simp +decide only [go_sem, s2, e15]
          refine cutH (fun τ => ∃ waiting_4 : Int, (τ 3 = bA 7 (eEvent ev) ∧ τ 9 = si waiting_4 ∧ τ 94 = .sl false 3 (s.Sync.Threads.map eThreadSync) ∧ τ 95 = si (s.Sync.Threads.length : Int) ∧ τ 96 = si t96v) ∧ w_va_J8 L2 t96v waiting_4 = some r) fun M8 m8 => ⟨?_, ?_⟩
          · obtain ⟨x_3, g4, h⟩ := gB h
            try simp +decide only [go_sem, s2, e15, g4]
            refine cutH (fun τ => ∃ t109v : Bool, (τ 3 = bA 7 (eEvent ev) ∧ τ 9 = si waiting_3 ∧ τ 94 = .sl false 3 (s.Sync.Threads.map eThreadSync) ∧ τ 95 = si (s.Sync.Threads.length : Int) ∧ τ 96 = si t96v ∧ τ 109 = sb t109v) ∧ w_va_J7 L2 t96v waiting_3 t109v = some r) fun M7 m7 => ⟨?_, ?_⟩
            · try simp +decide only [go_sem, s2, e15, g4]
              refine gI h (fun e16 h => ?_) fun e16 h => ?_
              · try simp +decide only [go_sem, s2, e15, g4, e16]
                refine m7 _ ⟨x_3.Cond == ev.Obj, ?_, h⟩
                simp +decide only [go_sem, s2, e15, g4, e16]
              try simp +decide only [go_sem, s2, e15, g4, e16]
              refine m7 _ ⟨false, ?_, h⟩
              simp +decide only [go_sem, s2, e15, g4, e16]
            rintro τ7 ⟨t109v, s7, h⟩
            try simp +decide only [go_sem, s7]
            refine cI h (fun e17 h => ?_) fun e17 h => ?_
            · try simp +decide only [go_sem, s7, e17]
              refine m8 _ ⟨w64 (waiting_3 + 1), ?_, h⟩
              simp +decide only [go_sem, s7, e17]
            try simp +decide only [go_sem, s7, e17]
            refine m8 _ ⟨waiting_3, ?_, h⟩
            simp +decide only [go_sem, s7, e17]
          rintro τ8 ⟨waiting_4, s8, h⟩
          try simp +decide only [go_sem, s8]
          refine k2 n2 (Nat.lt_succ_self _) _ ⟨waiting_4, w64 (t96v + 1), ?_, q2.symm ▸ h⟩
          simp +decide only [go_sem, s8]
        try simp +decide only [go_sem, s2, e15]
        refine m9 _ ⟨waiting_3, ?_, h⟩
        simp +decide only [go_sem, s2, e15]
     rintro τ9 ⟨waiting_5, s9, h⟩
     obtain rfl := Option.some.inj h
     simp +decide only [go_sem, s9]
   try simp +decide only [go_sem, s2, e6, e7, e14]
   refine m10 _ ⟨?_, h⟩
   simp +decide only [go_sem, s2, e6, e7, e14]
 rintro τ10 ⟨s10, h⟩
 obtain rfl := Option.some.inj h
 simp +decide only [go_sem, s10]
def f27c : IC := (.seq (.reg [⟨some ⟨2, [], []⟩, .mv (.c (.own false 1 [])), none⟩])
 (.seq (.seq (.rex [.o ⟨some ⟨3, [], []⟩, .cp (.t 0), none⟩,
  .nilq ⟨4, [], []⟩ false (.t 3)])
 (.cond (.t 4) (.seq (.reg [⟨some ⟨2, [], []⟩, .mv (.c (.own false 1 [])), none⟩])
 .ret) .skip))
 (.seq (.reg [⟨some ⟨5, [], []⟩, .bsl 1 [] [], none⟩,
  ⟨some ⟨6, [], []⟩, .cp (.t 0), none⟩,
  ⟨some ⟨7, [], []⟩, .app 1 8 (.t 5) (.t 6), none⟩,
  ⟨some ⟨2, [], []⟩, .mv (.t 7), none⟩])
 .ret)))
def f27g : Gi := ⟨[]⟩
def f27r : List RV := [.tmp 2]
def f27 : FI := ⟨f27c, f27g, f27r⟩
theorem chk27 : chkF Tryd.prog Tryd.f27 f27 = true := by kernel_rfl
def s_Clin (l : List Int) : Option (List Int) := if roomOK l.length 8 = true then some l else none
theorem s_Clin_ok {l : List Int} {r : List Int} (h : s_Clin l = some r) : Says Tryd.prog 27 [.sl false 1 (l.map eI)] (.own false 1 (r.map eI)) := by
  obtain ⟨g, h⟩ := chk_some h
  obtain rfl := Option.some.inj h
  refine says_of mix Tryd.func27 chk27 (of_decide_eq_true (by kernel_rfl)) rfl ?_
  simp only [f27, f27c, f27g, f27r]
  simp +decide only [go_sem, g]
  intro b hb
  cases b with
  | true =>
    have hl : l = [] := by simpa using hb rfl
    subst hl
    simp +decide only [go_sem, g]
  | false => simp +decide only [go_sem, g]
def f64c : IC := (.seq (.reg [⟨some ⟨2, [], []⟩, .mv (.c (.own false 1 [])), none⟩])
 (.seq (.seq (.rex [.o ⟨some ⟨3, [], []⟩, .cp (.t 0), none⟩,
  .nilq ⟨4, [], []⟩ false (.t 3)])
 (.cond (.t 4) (.seq (.reg [⟨some ⟨2, [], []⟩, .mv (.c (.own false 1 [])), none⟩])
 .ret) .skip))
 (.seq (.reg [⟨some ⟨5, [], []⟩, .bsl 1 [] [], none⟩,
  ⟨some ⟨6, [], []⟩, .cp (.t 0), none⟩,
  ⟨some ⟨7, [], []⟩, .app 1 1 (.t 5) (.t 6), none⟩,
  ⟨some ⟨2, [], []⟩, .mv (.t 7), none⟩])
 .ret)))
def f64g : Gi := ⟨[]⟩
def f64r : List RV := [.tmp 2]
def f64 : FI := ⟨f64c, f64g, f64r⟩
theorem chk64 : chkF Tryd.prog Tryd.f64 f64 = true := by kernel_rfl
def s_Clbo (l : List Bool) : Option (List Bool) := if roomOK l.length 1 = true then some l else none
theorem s_Clbo_ok {l : List Bool} {r : List Bool} (h : s_Clbo l = some r) : Says Tryd.prog 64 [.sl false 1 (l.map eB)] (.own false 1 (r.map eB)) := by
  obtain ⟨g, h⟩ := chk_some h
  obtain rfl := Option.some.inj h
  refine says_of mix Tryd.func64 chk64 (of_decide_eq_true (by kernel_rfl)) rfl ?_
  simp only [f64, f64c, f64g, f64r]
  simp +decide only [go_sem, g]
  intro b hb
  cases b with
  | true =>
    have hl : l = [] := by simpa using hb rfl
    subst hl
    simp +decide only [go_sem, g]
  | false => simp +decide only [go_sem, g]
def f65c : IC := (.seq (.reg [⟨some ⟨2, [], []⟩, .mv (.c (.own false 3 [])), none⟩])
 (.seq (.seq (.rex [.o ⟨some ⟨3, [], []⟩, .cp (.t 0), none⟩,
  .nilq ⟨4, [], []⟩ false (.t 3)])
 (.cond (.t 4) (.seq (.reg [⟨some ⟨2, [], []⟩, .mv (.c (.own false 3 [])), none⟩])
 .ret) .skip))
 (.seq (.reg [⟨some ⟨5, [], []⟩, .bsl 3 [] [], none⟩,
  ⟨some ⟨6, [], []⟩, .cp (.t 0), none⟩,
  ⟨some ⟨7, [], []⟩, .app 3 24 (.t 5) (.t 6), none⟩,
  ⟨some ⟨2, [], []⟩, .mv (.t 7), none⟩])
 .ret)))
def f65g : Gi := ⟨[]⟩
def f65r : List RV := [.tmp 2]
def f65 : FI := ⟨f65c, f65g, f65r⟩
theorem chk65 : chkF Tryd.prog Tryd.f65 f65 = true := by kernel_rfl
def s_ClapT (l : List SThreadSync) : Option (List SThreadSync) := if roomOK l.length 24 = true then some l else none
theorem s_ClapT_ok {l : List SThreadSync} {r : List SThreadSync} (h : s_ClapT l = some r) : Says Tryd.prog 65 [.sl false 3 (l.map eThreadSync)] (.own false 3 (r.map eThreadSync)) := by
  obtain ⟨g, h⟩ := chk_some h
  obtain rfl := Option.some.inj h
  refine says_of mix Tryd.func65 chk65 (of_decide_eq_true (by kernel_rfl)) rfl ?_
  simp only [f65, f65c, f65g, f65r]
  simp +decide only [go_sem, g]
  intro b hb
  cases b with
  | true =>
    have hl : l = [] := by simpa using hb rfl
    subst hl
    simp +decide only [go_sem, g]
  | false => simp +decide only [go_sem, g]
end Go.Abs
