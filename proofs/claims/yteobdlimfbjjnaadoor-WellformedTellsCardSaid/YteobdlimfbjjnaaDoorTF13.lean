/- Typed programs: interleaveref08.Waiting, interleaveref16.value, interleaveref08.Copy, interleaveref07.Put. -/
import Derived.Test.YteobdlimfbjjnaaDoorTE
import Derived.Test.YteobdlimfbjjnaaDoorTF12
set_option linter.unusedSimpArgs false
namespace Go.Abs
open Go.Proofs
set_option maxRecDepth 100000
set_option maxHeartbeats 4000000
def f58c : IC := (sR [⟨some ⟨2, [8, 14, 22], []⟩, .bx 4 (.t 0), none⟩, i0 4 (.mv (.c (.own false 1 [])))]
(sR [⟨some ⟨5, [31, 35], []⟩, .mv (.c (.own false 1 [])), none⟩]
(cutS (sR [iK 6 0]
(.block 0 (.loop (.seq (sR [iC 7 6, iFr 8 2 3 2, iL 9 8, i0 10 (.len (.t 9)), iO 11 .lss 7 10]
(.cond (.t 11) .skip (.exit 0)))
(cutS (.block 1 (cutS (.reg [iFr 14 2 3 2, iL 15 14, iC 16 6, iI 17 3 15 16, iF 18 0 17, iL 19 18, iQ 20 19 3, iC 21 20, jFr 22 2 3 2 21 true, jL 23 22 21 true, j0 24 (.cp (.t 6)) 21 true, j0 25 (.iad 3 (.t 23) (.t 24)) 21 true, jF 26 1 25 21 true, jL 27 26 21 true, j0 28 (.cp (.t 1)) 21 true, j0 29 (.bin .eql (.t 27) (.t 28)) 21 true, i0 30 (.pick (.t 21) (.t 29) (.c (.sc (.bool false))))])
(.cond (.t 30) (.reg [i1 31 5 (.cp (.t 5)), iC 32 6, i0 33 (.bsl 1 [[.sc (.int .i64 0)]] [(0, .t 32)]), i0 34 (.app 1 8 (.t 31) (.t 33)), ⟨some ⟨5, [31, 35], []⟩, .mv (.t 34), none⟩]) .skip)))
(.reg [iC 12 6, iP 13 .add 12 1, iM 6 13]))))))
(sR [i1 35 5 (.cp (.t 5)), iM 4 35]
.ret))))
def f58g : Gi := ⟨[(8, [2]), (14, [2]), (22, [2]), (31, [5]), (35, [5])]⟩
def f58r : List RV := [.tmp 4]
def f58 : FI := ⟨f58c, f58g, f58r⟩
theorem chk58 : chkF Tryd.prog Tryd.f58 f58 = true := by kernel_rfl
def r08_Wa_J3 (l_2 : List Int) : Option (List Int) :=
  some l_2
def r08_Wa_J2 (L1 : (List Int) → Int → Option (List Int)) (i : Int) (l_1 : List Int) : Option (List Int) :=
  L1 l_1 (w64 (i + 1))
def r08_Wa_J1 (L1 : (List Int) → Int → Option (List Int)) (i : Int) (l : List Int) (t30v : Bool) : Option (List Int) :=
  if t30v then
    if roomOK (l.length + 1) 8 = true then
    r08_Wa_J2 L1 i (l ++ [i])
    else none
  else
  r08_Wa_J2 L1 i l
def r08_Wa_L1 (cond : Int) (s : SSync) (L1 : (List Int) → Int → Option (List Int)) (l : List Int) (i : Int) : Option (List Int) :=
  if decide (i < (s.Threads.length : Int)) then
    (gt s.Threads i).bind fun x =>
    if x.Status == 3 then
      r08_Wa_J1 L1 i l (x.Cond == cond)
    else
    r08_Wa_J1 L1 i l false
  else
  r08_Wa_J3 l
def r08_Wa_L1r (cond : Int) (s : SSync) : Nat → (List Int) → Int → Option (List Int)
  | 0, _, _ => none
  | n + 1, l, i => r08_Wa_L1 cond s (r08_Wa_L1r cond s n) l i
def r08_Wa (s : SSync) (cond : Int) : Option (List Int) :=
  r08_Wa_L1r cond s big [] 0
theorem r08_Wa_ok {s : SSync} {cond : Int} {r : List Int} (h : r08_Wa s cond = some r) : Says Tryd.prog 58 [.agg (eSync s), si cond] (.own false 1 (r.map eI)) := by
 refine says_of mix Tryd.func58 chk58 (of_decide_eq_true (by kernel_rfl)) rfl ?_
 simp only [f58, f58c, f58g, f58r]
 try simp +decide only [go_sem]
 refine cutH (fun τ => ∃ l_2 : List Int, (τ 5 = .own false 1 (l_2.map eI)) ∧ r08_Wa_J3 l_2 = some r) fun M3 m3 => ⟨?_, ?_⟩
 · try simp +decide only [go_sem]
   refine loopH (fun n τ => ∃ l : List Int, ∃ i : Int, (τ 1 = si cond ∧ τ 2 = bA 4 (eSync s) ∧ τ 5 = .own false 1 (l.map eI) ∧ τ 6 = si i) ∧ r08_Wa_L1r cond s n l i = some r) ⟨[], 0, ?_, h⟩ fun n1 τ1 N1 => ?_
   · simp +decide only [go_sem]
   rintro ⟨l, i, s1, h⟩ k1
   cases n1 with
   | zero => exact no_none h
   | succ n1 =>
    rw [r08_Wa_L1r] at h; generalize q1 : r08_Wa_L1r cond s n1 = L1 at h
    try simp +decide only [go_sem, s1]
    refine cI h (fun e1 h => ?_) fun e1 h => ?_
    · try simp +decide only [go_sem, s1, e1]
      refine cutH (fun τ => ∃ l_1 : List Int, (τ 1 = si cond ∧ τ 2 = bA 4 (eSync s) ∧ τ 5 = .own false 1 (l_1.map eI) ∧ τ 6 = si i) ∧ r08_Wa_J2 L1 i l_1 = some r) fun M2 m2 => ⟨?_, ?_⟩
      · try simp +decide only [go_sem, s1, e1]
        refine cutH (fun τ => ∃ t30v : Bool, (τ 1 = si cond ∧ τ 2 = bA 4 (eSync s) ∧ τ 5 = .own false 1 (l.map eI) ∧ τ 6 = si i ∧ τ 30 = sb t30v) ∧ r08_Wa_J1 L1 i l t30v = some r) fun M1 m1 => ⟨?_, ?_⟩
        · obtain ⟨x, g1, h⟩ := gB h
          try simp +decide only [go_sem, s1, e1, g1]
          refine gI h (fun e2 h => ?_) fun e2 h => ?_
          · try simp +decide only [go_sem, s1, e1, g1, e2]
            refine m1 _ ⟨x.Cond == cond, ?_, h⟩
            simp +decide only [go_sem, s1, e1, g1, e2]
          try simp +decide only [go_sem, s1, e1, g1, e2]
          refine m1 _ ⟨false, ?_, h⟩
          simp +decide only [go_sem, s1, e1, g1, e2]
        rintro τ1 ⟨t30v, s1, h⟩
        try simp +decide only [go_sem, s1]
        refine cI h (fun e3 h => ?_) fun e3 h => ?_
        · obtain ⟨g2, h⟩ := cS h
          try simp +decide only [go_sem, s1, e3, g2]
          refine m2 _ ⟨l ++ [i], ?_, h⟩
          simp +decide only [go_sem, s1, e3, g2]
        try simp +decide only [go_sem, s1, e3]
        refine m2 _ ⟨l, ?_, h⟩
        simp +decide only [go_sem, s1, e3]
      rintro τ2 ⟨l_1, s2, h⟩
      try simp +decide only [go_sem, s2]
      refine k1 n1 (Nat.lt_succ_self _) _ ⟨l_1, w64 (i + 1), ?_, q1.symm ▸ h⟩
      simp +decide only [go_sem, s2]
    try simp +decide only [go_sem, s1, e1]
    refine m3 _ ⟨l, ?_, h⟩
    simp +decide only [go_sem, s1, e1]
 rintro τ3 ⟨l_2, s3, h⟩
 obtain rfl := Option.some.inj h
 simp +decide only [go_sem, s3]
def f36c : IC := (sR [⟨some ⟨2, [12, 23, 45, 62, 63, 78], []⟩, .bx 7 (.t 0), none⟩, ⟨some ⟨3, [6, 10, 14, 21, 25, 32, 36, 47, 53, 56, 60, 70, 76, 80, 85], []⟩, .bx 7 (.t 1), none⟩, iB 4 false]
(.seq (sR [iFr 6 3 1 3, iL 7 6]
(.block 0 (sR [iQ 9 7 3, iM 8 9]
(.cond (.t 8) (sR [iFr 10 3 3 3, iL 11 10, iFr 12 2 4 2, iL 13 12, iFr 14 3 2 3, iL 15 14, iI 16 1 13 15, iL 17 16, iO 18 .eql 11 17, iM 4 18]
.ret) (sR [iQ 20 7 23, iM 19 20]
(.cond (.t 19) (sR [iFr 21 3 3 3, iL 22 21, iFr 23 2 5 2, iL 24 23, iFr 25 3 2 3, iL 26 25, iI 27 1 24 26, iL 28 27, iO 29 .eql 22 28, iM 4 29]
.ret) (sR [iQ 31 7 5, iM 30 31]
(.cond (.t 30) (cutS (.reg [iFr 32 3 3 3, iL 33 32, iQ 34 33 0, iC 35 34, jFr 36 3 3 3 35 false, jL 37 36 35 false, j0 38 (.bin .eql (.t 37) (.c (.sc (.int .i64 1)))) 35 false, i0 39 (.pick (.t 35) (.c (.sc (.bool true))) (.t 38)), iM 4 39])
.ret) (cutS (sR [iQ 41 7 4, iM 40 41]
(.cond (.t 40) .skip (.reg [iQ 42 7 22, iM 40 42])))
(.cond (.t 40) (sR [iB 4 true]
.ret) (sR [iQ 44 7 18, iM 43 44]
(.cond (.t 43) (sR [iFr 45 2 0 2, i0 46 (.ld true 4 (.t 45)), iFr 47 3 2 3, iL 48 47, i0 49 (.call 58 [.t 46, .t 48] 2), ⟨some ⟨5, [50, 69], []⟩, .mv (.t 49), none⟩]
(.seq (sR [i1 50 5 (.cp (.t 5)), i0 51 (.len (.t 50)), iQ 52 51 0]
(.cond (.t 52) (sR [iFr 53 3 3 3, iL 54 53, iQ 55 54 (-1), iM 4 55]
.ret) .skip))
(cutS (.reg [iFr 56 3 3 3, iL 57 56, iP 58 .geq 57 0, iC 59 58, jFr 60 3 3 3 59 true, jL 61 60 59 true, jFr 62 2 0 2 59 true, jFr 63 2 3 62 59 true, jL 64 63 59 true, j0 65 (.len (.t 64)) 59 true, j0 66 (.bin .lss (.t 61) (.t 65)) 59 true, i0 67 (.pick (.t 59) (.t 66) (.c (.sc (.bool false)))), iC 68 67, j1 69 5 (.cp (.t 5)) 68 true, jFr 70 3 3 3 68 true, jL 71 70 68 true, j0 72 (.call 57 [.t 69, .t 71] 0) 68 true, i0 73 (.pick (.t 68) (.t 72) (.c (.sc (.bool false)))), iM 4 73])
.ret))) (sR [iQ 75 7 19, iM 74 75]
(.cond (.t 74) (sR [iFr 76 3 3 3, iL 77 76, iFr 78 2 0 2, i0 79 (.ld true 4 (.t 78)), iFr 80 3 2 3, iL 81 80, i0 82 (.call 58 [.t 79, .t 81] 2), i0 83 (.len (.t 82)), iO 84 .eql 77 83, iM 4 84]
.ret) .skip))))))))))))))
(sR [iFr 85 3 3 3, iL 86 85, iQ 87 86 0, iM 4 87]
.ret)))
def f36g : Gi := ⟨[(6, [3]), (10, [3]), (12, [2]), (14, [3]), (21, [3]), (23, [2]), (25, [3]), (32, [3]), (36, [3]), (45, [2]), (47, [3]), (50, [5]), (53, [3]), (56, [3]), (60, [3]), (62, [2]), (63, [2]), (69, [5]), (70, [3]), (76, [3]), (78, [2]), (80, [3]), (85, [3])]⟩
def f36r : List RV := [.tmp 4]
def f36 : FI := ⟨f36c, f36g, f36r⟩
theorem chk36 : chkF Tryd.prog Tryd.f36 f36 = true := by kernel_rfl
def r16_va_J1 (t4v : Bool) : Option Bool :=
  some t4v
def r16_va_J3 (t4v_1 : Bool) : Option Bool :=
  some t4v_1
def r16_va_J2 (ev : SEvent) (s : SSnapshot) (t40v : Bool) : Option Bool :=
  if t40v then
    some true
  else
  if ev.Kind == 18 then
    (r08_Wa s.Sync ev.Obj).bind fun v =>
    if (v.length : Int) == 0 then
      some (ev.Value == (-1))
    else
    if decide (ev.Value ≥ 0) then
      if decide (ev.Value < (s.Sync.Threads.length : Int)) then
        (r07_Ha v ev.Value).bind fun v_1 =>
        r16_va_J3 v_1
      else
      r16_va_J3 false
    else
    r16_va_J3 false
  else
  if ev.Kind == 19 then
    (r08_Wa s.Sync ev.Obj).bind fun v_2 =>
    some (ev.Value == (v_2.length : Int))
  else
  some (ev.Value == 0)
def r16_va (s : SSnapshot) (ev : SEvent) : Option Bool :=
  if ev.Kind == 3 then
    (gt s.Cells ev.Obj).bind fun x =>
    some (ev.Value == x)
  else
  if ev.Kind == 23 then
    (gt s.Futures ev.Obj).bind fun x_1 =>
    some (ev.Value == x_1)
  else
  if ev.Kind == 5 then
    if ev.Value == 0 then
      r16_va_J1 true
    else
    r16_va_J1 (ev.Value == 1)
  else
  if ev.Kind == 4 then
    r16_va_J2 ev s (ev.Kind == 4)
  else
  r16_va_J2 ev s (ev.Kind == 22)
theorem r16_va_ok {s : SSnapshot} {ev : SEvent} {r : Bool} (h : r16_va s ev = some r) : Says Tryd.prog 36 [.agg (eSnapshot s), .agg (eEvent ev)] (sb r) := by
 refine says_of mix Tryd.func36 chk36 (of_decide_eq_true (by kernel_rfl)) rfl ?_
 simp only [f36, f36c, f36g, f36r]
 try simp +decide only [go_sem]
 refine cI h (fun e1 h => ?_) fun e1 h => ?_
 · obtain ⟨x, g1, h⟩ := gB h
   obtain rfl := Option.some.inj h
   simp +decide only [go_sem, e1, g1]
 try simp +decide only [go_sem, e1]
 refine cI h (fun e2 h => ?_) fun e2 h => ?_
 · obtain ⟨x_1, g2, h⟩ := gB h
   obtain rfl := Option.some.inj h
   simp +decide only [go_sem, e1, e2, g2]
 try simp +decide only [go_sem, e1, e2]
 refine cI h (fun e3 h => ?_) fun e3 h => ?_
 · try simp +decide only [go_sem, e1, e2, e3]
   refine cutH (fun τ => ∃ t4v : Bool, (τ 4 = sb t4v) ∧ r16_va_J1 t4v = some r) fun M1 m1 => ⟨?_, ?_⟩
   · try simp +decide only [go_sem, e1, e2, e3]
     refine gI h (fun e4 h => ?_) fun e4 h => ?_
     · try simp +decide only [go_sem, e1, e2, e3, e4]
       refine m1 _ ⟨true, ?_, h⟩
       simp +decide only [go_sem, e1, e2, e3, e4]
     try simp +decide only [go_sem, e1, e2, e3, e4]
     refine m1 _ ⟨ev.Value == 1, ?_, h⟩
     simp +decide only [go_sem, e1, e2, e3, e4]
   rintro τ1 ⟨t4v, s1, h⟩
   obtain rfl := Option.some.inj h
   simp +decide only [go_sem, s1]
 try simp +decide only [go_sem, e1, e2, e3]
 refine cutH (fun τ => ∃ t40v : Bool, (τ 2 = bA 7 (eSnapshot s) ∧ τ 3 = bA 7 (eEvent ev) ∧ τ 7 = si ev.Kind ∧ τ 40 = sb t40v) ∧ r16_va_J2 ev s t40v = some r) fun M2 m2 => ⟨?_, ?_⟩
 · try simp +decide only [go_sem, e1, e2, e3]
   refine cI h (fun e5 h => ?_) fun e5 h => ?_
   · try simp +decide only [go_sem, e1, e2, e3, e5]
     refine m2 _ ⟨ev.Kind == 4, ?_, h⟩
     simp +decide only [go_sem, e1, e2, e3, e5]
   try simp +decide only [go_sem, e1, e2, e3, e5]
   refine m2 _ ⟨ev.Kind == 22, ?_, h⟩
   simp +decide only [go_sem, e1, e2, e3, e5]
 rintro τ2 ⟨t40v, s2, h⟩
 try simp +decide only [go_sem, s2]
 refine cI h (fun e6 h => ?_) fun e6 h => ?_
 · obtain rfl := Option.some.inj h
   simp +decide only [go_sem, s2, e6]
 try simp +decide only [go_sem, s2, e6]
 refine cI h (fun e7 h => ?_) fun e7 h => ?_
 · obtain ⟨v, g3, h⟩ := bS h
   try simp +decide only [go_sem, s2, e6, e7]
   refine ⟨_, r08_Wa_ok g3, ?_⟩
   try simp +decide only [go_sem, s2, e6, e7]
   refine cI h (fun e8 h => ?_) fun e8 h => ?_
   · obtain rfl := Option.some.inj h
     simp +decide only [go_sem, s2, e6, e7, e8]
   try simp +decide only [go_sem, s2, e6, e7, e8]
   refine cutH (fun τ => ∃ t4v_1 : Bool, (τ 4 = sb t4v_1) ∧ r16_va_J3 t4v_1 = some r) fun M3 m3 => ⟨?_, ?_⟩
   · try simp +decide only [go_sem, s2, e6, e7, e8]
     refine gI h (fun e9 h => ?_) fun e9 h => ?_
     · try simp +decide only [go_sem, s2, e6, e7, e8, e9]
       refine gI h (fun e10 h => ?_) fun e10 h => ?_
       · obtain ⟨v_1, g4, h⟩ := bS h
         try simp +decide only [go_sem, s2, e6, e7, e8, e9, e10]
         refine ⟨_, r07_Ha_ok g4, ?_⟩
         try simp +decide only [go_sem, s2, e6, e7, e8, e9, e10]
         refine m3 _ ⟨v_1, ?_, h⟩
         simp +decide only [go_sem, s2, e6, e7, e8, e9, e10]
       try simp +decide only [go_sem, s2, e6, e7, e8, e9, e10]
       refine m3 _ ⟨false, ?_, h⟩
       simp +decide only [go_sem, s2, e6, e7, e8, e9, e10]
     try simp +decide only [go_sem, s2, e6, e7, e8, e9]
     refine m3 _ ⟨false, ?_, h⟩
     simp +decide only [go_sem, s2, e6, e7, e8, e9]
   rintro τ3 ⟨t4v_1, s3, h⟩
   obtain rfl := Option.some.inj h
   simp +decide only [go_sem, s3]
 try simp +decide only [go_sem, s2, e6, e7]
 refine cI h (fun e11 h => ?_) fun e11 h => ?_
 · obtain ⟨v_2, g5, h⟩ := bS h
   try simp +decide only [go_sem, s2, e6, e7, e11]
   refine ⟨_, r08_Wa_ok g5, ?_⟩
   obtain rfl := Option.some.inj h
   simp +decide only [go_sem, s2, e6, e7, e11]
 obtain rfl := Option.some.inj h
 simp +decide only [go_sem, s2, e6, e7, e11]
def f59c : IC := (sR [⟨some ⟨1, [5, 8, 12, 17, 25, 32], []⟩, .bx 4 (.t 0), none⟩, i0 2 (.bx 4 (.c (.agg [.own false 2 [], .sc (.int .i64 0), .own false 1 [], .own false 3 []])))]
(sR [iFr 5 1 1 1, iL 6 5, i0 7 (.bsl 1 [] []), iFr 8 1 2 1, iL 9 8, i0 10 (.app 1 1 (.t 7) (.t 9)), i0 11 (.bsl 3 [] []), iFr 12 1 3 1, iL 13 12, i0 14 (.app 3 24 (.t 11) (.t 13)), i0 15 (.bld [.own false 2 [], .sc (.int .i64 0), .own false 1 [], .own false 3 []] [(1, 1, .t 6), (2, 1, .t 10), (3, 1, .t 14)]), ⟨some ⟨3, [23, 24, 42, 43], []⟩, .bx 4 (.c (.agg [.own false 2 [], .sc (.int .i64 0), .own false 1 [], .own false 3 []])), none⟩, iS 4 3 15]
(cutS (sR [iK 4 0]
(.block 0 (.loop (.seq (sR [iC 16 4, iFr 17 1 0 1, iL 18 17, i0 19 (.len (.t 18)), iO 20 .lss 16 19]
(.cond (.t 20) .skip (.exit 0)))
(.seq (.block 1 (.reg [iFr 23 3 0 3, iLr 24 3 23, iFr 25 1 0 1, iL 26 25, iC 27 4, iI 28 2 26 27, iF 29 0 28, iL 30 29, i0 31 (.bsl 1 [] []), iFr 32 1 0 1, iL 33 32, iC 34 4, iI 35 2 33 34, iF 36 1 35, iL 37 36, i0 38 (.app 1 8 (.t 31) (.t 37)), i0 39 (.bld [.sc (.int .i64 0), .own false 1 []] [(0, 1, .t 30), (1, 1, .t 38)]), i0 40 (.bsl 2 [[.sc (.int .i64 0), .own false 1 []]] [(0, .t 39)]), i0 41 (.app 2 32 (.t 24) (.t 40)), iFr 42 3 0 3, iS 1 42 41]))
(.reg [iC 21 4, iP 22 .add 21 1, iM 4 22]))))))
(sR [i1 43 3 (.ld true 4 (.t 3)), iS 4 2 43]
.ret))))
def f59g : Gi := ⟨[(5, [1]), (8, [1]), (12, [1]), (17, [1]), (23, [3]), (24, [3]), (25, [1]), (32, [1]), (42, [3]), (43, [3])]⟩
def f59r : List RV := [.cell 2 true 4]
def f59 : FI := ⟨f59c, f59g, f59r⟩
theorem chk59 : chkF Tryd.prog Tryd.f59 f59 = true := by kernel_rfl
def r08_Co_J1 (out_1 : SSync) : Option SSync :=
  some out_1
def r08_Co_L1 (s : SSync) (L1 : SSync → Int → Option SSync) (out : SSync) (i : Int) : Option SSync :=
  if decide (i < (s.Locks.length : Int)) then
    (gt s.Locks i).bind fun x =>
    if roomOK (x.Readers.length) 8 = true then
    if roomOK (out.Locks.length + 1) 32 = true then
    L1 (SSync.mk (out.Locks ++ [x]) out.Tx out.Done out.Threads) (w64 (i + 1))
    else none
    else none
  else
  r08_Co_J1 out
def r08_Co_L1r (s : SSync) : Nat → SSync → Int → Option SSync
  | 0, _, _ => none
  | n + 1, out, i => r08_Co_L1 s (r08_Co_L1r s n) out i
def r08_Co (s : SSync) : Option SSync :=
  if roomOK (s.Done.length) 1 = true then
  if roomOK (s.Threads.length) 24 = true then
  r08_Co_L1r s big (SSync.mk [] s.Tx s.Done s.Threads) 0
  else none
  else none
theorem r08_Co_ok {s : SSync} {r : SSync} (h : r08_Co s = some r) : Says Tryd.prog 59 [.agg (eSync s)] (.agg (eSynco r)) := by
 refine says_of mix Tryd.func59 chk59 (of_decide_eq_true (by kernel_rfl)) rfl ?_
 simp only [f59, f59c, f59g, f59r]
 obtain ⟨g1, h⟩ := cS h
 obtain ⟨g2, h⟩ := cS h
 try simp +decide only [go_sem, g1, g2]
 refine cutH (fun τ => ∃ out_1 : SSync, (τ 2 = bA 4 [.own false 2 ([]), si 0, .own false 1 ([]), .own false 3 ([])] ∧ τ 3 = bA 4 (eSynco out_1)) ∧ r08_Co_J1 out_1 = some r) fun M1 m1 => ⟨?_, ?_⟩
 · try simp +decide only [go_sem, g1, g2]
   refine loopH (fun n τ => ∃ out : SSync, ∃ i : Int, (τ 1 = bA 4 (eSync s) ∧ τ 2 = bA 4 [.own false 2 ([]), si 0, .own false 1 ([]), .own false 3 ([])] ∧ τ 3 = bA 4 (eSynco out) ∧ τ 4 = si i) ∧ r08_Co_L1r s n out i = some r) ⟨(SSync.mk [] s.Tx s.Done s.Threads), 0, ?_, h⟩ fun n1 τ1 N1 => ?_
   · simp +decide only [go_sem, g1, g2]
   rintro ⟨out, i, s1, h⟩ k1
   cases n1 with
   | zero => exact no_none h
   | succ n1 =>
    rw [r08_Co_L1r] at h; generalize q1 : r08_Co_L1r s n1 = L1 at h
    try simp +decide only [go_sem, s1]
    refine cI h (fun e1 h => ?_) fun e1 h => ?_
    · obtain ⟨x, g3, h⟩ := gB h
      obtain ⟨g4, h⟩ := cS h
      obtain ⟨g5, h⟩ := cS h
      try simp +decide only [go_sem, s1, e1, g3, g4, g5]
      refine k1 n1 (Nat.lt_succ_self _) _ ⟨(SSync.mk (out.Locks ++ [x]) out.Tx out.Done out.Threads), w64 (i + 1), ?_, q1.symm ▸ h⟩
      simp +decide only [go_sem, s1, e1, g3, g4, g5]
    try simp +decide only [go_sem, s1, e1]
    refine m1 _ ⟨out, ?_, h⟩
    simp +decide only [go_sem, s1, e1]
 rintro τ1 ⟨out_1, s1, h⟩
 obtain rfl := Option.some.inj h
 simp +decide only [go_sem, s1]
def f72c : IC := (sR [i0 4 (.mv (.c (.own false 1 [])))]
(sR [iK 5 0]
(cutS (.block 0 (.loop (.seq (cutS (.reg [iC 7 5, i1 8 0 (.cp (.t 0)), i0 9 (.len (.t 8)), iO 10 .lss 7 9, iC 11 10, j1 12 0 (.cp (.t 0)) 11 true, j0 13 (.cp (.t 5)) 11 true, j1 14 0 (.iad 1 (.t 12) (.t 13)) 11 true, jL 15 14 11 true, j0 16 (.cp (.t 1)) 11 true, j0 17 (.bin .lss (.t 15) (.t 16)) 11 true, i0 18 (.pick (.t 11) (.t 17) (.c (.sc (.bool false))))])
(.cond (.t 18) .skip (.exit 0)))
(.block 1 (.reg [iC 19 5, iP 20 .add 19 1, iM 5 20])))))
(.seq (cutS (.reg [iC 21 5, i1 22 0 (.cp (.t 0)), i0 23 (.len (.t 22)), iO 24 .lss 21 23, iC 25 24, j1 26 0 (.cp (.t 0)) 25 true, j0 27 (.cp (.t 5)) 25 true, j1 28 0 (.iad 1 (.t 26) (.t 27)) 25 true, jL 29 28 25 true, j0 30 (.cp (.t 1)) 25 true, j0 31 (.bin .eql (.t 29) (.t 30)) 25 true, i0 32 (.pick (.t 25) (.t 31) (.c (.sc (.bool false))))])
(.cond (.t 32) (sR [i1 33 0 (.cp (.t 0)), iM 4 33]
.ret) .skip))
(sR [i0 34 (.bsl 1 [] []), i1 35 0 (.cp (.t 0)), iC 36 5, i0 37 (.slc 1 true (.t 35) none (some (.t 36)) none), i0 38 (.app 1 8 (.t 34) (.t 37)), ⟨some ⟨6, [39, 43], []⟩, .mv (.t 38), none⟩]
(sR [i1 39 6 (.cp (.t 6)), iC 40 1, i0 41 (.bsl 1 [[.sc (.int .i64 0)]] [(0, .t 40)]), i0 42 (.app 1 8 (.t 39) (.t 41)), ⟨some ⟨6, [39, 43], []⟩, .mv (.t 42), none⟩]
(sR [i1 43 6 (.cp (.t 6)), i1 44 0 (.cp (.t 0)), iC 45 5, i0 46 (.slc 1 true (.t 44) (some (.t 45)) none none), i0 47 (.app 1 8 (.t 43) (.t 46)), iM 4 47]
.ret)))))))
def f72g : Gi := ⟨[(8, [0]), (12, [0]), (14, [0]), (22, [0]), (26, [0]), (28, [0]), (33, [0]), (35, [0]), (39, [6]), (43, [6]), (44, [0])]⟩
def f72r : List RV := [.tmp 4]
def f72 : FI := ⟨f72c, f72g, f72r⟩
theorem chk72 : chkF Tryd.prog Tryd.f72 f72 = true := by kernel_rfl
def r07_Pu_J3 (k_1 : Int) (l : List Int) (nv : Int) (t32v : Bool) : Option (List Int) :=
  if t32v then
    some l
  else
  if 0 ≤ k_1 ∧ k_1.toNat ≤ l.length then
  if roomOK ((l.take k_1.toNat).length) 8 = true then
  if roomOK ((l.take k_1.toNat).length + 1) 8 = true then
  if 0 ≤ k_1 ∧ k_1.toNat ≤ l.length then
  if roomOK (((l.take k_1.toNat) ++ [nv]).length + ((l.drop k_1.toNat).take (l.length - k_1.toNat)).length) 8 = true then
  some (((l.take k_1.toNat) ++ [nv]) ++ ((l.drop k_1.toNat).take (l.length - k_1.toNat)))
  else none
  else none
  else none
  else none
  else none
def r07_Pu_J2 (l : List Int) (nv : Int) (k_1 : Int) : Option (List Int) :=
  if decide (k_1 < (l.length : Int)) then
    (gt l k_1).bind fun x_1 =>
    r07_Pu_J3 k_1 l nv (x_1 == nv)
  else
  r07_Pu_J3 k_1 l nv false
def r07_Pu_J1 (L1 : Int → Option (List Int)) (k : Int) (l : List Int) (nv : Int) (t18v : Bool) : Option (List Int) :=
  if t18v then
    L1 (w64 (k + 1))
  else
  r07_Pu_J2 l nv k
def r07_Pu_L1 (l : List Int) (nv : Int) (L1 : Int → Option (List Int)) (k : Int) : Option (List Int) :=
  if decide (k < (l.length : Int)) then
    (gt l k).bind fun x =>
    r07_Pu_J1 L1 k l nv (decide (x < nv))
  else
  r07_Pu_J1 L1 k l nv false
def r07_Pu_L1r (l : List Int) (nv : Int) : Nat → Int → Option (List Int)
  | 0, _ => none
  | n + 1, k => r07_Pu_L1 l nv (r07_Pu_L1r l nv n) k
def r07_Pu (l : List Int) (nv : Int) : Option (List Int) :=
  r07_Pu_L1r l nv big 0
theorem r07_Pu_ok {l : List Int} {nv : Int} {r : List Int} (h : r07_Pu l nv = some r) : Says Tryd.prog 72 [.own false 1 (l.map eI), si nv] (.own false 1 (r.map eI)) := by
 refine says_of mix Tryd.func72 chk72 (of_decide_eq_true (by kernel_rfl)) rfl ?_
 simp only [f72, f72c, f72g, f72r]
 try simp +decide only [go_sem]
 refine cutH (fun τ => ∃ k_1 : Int, (τ 0 = .own false 1 (l.map eI) ∧ τ 1 = si nv ∧ τ 5 = si k_1) ∧ r07_Pu_J2 l nv k_1 = some r) fun M2 m2 => ⟨?_, ?_⟩
 · try simp +decide only [go_sem]
   refine loopH (fun n τ => ∃ k : Int, (τ 0 = .own false 1 (l.map eI) ∧ τ 1 = si nv ∧ τ 5 = si k) ∧ r07_Pu_L1r l nv n k = some r) ⟨0, ?_, h⟩ fun n1 τ1 N1 => ?_
   · simp +decide only [go_sem]
   rintro ⟨k, s1, h⟩ k1
   cases n1 with
   | zero => exact no_none h
   | succ n1 =>
    rw [r07_Pu_L1r] at h; generalize q1 : r07_Pu_L1r l nv n1 = L1 at h
    try simp +decide only [go_sem, s1]
    refine cutH (fun τ => ∃ t18v : Bool, (τ 0 = .own false 1 (l.map eI) ∧ τ 1 = si nv ∧ τ 5 = si k ∧ τ 18 = sb t18v) ∧ r07_Pu_J1 L1 k l nv t18v = some r) fun M1 m1 => ⟨?_, ?_⟩
    · try simp +decide only [go_sem, s1]
      refine gI h (fun e1 h => ?_) fun e1 h => ?_
      · obtain ⟨x, g1, h⟩ := gB h
        try simp +decide only [go_sem, s1, e1, g1]
        refine m1 _ ⟨decide (x < nv), ?_, h⟩
        simp +decide only [go_sem, s1, e1, g1]
      try simp +decide only [go_sem, s1, e1]
      refine m1 _ ⟨false, ?_, h⟩
      simp +decide only [go_sem, s1, e1]
    rintro τ1 ⟨t18v, s1, h⟩
    try simp +decide only [go_sem, s1]
    refine cI h (fun e2 h => ?_) fun e2 h => ?_
    · try simp +decide only [go_sem, s1, e2]
      refine k1 n1 (Nat.lt_succ_self _) _ ⟨w64 (k + 1), ?_, q1.symm ▸ h⟩
      simp +decide only [go_sem, s1, e2]
    try simp +decide only [go_sem, s1, e2]
    refine m2 _ ⟨k, ?_, h⟩
    simp +decide only [go_sem, s1, e2]
 rintro τ2 ⟨k_1, s2, h⟩
 try simp +decide only [go_sem, s2]
 refine cutH (fun τ => ∃ t32v : Bool, (τ 0 = .own false 1 (l.map eI) ∧ τ 1 = si nv ∧ τ 5 = si k_1 ∧ τ 32 = sb t32v) ∧ r07_Pu_J3 k_1 l nv t32v = some r) fun M3 m3 => ⟨?_, ?_⟩
 · try simp +decide only [go_sem, s2]
   refine gI h (fun e3 h => ?_) fun e3 h => ?_
   · obtain ⟨x_1, g2, h⟩ := gB h
     try simp +decide only [go_sem, s2, e3, g2]
     refine m3 _ ⟨x_1 == nv, ?_, h⟩
     simp +decide only [go_sem, s2, e3, g2]
   try simp +decide only [go_sem, s2, e3]
   refine m3 _ ⟨false, ?_, h⟩
   simp +decide only [go_sem, s2, e3]
 rintro τ3 ⟨t32v, s3, h⟩
 try simp +decide only [go_sem, s3]
 refine cI h (fun e4 h => ?_) fun e4 h => ?_
 · obtain rfl := Option.some.inj h
   simp +decide only [go_sem, s3, e4]
 obtain ⟨g3, h⟩ := cS h
 obtain ⟨g5, h⟩ := cS h
 obtain ⟨g6, h⟩ := cS h
 obtain ⟨g7, h⟩ := cS h
 obtain ⟨g9, h⟩ := cS h
 obtain rfl := Option.some.inj h
 simp +decide only [go_sem, s3, e4, g3, g5, g6, g7, g9]
end Go.Abs
