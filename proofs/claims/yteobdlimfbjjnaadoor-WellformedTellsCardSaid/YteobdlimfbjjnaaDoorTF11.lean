/- Typed programs: interleaveref08.Fits, interleaveref16.Fits, interleaveref16.in, interleaveref08.in. -/
import Derived.Test.YteobdlimfbjjnaaDoorTE
set_option linter.unusedSimpArgs false
namespace Go.Abs
open Go.Proofs
set_option maxRecDepth 100000
set_option maxHeartbeats 4000000
def f54c : IC := (sR [⟨some ⟨2, [7, 13, 21, 27, 35, 43, 52], []⟩, .bx 6 (.t 0), none⟩, ⟨some ⟨3, [32, 40, 49], []⟩, .bx 4 (.t 1), none⟩, iB 4 false]
(cutS (sR [iK 5 0]
(.block 0 (.loop (.seq (sR [iC 6 5, iFr 7 2 2 2, iL 8 7, i0 9 (.len (.t 8)), iO 10 .lss 6 9]
(.cond (.t 10) .skip (.exit 0)))
(.seq (.block 1 (cutS (.reg [iFr 13 2 2 2, iL 14 13, iC 15 5, iI 16 2 14 15, iF 17 1 16, iL 18 17, iP 19 .lss 18 0, iC 20 19, jFr 21 2 2 2 20 false, jL 22 21 20 false, j0 23 (.cp (.t 5)) 20 false, j0 24 (.iad 2 (.t 22) (.t 23)) 20 false, jF 25 1 24 20 false, jL 26 25 20 false, jFr 27 2 1 2 20 false, jL 28 27 20 false, j0 29 (.len (.t 28)) 20 false, j0 30 (.bin .geq (.t 26) (.t 29)) 20 false, i0 31 (.pick (.t 20) (.c (.sc (.bool true))) (.t 30))])
(.cond (.t 31) (sR [iB 4 false]
.ret) .skip)))
(.reg [iC 11 5, iP 12 .add 11 1, iM 5 12]))))))
(cutS (.reg [iFr 32 3 0 3, iL 33 32, i0 34 (.len (.t 33)), iFr 35 2 1 2, iL 36 35, i0 37 (.len (.t 36)), iO 38 .eql 34 37, iC 39 38, jFr 40 3 2 3 39 true, jL 41 40 39 true, j0 42 (.len (.t 41)) 39 true, jFr 43 2 3 2 39 true, jL 44 43 39 true, j0 45 (.len (.t 44)) 39 true, j0 46 (.bin .eql (.t 42) (.t 45)) 39 true, i0 47 (.pick (.t 39) (.t 46) (.c (.sc (.bool false)))), iC 48 47, jFr 49 3 3 3 48 true, jL 50 49 48 true, j0 51 (.len (.t 50)) 48 true, jFr 52 2 4 2 48 true, jL 53 52 48 true, j0 54 (.len (.t 53)) 48 true, j0 55 (.bin .eql (.t 51) (.t 54)) 48 true, i0 56 (.pick (.t 48) (.t 55) (.c (.sc (.bool false)))), iM 4 56])
.ret)))
def f54g : Gi := ⟨[(7, [2]), (13, [2]), (21, [2]), (27, [2]), (32, [3]), (35, [2]), (40, [3]), (43, [2]), (49, [3]), (52, [2])]⟩
def f54r : List RV := [.tmp 4]
def f54 : FI := ⟨f54c, f54g, f54r⟩
theorem chk54 : chkF Tryd.prog Tryd.f54 f54 = true := by kernel_rfl
def r08_Fi_J3 (t4v : Bool) : Option Bool :=
  some t4v
def r08_Fi_J2 (s : SSync) (wv : SWorld) : Option Bool :=
  if (s.Locks.length : Int) == (wv.Locks.length : Int) then
    if (s.Done.length : Int) == (wv.Futures.length : Int) then
      r08_Fi_J3 ((s.Threads.length : Int) == (wv.Threads.length : Int))
    else
    r08_Fi_J3 false
  else
  r08_Fi_J3 false
def r08_Fi_J1 (L1 : Int → Option Bool) (i : Int) (t31v : Bool) : Option Bool :=
  if t31v then
    some false
  else
  L1 (w64 (i + 1))
def r08_Fi_L1 (s : SSync) (wv : SWorld) (L1 : Int → Option Bool) (i : Int) : Option Bool :=
  if decide (i < (wv.Conds.length : Int)) then
    (gt wv.Conds i).bind fun x =>
    if decide (x.Mutex < 0) then
      r08_Fi_J1 L1 i true
    else
    r08_Fi_J1 L1 i (decide (x.Mutex ≥ (wv.Locks.length : Int)))
  else
  r08_Fi_J2 s wv
def r08_Fi_L1r (s : SSync) (wv : SWorld) : Nat → Int → Option Bool
  | 0, _ => none
  | n + 1, i => r08_Fi_L1 s wv (r08_Fi_L1r s wv n) i
def r08_Fi (wv : SWorld) (s : SSync) : Option Bool :=
  r08_Fi_L1r s wv big 0
theorem r08_Fi_ok {wv : SWorld} {s : SSync} {r : Bool} (h : r08_Fi wv s = some r) : Says Tryd.prog 54 [.agg (eWorld wv), .agg (eSync s)] (sb r) := by
 refine says_of mix Tryd.func54 chk54 (of_decide_eq_true (by kernel_rfl)) rfl ?_
 simp only [f54, f54c, f54g, f54r]
 try simp +decide only [go_sem]
 refine cutH (fun τ => (τ 2 = bA 6 (eWorld wv) ∧ τ 3 = bA 4 (eSync s)) ∧ r08_Fi_J2 s wv = some r) fun M2 m2 => ⟨?_, ?_⟩
 · try simp +decide only [go_sem]
   refine loopH (fun n τ => ∃ i : Int, (τ 2 = bA 6 (eWorld wv) ∧ τ 3 = bA 4 (eSync s) ∧ τ 5 = si i) ∧ r08_Fi_L1r s wv n i = some r) ⟨0, ?_, h⟩ fun n1 τ1 N1 => ?_
   · simp +decide only [go_sem]
   rintro ⟨i, s1, h⟩ k1
   cases n1 with
   | zero => exact no_none h
   | succ n1 =>
    rw [r08_Fi_L1r] at h; generalize q1 : r08_Fi_L1r s wv n1 = L1 at h
    try simp +decide only [go_sem, s1]
    refine cI h (fun e1 h => ?_) fun e1 h => ?_
    · try simp +decide only [go_sem, s1, e1]
      refine cutH (fun τ => ∃ t31v : Bool, (τ 2 = bA 6 (eWorld wv) ∧ τ 3 = bA 4 (eSync s) ∧ τ 5 = si i ∧ τ 31 = sb t31v) ∧ r08_Fi_J1 L1 i t31v = some r) fun M1 m1 => ⟨?_, ?_⟩
      · obtain ⟨x, g1, h⟩ := gB h
        try simp +decide only [go_sem, s1, e1, g1]
        refine gI h (fun e2 h => ?_) fun e2 h => ?_
        · try simp +decide only [go_sem, s1, e1, g1, e2]
          refine m1 _ ⟨true, ?_, h⟩
          simp +decide only [go_sem, s1, e1, g1, e2]
        try simp +decide only [go_sem, s1, e1, g1, e2]
        refine m1 _ ⟨decide (x.Mutex ≥ (wv.Locks.length : Int)), ?_, h⟩
        simp +decide only [go_sem, s1, e1, g1, e2]
      rintro τ1 ⟨t31v, s1, h⟩
      try simp +decide only [go_sem, s1]
      refine cI h (fun e3 h => ?_) fun e3 h => ?_
      · obtain rfl := Option.some.inj h
        simp +decide only [go_sem, s1, e3]
      try simp +decide only [go_sem, s1, e3]
      refine k1 n1 (Nat.lt_succ_self _) _ ⟨w64 (i + 1), ?_, q1.symm ▸ h⟩
      simp +decide only [go_sem, s1, e3]
    try simp +decide only [go_sem, s1, e1]
    refine m2 _ ⟨?_, h⟩
    simp +decide only [go_sem, s1, e1]
 rintro τ2 ⟨s2, h⟩
 try simp +decide only [go_sem, s2]
 refine cutH (fun τ => ∃ t4v : Bool, (τ 4 = sb t4v) ∧ r08_Fi_J3 t4v = some r) fun M3 m3 => ⟨?_, ?_⟩
 · try simp +decide only [go_sem, s2]
   refine gI h (fun e4 h => ?_) fun e4 h => ?_
   · try simp +decide only [go_sem, s2, e4]
     refine gI h (fun e5 h => ?_) fun e5 h => ?_
     · try simp +decide only [go_sem, s2, e4, e5]
       refine m3 _ ⟨(s.Threads.length : Int) == (wv.Threads.length : Int), ?_, h⟩
       simp +decide only [go_sem, s2, e4, e5]
     try simp +decide only [go_sem, s2, e4, e5]
     refine m3 _ ⟨false, ?_, h⟩
     simp +decide only [go_sem, s2, e4, e5]
   try simp +decide only [go_sem, s2, e4]
   refine m3 _ ⟨false, ?_, h⟩
   simp +decide only [go_sem, s2, e4]
 rintro τ3 ⟨t4v, s3, h⟩
 obtain rfl := Option.some.inj h
 simp +decide only [go_sem, s3]
def f32c : IC := (sR [⟨some ⟨2, [13, 22, 31], []⟩, .bx 6 (.t 0), none⟩, ⟨some ⟨3, [6, 10, 19, 28], []⟩, .bx 7 (.t 1), none⟩, iB 4 false]
(cutS (.reg [i0 5 (.ld true 6 (.t 2)), iFr 6 3 0 3, i0 7 (.ld true 4 (.t 6)), i0 8 (.call 54 [.t 5, .t 7] 0), iC 9 8, jFr 10 3 4 3 9 true, jL 11 10 9 true, j0 12 (.len (.t 11)) 9 true, jFr 13 2 0 2 9 true, jL 14 13 9 true, j0 15 (.len (.t 14)) 9 true, j0 16 (.bin .eql (.t 12) (.t 15)) 9 true, i0 17 (.pick (.t 9) (.t 16) (.c (.sc (.bool false)))), iC 18 17, jFr 19 3 5 3 18 true, jL 20 19 18 true, j0 21 (.len (.t 20)) 18 true, jFr 22 2 3 2 18 true, jL 23 22 18 true, j0 24 (.len (.t 23)) 18 true, j0 25 (.bin .eql (.t 21) (.t 24)) 18 true, i0 26 (.pick (.t 18) (.t 25) (.c (.sc (.bool false)))), iC 27 26, jFr 28 3 6 3 27 true, jL 29 28 27 true, j0 30 (.len (.t 29)) 27 true, jFr 31 2 4 2 27 true, jL 32 31 27 true, j0 33 (.len (.t 32)) 27 true, j0 34 (.bin .eql (.t 30) (.t 33)) 27 true, i0 35 (.pick (.t 27) (.t 34) (.c (.sc (.bool false)))), iM 4 35])
.ret))
def f32g : Gi := ⟨[(6, [3]), (10, [3]), (13, [2]), (19, [3]), (22, [2]), (28, [3]), (31, [2])]⟩
def f32r : List RV := [.tmp 4]
def f32 : FI := ⟨f32c, f32g, f32r⟩
theorem chk32 : chkF Tryd.prog Tryd.f32 f32 = true := by kernel_rfl
def r16_Fi_J1 (t4v : Bool) : Option Bool :=
  some t4v
def r16_Fi (wv : SWorld) (s : SSnapshot) : Option Bool :=
  (r08_Fi wv s.Sync).bind fun v =>
  if v then
    if (s.Cells.length : Int) == (wv.Cells.length : Int) then
      if (s.Futures.length : Int) == (wv.Futures.length : Int) then
        r16_Fi_J1 ((s.Count.length : Int) == (wv.Threads.length : Int))
      else
      r16_Fi_J1 false
    else
    r16_Fi_J1 false
  else
  r16_Fi_J1 false
theorem r16_Fi_ok {wv : SWorld} {s : SSnapshot} {r : Bool} (h : r16_Fi wv s = some r) : Says Tryd.prog 32 [.agg (eWorld wv), .agg (eSnapshot s)] (sb r) := by
 refine says_of mix Tryd.func32 chk32 (of_decide_eq_true (by kernel_rfl)) rfl ?_
 simp only [f32, f32c, f32g, f32r]
 try simp +decide only [go_sem]
 refine cutH (fun τ => ∃ t4v : Bool, (τ 4 = sb t4v) ∧ r16_Fi_J1 t4v = some r) fun M1 m1 => ⟨?_, ?_⟩
 · obtain ⟨v, g1, h⟩ := bS h
   try simp +decide only [go_sem]
   refine ⟨_, r08_Fi_ok g1, ?_⟩
   try simp +decide only [go_sem]
   refine gI h (fun e1 h => ?_) fun e1 h => ?_
   · try simp +decide only [go_sem, e1]
     refine gI h (fun e2 h => ?_) fun e2 h => ?_
     · try simp +decide only [go_sem, e1, e2]
       refine gI h (fun e3 h => ?_) fun e3 h => ?_
       · try simp +decide only [go_sem, e1, e2, e3]
         refine m1 _ ⟨(s.Count.length : Int) == (wv.Threads.length : Int), ?_, h⟩
         simp +decide only [go_sem, e1, e2, e3]
       try simp +decide only [go_sem, e1, e2, e3]
       refine m1 _ ⟨false, ?_, h⟩
       simp +decide only [go_sem, e1, e2, e3]
     try simp +decide only [go_sem, e1, e2]
     refine m1 _ ⟨false, ?_, h⟩
     simp +decide only [go_sem, e1, e2]
   try simp +decide only [go_sem, e1]
   refine m1 _ ⟨false, ?_, h⟩
   simp +decide only [go_sem, e1]
 rintro τ1 ⟨t4v, s1, h⟩
 obtain rfl := Option.some.inj h
 simp +decide only [go_sem, s1]
def f33c : IC := (sR [iB 4 false]
(cutS (.reg [iC 5 0, iP 6 .geq 5 0, iC 7 6, j0 8 (.cp (.t 0)) 7 true, j0 9 (.cp (.t 1)) 7 true, j0 10 (.bin .lss (.t 8) (.t 9)) 7 true, i0 11 (.pick (.t 7) (.t 10) (.c (.sc (.bool false)))), iM 4 11])
.ret))
def f33g : Gi := ⟨[]⟩
def f33r : List RV := [.tmp 4]
def f33 : FI := ⟨f33c, f33g, f33r⟩
theorem chk33 : chkF Tryd.prog Tryd.f33 f33 = true := by kernel_rfl
def r16_in_J1 (t4v : Bool) : Option Bool :=
  some t4v
def r16_in (i : Int) (nv : Int) : Option Bool :=
  if decide (i ≥ 0) then
    r16_in_J1 (decide (i < nv))
  else
  r16_in_J1 false
theorem r16_in_ok {i : Int} {nv : Int} {r : Bool} (h : r16_in i nv = some r) : Says Tryd.prog 33 [si i, si nv] (sb r) := by
 refine says_of mix Tryd.func33 chk33 (of_decide_eq_true (by kernel_rfl)) rfl ?_
 simp only [f33, f33c, f33g, f33r]
 try simp +decide only [go_sem]
 refine cutH (fun τ => ∃ t4v : Bool, (τ 4 = sb t4v) ∧ r16_in_J1 t4v = some r) fun M1 m1 => ⟨?_, ?_⟩
 · try simp +decide only [go_sem]
   refine gI h (fun e1 h => ?_) fun e1 h => ?_
   · try simp +decide only [go_sem, e1]
     refine m1 _ ⟨decide (i < nv), ?_, h⟩
     simp +decide only [go_sem, e1]
   try simp +decide only [go_sem, e1]
   refine m1 _ ⟨false, ?_, h⟩
   simp +decide only [go_sem, e1]
 rintro τ1 ⟨t4v, s1, h⟩
 obtain rfl := Option.some.inj h
 simp +decide only [go_sem, s1]
def f55c : IC := (sR [iB 4 false]
(cutS (.reg [iC 5 0, iP 6 .geq 5 0, iC 7 6, j0 8 (.cp (.t 0)) 7 true, j0 9 (.cp (.t 1)) 7 true, j0 10 (.bin .lss (.t 8) (.t 9)) 7 true, i0 11 (.pick (.t 7) (.t 10) (.c (.sc (.bool false)))), iM 4 11])
.ret))
def f55g : Gi := ⟨[]⟩
def f55r : List RV := [.tmp 4]
def f55 : FI := ⟨f55c, f55g, f55r⟩
theorem chk55 : chkF Tryd.prog Tryd.f55 f55 = true := by kernel_rfl
def r08_in_J1 (t4v : Bool) : Option Bool :=
  some t4v
def r08_in (i : Int) (nv : Int) : Option Bool :=
  if decide (i ≥ 0) then
    r08_in_J1 (decide (i < nv))
  else
  r08_in_J1 false
theorem r08_in_ok {i : Int} {nv : Int} {r : Bool} (h : r08_in i nv = some r) : Says Tryd.prog 55 [si i, si nv] (sb r) := by
 refine says_of mix Tryd.func55 chk55 (of_decide_eq_true (by kernel_rfl)) rfl ?_
 simp only [f55, f55c, f55g, f55r]
 try simp +decide only [go_sem]
 refine cutH (fun τ => ∃ t4v : Bool, (τ 4 = sb t4v) ∧ r08_in_J1 t4v = some r) fun M1 m1 => ⟨?_, ?_⟩
 · try simp +decide only [go_sem]
   refine gI h (fun e1 h => ?_) fun e1 h => ?_
   · try simp +decide only [go_sem, e1]
     refine m1 _ ⟨decide (i < nv), ?_, h⟩
     simp +decide only [go_sem, e1]
   try simp +decide only [go_sem, e1]
   refine m1 _ ⟨false, ?_, h⟩
   simp +decide only [go_sem, e1]
 rintro τ1 ⟨t4v, s1, h⟩
 obtain rfl := Option.some.inj h
 simp +decide only [go_sem, s1]
end Go.Abs
