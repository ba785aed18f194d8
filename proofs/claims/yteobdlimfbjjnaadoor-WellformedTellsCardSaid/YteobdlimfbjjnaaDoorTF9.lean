/- Typed programs: interleaveref01.IsKeyword, interleaveref01.Digit, interleaveref01.inner, interleaveref01.IsName. -/
import Derived.Test.YteobdlimfbjjnaaDoorTE
import Derived.Test.YteobdlimfbjjnaaDoorTF8
set_option linter.unusedSimpArgs false
namespace Go.Abs
open Go.Proofs
set_option maxRecDepth 100000
set_option maxHeartbeats 4000000
def f52c : IC := (sR [iB 2 false]
(sR [i0 5 (.call 70 [] 2), ⟨some ⟨3, [7, 12, 14], []⟩, .mv (.t 5), none⟩]
(cutS (sR [iK 4 0]
(.block 0 (.loop (.seq (sR [iC 6 4, i1 7 3 (.cp (.t 3)), i0 8 (.len (.t 7)), iO 9 .lss 6 8]
(.cond (.t 9) .skip (.exit 0)))
(.seq (.block 1 (sR [i1 12 3 (.cp (.t 3)), iC 13 4, iIr 14 3 1 12 13, iL 15 14, iC 16 0, iO 17 .eql 15 16]
(.cond (.t 17) (sR [iB 2 true]
.ret) .skip)))
(.reg [iC 10 4, iP 11 .add 10 1, iM 4 11]))))))
(sR [iB 2 false]
.ret))))
def f52g : Gi := ⟨[(7, [3]), (12, [3]), (14, [3])]⟩
def f52r : List RV := [.tmp 2]
def f52 : FI := ⟨f52c, f52g, f52r⟩
theorem chk52 : chkF Tryd.prog Tryd.f52 f52 = true := by kernel_rfl
def r01_IsKe_J1 : Option Bool :=
  some false
def r01_IsKe_L1 (s : ByteArray) (v : List ByteArray) (L1 : Int → Option Bool) (i : Int) : Option Bool :=
  if decide (i < (v.length : Int)) then
    (gt v i).bind fun x =>
    if x.toList == s.toList then
      some true
    else
    L1 (w64 (i + 1))
  else
  r01_IsKe_J1
def r01_IsKe_L1r (s : ByteArray) (v : List ByteArray) : Nat → Int → Option Bool
  | 0, _ => none
  | n + 1, i => r01_IsKe_L1 s v (r01_IsKe_L1r s v n) i
def r01_IsKe (s : ByteArray) : Option Bool :=
  (r01_Ke).bind fun v =>
  r01_IsKe_L1r s v big 0
theorem r01_IsKe_ok {s : ByteArray} {r : Bool} (h : r01_IsKe s = some r) : Says Tryd.prog 52 [sst s] (sb r) := by
 refine says_of mix Tryd.func52 chk52 (of_decide_eq_true (by kernel_rfl)) rfl ?_
 simp only [f52, f52c, f52g, f52r]
 obtain ⟨v, g1, h⟩ := bS h
 try simp +decide only [go_sem]
 refine ⟨_, r01_Ke_ok g1, ?_⟩
 try simp +decide only [go_sem]
 refine cutH (fun τ => (True) ∧ r01_IsKe_J1 = some r) fun M1 m1 => ⟨?_, ?_⟩
 · try simp +decide only [go_sem]
   refine loopH (fun n τ => ∃ i : Int, (τ 0 = sst s ∧ τ 3 = .own false 1 (v.map eS) ∧ τ 4 = si i) ∧ r01_IsKe_L1r s v n i = some r) ⟨0, ?_, h⟩ fun n1 τ1 N1 => ?_
   · simp +decide only [go_sem]
   rintro ⟨i, s1, h⟩ k1
   cases n1 with
   | zero => exact no_none h
   | succ n1 =>
    rw [r01_IsKe_L1r] at h; generalize q1 : r01_IsKe_L1r s v n1 = L1 at h
    try simp +decide only [go_sem, s1]
    refine cI h (fun e1 h => ?_) fun e1 h => ?_
    · obtain ⟨x, g2, h⟩ := gB h
      try simp +decide only [go_sem, s1, e1, g2]
      refine cI h (fun e2 h => ?_) fun e2 h => ?_
      · obtain rfl := Option.some.inj h
        simp +decide only [go_sem, s1, e1, g2, e2]
      try simp +decide only [go_sem, s1, e1, g2, e2]
      refine k1 n1 (Nat.lt_succ_self _) _ ⟨w64 (i + 1), ?_, q1.symm ▸ h⟩
      simp +decide only [go_sem, s1, e1, g2, e2]
    try simp +decide only [go_sem, s1, e1]
    refine m1 _ ⟨?_, h⟩
    simp +decide only [go_sem, s1, e1]
 rintro τ1 ⟨_, h⟩
 obtain rfl := Option.some.inj h
 simp +decide only [go_sem]
def f71c : IC := (sR [iB 2 false]
(cutS (.reg [iC 3 0, i0 4 (.bin .geq (.t 3) (.c (.sc (.int .u8 48)))), iC 5 4, j0 6 (.cp (.t 0)) 5 true, j0 7 (.bin .leq (.t 6) (.c (.sc (.int .u8 57)))) 5 true, i0 8 (.pick (.t 5) (.t 7) (.c (.sc (.bool false)))), iM 2 8])
.ret))
def f71g : Gi := ⟨[]⟩
def f71r : List RV := [.tmp 2]
def f71 : FI := ⟨f71c, f71g, f71r⟩
theorem chk71 : chkF Tryd.prog Tryd.f71 f71 = true := by kernel_rfl
def r01_Di_J1 (t2v : Bool) : Option Bool :=
  some t2v
def r01_Di (c : Int) : Option Bool :=
  if decide (c ≥ 48) then
    r01_Di_J1 (decide (c ≤ 57))
  else
  r01_Di_J1 false
theorem r01_Di_ok {c : Int} {r : Bool} (h : r01_Di c = some r) : Says Tryd.prog 71 [.sc (.int .u8 c)] (sb r) := by
 refine says_of mix Tryd.func71 chk71 (of_decide_eq_true (by kernel_rfl)) rfl ?_
 simp only [f71, f71c, f71g, f71r]
 try simp +decide only [go_sem]
 refine cutH (fun τ => ∃ t2v : Bool, (τ 2 = sb t2v) ∧ r01_Di_J1 t2v = some r) fun M1 m1 => ⟨?_, ?_⟩
 · try simp +decide only [go_sem]
   refine gI h (fun e1 h => ?_) fun e1 h => ?_
   · try simp +decide only [go_sem, e1]
     refine m1 _ ⟨decide (c ≤ 57), ?_, h⟩
     simp +decide only [go_sem, e1]
   try simp +decide only [go_sem, e1]
   refine m1 _ ⟨false, ?_, h⟩
   simp +decide only [go_sem, e1]
 rintro τ1 ⟨t2v, s1, h⟩
 obtain rfl := Option.some.inj h
 simp +decide only [go_sem, s1]
def f53c : IC := (sR [iB 2 false]
(cutS (.reg [iC 3 0, i0 4 (.call 51 [.t 3] 0), iC 5 4, j0 6 (.cp (.t 0)) 5 false, j0 7 (.call 71 [.t 6] 0) 5 false, i0 8 (.pick (.t 5) (.c (.sc (.bool true))) (.t 7)), iC 9 8, j0 10 (.cp (.t 0)) 9 false, j0 11 (.bin .eql (.t 10) (.c (.sc (.int .u8 95)))) 9 false, i0 12 (.pick (.t 9) (.c (.sc (.bool true))) (.t 11)), iM 2 12])
.ret))
def f53g : Gi := ⟨[]⟩
def f53r : List RV := [.tmp 2]
def f53 : FI := ⟨f53c, f53g, f53r⟩
theorem chk53 : chkF Tryd.prog Tryd.f53 f53 = true := by kernel_rfl
def r01_in_J1 (t2v : Bool) : Option Bool :=
  some t2v
def r01_in (c : Int) : Option Bool :=
  (r01_Le c).bind fun v =>
  if v then
    r01_in_J1 true
  else
  (r01_Di c).bind fun v_1 =>
  if v_1 then
    r01_in_J1 true
  else
  r01_in_J1 (c == 95)
theorem r01_in_ok {c : Int} {r : Bool} (h : r01_in c = some r) : Says Tryd.prog 53 [.sc (.int .u8 c)] (sb r) := by
 refine says_of mix Tryd.func53 chk53 (of_decide_eq_true (by kernel_rfl)) rfl ?_
 simp only [f53, f53c, f53g, f53r]
 try simp +decide only [go_sem]
 refine cutH (fun τ => ∃ t2v : Bool, (τ 2 = sb t2v) ∧ r01_in_J1 t2v = some r) fun M1 m1 => ⟨?_, ?_⟩
 · obtain ⟨v, g1, h⟩ := bS h
   try simp +decide only [go_sem]
   refine ⟨_, r01_Le_ok g1, ?_⟩
   try simp +decide only [go_sem]
   refine gI h (fun e1 h => ?_) fun e1 h => ?_
   · try simp +decide only [go_sem, e1]
     refine m1 _ ⟨true, ?_, h⟩
     simp +decide only [go_sem, e1]
   obtain ⟨v_1, g2, h⟩ := bS h
   try simp +decide only [go_sem, e1]
   refine ⟨_, r01_Di_ok g2, ?_⟩
   try simp +decide only [go_sem, e1]
   refine gI h (fun e2 h => ?_) fun e2 h => ?_
   · try simp +decide only [go_sem, e1, e2]
     refine m1 _ ⟨true, ?_, h⟩
     simp +decide only [go_sem, e1, e2]
   try simp +decide only [go_sem, e1, e2]
   refine m1 _ ⟨c == 95, ?_, h⟩
   simp +decide only [go_sem, e1, e2]
 rintro τ1 ⟨t2v, s1, h⟩
 obtain rfl := Option.some.inj h
 simp +decide only [go_sem, s1]
def f29c : IC := (sR [iB 2 false]
(.seq (cutS (.reg [iC 4 0, i0 5 (.slen (.t 4)), iP 6 .lss 5 1, iC 7 6, j0 8 (.cp (.t 0)) 7 false, j0 9 (.slen (.t 8)) 7 false, j0 10 (.bin .gtr (.t 9) (.c (.sc (.int .i64 12)))) 7 false, i0 11 (.pick (.t 7) (.c (.sc (.bool true))) (.t 10)), iC 12 11, j0 13 (.cp (.t 0)) 12 false, j0 14 (.sidx (.t 13) (.c (.sc (.int .i64 0)))) 12 false, j0 15 (.call 51 [.t 14] 0) 12 false, j0 16 (.un .not (.t 15)) 12 false, i0 17 (.pick (.t 12) (.c (.sc (.bool true))) (.t 16)), iC 18 17, j0 19 (.cp (.t 0)) 18 false, j0 20 (.call 52 [.t 19] 0) 18 false, i0 21 (.pick (.t 18) (.c (.sc (.bool true))) (.t 20))])
(.cond (.t 21) (sR [iB 2 false]
.ret) .skip))
(cutS (sR [iK 3 0]
(.block 0 (.loop (.seq (sR [iC 22 3, iC 23 0, i0 24 (.slen (.t 23)), iO 25 .lss 22 24]
(.cond (.t 25) .skip (.exit 0)))
(.seq (.block 1 (sR [iC 28 0, iC 29 3, i0 30 (.sidx (.t 28) (.t 29)), i0 31 (.call 53 [.t 30] 0), iN 32 31]
(.cond (.t 32) (sR [iB 2 false]
.ret) .skip)))
(.reg [iC 26 3, iP 27 .add 26 1, iM 3 27]))))))
(sR [iB 2 true]
.ret))))
def f29g : Gi := ⟨[]⟩
def f29r : List RV := [.tmp 2]
def f29 : FI := ⟨f29c, f29g, f29r⟩
theorem chk29 : chkF Tryd.prog Tryd.f29 f29 = true := by kernel_rfl
def r01_IsNa_J2 : Option Bool :=
  some true
def r01_IsNa_L1 (s : ByteArray) (L1 : Int → Option Bool) (i : Int) : Option Bool :=
  if decide (i < (s.size : Int)) then
    (sgt s i).bind fun c_1 =>
    (r01_in (c_1.toNat : Int)).bind fun v_2 =>
    if !v_2 then
      some false
    else
    L1 (w64 (i + 1))
  else
  r01_IsNa_J2
def r01_IsNa_L1r (s : ByteArray) : Nat → Int → Option Bool
  | 0, _ => none
  | n + 1, i => r01_IsNa_L1 s (r01_IsNa_L1r s n) i
def r01_IsNa_J1 (s : ByteArray) (t21v : Bool) : Option Bool :=
  if t21v then
    some false
  else
  r01_IsNa_L1r s big 0
def r01_IsNa (s : ByteArray) : Option Bool :=
  if decide ((s.size : Int) < 1) then
    r01_IsNa_J1 s true
  else
  if decide ((s.size : Int) > 12) then
    r01_IsNa_J1 s true
  else
  (sgt s 0).bind fun c =>
  (r01_Le (c.toNat : Int)).bind fun v =>
  if !v then
    r01_IsNa_J1 s true
  else
  (r01_IsKe s).bind fun v_1 =>
  r01_IsNa_J1 s v_1
theorem r01_IsNa_ok {s : ByteArray} {r : Bool} (h : r01_IsNa s = some r) : Says Tryd.prog 29 [sst s] (sb r) := by
 refine says_of mix Tryd.func29 chk29 (of_decide_eq_true (by kernel_rfl)) rfl ?_
 simp only [f29, f29c, f29g, f29r]
 try simp +decide only [go_sem]
 refine cutH (fun τ => ∃ t21v : Bool, (τ 0 = sst s ∧ τ 21 = sb t21v) ∧ r01_IsNa_J1 s t21v = some r) fun M1 m1 => ⟨?_, ?_⟩
 · try simp +decide only [go_sem]
   refine gI h (fun e1 h => ?_) fun e1 h => ?_
   · try simp +decide only [go_sem, e1]
     refine m1 _ ⟨true, ?_, h⟩
     simp +decide only [go_sem, e1]
   try simp +decide only [go_sem, e1]
   refine gI h (fun e2 h => ?_) fun e2 h => ?_
   · try simp +decide only [go_sem, e1, e2]
     refine m1 _ ⟨true, ?_, h⟩
     simp +decide only [go_sem, e1, e2]
   obtain ⟨c, g1, h⟩ := sgL (n := 0) (by simp) h
   obtain ⟨v, g2, h⟩ := bS h
   try simp +decide only [go_sem, e1, e2, g1]
   refine ⟨_, r01_Le_ok g2, ?_⟩
   try simp +decide only [go_sem, e1, e2, g1]
   refine gI h (fun e3 h => ?_) fun e3 h => ?_
   · try simp +decide only [go_sem, e1, e2, g1, e3]
     refine m1 _ ⟨true, ?_, h⟩
     simp +decide only [go_sem, e1, e2, g1, e3]
   obtain ⟨v_1, g3, h⟩ := bS h
   try simp +decide only [go_sem, e1, e2, g1, e3]
   refine ⟨_, r01_IsKe_ok g3, ?_⟩
   try simp +decide only [go_sem, e1, e2, g1, e3]
   refine m1 _ ⟨v_1, ?_, h⟩
   simp +decide only [go_sem, e1, e2, g1, e3]
 rintro τ1 ⟨t21v, s1, h⟩
 try simp +decide only [go_sem, s1]
 refine cI h (fun e4 h => ?_) fun e4 h => ?_
 · obtain rfl := Option.some.inj h
   simp +decide only [go_sem, s1, e4]
 try simp +decide only [go_sem, s1, e4]
 refine cutH (fun τ => (True) ∧ r01_IsNa_J2 = some r) fun M2 m2 => ⟨?_, ?_⟩
 · try simp +decide only [go_sem, s1, e4]
   refine loopH (fun n τ => ∃ i : Int, (τ 0 = sst s ∧ τ 3 = si i) ∧ r01_IsNa_L1r s n i = some r) ⟨0, ?_, h⟩ fun n1 τ1 N1 => ?_
   · simp +decide only [go_sem, s1, e4]
   rintro ⟨i, s1, h⟩ k1
   cases n1 with
   | zero => exact no_none h
   | succ n1 =>
    rw [r01_IsNa_L1r] at h; generalize q1 : r01_IsNa_L1r s n1 = L1 at h
    try simp +decide only [go_sem, s1]
    refine cI h (fun e5 h => ?_) fun e5 h => ?_
    · obtain ⟨c_1, g4, h⟩ := sgB h
      obtain ⟨v_2, g5, h⟩ := bS h
      try simp +decide only [go_sem, s1, e5, g4]
      refine ⟨_, r01_in_ok g5, ?_⟩
      try simp +decide only [go_sem, s1, e5, g4]
      refine cI h (fun e6 h => ?_) fun e6 h => ?_
      · obtain rfl := Option.some.inj h
        simp +decide only [go_sem, s1, e5, g4, e6]
      try simp +decide only [go_sem, s1, e5, g4, e6]
      refine k1 n1 (Nat.lt_succ_self _) _ ⟨w64 (i + 1), ?_, q1.symm ▸ h⟩
      simp +decide only [go_sem, s1, e5, g4, e6]
    try simp +decide only [go_sem, s1, e5]
    refine m2 _ ⟨?_, h⟩
    simp +decide only [go_sem, s1, e5]
 rintro τ2 ⟨_, h⟩
 obtain rfl := Option.some.inj h
 simp +decide only [go_sem]
end Go.Abs
