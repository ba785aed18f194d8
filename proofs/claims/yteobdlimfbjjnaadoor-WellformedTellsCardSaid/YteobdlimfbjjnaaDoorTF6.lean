/- Typed programs: object.clone, object.waits, object.notify, object.notifyAll. -/
import Derived.Test.YteobdlimfbjjnaaDoorTE
import Derived.Test.YteobdlimfbjjnaaDoorTF5
set_option linter.unusedSimpArgs false
namespace Go.Abs
open Go.Proofs
set_option maxRecDepth 100000
set_option maxHeartbeats 4000000
def f44c : IC := (sR [⟨some ⟨1, [6, 7, 10, 11, 16, 17, 29, 30, 31, 33, 34, 35, 37, 38], []⟩, .bx 4 (.t 0), none⟩, i0 2 (.bx 4 (.c (.agg [.own false 2 [], .sc (.int .i64 0), .own false 1 [], .own false 3 []])))]
(sR [iFr 6 1 0 1, iLr 7 1 6, i0 8 (.len (.t 7)), i0 9 (.mk 2 32 [.sc (.int .i64 0), .own false 1 []] (.t 8) (.t 8)), ⟨some ⟨3, [18, 26, 28], []⟩, .mv (.t 9), none⟩]
(cutS (sR [iFr 10 1 0 1, iLr 11 1 10, i0 12 (.len (.t 11)), i0 13 (.cp (.c (.sc (.int .i64 0))))]
(.block 0 (.loop (sR [iO 14 .lss 13 12]
(.seq (.cond (.t 14) .skip (.exit 0))
(.seq (.block 1 (sR [iC 15 13, iIr 16 1 2 11 13, i1 17 1 (.ld true 2 (.t 16)), ⟨some ⟨5, [20, 22, 23], []⟩, .bx 2 (.c (.agg [.sc (.int .i64 0), .own false 1 []])), none⟩, iM 4 15, iS 2 5 17]
(.reg [i1 18 3 (.cp (.t 3)), iC 19 4, iFr 20 5 0 5, iL 21 20, iFr 22 5 1 5, iLr 23 5 22, i0 24 (.call 27 [.t 23] 2), i0 25 (.bld [.sc (.int .i64 0), .own false 1 []] [(0, 1, .t 21), (1, 1, .t 24)]), iIr 26 3 2 18 19, iS 2 26 25])))
(.reg [iP 27 .add 13 1, iC 13 27])))))))
(sR [i1 28 3 (.cp (.t 3)), iFr 29 1 0 1, iS 1 29 28]
(sR [iFr 30 1 2 1, iLr 31 1 30, i0 32 (.call 64 [.t 31] 2), iFr 33 1 2 1, iS 1 33 32]
(sR [iFr 34 1 3 1, iLr 35 1 34, i0 36 (.call 65 [.t 35] 2), iFr 37 1 3 1, iS 1 37 36]
(sR [i1 38 1 (.ld true 4 (.t 1)), iS 4 2 38]
.ret)))))))
def f44g : Gi := ⟨[(6, [1]), (7, [1]), (10, [1]), (11, [1]), (16, [1]), (17, [1]), (18, [3]), (20, [5]), (22, [5]), (23, [5]), (26, [3]), (28, [3]), (29, [1]), (30, [1]), (31, [1]), (33, [1]), (34, [1]), (35, [1]), (37, [1]), (38, [1])]⟩
def f44r : List RV := [.cell 2 true 4]
def f44 : FI := ⟨f44c, f44g, f44r⟩
theorem chk44 : chkF Tryd.prog Tryd.f44 f44 = true := by kernel_rfl
def o_cl_J1 (s : SSync) (locks_1 : List SLockState) : Option SSync :=
  (s_Clbo s.Done).bind fun v_1 =>
  (s_ClapT s.Threads).bind fun v_2 =>
  some (SSync.mk locks_1 s.Tx v_1 v_2)
def o_cl_L1 (s : SSync) (L1 : (List SLockState) → Int → Option SSync) (locks : List SLockState) (t13v : Int) : Option SSync :=
  if decide (t13v < (s.Locks.length : Int)) then
    (gt s.Locks t13v).bind fun x =>
    (s_Clin x.Readers).bind fun v =>
    (gt locks t13v).bind fun x_1 =>
    L1 (locks.set t13v.toNat (SLockState.mk x.Owner v)) (w64 (t13v + 1))
  else
  o_cl_J1 s locks
def o_cl_L1r (s : SSync) : Nat → (List SLockState) → Int → Option SSync
  | 0, _, _ => none
  | n + 1, locks, t13v => o_cl_L1 s (o_cl_L1r s n) locks t13v
def o_cl (s : SSync) : Option SSync :=
  if 0 ≤ (s.Locks.length : Int) ∧ (s.Locks.length : Int) ≤ (s.Locks.length : Int) ∧ roomOK s.Locks.length 32 = true then
  o_cl_L1r s big (List.replicate s.Locks.length (SLockState.mk 0 [])) 0
  else none
theorem o_cl_ok {s : SSync} {r : SSync} (h : o_cl s = some r) : Says Tryd.prog 44 [.agg (eSync s)] (.agg (eSynco r)) := by
 refine says_of mix Tryd.func44 chk44 (of_decide_eq_true (by kernel_rfl)) rfl ?_
 simp only [f44, f44c, f44g, f44r]
 obtain ⟨g1, h⟩ := cS h
 try simp +decide only [go_sem, g1]
 refine cutH (fun τ => ∃ locks_1 : List SLockState, (τ 1 = bA 4 (eSync s) ∧ τ 2 = bA 4 [.own false 2 ([]), si 0, .own false 1 ([]), .own false 3 ([])] ∧ τ 3 = .own false 2 (locks_1.map eLockStateo)) ∧ o_cl_J1 s locks_1 = some r) fun M1 m1 => ⟨?_, ?_⟩
 · try simp +decide only [go_sem, g1]
   refine loopH (fun n τ => ∃ locks : List SLockState, ∃ t13v : Int, (τ 1 = bA 4 (eSync s) ∧ τ 2 = bA 4 [.own false 2 ([]), si 0, .own false 1 ([]), .own false 3 ([])] ∧ τ 3 = .own false 2 (locks.map eLockStateo) ∧ τ 11 = .sl false 2 (s.Locks.map eLockState) ∧ τ 12 = si (s.Locks.length : Int) ∧ τ 13 = si t13v) ∧ o_cl_L1r s n locks t13v = some r) ⟨List.replicate s.Locks.length (SLockState.mk 0 []), 0, ?_, h⟩ fun n1 τ1 N1 => ?_
   · simp +decide only [go_sem, g1]
   rintro ⟨locks, t13v, s1, h⟩ k1
   cases n1 with
   | zero => exact no_none h
   | succ n1 =>
    rw [o_cl_L1r] at h; generalize q1 : o_cl_L1r s n1 = L1 at h
    try simp +decide only [go_sem, s1]
    refine cI h (fun e1 h => ?_) fun e1 h => ?_
    · obtain ⟨x, g4, h⟩ := gB h
      obtain ⟨v, g5, h⟩ := bS h
      try simp +decide only [go_sem, s1, e1, g4]
      refine ⟨_, s_Clin_ok g5, ?_⟩
      obtain ⟨x_1, g6, h⟩ := gB h
      try simp +decide only [go_sem, s1, e1, g4, g6]
      refine k1 n1 (Nat.lt_succ_self _) _ ⟨locks.set t13v.toNat (SLockState.mk x.Owner v), w64 (t13v + 1), ?_, q1.symm ▸ h⟩
      simp +decide only [go_sem, s1, e1, g4, g6]
    try simp +decide only [go_sem, s1, e1]
    refine m1 _ ⟨locks, ?_, h⟩
    simp +decide only [go_sem, s1, e1]
 rintro τ1 ⟨locks_1, s1, h⟩
 obtain ⟨v_1, g7, h⟩ := bS h
 try simp +decide only [go_sem, s1]
 refine ⟨_, s_Clbo_ok g7, ?_⟩
 obtain ⟨v_2, g8, h⟩ := bS h
 try simp +decide only [go_sem, s1]
 refine ⟨_, s_ClapT_ok g8, ?_⟩
 obtain rfl := Option.some.inj h
 simp +decide only [go_sem, s1]
def f69c : IC := (sR [⟨some ⟨2, [5, 9], []⟩, .bx 3 (.t 0), none⟩, iB 4 false]
(cutS (.reg [iFr 5 2 0 2, iL 6 5, iQ 7 6 3, iC 8 7, jFr 9 2 1 2 8 true, jL 10 9 8 true, j0 11 (.cp (.t 1)) 8 true, j0 12 (.bin .eql (.t 10) (.t 11)) 8 true, i0 13 (.pick (.t 8) (.t 12) (.c (.sc (.bool false)))), iM 4 13])
.ret))
def f69g : Gi := ⟨[(5, [2]), (9, [2])]⟩
def f69r : List RV := [.tmp 4]
def f69 : FI := ⟨f69c, f69g, f69r⟩
theorem chk69 : chkF Tryd.prog Tryd.f69 f69 = true := by kernel_rfl
def o_wa_J1 (t4v : Bool) : Option Bool :=
  some t4v
def o_wa (t : SThreadSync) (cond : Int) : Option Bool :=
  if t.Status == 3 then
    o_wa_J1 (t.Cond == cond)
  else
  o_wa_J1 false
theorem o_wa_ok {t : SThreadSync} {cond : Int} {r : Bool} (h : o_wa t cond = some r) : Says Tryd.prog 69 [.agg (eThreadSync t), si cond] (sb r) := by
 refine says_of mix Tryd.func69 chk69 (of_decide_eq_true (by kernel_rfl)) rfl ?_
 simp only [f69, f69c, f69g, f69r]
 try simp +decide only [go_sem]
 refine cutH (fun τ => ∃ t4v : Bool, (τ 4 = sb t4v) ∧ o_wa_J1 t4v = some r) fun M1 m1 => ⟨?_, ?_⟩
 · try simp +decide only [go_sem]
   refine gI h (fun e1 h => ?_) fun e1 h => ?_
   · try simp +decide only [go_sem, e1]
     refine m1 _ ⟨t.Cond == cond, ?_, h⟩
     simp +decide only [go_sem, e1]
   try simp +decide only [go_sem, e1]
   refine m1 _ ⟨false, ?_, h⟩
   simp +decide only [go_sem, e1]
 rintro τ1 ⟨t4v, s1, h⟩
 obtain rfl := Option.some.inj h
 simp +decide only [go_sem, s1]
def f49c : IC := (.seq (.rex [.bxv ⟨3, [], [0]⟩ 4 0, .o (iK 6 0)])
(sR [iK 7 (-1)]
(cutS (sR [iFr 10 0 3 3, iLr 11 0 10, i0 12 (.len (.t 11)), i0 13 (.cp (.c (.sc (.int .i64 0))))]
(.block 0 (.loop (sR [iO 14 .lss 13 12]
(.seq (.cond (.t 14) .skip (.exit 0))
(cutS (.block 1 (sR [iC 15 13, iIr 16 0 3 11 13, i0 17 (.ld true 3 (.t 16)), i0 9 (.bx 3 (.c (.agg [.sc (.int .i64 0), .sc (.int .i64 0), .sc (.bool false)]))), iM 8 15, iS 3 9 17]
(cutS (.reg [i0 18 (.ld true 3 (.t 9)), iC 19 1, i0 20 (.call 69 [.t 18, .t 19] 0), iC 21 20, j0 22 (.cp (.t 7)) 21 true, j0 23 (.bin .lss (.t 22) (.c (.sc (.int .i64 0)))) 21 true, j0 24 (.cp (.t 23)) 21 true, j0 25 (.cp (.t 8)) 24 false, j0 26 (.cp (.t 2)) 24 false, j0 27 (.bin .eql (.t 25) (.t 26)) 24 false, j0 28 (.pick (.t 24) (.c (.sc (.bool true))) (.t 27)) 21 true, i0 29 (.pick (.t 21) (.t 28) (.c (.sc (.bool false))))])
(.cond (.t 29) (.reg [iC 30 8, iM 7 30]) .skip))))
(.reg [iP 31 .add 13 1, iC 13 31])))))))
(cutS (sR [iC 32 7, iP 33 .geq 32 0]
(.cond (.t 33) (.reg [iFr 34 0 3 3, iLr 35 0 34, iC 36 7, iIr 37 0 3 35 36, iFr 38 0 0 37, iT 38 4]) .skip))
(sR [iC 39 7, iM 6 39]
.ret)))))
def f49g : Gi := ⟨[(3, [0]), (10, [0]), (11, [0]), (16, [0]), (34, [0]), (35, [0]), (37, [0]), (38, [0])]⟩
def f49r : List RV := [.tmp 6]
def f49 : FI := ⟨f49c, f49g, f49r⟩
theorem chk49 : chkF Tryd.prog Tryd.f49 f49 = true := by kernel_rfl
def o_no_J4 (chosen_2 : Int) (s : List SThreadSync) : Option (Int × (List SThreadSync)) :=
  some (chosen_2, s)
def o_no_J3 (threads : List SThreadSync) (chosen_2 : Int) : Option (Int × (List SThreadSync)) :=
  if decide (chosen_2 ≥ 0) then
    (gt threads chosen_2).bind fun x_1 =>
    o_no_J4 chosen_2 (threads.set chosen_2.toNat (SThreadSync.mk 4 x_1.Cond x_1.Atomic))
  else
  o_no_J4 chosen_2 threads
def o_no_J2 (L1 : Int → Int → Option (Int × (List SThreadSync))) (t13v : Int) (chosen_1 : Int) : Option (Int × (List SThreadSync)) :=
  L1 chosen_1 (w64 (t13v + 1))
def o_no_J1 (L1 : Int → Int → Option (Int × (List SThreadSync))) (chosen : Int) (t13v : Int) (t29v : Bool) : Option (Int × (List SThreadSync)) :=
  if t29v then
    o_no_J2 L1 t13v t13v
  else
  o_no_J2 L1 t13v chosen
def o_no_L1 (cond : Int) (threads : List SThreadSync) (wake : Int) (L1 : Int → Int → Option (Int × (List SThreadSync))) (chosen : Int) (t13v : Int) : Option (Int × (List SThreadSync)) :=
  if decide (t13v < (threads.length : Int)) then
    (gt threads t13v).bind fun x =>
    (o_wa x cond).bind fun v =>
    if v then
      if decide (chosen < 0) then
        o_no_J1 L1 chosen t13v true
      else
      o_no_J1 L1 chosen t13v (t13v == wake)
    else
    o_no_J1 L1 chosen t13v false
  else
  o_no_J3 threads chosen
def o_no_L1r (cond : Int) (threads : List SThreadSync) (wake : Int) : Nat → Int → Int → Option (Int × (List SThreadSync))
  | 0, _, _ => none
  | n + 1, chosen, t13v => o_no_L1 cond threads wake (o_no_L1r cond threads wake n) chosen t13v
def o_no (tx : Int) (threads : List SThreadSync) (cond : Int) (wake : Int) : Option (Int × (List SThreadSync)) :=
  o_no_L1r cond threads wake big (-1) 0
theorem o_no_ok {tx : Int} {threads : List SThreadSync} {cond : Int} {wake : Int} {r : Int × (List SThreadSync)} (h : o_no tx threads cond wake = some r) : SoundAt Tryd.prog 49 [.agg [.dead, si tx, .dead, .own false 3 (threads.map eThreadSync)], si cond, si wake] (si r.1) [.agg [.dead, si tx, .dead, .own false 3 (r.2.map eThreadSync)], .dead, .dead] := by
 refine says_out mix Tryd.func49 chk49 (by kernel_rfl) (of_decide_eq_true (by kernel_rfl)) rfl rfl ?_
 simp only [f49, f49c, f49g, f49r]
 try simp +decide only [go_sem]
 intro us1 _
 try simp +decide only [go_sem]
 refine cutH (fun τ => ∃ chosen_2 : Int, (τ 0 = .agg [.dead, si tx, .dead, .own false 3 (threads.map eThreadSync)] ∧ τ 3 = .vb 0 0 us1 ∧ τ 7 = si chosen_2) ∧ o_no_J3 threads chosen_2 = some r) fun M3 m3 => ⟨?_, ?_⟩
 · try simp +decide only [go_sem]
   refine loopH (fun n τ => ∃ chosen : Int, ∃ t13v : Int, (τ 0 = .agg [.dead, si tx, .dead, .own false 3 (threads.map eThreadSync)] ∧ τ 1 = si cond ∧ τ 2 = si wake ∧ τ 3 = .vb 0 0 us1 ∧ τ 7 = si chosen ∧ τ 11 = .al 0 [(0, 3, 0)] ∧ τ 12 = si (threads.length : Int) ∧ τ 13 = si t13v) ∧ o_no_L1r cond threads wake n chosen t13v = some r) ⟨(-1), 0, ?_, h⟩ fun n1 τ1 N1 => ?_
   · simp +decide only [go_sem]
   rintro ⟨chosen, t13v, s1, h⟩ k1
   cases n1 with
   | zero => exact no_none h
   | succ n1 =>
    rw [o_no_L1r] at h; generalize q1 : o_no_L1r cond threads wake n1 = L1 at h
    try simp +decide only [go_sem, s1]
    refine cI h (fun e1 h => ?_) fun e1 h => ?_
    · try simp +decide only [go_sem, s1, e1]
      refine cutH (fun τ => ∃ chosen_1 : Int, (τ 0 = .agg [.dead, si tx, .dead, .own false 3 (threads.map eThreadSync)] ∧ τ 1 = si cond ∧ τ 2 = si wake ∧ τ 3 = .vb 0 0 us1 ∧ τ 7 = si chosen_1 ∧ τ 11 = .al 0 [(0, 3, 0)] ∧ τ 12 = si (threads.length : Int) ∧ τ 13 = si t13v) ∧ o_no_J2 L1 t13v chosen_1 = some r) fun M2 m2 => ⟨?_, ?_⟩
      · obtain ⟨x, g1, h⟩ := gB h
        try simp +decide only [go_sem, s1, e1, g1]
        refine cutH (fun τ => ∃ t29v : Bool, (τ 0 = .agg [.dead, si tx, .dead, .own false 3 (threads.map eThreadSync)] ∧ τ 1 = si cond ∧ τ 2 = si wake ∧ τ 3 = .vb 0 0 us1 ∧ τ 7 = si chosen ∧ τ 8 = si t13v ∧ τ 11 = .al 0 [(0, 3, 0)] ∧ τ 12 = si (threads.length : Int) ∧ τ 13 = si t13v ∧ τ 29 = sb t29v) ∧ o_no_J1 L1 chosen t13v t29v = some r) fun M1 m1 => ⟨?_, ?_⟩
        · obtain ⟨v, g2, h⟩ := bS h
          try simp +decide only [go_sem, s1, e1, g1]
          refine ⟨_, o_wa_ok g2, ?_⟩
          try simp +decide only [go_sem, s1, e1, g1]
          refine gI h (fun e2 h => ?_) fun e2 h => ?_
          · try simp +decide only [go_sem, s1, e1, g1, e2]
            refine gI h (fun e3 h => ?_) fun e3 h => ?_
            · try simp +decide only [go_sem, s1, e1, g1, e2, e3]
              refine m1 _ ⟨true, ?_, h⟩
              simp +decide only [go_sem, s1, e1, g1, e2, e3]
            try simp +decide only [go_sem, s1, e1, g1, e2, e3]
            refine m1 _ ⟨t13v == wake, ?_, h⟩
            simp +decide only [go_sem, s1, e1, g1, e2, e3]
          try simp +decide only [go_sem, s1, e1, g1, e2]
          refine m1 _ ⟨false, ?_, h⟩
          simp +decide only [go_sem, s1, e1, g1, e2]
        rintro τ1 ⟨t29v, s1, h⟩
        try simp +decide only [go_sem, s1]
        refine cI h (fun e4 h => ?_) fun e4 h => ?_
        · try simp +decide only [go_sem, s1, e4]
          refine m2 _ ⟨t13v, ?_, h⟩
          simp +decide only [go_sem, s1, e4]
        try simp +decide only [go_sem, s1, e4]
        refine m2 _ ⟨chosen, ?_, h⟩
        simp +decide only [go_sem, s1, e4]
      rintro τ2 ⟨chosen_1, s2, h⟩
      try simp +decide only [go_sem, s2]
      refine k1 n1 (Nat.lt_succ_self _) _ ⟨chosen_1, w64 (t13v + 1), ?_, q1.symm ▸ h⟩
      simp +decide only [go_sem, s2]
    try simp +decide only [go_sem, s1, e1]
    refine m3 _ ⟨chosen, ?_, h⟩
    simp +decide only [go_sem, s1, e1]
 rintro τ3 ⟨chosen_2, s3, h⟩
 try simp +decide only [go_sem, s3]
 refine cutH (fun τ => ∃ s : List SThreadSync, (τ 0 = .agg [.dead, si tx, .dead, .own false 3 (s.map eThreadSync)] ∧ τ 7 = si chosen_2) ∧ o_no_J4 chosen_2 s = some r) fun M4 m4 => ⟨?_, ?_⟩
 · try simp +decide only [go_sem, s3]
   refine cI h (fun e5 h => ?_) fun e5 h => ?_
   · obtain ⟨x_1, g3, h⟩ := gB h
     try simp +decide only [go_sem, s3, e5, g3]
     refine m4 _ ⟨threads.set chosen_2.toNat (SThreadSync.mk 4 x_1.Cond x_1.Atomic), ?_, h⟩
     simp +decide only [go_sem, s3, e5, g3]
   try simp +decide only [go_sem, s3, e5]
   refine m4 _ ⟨threads, ?_, h⟩
   simp +decide only [go_sem, s3, e5]
 rintro τ4 ⟨s, s4, h⟩
 obtain rfl := Option.some.inj h
 simp +decide only [go_sem, s4]
def f50c : IC := (.seq (.rex [.bxv ⟨2, [], [0]⟩ 4 0, .o (iK 4 0)])
(sR [iK 5 0]
(cutS (sR [iFr 8 0 3 2, iLr 9 0 8, i0 10 (.len (.t 9)), i0 11 (.cp (.c (.sc (.int .i64 0))))]
(.block 0 (.loop (sR [iO 12 .lss 11 10]
(.seq (.cond (.t 12) .skip (.exit 0))
(cutS (.block 1 (sR [iC 13 11, iIr 14 0 3 9 11, i0 15 (.ld true 3 (.t 14)), i0 7 (.bx 3 (.c (.agg [.sc (.int .i64 0), .sc (.int .i64 0), .sc (.bool false)]))), iM 6 13, iS 3 7 15]
(sR [i0 16 (.ld true 3 (.t 7)), iC 17 1, i0 18 (.call 69 [.t 16, .t 17] 0)]
(.cond (.t 18) (sR [iFr 19 0 3 2, iLr 20 0 19, iC 21 6, iIr 22 0 3 20 21, iFr 23 0 0 22, iT 23 4]
(.reg [iC 24 5, iP 25 .add 24 1, iM 5 25])) .skip))))
(.reg [iP 26 .add 11 1, iC 11 26])))))))
(sR [iC 27 5, iM 4 27]
.ret))))
def f50g : Gi := ⟨[(2, [0]), (8, [0]), (9, [0]), (14, [0]), (19, [0]), (20, [0]), (22, [0]), (23, [0])]⟩
def f50r : List RV := [.tmp 4]
def f50 : FI := ⟨f50c, f50g, f50r⟩
theorem chk50 : chkF Tryd.prog Tryd.f50 f50 = true := by kernel_rfl
def o_noAl_J2 (s_2 : List SThreadSync) (nv_2 : Int) : Option (Int × (List SThreadSync)) :=
  some (nv_2, s_2)
def o_noAl_J1 (L1 : (List SThreadSync) → Int → Int → Option (Int × (List SThreadSync))) (t11v : Int) (s_1 : List SThreadSync) (nv_1 : Int) : Option (Int × (List SThreadSync)) :=
  L1 s_1 nv_1 (w64 (t11v + 1))
def o_noAl_L1 (cond : Int) (threads : List SThreadSync) (L1 : (List SThreadSync) → Int → Int → Option (Int × (List SThreadSync))) (s : List SThreadSync) (nv : Int) (t11v : Int) : Option (Int × (List SThreadSync)) :=
  if decide (t11v < (threads.length : Int)) then
    (gt s t11v).bind fun x =>
    (o_wa x cond).bind fun v =>
    if v then
      o_noAl_J1 L1 t11v (s.set t11v.toNat (SThreadSync.mk 4 x.Cond x.Atomic)) (w64 (nv + 1))
    else
    o_noAl_J1 L1 t11v s nv
  else
  o_noAl_J2 s nv
def o_noAl_L1r (cond : Int) (threads : List SThreadSync) : Nat → (List SThreadSync) → Int → Int → Option (Int × (List SThreadSync))
  | 0, _, _, _ => none
  | n + 1, s, nv, t11v => o_noAl_L1 cond threads (o_noAl_L1r cond threads n) s nv t11v
def o_noAl (tx : Int) (threads : List SThreadSync) (cond : Int) : Option (Int × (List SThreadSync)) :=
  o_noAl_L1r cond threads big threads 0 0
theorem o_noAl_ok {tx : Int} {threads : List SThreadSync} {cond : Int} {r : Int × (List SThreadSync)} (h : o_noAl tx threads cond = some r) : SoundAt Tryd.prog 50 [.agg [.dead, si tx, .dead, .own false 3 (threads.map eThreadSync)], si cond] (si r.1) [.agg [.dead, si tx, .dead, .own false 3 (r.2.map eThreadSync)], .dead] := by
 refine says_out mix Tryd.func50 chk50 (by kernel_rfl) (of_decide_eq_true (by kernel_rfl)) rfl rfl ?_
 simp only [f50, f50c, f50g, f50r]
 try simp +decide only [go_sem]
 intro us1 _
 try simp +decide only [go_sem]
 refine cutH (fun τ => ∃ s_2 : List SThreadSync, ∃ nv_2 : Int, (τ 0 = .agg [.dead, si tx, .dead, .own false 3 (s_2.map eThreadSync)] ∧ τ 5 = si nv_2) ∧ o_noAl_J2 s_2 nv_2 = some r) fun M2 m2 => ⟨?_, ?_⟩
 · try simp +decide only [go_sem]
   refine loopH (fun n τ => ∃ s : List SThreadSync, ∃ nv : Int, ∃ t11v : Int, (τ 0 = .agg [.dead, si tx, .dead, .own false 3 (s.map eThreadSync)] ∧ τ 1 = si cond ∧ τ 2 = .vb 0 0 us1 ∧ τ 5 = si nv ∧ τ 9 = .al 0 [(0, 3, 0)] ∧ τ 10 = si (threads.length : Int) ∧ τ 11 = si t11v) ∧ o_noAl_L1r cond threads n s nv t11v = some r) ⟨threads, 0, 0, ?_, h⟩ fun n1 τ1 N1 => ?_
   · simp +decide only [go_sem]
   rintro ⟨s, nv, t11v, s1, h⟩ k1
   cases n1 with
   | zero => exact no_none h
   | succ n1 =>
    rw [o_noAl_L1r] at h; generalize q1 : o_noAl_L1r cond threads n1 = L1 at h
    try simp +decide only [go_sem, s1]
    refine cI h (fun e1 h => ?_) fun e1 h => ?_
    · try simp +decide only [go_sem, s1, e1]
      refine cutH (fun τ => ∃ s_1 : List SThreadSync, ∃ nv_1 : Int, (τ 0 = .agg [.dead, si tx, .dead, .own false 3 (s_1.map eThreadSync)] ∧ τ 1 = si cond ∧ τ 2 = .vb 0 0 us1 ∧ τ 5 = si nv_1 ∧ τ 9 = .al 0 [(0, 3, 0)] ∧ τ 10 = si (threads.length : Int) ∧ τ 11 = si t11v) ∧ o_noAl_J1 L1 t11v s_1 nv_1 = some r) fun M1 m1 => ⟨?_, ?_⟩
      · obtain ⟨x, g1, h⟩ := gB h
        obtain ⟨v, g2, h⟩ := bS h
        try simp +decide only [go_sem, s1, e1, g1]
        refine ⟨_, o_wa_ok g2, ?_⟩
        try simp +decide only [go_sem, s1, e1, g1]
        refine cI h (fun e2 h => ?_) fun e2 h => ?_
        · try simp +decide only [go_sem, s1, e1, g1, e2]
          refine m1 _ ⟨s.set t11v.toNat (SThreadSync.mk 4 x.Cond x.Atomic), w64 (nv + 1), ?_, h⟩
          simp +decide only [go_sem, s1, e1, g1, e2]
        try simp +decide only [go_sem, s1, e1, g1, e2]
        refine m1 _ ⟨s, nv, ?_, h⟩
        simp +decide only [go_sem, s1, e1, g1, e2]
      rintro τ1 ⟨s_1, nv_1, s1, h⟩
      try simp +decide only [go_sem, s1]
      refine k1 n1 (Nat.lt_succ_self _) _ ⟨s_1, nv_1, w64 (t11v + 1), ?_, q1.symm ▸ h⟩
      simp +decide only [go_sem, s1]
    try simp +decide only [go_sem, s1, e1]
    refine m2 _ ⟨s, nv, ?_, h⟩
    simp +decide only [go_sem, s1, e1]
 rintro τ2 ⟨s_2, nv_2, s2, h⟩
 obtain rfl := Option.some.inj h
 simp +decide only [go_sem, s2]
end Go.Abs
