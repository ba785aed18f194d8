/- Typed programs: object.Start, wellformed.Start, object.within, object.Fits. -/
import Derived.Test.YteobdlimfbjjnaaDoorTE
set_option linter.unusedSimpArgs false
namespace Go.Abs
open Go.Proofs
set_option maxRecDepth 100000
set_option maxHeartbeats 4000000
def f19c : IC := (sR [⟨some ⟨1, [5, 9, 13], []⟩, .bx 6 (.t 0), none⟩, i0 2 (.bx 4 (.c (.agg [.own false 2 [], .sc (.int .i64 0), .own false 1 [], .own false 3 []])))]
(sR [iFr 5 1 1 1, iL 6 5, i0 7 (.len (.t 6)), i0 8 (.mk 2 32 [.sc (.int .i64 0), .own false 1 []] (.t 7) (.t 7)), iFr 9 1 3 1, iL 10 9, i0 11 (.len (.t 10)), i0 12 (.mk 1 1 [.sc (.bool false)] (.t 11) (.t 11)), iFr 13 1 4 1, iL 14 13, i0 15 (.len (.t 14)), i0 16 (.mk 3 24 [.sc (.int .i64 0), .sc (.int .i64 0), .sc (.bool false)] (.t 15) (.t 15)), i0 17 (.bld [.own false 2 [], .sc (.int .i64 0), .own false 1 [], .own false 3 []] [(0, 1, .t 8), (1, 1, .c (.sc (.int .i64 (-1)))), (2, 1, .t 12), (3, 1, .t 16)]), ⟨some ⟨3, [18, 19, 24, 25, 27, 28, 30, 31, 34, 35, 36, 37, 38], []⟩, .bx 4 (.c (.agg [.own false 2 [], .sc (.int .i64 0), .own false 1 [], .own false 3 []])), none⟩, iS 4 3 17]
(cutS (sR [iFr 18 3 0 3, iLr 19 3 18, i0 20 (.len (.t 19)), i0 21 (.cp (.c (.sc (.int .i64 0))))]
(.block 0 (.loop (sR [iO 22 .lss 21 20]
(.seq (.cond (.t 22) .skip (.exit 0))
(.seq (.block 1 (sR [iC 23 21, iM 4 23]
(.reg [iFr 24 3 0 3, iLr 25 3 24, iC 26 4, iIr 27 3 2 25 26, iFr 28 3 0 27, iT 28 (-1)])))
(.reg [iP 29 .add 21 1, iC 21 29])))))))
(cutS (sR [iFr 30 3 3 3, iLr 31 3 30, i0 32 (.len (.t 31)), iP 33 .gtr 32 0]
(.cond (.t 33) (.reg [iFr 34 3 3 3, iLr 35 3 34, i1 36 3 (.iad 3 (.t 35) (.c (.sc (.int .i64 0)))), iFr 37 3 0 36, iT 37 1]) .skip))
(sR [i1 38 3 (.ld true 4 (.t 3)), iS 4 2 38]
.ret)))))
def f19g : Gi := ⟨[(5, [1]), (9, [1]), (13, [1]), (18, [3]), (19, [3]), (24, [3]), (25, [3]), (27, [3]), (28, [3]), (30, [3]), (31, [3]), (34, [3]), (35, [3]), (36, [3]), (37, [3]), (38, [3])]⟩
def f19r : List RV := [.cell 2 true 4]
def f19 : FI := ⟨f19c, f19g, f19r⟩
theorem chk19 : chkF Tryd.prog Tryd.f19 f19 = true := by kernel_rfl
def o_St_J2 (s_2 : SSync) : Option SSync :=
  some s_2
def o_St_J1 (s_1 : SSync) : Option SSync :=
  if decide ((s_1.Threads.length : Int) > 0) then
    (gt s_1.Threads 0).bind fun x_1 =>
    o_St_J2 (SSync.mk s_1.Locks s_1.Tx s_1.Done (s_1.Threads.set 0 (SThreadSync.mk 1 x_1.Cond x_1.Atomic)))
  else
  o_St_J2 s_1
def o_St_L1 (wv : SWorld) (L1 : SSync → Int → Option SSync) (s : SSync) (t21v : Int) : Option SSync :=
  if decide (t21v < ((List.replicate wv.Locks.length (SLockState.mk 0 [])).length : Int)) then
    (gt s.Locks t21v).bind fun x =>
    L1 (SSync.mk (s.Locks.set t21v.toNat (SLockState.mk (-1) x.Readers)) s.Tx s.Done s.Threads) (w64 (t21v + 1))
  else
  o_St_J1 s
def o_St_L1r (wv : SWorld) : Nat → SSync → Int → Option SSync
  | 0, _, _ => none
  | n + 1, s, t21v => o_St_L1 wv (o_St_L1r wv n) s t21v
def o_St (wv : SWorld) : Option SSync :=
  if 0 ≤ (wv.Locks.length : Int) ∧ (wv.Locks.length : Int) ≤ (wv.Locks.length : Int) ∧ roomOK wv.Locks.length 32 = true then
  if 0 ≤ (wv.Futures.length : Int) ∧ (wv.Futures.length : Int) ≤ (wv.Futures.length : Int) ∧ roomOK wv.Futures.length 1 = true then
  if 0 ≤ (wv.Threads.length : Int) ∧ (wv.Threads.length : Int) ≤ (wv.Threads.length : Int) ∧ roomOK wv.Threads.length 24 = true then
  o_St_L1r wv big (SSync.mk (List.replicate wv.Locks.length (SLockState.mk 0 [])) (-1) (List.replicate wv.Futures.length false) (List.replicate wv.Threads.length (SThreadSync.mk 0 0 false))) 0
  else none
  else none
  else none
theorem o_St_ok {wv : SWorld} {r : SSync} (h : o_St wv = some r) : Says Tryd.prog 19 [.agg (eWorld wv)] (.agg (eSynco r)) := by
 refine says_of mix Tryd.func19 chk19 (of_decide_eq_true (by kernel_rfl)) rfl ?_
 simp only [f19, f19c, f19g, f19r]
 obtain ⟨g1, h⟩ := cS h
 obtain ⟨g4, h⟩ := cS h
 obtain ⟨g7, h⟩ := cS h
 try simp +decide only [go_sem, g1, g4, g7]
 refine cutH (fun τ => ∃ s_1 : SSync, (τ 2 = bA 4 [.own false 2 ([]), si 0, .own false 1 ([]), .own false 3 ([])] ∧ τ 3 = bA 4 (eSynco s_1)) ∧ o_St_J1 s_1 = some r) fun M1 m1 => ⟨?_, ?_⟩
 · try simp +decide only [go_sem, g1, g4, g7]
   refine loopH (fun n τ => ∃ s : SSync, ∃ t21v : Int, (τ 2 = bA 4 [.own false 2 ([]), si 0, .own false 1 ([]), .own false 3 ([])] ∧ τ 3 = bA 4 (eSynco s) ∧ τ 20 = si ((List.replicate wv.Locks.length (SLockState.mk 0 [])).length : Int) ∧ τ 21 = si t21v) ∧ o_St_L1r wv n s t21v = some r) ⟨(SSync.mk (List.replicate wv.Locks.length (SLockState.mk 0 [])) (-1) (List.replicate wv.Futures.length false) (List.replicate wv.Threads.length (SThreadSync.mk 0 0 false))), 0, ?_, h⟩ fun n1 τ1 N1 => ?_
   · simp +decide only [go_sem, g1, g4, g7]
   rintro ⟨s, t21v, s1, h⟩ k1
   cases n1 with
   | zero => exact no_none h
   | succ n1 =>
    rw [o_St_L1r] at h; generalize q1 : o_St_L1r wv n1 = L1 at h
    try simp +decide only [go_sem, s1]
    refine cI h (fun e1 h => ?_) fun e1 h => ?_
    · obtain ⟨x, g10, h⟩ := gB h
      try simp +decide only [go_sem, s1, e1, g10]
      refine k1 n1 (Nat.lt_succ_self _) _ ⟨(SSync.mk (s.Locks.set t21v.toNat (SLockState.mk (-1) x.Readers)) s.Tx s.Done s.Threads), w64 (t21v + 1), ?_, q1.symm ▸ h⟩
      simp +decide only [go_sem, s1, e1, g10]
    try simp +decide only [go_sem, s1, e1]
    refine m1 _ ⟨s, ?_, h⟩
    simp +decide only [go_sem, s1, e1]
 rintro τ1 ⟨s_1, s1, h⟩
 try simp +decide only [go_sem, s1]
 refine cutH (fun τ => ∃ s_2 : SSync, (τ 2 = bA 4 [.own false 2 ([]), si 0, .own false 1 ([]), .own false 3 ([])] ∧ τ 3 = bA 4 (eSynco s_2)) ∧ o_St_J2 s_2 = some r) fun M2 m2 => ⟨?_, ?_⟩
 · try simp +decide only [go_sem, s1]
   refine cI h (fun e2 h => ?_) fun e2 h => ?_
   · obtain ⟨x_1, g11, h⟩ := gL (n := 0) (by simp) h
     try simp +decide only [go_sem, s1, e2, g11]
     refine m2 _ ⟨(SSync.mk s_1.Locks s_1.Tx s_1.Done (s_1.Threads.set 0 (SThreadSync.mk 1 x_1.Cond x_1.Atomic))), ?_, h⟩
     simp +decide only [go_sem, s1, e2, g11]
   try simp +decide only [go_sem, s1, e2]
   refine m2 _ ⟨s_1, ?_, h⟩
   simp +decide only [go_sem, s1, e2]
 rintro τ2 ⟨s_2, s2, h⟩
 obtain rfl := Option.some.inj h
 simp +decide only [go_sem, s2]
def f8c : IC := (sR [⟨some ⟨1, [8, 12, 16, 21], []⟩, .bx 6 (.t 0), none⟩, i0 2 (.bx 7 (.c (.agg [.own false 2 [], .sc (.int .i64 0), .own false 1 [], .own false 3 [], .own false 1 [], .own false 1 [], .own false 1 []])))]
(sR [i0 6 (.ld true 6 (.t 1)), i0 7 (.call 19 [.t 6] 2), iFr 8 1 0 1, iL 9 8, i0 10 (.len (.t 9)), i0 11 (.mk 1 8 [.sc (.int .i64 0)] (.c (.sc (.int .i64 0))) (.t 10)), iFr 12 1 3 1, iL 13 12, i0 14 (.len (.t 13)), i0 15 (.mk 1 8 [.sc (.int .i64 0)] (.t 14) (.t 14)), iFr 16 1 4 1, iL 17 16, i0 18 (.len (.t 17)), i0 19 (.mk 1 8 [.sc (.int .i64 0)] (.t 18) (.t 18)), i0 20 (.bld [.own false 2 [], .sc (.int .i64 0), .own false 1 [], .own false 3 [], .own false 1 [], .own false 1 [], .own false 1 []] [(0, 4, .t 7), (4, 1, .t 11), (5, 1, .t 15), (6, 1, .t 19)]), ⟨some ⟨3, [28, 29, 34, 36], []⟩, .bx 7 (.c (.agg [.own false 2 [], .sc (.int .i64 0), .own false 1 [], .own false 3 [], .own false 1 [], .own false 1 [], .own false 1 []])), none⟩, iS 7 3 20]
(cutS (sR [iFr 21 1 0 1, iL 22 21, i0 23 (.len (.t 22)), i0 24 (.cp (.c (.sc (.int .i64 0))))]
(.block 0 (.loop (sR [iO 25 .lss 24 23]
(.seq (.cond (.t 25) .skip (.exit 0))
(.seq (.block 1 (sR [iI 26 5 22 24, i0 27 (.ld true 5 (.t 26)), ⟨some ⟨5, [30], []⟩, .bx 5 (.c (.agg [.sc (.string ⟨#[]⟩), .sc (.int .i64 0), .sc (.int .i64 0), .sc (.bool false), .sc (.int .i64 0)])), none⟩, iS 5 5 27]
(.reg [iFr 28 3 4 3, iLr 29 3 28, iFr 30 5 4 5, iL 31 30, i0 32 (.bsl 1 [[.sc (.int .i64 0)]] [(0, .t 31)]), i0 33 (.app 1 8 (.t 29) (.t 32)), iFr 34 3 4 3, iS 1 34 33])))
(.reg [iP 35 .add 24 1, iC 24 35])))))))
(sR [i1 36 3 (.ld true 7 (.t 3)), iS 7 2 36]
.ret))))
def f8g : Gi := ⟨[(8, [1]), (12, [1]), (16, [1]), (21, [1]), (28, [3]), (29, [3]), (30, [5]), (34, [3]), (36, [3])]⟩
def f8r : List RV := [.cell 2 true 7]
def f8 : FI := ⟨f8c, f8g, f8r⟩
theorem chk8 : chkF Tryd.prog Tryd.f8 f8 = true := by kernel_rfl
def w_St_J1 (s_1 : SSnapshot) : Option SSnapshot :=
  some s_1
def w_St_L1 (wv : SWorld) (L1 : SSnapshot → Int → Option SSnapshot) (s : SSnapshot) (t24v : Int) : Option SSnapshot :=
  if decide (t24v < (wv.Cells.length : Int)) then
    (gt wv.Cells t24v).bind fun x =>
    if roomOK (s.Cells.length + 1) 8 = true then
    L1 (SSnapshot.mk s.Sync (s.Cells ++ [x.Init]) s.Futures s.Count) (w64 (t24v + 1))
    else none
  else
  w_St_J1 s
def w_St_L1r (wv : SWorld) : Nat → SSnapshot → Int → Option SSnapshot
  | 0, _, _ => none
  | n + 1, s, t24v => w_St_L1 wv (w_St_L1r wv n) s t24v
def w_St (wv : SWorld) : Option SSnapshot :=
  (o_St wv).bind fun v =>
  if 0 ≤ 0 ∧ 0 ≤ (wv.Cells.length : Int) ∧ roomOK wv.Cells.length 8 = true then
  if 0 ≤ (wv.Futures.length : Int) ∧ (wv.Futures.length : Int) ≤ (wv.Futures.length : Int) ∧ roomOK wv.Futures.length 8 = true then
  if 0 ≤ (wv.Threads.length : Int) ∧ (wv.Threads.length : Int) ≤ (wv.Threads.length : Int) ∧ roomOK wv.Threads.length 8 = true then
  w_St_L1r wv big (SSnapshot.mk v [] (List.replicate wv.Futures.length 0) (List.replicate wv.Threads.length 0)) 0
  else none
  else none
  else none
theorem w_St_ok {wv : SWorld} {r : SSnapshot} (h : w_St wv = some r) : Says Tryd.prog 8 [.agg (eWorld wv)] (.agg (eSnapshoto r)) := by
 refine says_of mix Tryd.func8 chk8 (of_decide_eq_true (by kernel_rfl)) rfl ?_
 simp only [f8, f8c, f8g, f8r]
 obtain ⟨v, g1, h⟩ := bS h
 try simp +decide only [go_sem]
 refine ⟨_, o_St_ok g1, ?_⟩
 obtain ⟨g2, h⟩ := cS h
 obtain ⟨g5, h⟩ := cS h
 obtain ⟨g8, h⟩ := cS h
 try simp +decide only [go_sem, g2, g5, g8]
 refine cutH (fun τ => ∃ s_1 : SSnapshot, (τ 2 = bA 7 [.own false 2 ([]), si 0, .own false 1 ([]), .own false 3 ([]), .own false 1 ([]), .own false 1 ([]), .own false 1 ([])] ∧ τ 3 = bA 7 (eSnapshoto s_1)) ∧ w_St_J1 s_1 = some r) fun M1 m1 => ⟨?_, ?_⟩
 · try simp +decide only [go_sem, g2, g5, g8]
   refine loopH (fun n τ => ∃ s : SSnapshot, ∃ t24v : Int, (τ 2 = bA 7 [.own false 2 ([]), si 0, .own false 1 ([]), .own false 3 ([]), .own false 1 ([]), .own false 1 ([]), .own false 1 ([])] ∧ τ 3 = bA 7 (eSnapshoto s) ∧ τ 22 = .sl false 5 (wv.Cells.map eCell) ∧ τ 23 = si (wv.Cells.length : Int) ∧ τ 24 = si t24v) ∧ w_St_L1r wv n s t24v = some r) ⟨(SSnapshot.mk v [] (List.replicate wv.Futures.length 0) (List.replicate wv.Threads.length 0)), 0, ?_, h⟩ fun n1 τ1 N1 => ?_
   · simp +decide only [go_sem, g2, g5, g8]
   rintro ⟨s, t24v, s1, h⟩ k1
   cases n1 with
   | zero => exact no_none h
   | succ n1 =>
    rw [w_St_L1r] at h; generalize q1 : w_St_L1r wv n1 = L1 at h
    try simp +decide only [go_sem, s1]
    refine cI h (fun e1 h => ?_) fun e1 h => ?_
    · obtain ⟨x, g11, h⟩ := gB h
      obtain ⟨g12, h⟩ := cS h
      try simp +decide only [go_sem, s1, e1, g11, g12]
      refine k1 n1 (Nat.lt_succ_self _) _ ⟨(SSnapshot.mk s.Sync (s.Cells ++ [x.Init]) s.Futures s.Count), w64 (t24v + 1), ?_, q1.symm ▸ h⟩
      simp +decide only [go_sem, s1, e1, g11, g12]
    try simp +decide only [go_sem, s1, e1]
    refine m1 _ ⟨s, ?_, h⟩
    simp +decide only [go_sem, s1, e1]
 rintro τ1 ⟨s_1, s1, h⟩
 obtain rfl := Option.some.inj h
 simp +decide only [go_sem, s1]
def f41c : IC := (sR [iB 4 false]
(cutS (.reg [iC 5 0, iP 6 .geq 5 0, iC 7 6, j0 8 (.cp (.t 0)) 7 true, j0 9 (.cp (.t 1)) 7 true, j0 10 (.bin .lss (.t 8) (.t 9)) 7 true, i0 11 (.pick (.t 7) (.t 10) (.c (.sc (.bool false)))), iM 4 11])
.ret))
def f41g : Gi := ⟨[]⟩
def f41r : List RV := [.tmp 4]
def f41 : FI := ⟨f41c, f41g, f41r⟩
theorem chk41 : chkF Tryd.prog Tryd.f41 f41 = true := by kernel_rfl
def o_wi_J1 (t4v : Bool) : Option Bool :=
  some t4v
def o_wi (i : Int) (nv : Int) : Option Bool :=
  if decide (i ≥ 0) then
    o_wi_J1 (decide (i < nv))
  else
  o_wi_J1 false
theorem o_wi_ok {i : Int} {nv : Int} {r : Bool} (h : o_wi i nv = some r) : Says Tryd.prog 41 [si i, si nv] (sb r) := by
 refine says_of mix Tryd.func41 chk41 (of_decide_eq_true (by kernel_rfl)) rfl ?_
 simp only [f41, f41c, f41g, f41r]
 try simp +decide only [go_sem]
 refine cutH (fun τ => ∃ t4v : Bool, (τ 4 = sb t4v) ∧ o_wi_J1 t4v = some r) fun M1 m1 => ⟨?_, ?_⟩
 · try simp +decide only [go_sem]
   refine gI h (fun e1 h => ?_) fun e1 h => ?_
   · try simp +decide only [go_sem, e1]
     refine m1 _ ⟨decide (i < nv), ?_, h⟩
     simp +decide only [go_sem, e1]
   try simp +decide only [go_sem, e1]
   refine m1 _ ⟨false, ?_, h⟩
   simp +decide only [go_sem, e1]
 rintro τ1 ⟨t4v, s1, h⟩
 obtain rfl := Option.some.inj h
 simp +decide only [go_sem, s1]
def f40c : IC := (sR [⟨some ⟨2, [10, 18, 27, 32, 41], []⟩, .bx 6 (.t 0), none⟩, ⟨some ⟨3, [7, 15, 24], []⟩, .bx 4 (.t 1), none⟩, iB 4 false]
(.seq (cutS (.reg [iFr 7 3 0 3, iL 8 7, i0 9 (.len (.t 8)), iFr 10 2 1 2, iL 11 10, i0 12 (.len (.t 11)), iO 13 .neq 9 12, iC 14 13, jFr 15 3 2 3 14 false, jL 16 15 14 false, j0 17 (.len (.t 16)) 14 false, jFr 18 2 3 2 14 false, jL 19 18 14 false, j0 20 (.len (.t 19)) 14 false, j0 21 (.bin .neq (.t 17) (.t 20)) 14 false, i0 22 (.pick (.t 14) (.c (.sc (.bool true))) (.t 21)), iC 23 22, jFr 24 3 3 3 23 false, jL 25 24 23 false, j0 26 (.len (.t 25)) 23 false, jFr 27 2 4 2 23 false, jL 28 27 23 false, j0 29 (.len (.t 28)) 23 false, j0 30 (.bin .neq (.t 26) (.t 29)) 23 false, i0 31 (.pick (.t 23) (.c (.sc (.bool true))) (.t 30))])
(.cond (.t 31) (sR [iB 4 false]
.ret) .skip))
(cutS (sR [iFr 32 2 2 2, iL 33 32, i0 34 (.len (.t 33)), i0 35 (.cp (.c (.sc (.int .i64 0))))]
(.block 0 (.loop (sR [iO 36 .lss 35 34]
(.seq (.cond (.t 36) .skip (.exit 0))
(.seq (.block 1 (sR [iI 37 2 33 35, i0 38 (.ld true 2 (.t 37)), ⟨some ⟨6, [39], []⟩, .bx 2 (.c (.agg [.sc (.string ⟨#[]⟩), .sc (.int .i64 0)])), none⟩, iS 2 6 38]
(sR [iFr 39 6 1 6, iL 40 39, iFr 41 2 1 2, iL 42 41, i0 43 (.len (.t 42)), i0 44 (.call 41 [.t 40, .t 43] 0), iN 45 44]
(.cond (.t 45) (sR [iB 4 false]
.ret) .skip))))
(.reg [iP 46 .add 35 1, iC 35 46])))))))
(sR [iB 4 true]
.ret))))
def f40g : Gi := ⟨[(7, [3]), (10, [2]), (15, [3]), (18, [2]), (24, [3]), (27, [2]), (32, [2]), (39, [6]), (41, [2])]⟩
def f40r : List RV := [.tmp 4]
def f40 : FI := ⟨f40c, f40g, f40r⟩
theorem chk40 : chkF Tryd.prog Tryd.f40 f40 = true := by kernel_rfl
def o_Fi_J2 : Option Bool :=
  some true
def o_Fi_L1 (wv : SWorld) (L1 : Int → Option Bool) (t35v : Int) : Option Bool :=
  if decide (t35v < (wv.Conds.length : Int)) then
    (gt wv.Conds t35v).bind fun x =>
    (o_wi x.Mutex (wv.Locks.length : Int)).bind fun v =>
    if !v then
      some false
    else
    L1 (w64 (t35v + 1))
  else
  o_Fi_J2
def o_Fi_L1r (wv : SWorld) : Nat → Int → Option Bool
  | 0, _ => none
  | n + 1, t35v => o_Fi_L1 wv (o_Fi_L1r wv n) t35v
def o_Fi_J1 (wv : SWorld) (t31v : Bool) : Option Bool :=
  if t31v then
    some false
  else
  o_Fi_L1r wv big 0
def o_Fi (wv : SWorld) (s : SSync) : Option Bool :=
  if (s.Locks.length : Int) != (wv.Locks.length : Int) then
    o_Fi_J1 wv true
  else
  if (s.Done.length : Int) != (wv.Futures.length : Int) then
    o_Fi_J1 wv true
  else
  o_Fi_J1 wv ((s.Threads.length : Int) != (wv.Threads.length : Int))
theorem o_Fi_ok {wv : SWorld} {s : SSync} {r : Bool} (h : o_Fi wv s = some r) : Says Tryd.prog 40 [.agg (eWorld wv), .agg (eSync s)] (sb r) := by
 refine says_of mix Tryd.func40 chk40 (of_decide_eq_true (by kernel_rfl)) rfl ?_
 simp only [f40, f40c, f40g, f40r]
 try simp +decide only [go_sem]
 refine cutH (fun τ => ∃ t31v : Bool, (τ 2 = bA 6 (eWorld wv) ∧ τ 31 = sb t31v) ∧ o_Fi_J1 wv t31v = some r) fun M1 m1 => ⟨?_, ?_⟩
 · try simp +decide only [go_sem]
   refine gI h (fun e1 h => ?_) fun e1 h => ?_
   · try simp +decide only [go_sem, e1]
     refine m1 _ ⟨true, ?_, h⟩
     simp +decide only [go_sem, e1]
   try simp +decide only [go_sem, e1]
   refine gI h (fun e2 h => ?_) fun e2 h => ?_
   · try simp +decide only [go_sem, e1, e2]
     refine m1 _ ⟨true, ?_, h⟩
     simp +decide only [go_sem, e1, e2]
   try simp +decide only [go_sem, e1, e2]
   refine m1 _ ⟨(s.Threads.length : Int) != (wv.Threads.length : Int), ?_, h⟩
   simp +decide only [go_sem, e1, e2]
 rintro τ1 ⟨t31v, s1, h⟩
 try simp +decide only [go_sem, s1]
 refine cI h (fun e3 h => ?_) fun e3 h => ?_
 · obtain rfl := Option.some.inj h
   simp +decide only [go_sem, s1, e3]
 try simp +decide only [go_sem, s1, e3]
 refine cutH (fun τ => (True) ∧ o_Fi_J2 = some r) fun M2 m2 => ⟨?_, ?_⟩
 · try simp +decide only [go_sem, s1, e3]
   refine loopH (fun n τ => ∃ t35v : Int, (τ 2 = bA 6 (eWorld wv) ∧ τ 33 = .sl false 2 (wv.Conds.map eCond) ∧ τ 34 = si (wv.Conds.length : Int) ∧ τ 35 = si t35v) ∧ o_Fi_L1r wv n t35v = some r) ⟨0, ?_, h⟩ fun n1 τ1 N1 => ?_
   · simp +decide only [go_sem, s1, e3]
   rintro ⟨t35v, s1, h⟩ k1
   cases n1 with
   | zero => exact no_none h
   | succ n1 =>
    rw [o_Fi_L1r] at h; generalize q1 : o_Fi_L1r wv n1 = L1 at h
    try simp +decide only [go_sem, s1]
    refine cI h (fun e4 h => ?_) fun e4 h => ?_
    · obtain ⟨x, g1, h⟩ := gB h
      obtain ⟨v, g2, h⟩ := bS h
      try simp +decide only [go_sem, s1, e4, g1]
      refine ⟨_, o_wi_ok g2, ?_⟩
      try simp +decide only [go_sem, s1, e4, g1]
      refine cI h (fun e5 h => ?_) fun e5 h => ?_
      · obtain rfl := Option.some.inj h
        simp +decide only [go_sem, s1, e4, g1, e5]
      try simp +decide only [go_sem, s1, e4, g1, e5]
      refine k1 n1 (Nat.lt_succ_self _) _ ⟨w64 (t35v + 1), ?_, q1.symm ▸ h⟩
      simp +decide only [go_sem, s1, e4, g1, e5]
    try simp +decide only [go_sem, s1, e4]
    refine m2 _ ⟨?_, h⟩
    simp +decide only [go_sem, s1, e4]
 rintro τ2 ⟨_, h⟩
 obtain rfl := Option.some.inj h
 simp +decide only [go_sem]
end Go.Abs
