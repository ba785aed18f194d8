/- Typed programs: compile.within, compile.isLock, compile.validSites, compile.ValidWorld. -/
import Derived.Test.YteobdlimfbjjnaaDoorTE
import Derived.Test.YteobdlimfbjjnaaDoorTF0
set_option linter.unusedSimpArgs false
namespace Go.Abs
open Go.Proofs
set_option maxRecDepth 100000
set_option maxHeartbeats 4000000
def f39c : IC := (sR [iB 4 false]
(cutS (.reg [iC 5 0, iP 6 .geq 5 0, iC 7 6, j0 8 (.cp (.t 0)) 7 true, j0 9 (.cp (.t 1)) 7 true, j0 10 (.bin .lss (.t 8) (.t 9)) 7 true, i0 11 (.pick (.t 7) (.t 10) (.c (.sc (.bool false)))), iM 4 11])
.ret))
def f39g : Gi := ⟨[]⟩
def f39r : List RV := [.tmp 4]
def f39 : FI := ⟨f39c, f39g, f39r⟩
theorem chk39 : chkF Tryd.prog Tryd.f39 f39 = true := by kernel_rfl
def c_wi_J1 (t4v : Bool) : Option Bool :=
  some t4v
def c_wi (i : Int) (nv : Int) : Option Bool :=
  if decide (i ≥ 0) then
    c_wi_J1 (decide (i < nv))
  else
  c_wi_J1 false
theorem c_wi_ok {i : Int} {nv : Int} {r : Bool} (h : c_wi i nv = some r) : Says Tryd.prog 39 [si i, si nv] (sb r) := by
 refine says_of mix Tryd.func39 chk39 (of_decide_eq_true (by kernel_rfl)) rfl ?_
 simp only [f39, f39c, f39g, f39r]
 try simp +decide only [go_sem]
 refine cutH (fun τ => ∃ t4v : Bool, (τ 4 = sb t4v) ∧ c_wi_J1 t4v = some r) fun M1 m1 => ⟨?_, ?_⟩
 · try simp +decide only [go_sem]
   refine gI h (fun e1 h => ?_) fun e1 h => ?_
   · try simp +decide only [go_sem, e1]
     refine m1 _ ⟨decide (i < nv), ?_, h⟩
     simp +decide only [go_sem, e1]
   try simp +decide only [go_sem, e1]
   refine m1 _ ⟨false, ?_, h⟩
   simp +decide only [go_sem, e1]
 rintro τ1 ⟨t4v, s1, h⟩
 obtain rfl := Option.some.inj h
 simp +decide only [go_sem, s1]
def f17c : IC := (sR [⟨some ⟨3, [8, 13], []⟩, .bx 6 (.t 0), none⟩, iB 6 false]
(cutS (.reg [iC 7 1, iFr 8 3 1 3, iL 9 8, i0 10 (.len (.t 9)), i0 11 (.call 39 [.t 7, .t 10] 0), iC 12 11, jFr 13 3 1 3 12 true, jL 14 13 12 true, j0 15 (.cp (.t 1)) 12 true, j0 16 (.iad 2 (.t 14) (.t 15)) 12 true, jF 17 1 16 12 true, jL 18 17 12 true, j0 19 (.cp (.t 2)) 12 true, j0 20 (.beq false (.t 18) (.t 19)) 12 true, i0 21 (.pick (.t 12) (.t 20) (.c (.sc (.bool false)))), iM 6 21])
.ret))
def f17g : Gi := ⟨[(8, [3]), (13, [3])]⟩
def f17r : List RV := [.tmp 6]
def f17 : FI := ⟨f17c, f17g, f17r⟩
theorem chk17 : chkF Tryd.prog Tryd.f17 f17 = true := by kernel_rfl
def c_isLo_J1 (t6v : Bool) : Option Bool :=
  some t6v
def c_isLo (wv : SWorld) (i : Int) (rw : Bool) : Option Bool :=
  (c_wi i (wv.Locks.length : Int)).bind fun v =>
  if v then
    (gt wv.Locks i).bind fun x =>
    c_isLo_J1 (x.RW == rw)
  else
  c_isLo_J1 false
theorem c_isLo_ok {wv : SWorld} {i : Int} {rw : Bool} {r : Bool} (h : c_isLo wv i rw = some r) : Says Tryd.prog 17 [.agg (eWorld wv), si i, sb rw] (sb r) := by
 refine says_of mix Tryd.func17 chk17 (of_decide_eq_true (by kernel_rfl)) rfl ?_
 simp only [f17, f17c, f17g, f17r]
 try simp +decide only [go_sem]
 refine cutH (fun τ => ∃ t6v : Bool, (τ 6 = sb t6v) ∧ c_isLo_J1 t6v = some r) fun M1 m1 => ⟨?_, ?_⟩
 · obtain ⟨v, g1, h⟩ := bS h
   try simp +decide only [go_sem]
   refine ⟨_, c_wi_ok g1, ?_⟩
   try simp +decide only [go_sem]
   refine gI h (fun e1 h => ?_) fun e1 h => ?_
   · obtain ⟨x, g2, h⟩ := gB h
     try simp +decide only [go_sem, e1, g2]
     refine m1 _ ⟨x.RW == rw, ?_, h⟩
     simp +decide only [go_sem, e1, g2]
   try simp +decide only [go_sem, e1]
   refine m1 _ ⟨false, ?_, h⟩
   simp +decide only [go_sem, e1]
 rintro τ1 ⟨t6v, s1, h⟩
 obtain rfl := Option.some.inj h
 simp +decide only [go_sem, s1]
def f18c : IC := (sR [⟨some ⟨1, [7, 21], []⟩, .bx 6 (.t 0), none⟩, iB 2 false]
(sR [iK 3 0, iK 4 0]
(cutS (sR [iFr 7 1 5 1, iL 8 7, i0 9 (.len (.t 8)), i0 10 (.cp (.c (.sc (.int .i64 0))))]
(.block 0 (.loop (sR [iO 11 .lss 10 9]
(.seq (.cond (.t 11) .skip (.exit 0))
(.seq (.block 1 (sR [iI 12 3 8 10, i0 13 (.ld true 3 (.t 12)), ⟨some ⟨6, [14, 19, 26, 30, 32], []⟩, .bx 3 (.c (.agg [.sc (.int .i64 0), .sc (.int .i64 0), .sc (.int .i64 0)])), none⟩, iS 3 6 13]
(.seq (cutS (.reg [iFr 14 6 0 6, iL 15 14, iC 16 3, iO 17 .lss 15 16, iC 18 17, jFr 19 6 0 6 18 false, jL 20 19 18 false, jFr 21 1 4 1 18 false, jL 22 21 18 false, j0 23 (.len (.t 22)) 18 false, j0 24 (.bin .geq (.t 20) (.t 23)) 18 false, i0 25 (.pick (.t 18) (.c (.sc (.bool true))) (.t 24))])
(.cond (.t 25) (sR [iB 2 false]
.ret) .skip))
(cutS (sR [iFr 26 6 0 6, iL 27 26, iC 28 3, iO 29 .gtr 27 28]
(.cond (.t 29) (.reg [iFr 30 6 0 6, iL 31 30, iM 3 31, iK 4 0]) .skip))
(.seq (sR [iFr 32 6 1 6, iL 33 32, iC 34 4, iO 35 .neq 33 34]
(.cond (.t 35) (sR [iB 2 false]
.ret) .skip))
(.reg [iC 36 4, iP 37 .add 36 1, iM 4 37]))))))
(.reg [iP 38 .add 10 1, iC 10 38])))))))
(sR [iB 2 true]
.ret))))
def f18g : Gi := ⟨[(7, [1]), (14, [6]), (19, [6]), (21, [1]), (26, [6]), (30, [6]), (32, [6])]⟩
def f18r : List RV := [.tmp 2]
def f18 : FI := ⟨f18c, f18g, f18r⟩
theorem chk18 : chkF Tryd.prog Tryd.f18 f18 = true := by kernel_rfl
def c_vaSi_J3 : Option Bool :=
  some true
def c_vaSi_J2 (L1 : Int → Int → Int → Option Bool) (t10v : Int) (x : SSite) (thread_1 : Int) (next_1 : Int) : Option Bool :=
  if x.Stmt != next_1 then
    some false
  else
  L1 thread_1 (w64 (next_1 + 1)) (w64 (t10v + 1))
def c_vaSi_J1 (L1 : Int → Int → Int → Option Bool) (next : Int) (t10v : Int) (thread : Int) (x : SSite) (t25v : Bool) : Option Bool :=
  if t25v then
    some false
  else
  if decide (x.Thread > thread) then
    c_vaSi_J2 L1 t10v x x.Thread 0
  else
  c_vaSi_J2 L1 t10v x thread next
def c_vaSi_L1 (wv : SWorld) (L1 : Int → Int → Int → Option Bool) (thread : Int) (next : Int) (t10v : Int) : Option Bool :=
  if decide (t10v < (wv.Sites.length : Int)) then
    (gt wv.Sites t10v).bind fun x =>
    if decide (x.Thread < thread) then
      c_vaSi_J1 L1 next t10v thread x true
    else
    c_vaSi_J1 L1 next t10v thread x (decide (x.Thread ≥ (wv.Threads.length : Int)))
  else
  c_vaSi_J3
def c_vaSi_L1r (wv : SWorld) : Nat → Int → Int → Int → Option Bool
  | 0, _, _, _ => none
  | n + 1, thread, next, t10v => c_vaSi_L1 wv (c_vaSi_L1r wv n) thread next t10v
def c_vaSi (wv : SWorld) : Option Bool :=
  c_vaSi_L1r wv big 0 0 0
theorem c_vaSi_ok {wv : SWorld} {r : Bool} (h : c_vaSi wv = some r) : Says Tryd.prog 18 [.agg (eWorld wv)] (sb r) := by
 refine says_of mix Tryd.func18 chk18 (of_decide_eq_true (by kernel_rfl)) rfl ?_
 simp only [f18, f18c, f18g, f18r]
 try simp +decide only [go_sem]
 refine cutH (fun τ => (True) ∧ c_vaSi_J3 = some r) fun M3 m3 => ⟨?_, ?_⟩
 · try simp +decide only [go_sem]
   refine loopH (fun n τ => ∃ thread : Int, ∃ next : Int, ∃ t10v : Int, (τ 1 = bA 6 (eWorld wv) ∧ τ 3 = si thread ∧ τ 4 = si next ∧ τ 8 = .sl false 3 (wv.Sites.map eSite) ∧ τ 9 = si (wv.Sites.length : Int) ∧ τ 10 = si t10v) ∧ c_vaSi_L1r wv n thread next t10v = some r) ⟨0, 0, 0, ?_, h⟩ fun n1 τ1 N1 => ?_
   · simp +decide only [go_sem]
   rintro ⟨thread, next, t10v, s1, h⟩ k1
   cases n1 with
   | zero => exact no_none h
   | succ n1 =>
    rw [c_vaSi_L1r] at h; generalize q1 : c_vaSi_L1r wv n1 = L1 at h
    try simp +decide only [go_sem, s1]
    refine cI h (fun e1 h => ?_) fun e1 h => ?_
    · obtain ⟨x, g1, h⟩ := gB h
      try simp +decide only [go_sem, s1, e1, g1]
      refine cutH (fun τ => ∃ t25v : Bool, (τ 1 = bA 6 (eWorld wv) ∧ τ 3 = si thread ∧ τ 4 = si next ∧ τ 6 = bA 3 (eSite x) ∧ τ 8 = .sl false 3 (wv.Sites.map eSite) ∧ τ 9 = si (wv.Sites.length : Int) ∧ τ 10 = si t10v ∧ τ 25 = sb t25v) ∧ c_vaSi_J1 L1 next t10v thread x t25v = some r) fun M1 m1 => ⟨?_, ?_⟩
      · try simp +decide only [go_sem, s1, e1, g1]
        refine gI h (fun e2 h => ?_) fun e2 h => ?_
        · try simp +decide only [go_sem, s1, e1, g1, e2]
          refine m1 _ ⟨true, ?_, h⟩
          simp +decide only [go_sem, s1, e1, g1, e2]
        try simp +decide only [go_sem, s1, e1, g1, e2]
        refine m1 _ ⟨decide (x.Thread ≥ (wv.Threads.length : Int)), ?_, h⟩
        simp +decide only [go_sem, s1, e1, g1, e2]
      rintro τ1 ⟨t25v, s1, h⟩
      try simp +decide only [go_sem, s1]
      refine cI h (fun e3 h => ?_) fun e3 h => ?_
      · obtain rfl := Option.some.inj h
        simp +decide only [go_sem, s1, e3]
      try simp +decide only [go_sem, s1, e3]
      refine cutH (fun τ => ∃ thread_1 : Int, ∃ next_1 : Int, (τ 1 = bA 6 (eWorld wv) ∧ τ 3 = si thread_1 ∧ τ 4 = si next_1 ∧ τ 6 = bA 3 (eSite x) ∧ τ 8 = .sl false 3 (wv.Sites.map eSite) ∧ τ 9 = si (wv.Sites.length : Int) ∧ τ 10 = si t10v) ∧ c_vaSi_J2 L1 t10v x thread_1 next_1 = some r) fun M2 m2 => ⟨?_, ?_⟩
      · try simp +decide only [go_sem, s1, e3]
        refine cI h (fun e4 h => ?_) fun e4 h => ?_
        · try simp +decide only [go_sem, s1, e3, e4]
          refine m2 _ ⟨x.Thread, 0, ?_, h⟩
          simp +decide only [go_sem, s1, e3, e4]
        try simp +decide only [go_sem, s1, e3, e4]
        refine m2 _ ⟨thread, next, ?_, h⟩
        simp +decide only [go_sem, s1, e3, e4]
      rintro τ2 ⟨thread_1, next_1, s2, h⟩
      try simp +decide only [go_sem, s2]
      refine cI h (fun e5 h => ?_) fun e5 h => ?_
      · obtain rfl := Option.some.inj h
        simp +decide only [go_sem, s2, e5]
      try simp +decide only [go_sem, s2, e5]
      refine k1 n1 (Nat.lt_succ_self _) _ ⟨thread_1, w64 (next_1 + 1), w64 (t10v + 1), ?_, q1.symm ▸ h⟩
      simp +decide only [go_sem, s2, e5]
    try simp +decide only [go_sem, s1, e1]
    refine m3 _ ⟨?_, h⟩
    simp +decide only [go_sem, s1, e1]
 rintro τ3 ⟨_, h⟩
 obtain rfl := Option.some.inj h
 simp +decide only [go_sem]
def f7c : IC := (sR [⟨some ⟨1, [7, 12, 18, 24, 30, 35, 40, 46, 59], []⟩, .bx 6 (.t 0), none⟩, iB 2 false]
(.seq (cutS (.reg [iFr 7 1 0 1, iL 8 7, i0 9 (.len (.t 8)), iP 10 .gtr 9 12, iC 11 10, jFr 12 1 1 1 11 false, jL 13 12 11 false, j0 14 (.len (.t 13)) 11 false, j0 15 (.bin .gtr (.t 14) (.c (.sc (.int .i64 4)))) 11 false, i0 16 (.pick (.t 11) (.c (.sc (.bool true))) (.t 15)), iC 17 16, jFr 18 1 2 1 17 false, jL 19 18 17 false, j0 20 (.len (.t 19)) 17 false, j0 21 (.bin .gtr (.t 20) (.c (.sc (.int .i64 2)))) 17 false, i0 22 (.pick (.t 17) (.c (.sc (.bool true))) (.t 21)), iC 23 22, jFr 24 1 3 1 23 false, jL 25 24 23 false, j0 26 (.len (.t 25)) 23 false, j0 27 (.bin .gtr (.t 26) (.c (.sc (.int .i64 2)))) 23 false, i0 28 (.pick (.t 23) (.c (.sc (.bool true))) (.t 27)), iC 29 28, jFr 30 1 5 1 29 false, jL 31 30 29 false, j0 32 (.len (.t 31)) 29 false, j0 33 (.bin .gtr (.t 32) (.c (.sc (.int .i64 60)))) 29 false, i0 34 (.pick (.t 29) (.c (.sc (.bool true))) (.t 33))])
(.cond (.t 34) (sR [iB 2 false]
.ret) .skip))
(.seq (cutS (.reg [iFr 35 1 4 1, iL 36 35, i0 37 (.len (.t 36)), iP 38 .lss 37 1, iC 39 38, jFr 40 1 4 1 39 false, jL 41 40 39 false, j0 42 (.len (.t 41)) 39 false, j0 43 (.bin .gtr (.t 42) (.c (.sc (.int .i64 4)))) 39 false, i0 44 (.pick (.t 39) (.c (.sc (.bool true))) (.t 43))])
(.cond (.t 44) (sR [iB 2 false]
.ret) .skip))
(sR [iFr 46 1 0 1, iL 47 46, ⟨some ⟨48, [45, 49, 50], []⟩, .call 15 [.t 47] 2, none⟩, i1 45 48 (.cp (.t 48)), i1 49 48 (.ext (.t 45) 0), i1 50 48 (.ext (.t 45) 1), ⟨some ⟨3, [55], []⟩, .mv (.t 49), none⟩, ⟨some ⟨4, [51], []⟩, .mv (.t 50), none⟩]
(.seq (cutS (.reg [i1 51 4 (.cp (.t 4)), iN 52 51, iC 53 52, j0 54 (.ld true 6 (.t 1)) 53 false, j1 55 3 (.cp (.t 3)) 53 false, j0 56 (.call 16 [.t 54, .t 55] 0) 53 false, j0 57 (.un .not (.t 56)) 53 false, i0 58 (.pick (.t 53) (.c (.sc (.bool true))) (.t 57))])
(.cond (.t 58) (sR [iB 2 false]
.ret) .skip))
(cutS (sR [iFr 59 1 2 1, iL 60 59, i0 61 (.len (.t 60)), i0 62 (.cp (.c (.sc (.int .i64 0))))]
(.block 0 (.loop (sR [iO 63 .lss 62 61]
(.seq (.cond (.t 63) .skip (.exit 0))
(.seq (.block 1 (sR [iI 64 2 60 62, i0 65 (.ld true 2 (.t 64)), ⟨some ⟨6, [67], []⟩, .bx 2 (.c (.agg [.sc (.string ⟨#[]⟩), .sc (.int .i64 0)])), none⟩, iS 2 6 65]
(sR [i0 66 (.ld true 6 (.t 1)), iFr 67 6 1 6, iL 68 67, i0 69 (.call 17 [.t 66, .t 68, .c (.sc (.bool false))] 0), iN 70 69]
(.cond (.t 70) (sR [iB 2 false]
.ret) .skip))))
(.reg [iP 71 .add 62 1, iC 62 71])))))))
(sR [i0 72 (.ld true 6 (.t 1)), i0 73 (.call 18 [.t 72] 0), iM 2 73]
.ret)))))))
def f7g : Gi := ⟨[(7, [1]), (12, [1]), (18, [1]), (24, [1]), (30, [1]), (35, [1]), (40, [1]), (45, [48]), (46, [1]), (49, [48]), (50, [48]), (51, [4]), (55, [3]), (59, [1]), (67, [6])]⟩
def f7r : List RV := [.tmp 2]
def f7 : FI := ⟨f7c, f7g, f7r⟩
theorem chk7 : chkF Tryd.prog Tryd.f7 f7 = true := by kernel_rfl
def c_VaWo_J4 (wv : SWorld) : Option Bool :=
  (c_vaSi wv).bind fun v_3 =>
  some v_3
def c_VaWo_L1 (wv : SWorld) (L1 : Int → Option Bool) (t62v : Int) : Option Bool :=
  if decide (t62v < (wv.Conds.length : Int)) then
    (gt wv.Conds t62v).bind fun x =>
    (c_isLo wv x.Mutex false).bind fun v_2 =>
    if !v_2 then
      some false
    else
    L1 (w64 (t62v + 1))
  else
  c_VaWo_J4 wv
def c_VaWo_L1r (wv : SWorld) : Nat → Int → Option Bool
  | 0, _ => none
  | n + 1, t62v => c_VaWo_L1 wv (c_VaWo_L1r wv n) t62v
def c_VaWo_J3 (wv : SWorld) (t58v : Bool) : Option Bool :=
  if t58v then
    some false
  else
  c_VaWo_L1r wv big 0
def c_VaWo_J2 (wv : SWorld) (t44v : Bool) : Option Bool :=
  if t44v then
    some false
  else
  (c_vaCe wv.Cells).bind fun v =>
  if !v.2 then
    c_VaWo_J3 wv true
  else
  (c_vaNa wv v.1).bind fun v_1 =>
  c_VaWo_J3 wv (!v_1)
def c_VaWo_J1 (wv : SWorld) (t34v : Bool) : Option Bool :=
  if t34v then
    some false
  else
  if decide ((wv.Threads.length : Int) < 1) then
    c_VaWo_J2 wv true
  else
  c_VaWo_J2 wv (decide ((wv.Threads.length : Int) > 4))
def c_VaWo (wv : SWorld) : Option Bool :=
  if decide ((wv.Cells.length : Int) > 12) then
    c_VaWo_J1 wv true
  else
  if decide ((wv.Locks.length : Int) > 4) then
    c_VaWo_J1 wv true
  else
  if decide ((wv.Conds.length : Int) > 2) then
    c_VaWo_J1 wv true
  else
  if decide ((wv.Futures.length : Int) > 2) then
    c_VaWo_J1 wv true
  else
  c_VaWo_J1 wv (decide ((wv.Sites.length : Int) > 60))
theorem c_VaWo_ok {wv : SWorld} {r : Bool} (h : c_VaWo wv = some r) : Says Tryd.prog 7 [.agg (eWorld wv)] (sb r) := by
 refine says_of mix Tryd.func7 chk7 (of_decide_eq_true (by kernel_rfl)) rfl ?_
 simp only [f7, f7c, f7g, f7r]
 try simp +decide only [go_sem]
 refine cutH (fun τ => ∃ t34v : Bool, (τ 1 = bA 6 (eWorld wv) ∧ τ 34 = sb t34v) ∧ c_VaWo_J1 wv t34v = some r) fun M1 m1 => ⟨?_, ?_⟩
 · try simp +decide only [go_sem]
   refine gI h (fun e1 h => ?_) fun e1 h => ?_
   · try simp +decide only [go_sem, e1]
     refine m1 _ ⟨true, ?_, h⟩
     simp +decide only [go_sem, e1]
   try simp +decide only [go_sem, e1]
   refine gI h (fun e2 h => ?_) fun e2 h => ?_
   · try simp +decide only [go_sem, e1, e2]
     refine m1 _ ⟨true, ?_, h⟩
     simp +decide only [go_sem, e1, e2]
   try simp +decide only [go_sem, e1, e2]
   refine gI h (fun e3 h => ?_) fun e3 h => ?_
   · try simp +decide only [go_sem, e1, e2, e3]
     refine m1 _ ⟨true, ?_, h⟩
     simp +decide only [go_sem, e1, e2, e3]
   try simp +decide only [go_sem, e1, e2, e3]
   refine gI h (fun e4 h => ?_) fun e4 h => ?_
   · try simp +decide only [go_sem, e1, e2, e3, e4]
     refine m1 _ ⟨true, ?_, h⟩
     simp +decide only [go_sem, e1, e2, e3, e4]
   try simp +decide only [go_sem, e1, e2, e3, e4]
   refine m1 _ ⟨decide ((wv.Sites.length : Int) > 60), ?_, h⟩
   simp +decide only [go_sem, e1, e2, e3, e4]
 rintro τ1 ⟨t34v, s1, h⟩
 try simp +decide only [go_sem, s1]
 refine cI h (fun e5 h => ?_) fun e5 h => ?_
 · obtain rfl := Option.some.inj h
   simp +decide only [go_sem, s1, e5]
 try simp +decide only [go_sem, s1, e5]
 refine cutH (fun τ => ∃ t44v : Bool, (τ 1 = bA 6 (eWorld wv) ∧ τ 44 = sb t44v) ∧ c_VaWo_J2 wv t44v = some r) fun M2 m2 => ⟨?_, ?_⟩
 · try simp +decide only [go_sem, s1, e5]
   refine gI h (fun e6 h => ?_) fun e6 h => ?_
   · try simp +decide only [go_sem, s1, e5, e6]
     refine m2 _ ⟨true, ?_, h⟩
     simp +decide only [go_sem, s1, e5, e6]
   try simp +decide only [go_sem, s1, e5, e6]
   refine m2 _ ⟨decide ((wv.Threads.length : Int) > 4), ?_, h⟩
   simp +decide only [go_sem, s1, e5, e6]
 rintro τ2 ⟨t44v, s2, h⟩
 try simp +decide only [go_sem, s2]
 refine cI h (fun e7 h => ?_) fun e7 h => ?_
 · obtain rfl := Option.some.inj h
   simp +decide only [go_sem, s2, e7]
 obtain ⟨v, g1, h⟩ := bS h
 try simp +decide only [go_sem, s2, e7]
 refine ⟨_, c_vaCe_ok g1, ?_⟩
 try simp +decide only [go_sem, s2, e7]
 refine cutH (fun τ => ∃ t58v : Bool, (τ 1 = bA 6 (eWorld wv) ∧ τ 58 = sb t58v) ∧ c_VaWo_J3 wv t58v = some r) fun M3 m3 => ⟨?_, ?_⟩
 · try simp +decide only [go_sem, s2, e7]
   refine gI h (fun e8 h => ?_) fun e8 h => ?_
   · try simp +decide only [go_sem, s2, e7, e8]
     refine m3 _ ⟨true, ?_, h⟩
     simp +decide only [go_sem, s2, e7, e8]
   obtain ⟨v_1, g2, h⟩ := bS h
   try simp +decide only [go_sem, s2, e7, e8]
   refine ⟨_, c_vaNa_ok g2, ?_⟩
   try simp +decide only [go_sem, s2, e7, e8]
   refine m3 _ ⟨!v_1, ?_, h⟩
   simp +decide only [go_sem, s2, e7, e8]
 rintro τ3 ⟨t58v, s3, h⟩
 try simp +decide only [go_sem, s3]
 refine cI h (fun e9 h => ?_) fun e9 h => ?_
 · obtain rfl := Option.some.inj h
   simp +decide only [go_sem, s3, e9]
 try simp +decide only [go_sem, s3, e9]
 refine cutH (fun τ => (τ 1 = bA 6 (eWorld wv)) ∧ c_VaWo_J4 wv = some r) fun M4 m4 => ⟨?_, ?_⟩
 · try simp +decide only [go_sem, s3, e9]
   refine loopH (fun n τ => ∃ t62v : Int, (τ 1 = bA 6 (eWorld wv) ∧ τ 60 = .sl false 2 (wv.Conds.map eCond) ∧ τ 61 = si (wv.Conds.length : Int) ∧ τ 62 = si t62v) ∧ c_VaWo_L1r wv n t62v = some r) ⟨0, ?_, h⟩ fun n1 τ1 N1 => ?_
   · simp +decide only [go_sem, s3, e9]
   rintro ⟨t62v, s1, h⟩ k1
   cases n1 with
   | zero => exact no_none h
   | succ n1 =>
    rw [c_VaWo_L1r] at h; generalize q1 : c_VaWo_L1r wv n1 = L1 at h
    try simp +decide only [go_sem, s1]
    refine cI h (fun e10 h => ?_) fun e10 h => ?_
    · obtain ⟨x, g3, h⟩ := gB h
      obtain ⟨v_2, g4, h⟩ := bS h
      try simp +decide only [go_sem, s1, e10, g3]
      refine ⟨_, c_isLo_ok g4, ?_⟩
      try simp +decide only [go_sem, s1, e10, g3]
      refine cI h (fun e11 h => ?_) fun e11 h => ?_
      · obtain rfl := Option.some.inj h
        simp +decide only [go_sem, s1, e10, g3, e11]
      try simp +decide only [go_sem, s1, e10, g3, e11]
      refine k1 n1 (Nat.lt_succ_self _) _ ⟨w64 (t62v + 1), ?_, q1.symm ▸ h⟩
      simp +decide only [go_sem, s1, e10, g3, e11]
    try simp +decide only [go_sem, s1, e10]
    refine m4 _ ⟨?_, h⟩
    simp +decide only [go_sem, s1, e10]
 rintro τ4 ⟨s4, h⟩
 obtain ⟨v_3, g5, h⟩ := bS h
 try simp +decide only [go_sem, s4]
 refine ⟨_, c_vaSi_ok g5, ?_⟩
 obtain rfl := Option.some.inj h
 simp +decide only [go_sem, s4]
end Go.Abs
