/- Typed programs: compile.validCells, token.IsKeyword, token.IsName, compile.validNames. -/
import Derived.Test.YteobdlimfbjjnaaDoorTE
set_option linter.unusedSimpArgs false
namespace Go.Abs
open Go.Proofs
set_option maxRecDepth 100000
set_option maxHeartbeats 4000000
def f15c : IC := (sR [i0 2 (.mv (.c (.own false 1 []))), iB 3 false]
(sR [⟨some ⟨4, [16, 70], []⟩, .mv (.c (.own false 1 [])), none⟩]
(cutS (sR [iK 5 0]
(.block 0 (.loop (.seq (sR [iC 8 5, iC 9 0, i0 10 (.len (.t 9)), iO 11 .lss 8 10]
(.cond (.t 11) .skip (.exit 0)))
(.block 1 (sR [iC 12 0, iC 13 5, iI 14 5 12 13, i0 15 (.ld true 5 (.t 14)), ⟨some ⟨6, [17, 21, 24, 29, 33, 38, 42, 50, 56, 67], []⟩, .bx 5 (.c (.agg [.sc (.string ⟨#[]⟩), .sc (.int .i64 0), .sc (.int .i64 0), .sc (.bool false), .sc (.int .i64 0)])), none⟩, iS 5 6 15]
(sR [i1 16 4 (.cp (.t 4)), iFr 17 6 0 6, iL 18 17, i0 19 (.bsl 1 [[.sc (.string ⟨#[]⟩)]] [(0, .t 18)]), i0 20 (.app 1 16 (.t 16) (.t 19)), ⟨some ⟨4, [16, 70], []⟩, .mv (.t 20), none⟩]
(.seq (sR [iFr 21 6 2 6, iL 22 21, iQ 23 22 0]
(.cond (.t 23) (.seq (sR [iFr 24 6 1 6, iL 25 24, iP 26 .neq 25 0]
(.cond (.t 26) (sR [i0 2 (.mv (.c (.own false 1 []))), iB 3 false]
.ret) .skip))
(sR [iC 27 5, iP 28 .add 27 1, iM 5 28]
(.exit 1))) .skip))
(.seq (cutS (.reg [iFr 29 6 2 6, iL 30 29, iP 31 .lss 30 1, iC 32 31, jFr 33 6 2 6 32 false, jL 34 33 32 false, j0 35 (.bin .gtr (.t 34) (.c (.sc (.int .i64 4)))) 32 false, i0 36 (.pick (.t 32) (.c (.sc (.bool true))) (.t 35)), iC 37 36, jFr 38 6 3 6 37 false, jL 39 38 37 false, i0 40 (.pick (.t 37) (.c (.sc (.bool true))) (.t 39)), iC 41 40, jFr 42 6 2 6 41 false, jL 43 42 41 false, j0 44 (.cp (.t 0)) 41 false, j0 45 (.len (.t 44)) 41 false, j0 46 (.cp (.t 5)) 41 false, j0 47 (.bin .sub (.t 45) (.t 46)) 41 false, j0 48 (.bin .gtr (.t 43) (.t 47)) 41 false, i0 49 (.pick (.t 41) (.c (.sc (.bool true))) (.t 48))])
(.cond (.t 49) (sR [i0 2 (.mv (.c (.own false 1 []))), iB 3 false]
.ret) .skip))
(cutS (sR [iFr 50 6 2 6, iL 51 50, i0 52 (.cp (.c (.sc (.int .i64 0))))]
(.block 2 (.loop (sR [iO 53 .lss 52 51]
(.seq (.cond (.t 53) .skip (.exit 2))
(.seq (.block 3 (sR [iC 54 52, iM 7 54]
(sR [iC 55 7, iFr 56 6 1 6, iS 1 56 55]
(sR [iC 57 0, iC 58 5, iC 59 7, iO 60 .add 58 59, iI 61 5 57 60, i0 62 (.ld true 5 (.t 61)), i0 63 (.ld true 5 (.t 6)), i0 64 (.seqs true [2, 1, 1, 0, 1] (.t 62) (.t 63))]
(.cond (.t 64) (sR [i0 2 (.mv (.c (.own false 1 []))), iB 3 false]
.ret) .skip)))))
(.reg [iP 65 .add 52 1, iC 52 65])))))))
(.reg [iC 66 5, iFr 67 6 2 6, iL 68 67, iO 69 .add 66 68, iM 5 69])))))))))))
(sR [i1 70 4 (.cp (.t 4)), iM 2 70, iB 3 true]
.ret))))
def f15g : Gi := ⟨[(16, [4]), (17, [6]), (21, [6]), (24, [6]), (29, [6]), (33, [6]), (38, [6]), (42, [6]), (50, [6]), (56, [6]), (67, [6]), (70, [4])]⟩
def f15r : List RV := [.tmp 2, .tmp 3]
def f15 : FI := ⟨f15c, f15g, f15r⟩
theorem chk15 : chkF Tryd.prog Tryd.f15 f15 = true := by kernel_rfl
def c_vaCe_J3 (names_1 : List ByteArray) : Option ((List ByteArray) × Bool) :=
  some (names_1, true)
def c_vaCe_J2 (L1 : (List ByteArray) → Int → Option ((List ByteArray) × Bool)) (i : Int) (names : List ByteArray) (x : SCell) (want_1 : SCell) : Option ((List ByteArray) × Bool) :=
  L1 (names ++ [x.Name]) (w64 (i + want_1.Size))
def c_vaCe_L2 (L1 : (List ByteArray) → Int → Option ((List ByteArray) × Bool)) (i : Int) (l : List SCell) (names : List ByteArray) (x : SCell) (L2 : SCell → Int → Option ((List ByteArray) × Bool)) (want : SCell) (t52v : Int) : Option ((List ByteArray) × Bool) :=
  if decide (t52v < x.Size) then
    (gt l (w64 (i + t52v))).bind fun x_1 =>
    if !(x_1.Name.toList == want.Name.toList && (x_1.Index == t52v && (x_1.Size == want.Size && (x_1.Volatile == want.Volatile && (x_1.Init == want.Init))))) then
      some ([], false)
    else
    L2 (SCell.mk want.Name t52v want.Size want.Volatile want.Init) (w64 (t52v + 1))
  else
  c_vaCe_J2 L1 i names x want
def c_vaCe_L2r (L1 : (List ByteArray) → Int → Option ((List ByteArray) × Bool)) (i : Int) (l : List SCell) (names : List ByteArray) (x : SCell) : Nat → SCell → Int → Option ((List ByteArray) × Bool)
  | 0, _, _ => none
  | n + 1, want, t52v => c_vaCe_L2 L1 i l names x (c_vaCe_L2r L1 i l names x n) want t52v
def c_vaCe_J1 (L1 : (List ByteArray) → Int → Option ((List ByteArray) × Bool)) (i : Int) (l : List SCell) (names : List ByteArray) (x : SCell) (t49v : Bool) : Option ((List ByteArray) × Bool) :=
  if t49v then
    some ([], false)
  else
  c_vaCe_L2r L1 i l names x big x 0
def c_vaCe_L1 (l : List SCell) (L1 : (List ByteArray) → Int → Option ((List ByteArray) × Bool)) (names : List ByteArray) (i : Int) : Option ((List ByteArray) × Bool) :=
  if decide (i < (l.length : Int)) then
    (gt l i).bind fun x =>
    if roomOK (names.length + 1) 16 = true then
    if x.Size == 0 then
      if x.Index != 0 then
        some ([], false)
      else
      L1 (names ++ [x.Name]) (w64 (i + 1))
    else
    if decide (x.Size < 1) then
      c_vaCe_J1 L1 i l names x true
    else
    if decide (x.Size > 4) then
      c_vaCe_J1 L1 i l names x true
    else
    if x.Volatile then
      c_vaCe_J1 L1 i l names x true
    else
    c_vaCe_J1 L1 i l names x (decide (x.Size > (w64 ((l.length : Int) - i))))
    else none
  else
  c_vaCe_J3 names
def c_vaCe_L1r (l : List SCell) : Nat → (List ByteArray) → Int → Option ((List ByteArray) × Bool)
  | 0, _, _ => none
  | n + 1, names, i => c_vaCe_L1 l (c_vaCe_L1r l n) names i
def c_vaCe (l : List SCell) : Option ((List ByteArray) × Bool) :=
  c_vaCe_L1r l big [] 0
theorem c_vaCe_ok {l : List SCell} {r : (List ByteArray) × Bool} (h : c_vaCe l = some r) : Says Tryd.prog 15 [.sl false 5 (l.map eCell)] (.tup [.own false 1 (r.1.map eS), sb r.2]) := by
 refine says_of mix Tryd.func15 chk15 (of_decide_eq_true (by kernel_rfl)) rfl ?_
 simp only [f15, f15c, f15g, f15r]
 try simp +decide only [go_sem]
 refine cutH (fun τ => ∃ names_1 : List ByteArray, (τ 4 = .own false 1 (names_1.map eS)) ∧ c_vaCe_J3 names_1 = some r) fun M3 m3 => ⟨?_, ?_⟩
 · try simp +decide only [go_sem]
   refine loopH (fun n τ => ∃ names : List ByteArray, ∃ i : Int, (τ 0 = .sl false 5 (l.map eCell) ∧ τ 4 = .own false 1 (names.map eS) ∧ τ 5 = si i) ∧ c_vaCe_L1r l n names i = some r) ⟨[], 0, ?_, h⟩ fun n1 τ1 N1 => ?_
   · simp +decide only [go_sem]
   rintro ⟨names, i, s1, h⟩ k1
   cases n1 with
   | zero => exact no_none h
   | succ n1 =>
    rw [c_vaCe_L1r] at h; generalize q1 : c_vaCe_L1r l n1 = L1 at h
    try simp +decide only [go_sem, s1]
    refine cI h (fun e1 h => ?_) fun e1 h => ?_
    · obtain ⟨x, g1, h⟩ := gB h
      obtain ⟨g2, h⟩ := cS h
      try simp +decide only [go_sem, s1, e1, g1, g2]
      refine cI h (fun e2 h => ?_) fun e2 h => ?_
      · try simp +decide only [go_sem, s1, e1, g1, g2, e2]
        refine cI h (fun e3 h => ?_) fun e3 h => ?_
        · obtain rfl := Option.some.inj h
          simp +decide only [go_sem, s1, e1, g1, g2, e2, e3]
        try simp +decide only [go_sem, s1, e1, g1, g2, e2, e3]
        refine k1 n1 (Nat.lt_succ_self _) _ ⟨names ++ [x.Name], w64 (i + 1), ?_, q1.symm ▸ h⟩
        simp +decide only [go_sem, s1, e1, g1, g2, e2, e3]
      try simp +decide only [go_sem, s1, e1, g1, g2, e2]
      refine cutH (fun τ => ∃ t49v : Bool, (τ 0 = .sl false 5 (l.map eCell) ∧ τ 4 = .own false 1 ((names ++ [x.Name]).map eS) ∧ τ 5 = si i ∧ τ 6 = bA 5 (eCell x) ∧ τ 49 = sb t49v) ∧ c_vaCe_J1 L1 i l names x t49v = some r) fun M1 m1 => ⟨?_, ?_⟩
      · try simp +decide only [go_sem, s1, e1, g1, g2, e2]
        refine gI h (fun e4 h => ?_) fun e4 h => ?_
        · try simp +decide only [go_sem, s1, e1, g1, g2, e2, e4]
          refine m1 _ ⟨true, ?_, h⟩
          simp +decide only [go_sem, s1, e1, g1, g2, e2, e4]
        try simp +decide only [go_sem, s1, e1, g1, g2, e2, e4]
        refine gI h (fun e5 h => ?_) fun e5 h => ?_
        · try simp +decide only [go_sem, s1, e1, g1, g2, e2, e4, e5]
          refine m1 _ ⟨true, ?_, h⟩
          simp +decide only [go_sem, s1, e1, g1, g2, e2, e4, e5]
        try simp +decide only [go_sem, s1, e1, g1, g2, e2, e4, e5]
        refine gI h (fun e6 h => ?_) fun e6 h => ?_
        · try simp +decide only [go_sem, s1, e1, g1, g2, e2, e4, e5, e6]
          refine m1 _ ⟨true, ?_, h⟩
          simp +decide only [go_sem, s1, e1, g1, g2, e2, e4, e5, e6]
        try simp +decide only [go_sem, s1, e1, g1, g2, e2, e4, e5, e6]
        refine m1 _ ⟨decide (x.Size > (w64 ((l.length : Int) - i))), ?_, h⟩
        simp +decide only [go_sem, s1, e1, g1, g2, e2, e4, e5, e6]
      rintro τ1 ⟨t49v, s1, h⟩
      try simp +decide only [go_sem, s1]
      refine cI h (fun e7 h => ?_) fun e7 h => ?_
      · obtain rfl := Option.some.inj h
        simp +decide only [go_sem, s1, e7]
      try simp +decide only [go_sem, s1, e7]
      refine cutH (fun τ => ∃ want_1 : SCell, (τ 0 = .sl false 5 (l.map eCell) ∧ τ 4 = .own false 1 ((names ++ [x.Name]).map eS) ∧ τ 5 = si i ∧ τ 6 = bA 5 (eCell want_1)) ∧ c_vaCe_J2 L1 i names x want_1 = some r) fun M2 m2 => ⟨?_, ?_⟩
      · try simp +decide only [go_sem, s1, e7]
        refine loopH (fun n τ => ∃ want : SCell, ∃ t52v : Int, (τ 0 = .sl false 5 (l.map eCell) ∧ τ 4 = .own false 1 ((names ++ [x.Name]).map eS) ∧ τ 5 = si i ∧ τ 6 = bA 5 (eCell want) ∧ τ 51 = si x.Size ∧ τ 52 = si t52v) ∧ c_vaCe_L2r L1 i l names x n want t52v = some r) ⟨x, 0, ?_, h⟩ fun n2 τ2 N2 => ?_
        · simp +decide only [go_sem, s1, e7]
        rintro ⟨want, t52v, s2, h⟩ k2
        cases n2 with
        | zero => exact no_none h
        | succ n2 =>
         rw [c_vaCe_L2r] at h; generalize q2 : c_vaCe_L2r L1 i l names x n2 = L2 at h
         try simp +decide only [go_sem, s2]
         refine cI h (fun e8 h => ?_) fun e8 h => ?_
         · obtain ⟨x_1, g3, h⟩ := gB h
           try simp +decide only [go_sem, s2, e8, g3]
           refine cI h (fun e9 h => ?_) fun e9 h => ?_
           · obtain rfl := Option.some.inj h
             simp +decide only [go_sem, s2, e8, g3, e9]
           try simp +decide only [go_sem, s2, e8, g3, e9]
           refine k2 n2 (Nat.lt_succ_self _) _ ⟨(SCell.mk want.Name t52v want.Size want.Volatile want.Init), w64 (t52v + 1), ?_, q2.symm ▸ h⟩
           simp +decide only [go_sem, s2, e8, g3, e9]
         try simp +decide only [go_sem, s2, e8]
         refine m2 _ ⟨want, ?_, h⟩
         simp +decide only [go_sem, s2, e8]
      rintro τ2 ⟨want_1, s2, h⟩
      try simp +decide only [go_sem, s2]
      refine k1 n1 (Nat.lt_succ_self _) _ ⟨names ++ [x.Name], w64 (i + want_1.Size), ?_, q1.symm ▸ h⟩
      simp +decide only [go_sem, s2]
    try simp +decide only [go_sem, s1, e1]
    refine m3 _ ⟨names, ?_, h⟩
    simp +decide only [go_sem, s1, e1]
 rintro τ3 ⟨names_1, s3, h⟩
 obtain rfl := Option.some.inj h
 simp +decide only [go_sem, s3]
def f62c : IC := (sR [iB 2 false]
(cutS (.seq (.rex [.gld ⟨5, [], []⟩ 0 22, .o (i0 6 (.cp (.c (.sc (.int .i64 0)))))])
(.block 0 (.loop (sR [iP 7 .lss 6 22]
(.seq (.cond (.t 7) .skip (.exit 0))
(.seq (.block 1 (sR [i0 8 (.idx false 22 1 (.t 5) (.t 6)), iM 4 8]
(sR [iC 9 0, iC 10 4, iO 11 .eql 9 10]
(.cond (.t 11) (sR [iB 2 true]
.ret) .skip))))
(.reg [iP 12 .add 6 1, iC 6 12])))))))
(sR [iB 2 false]
.ret)))
def f62g : Gi := ⟨[]⟩
def f62r : List RV := [.tmp 2]
def f62 : FI := ⟨f62c, f62g, f62r⟩
theorem chk62 : chkF Tryd.prog Tryd.f62 f62 = true := by kernel_rfl
def t_IsKe_J1 : Option Bool :=
  some false
def t_IsKe_L1 (s : ByteArray) (L1 : Int → Option Bool) (t6v : Int) : Option Bool :=
  if decide (t6v < 22) then
    if t6v < 22 then
    (gt gamS0 t6v).bind fun x =>
    if s.toList == x.toList then
      some true
    else
    L1 (w64 (t6v + 1))
    else none
  else
  t_IsKe_J1
def t_IsKe_L1r (s : ByteArray) : Nat → Int → Option Bool
  | 0, _ => none
  | n + 1, t6v => t_IsKe_L1 s (t_IsKe_L1r s n) t6v
def t_IsKe (s : ByteArray) : Option Bool :=
  t_IsKe_L1r s big 0
theorem t_IsKe_ok {s : ByteArray} {r : Bool} (h : t_IsKe s = some r) : Says Tryd.prog 62 [sst s] (sb r) := by
 refine says_of mix Tryd.func62 chk62 (of_decide_eq_true (by kernel_rfl)) rfl ?_
 simp only [f62, f62c, f62g, f62r]
 try simp +decide only [go_sem]
 refine cutH (fun τ => (True) ∧ t_IsKe_J1 = some r) fun M1 m1 => ⟨?_, ?_⟩
 · try simp +decide only [go_sem]
   refine loopH (fun n τ => ∃ t6v : Int, (τ 0 = sst s ∧ τ 5 = .agg (gamS0.map sst) ∧ τ 6 = si t6v) ∧ t_IsKe_L1r s n t6v = some r) ⟨0, ?_, h⟩ fun n1 τ1 N1 => ?_
   · simp +decide only [go_sem]
   rintro ⟨t6v, s1, h⟩ k1
   cases n1 with
   | zero => exact no_none h
   | succ n1 =>
    rw [t_IsKe_L1r] at h; generalize q1 : t_IsKe_L1r s n1 = L1 at h
    try simp +decide only [go_sem, s1]
    refine cI h (fun e1 h => ?_) fun e1 h => ?_
    · obtain ⟨g1, h⟩ := cS h
      obtain ⟨x, g2, h⟩ := gB h
      try simp +decide only [go_sem, s1, e1, g1, g2]
      refine cI h (fun e2 h => ?_) fun e2 h => ?_
      · obtain rfl := Option.some.inj h
        simp +decide only [go_sem, s1, e1, g1, g2, e2]
      try simp +decide only [go_sem, s1, e1, g1, g2, e2]
      refine k1 n1 (Nat.lt_succ_self _) _ ⟨w64 (t6v + 1), ?_, q1.symm ▸ h⟩
      simp +decide only [go_sem, s1, e1, g1, g2, e2]
    try simp +decide only [go_sem, s1, e1]
    refine m1 _ ⟨?_, h⟩
    simp +decide only [go_sem, s1, e1]
 rintro τ1 ⟨_, h⟩
 obtain rfl := Option.some.inj h
 simp +decide only [go_sem]
def f38c : ICM := (.seq (.ic (.reg [iB 2 false]))
(.seq (.ic (cutS (.reg [iC 5 0, i0 6 (.slen (.t 5)), iP 7 .lss 6 1, iC 8 7, j0 9 (.cp (.t 0)) 8 false, j0 10 (.slen (.t 9)) 8 false, j0 11 (.bin .gtr (.t 10) (.c (.sc (.int .i64 12)))) 8 false, i0 12 (.pick (.t 8) (.c (.sc (.bool true))) (.t 11)), iC 13 12, j0 14 (.cp (.t 0)) 13 false, j0 15 (.call 62 [.t 14] 0) 13 false, i0 16 (.pick (.t 13) (.c (.sc (.bool true))) (.t 15))])
(.cond (.t 16) (sR [iB 2 false]
.ret) .skip)))
(cutM (.seq (.mrex [.x (.o ⟨some ⟨17, [], []⟩, .cp (.t 0), none⟩), .rng ⟨18, [], []⟩ (.t 17)])
(.block 0 (.loop (.seq (.mrex [.nxt ⟨19, [], []⟩ (.t 18), .x (.o ⟨some ⟨20, [], []⟩, .ext (.t 19) 0, none⟩)])
(.ic (.seq (.cond (.t 20) .skip (.exit 0))
(.block 1 (sR [iX 21 19 1, iX 22 19 2, iM 3 21, iM 4 22]
(.block 2 (cutS (.reg [iC 24 4, i0 25 (.bin .leq (.c (.sc (.int .i32 97))) (.t 24)), iC 26 25, j0 27 (.cp (.t 4)) 26 true, j0 28 (.bin .leq (.t 27) (.c (.sc (.int .i32 122)))) 26 true, i0 29 (.pick (.t 26) (.t 28) (.c (.sc (.bool false)))), iC 30 29, j0 31 (.cp (.t 4)) 30 false, j0 32 (.bin .leq (.c (.sc (.int .i32 65))) (.t 31)) 30 false, j0 33 (.cp (.t 32)) 30 false, j0 34 (.cp (.t 4)) 33 true, j0 35 (.bin .leq (.t 34) (.c (.sc (.int .i32 90)))) 33 true, j0 36 (.pick (.t 33) (.t 35) (.c (.sc (.bool false)))) 30 false, i0 37 (.pick (.t 30) (.c (.sc (.bool true))) (.t 36)), iM 23 37])
(.cond (.t 23) .skip (cutS (.reg [iC 39 3, iP 40 .gtr 39 0, iC 41 40, j0 42 (.cp (.t 4)) 41 true, j0 43 (.bin .eql (.t 42) (.c (.sc (.int .i32 95)))) 41 true, j0 44 (.cp (.t 43)) 41 true, j0 45 (.cp (.t 4)) 44 false, j0 46 (.bin .leq (.c (.sc (.int .i32 48))) (.t 45)) 44 false, j0 47 (.cp (.t 46)) 44 false, j0 48 (.cp (.t 4)) 47 true, j0 49 (.bin .leq (.t 48) (.c (.sc (.int .i32 57)))) 47 true, j0 50 (.pick (.t 47) (.t 49) (.c (.sc (.bool false)))) 44 false, j0 51 (.pick (.t 44) (.c (.sc (.bool true))) (.t 50)) 41 true, i0 52 (.pick (.t 41) (.t 51) (.c (.sc (.bool false)))), iM 38 52])
(.cond (.t 38) .skip (sR [iB 2 false]
.ret))))))))))))))
(.ic (sR [iB 2 true]
.ret)))))
def f38g : Gi := ⟨[]⟩
def f38r : List RV := [.tmp 2]
def f38 : FIM := ⟨f38c, f38g, f38r⟩
theorem chk38 : chkFM Tryd.prog Tryd.f38 f38 = true := by kernel_rfl
def t_IsNa_J4 : Option Bool :=
  some true
def t_IsNa_J3 (L1 : Nat → Option Bool) (pos : Nat) (s : ByteArray) (t38v : Bool) : Option Bool :=
  if t38v then
    L1 (pos + (Utf8.decode s pos).2)
  else
  some false
def t_IsNa_J2 (L1 : Nat → Option Bool) (pos : Nat) (s : ByteArray) (t23v : Bool) : Option Bool :=
  if t23v then
    L1 (pos + (Utf8.decode s pos).2)
  else
  if decide ((pos : Int) > 0) then
    if ((Utf8.decode s pos).1 : Int) == 95 then
      t_IsNa_J3 L1 pos s true
    else
    if decide (48 ≤ ((Utf8.decode s pos).1 : Int)) then
      t_IsNa_J3 L1 pos s (decide (((Utf8.decode s pos).1 : Int) ≤ 57))
    else
    t_IsNa_J3 L1 pos s false
  else
  t_IsNa_J3 L1 pos s false
def t_IsNa_L1 (s : ByteArray) (L1 : Nat → Option Bool) (pos : Nat) : Option Bool :=
  if decide (pos < s.size) then
    if decide (97 ≤ ((Utf8.decode s pos).1 : Int)) then
      if decide (((Utf8.decode s pos).1 : Int) ≤ 122) then
        t_IsNa_J2 L1 pos s true
      else
      if decide (65 ≤ ((Utf8.decode s pos).1 : Int)) then
        t_IsNa_J2 L1 pos s (decide (((Utf8.decode s pos).1 : Int) ≤ 90))
      else
      t_IsNa_J2 L1 pos s false
    else
    if decide (65 ≤ ((Utf8.decode s pos).1 : Int)) then
      t_IsNa_J2 L1 pos s (decide (((Utf8.decode s pos).1 : Int) ≤ 90))
    else
    t_IsNa_J2 L1 pos s false
  else
  t_IsNa_J4
def t_IsNa_L1r (s : ByteArray) : Nat → Nat → Option Bool
  | 0, _ => none
  | n + 1, pos => t_IsNa_L1 s (t_IsNa_L1r s n) pos
def t_IsNa_J1 (s : ByteArray) (t16v : Bool) : Option Bool :=
  if t16v then
    some false
  else
  t_IsNa_L1r s big 0
def t_IsNa (s : ByteArray) : Option Bool :=
  if decide ((s.size : Int) < 1) then
    t_IsNa_J1 s true
  else
  if decide ((s.size : Int) > 12) then
    t_IsNa_J1 s true
  else
  (t_IsKe s).bind fun v =>
  t_IsNa_J1 s v
theorem t_IsNa_ok {s : ByteArray} {r : Bool} (h : t_IsNa s = some r) : Says Tryd.prog 38 [sst s] (sb r) := by
 refine says_ofM mix Tryd.func38 chk38 (of_decide_eq_true (by kernel_rfl)) rfl ?_
 simp only [f38, f38c, f38g, f38r]
 try simp +decide only [go_sem]
 refine cutH (fun τ => ∃ t16v : Bool, (τ 0 = sst s ∧ τ 16 = sb t16v) ∧ t_IsNa_J1 s t16v = some r) fun M1 m1 => ⟨?_, ?_⟩
 · try simp +decide only [go_sem]
   refine gI h (fun e1 h => ?_) fun e1 h => ?_
   · try simp +decide only [go_sem, e1]
     refine m1 _ ⟨true, ?_, h⟩
     simp +decide only [go_sem, e1]
   try simp +decide only [go_sem, e1]
   refine gI h (fun e2 h => ?_) fun e2 h => ?_
   · try simp +decide only [go_sem, e1, e2]
     refine m1 _ ⟨true, ?_, h⟩
     simp +decide only [go_sem, e1, e2]
   obtain ⟨v, g1, h⟩ := bS h
   try simp +decide only [go_sem, e1, e2]
   refine ⟨_, t_IsKe_ok g1, ?_⟩
   try simp +decide only [go_sem, e1, e2]
   refine m1 _ ⟨v, ?_, h⟩
   simp +decide only [go_sem, e1, e2]
 rintro τ1 ⟨t16v, s1, h⟩
 try simp +decide only [go_sem, s1]
 refine cI h (fun e3 h => ?_) fun e3 h => ?_
 · obtain rfl := Option.some.inj h
   simp +decide only [go_sem, s1, e3]
 try simp +decide only [go_sem, s1, e3]
 refine cutMH (fun τ ν => (True) ∧ t_IsNa_J4 = some r) fun M4 m4 => ⟨?_, ?_⟩
 · try simp +decide only [go_sem, s1, e3]
   intro b1 hb1
   try simp +decide only [go_sem, s1, e3, hb1]
   refine loopMH (fun n τ ν => ∃ pos : Nat, (τ 18 = .sc (.pointer (some ⟨b1, 0, none⟩)) ∧ ν b1 = some (.it s pos)) ∧ t_IsNa_L1r s n pos = some r) ⟨0, ?_, h⟩ fun n1 τ1 ν1 N1 => ?_
   · simp +decide only [go_sem, s1, e3, hb1]
   rintro ⟨pos, s1, h⟩ k1
   cases n1 with
   | zero => exact no_none h
   | succ n1 =>
    rw [t_IsNa_L1r] at h; generalize q1 : t_IsNa_L1r s n1 = L1 at h
    try simp +decide only [go_sem, s1]
    rcases bool_sp (decide (pos < s.size)) with e4 | e4
    · replace h := ifT e4 h
      try simp +decide only [go_sem, s1, (of_decide_eq_true e4), nxtV_in, nxtV_out]
      refine cutH (fun τ => ∃ t23v : Bool, (τ 3 = si (pos : Int) ∧ τ 4 = .sc (.int .i32 ((Utf8.decode s pos).1 : Int)) ∧ τ 18 = .sc (.pointer (some ⟨b1, 0, none⟩)) ∧ τ 23 = sb t23v) ∧ t_IsNa_J2 L1 pos s t23v = some r) fun M2 m2 => ⟨?_, ?_⟩
      · try simp +decide only [go_sem, s1, (of_decide_eq_true e4), nxtV_in, nxtV_out]
        refine gI h (fun e5 h => ?_) fun e5 h => ?_
        · try simp +decide only [go_sem, s1, (of_decide_eq_true e4), nxtV_in, nxtV_out, e5]
          refine gI h (fun e6 h => ?_) fun e6 h => ?_
          · try simp +decide only [go_sem, s1, (of_decide_eq_true e4), nxtV_in, nxtV_out, e5, e6]
            refine m2 _ ⟨true, ?_, h⟩
            simp +decide only [go_sem, s1, (of_decide_eq_true e4), nxtV_in, nxtV_out, e5, e6]
          try simp +decide only [go_sem, s1, (of_decide_eq_true e4), nxtV_in, nxtV_out, e5, e6]
          refine gI h (fun e7 h => ?_) fun e7 h => ?_
          · try simp +decide only [go_sem, s1, (of_decide_eq_true e4), nxtV_in, nxtV_out, e5, e6, e7]
            refine m2 _ ⟨decide (((Utf8.decode s pos).1 : Int) ≤ 90), ?_, h⟩
            simp +decide only [go_sem, s1, (of_decide_eq_true e4), nxtV_in, nxtV_out, e5, e6, e7]
          try simp +decide only [go_sem, s1, (of_decide_eq_true e4), nxtV_in, nxtV_out, e5, e6, e7]
          refine m2 _ ⟨false, ?_, h⟩
          simp +decide only [go_sem, s1, (of_decide_eq_true e4), nxtV_in, nxtV_out, e5, e6, e7]
        try simp +decide only [go_sem, s1, (of_decide_eq_true e4), nxtV_in, nxtV_out, e5]
        refine gI h (fun e8 h => ?_) fun e8 h => ?_
        · try simp +decide only [go_sem, s1, (of_decide_eq_true e4), nxtV_in, nxtV_out, e5, e8]
          refine m2 _ ⟨decide (((Utf8.decode s pos).1 : Int) ≤ 90), ?_, h⟩
          simp +decide only [go_sem, s1, (of_decide_eq_true e4), nxtV_in, nxtV_out, e5, e8]
        try simp +decide only [go_sem, s1, (of_decide_eq_true e4), nxtV_in, nxtV_out, e5, e8]
        refine m2 _ ⟨false, ?_, h⟩
        simp +decide only [go_sem, s1, (of_decide_eq_true e4), nxtV_in, nxtV_out, e5, e8]
      rintro τ2 ⟨t23v, s2, h⟩
      try simp +decide only [go_sem, s2]
      refine cI h (fun e9 h => ?_) fun e9 h => ?_
      · try simp +decide only [go_sem, s2, e9]
        refine k1 n1 (Nat.lt_succ_self _) _ _ ⟨pos + (Utf8.decode s pos).2, ?_, q1.symm ▸ h⟩
        simp +decide only [go_sem, s2, e9]
      try simp +decide only [go_sem, s2, e9]
      refine cutH (fun τ => ∃ t38v : Bool, (τ 18 = .sc (.pointer (some ⟨b1, 0, none⟩)) ∧ τ 38 = sb t38v) ∧ t_IsNa_J3 L1 pos s t38v = some r) fun M3 m3 => ⟨?_, ?_⟩
      · try simp +decide only [go_sem, s2, e9]
        refine gI h (fun e10 h => ?_) fun e10 h => ?_
        · try simp +decide only [go_sem, s2, e9, e10]
          refine gI h (fun e11 h => ?_) fun e11 h => ?_
          · try simp +decide only [go_sem, s2, e9, e10, e11]
            refine m3 _ ⟨true, ?_, h⟩
            simp +decide only [go_sem, s2, e9, e10, e11]
          try simp +decide only [go_sem, s2, e9, e10, e11]
          refine gI h (fun e12 h => ?_) fun e12 h => ?_
          · try simp +decide only [go_sem, s2, e9, e10, e11, e12]
            refine m3 _ ⟨decide (((Utf8.decode s pos).1 : Int) ≤ 57), ?_, h⟩
            simp +decide only [go_sem, s2, e9, e10, e11, e12]
          try simp +decide only [go_sem, s2, e9, e10, e11, e12]
          refine m3 _ ⟨false, ?_, h⟩
          simp +decide only [go_sem, s2, e9, e10, e11, e12]
        try simp +decide only [go_sem, s2, e9, e10]
        refine m3 _ ⟨false, ?_, h⟩
        simp +decide only [go_sem, s2, e9, e10]
      rintro τ3 ⟨t38v, s3, h⟩
      try simp +decide only [go_sem, s3]
      refine cI h (fun e13 h => ?_) fun e13 h => ?_
      · try simp +decide only [go_sem, s3, e13]
        refine k1 n1 (Nat.lt_succ_self _) _ _ ⟨pos + (Utf8.decode s pos).2, ?_, q1.symm ▸ h⟩
        simp +decide only [go_sem, s3, e13]
      obtain rfl := Option.some.inj h
      simp +decide only [go_sem, s3, e13]
    · replace h := ifF e4 h
      try simp +decide only [go_sem, s1, (of_decide_eq_false e4), nxtV_in, nxtV_out]
      refine m4 _ _ ⟨?_, h⟩
      simp +decide only [go_sem, s1, (of_decide_eq_false e4), nxtV_in, nxtV_out]
 rintro τ4 ν4 ⟨_, h⟩
 obtain rfl := Option.some.inj h
 simp +decide only [go_sem]
def f16c : ICM := (.seq (.ic (.reg [⟨some ⟨2, [16, 29, 43, 47], []⟩, .bx 6 (.t 0), none⟩, iB 4 false]))
(.seq (.ic (.reg [⟨some ⟨5, [13, 23, 36, 42, 46, 51, 55], []⟩, .mv (.c (.own false 1 [])), none⟩]))
(.seq (.ic (.reg [i1 13 5 (.cp (.t 5)), iC 14 1, i0 15 (.app 1 16 (.t 13) (.t 14)), ⟨some ⟨5, [13, 23, 36, 42, 46, 51, 55], []⟩, .mv (.t 15), none⟩]))
(cutM (.ic (sR [iFr 16 2 1 2, iL 17 16, i0 18 (.len (.t 17)), i0 19 (.cp (.c (.sc (.int .i64 0))))]
(.block 0 (.loop (sR [iO 20 .lss 19 18]
(.seq (.cond (.t 20) .skip (.exit 0))
(.seq (.block 1 (sR [iI 21 2 17 19, i0 22 (.ld true 2 (.t 21)), ⟨some ⟨7, [24], []⟩, .bx 2 (.c (.agg [.sc (.string ⟨#[]⟩), .sc (.bool false)])), none⟩, iS 2 7 22]
(.reg [i1 23 5 (.cp (.t 5)), iFr 24 7 0 7, iL 25 24, i0 26 (.bsl 1 [[.sc (.string ⟨#[]⟩)]] [(0, .t 25)]), i0 27 (.app 1 16 (.t 23) (.t 26)), ⟨some ⟨5, [13, 23, 36, 42, 46, 51, 55], []⟩, .mv (.t 27), none⟩])))
(.reg [iP 28 .add 19 1, iC 19 28]))))))))
(cutM (.ic (sR [iFr 29 2 2 2, iL 30 29, i0 31 (.len (.t 30)), i0 32 (.cp (.c (.sc (.int .i64 0))))]
(.block 2 (.loop (sR [iO 33 .lss 32 31]
(.seq (.cond (.t 33) .skip (.exit 2))
(.seq (.block 3 (sR [iI 34 2 30 32, i0 35 (.ld true 2 (.t 34)), ⟨some ⟨9, [37], []⟩, .bx 2 (.c (.agg [.sc (.string ⟨#[]⟩), .sc (.int .i64 0)])), none⟩, iS 2 9 35]
(.reg [i1 36 5 (.cp (.t 5)), iFr 37 9 0 9, iL 38 37, i0 39 (.bsl 1 [[.sc (.string ⟨#[]⟩)]] [(0, .t 38)]), i0 40 (.app 1 16 (.t 36) (.t 39)), ⟨some ⟨5, [13, 23, 36, 42, 46, 51, 55], []⟩, .mv (.t 40), none⟩])))
(.reg [iP 41 .add 32 1, iC 32 41]))))))))
(.seq (.ic (.reg [i1 42 5 (.cp (.t 5)), iFr 43 2 3 2, iL 44 43, i0 45 (.app 1 16 (.t 42) (.t 44)), ⟨some ⟨5, [13, 23, 36, 42, 46, 51, 55], []⟩, .mv (.t 45), none⟩]))
(.seq (.ic (.reg [i1 46 5 (.cp (.t 5)), iFr 47 2 4 2, iL 48 47, i0 49 (.app 1 16 (.t 46) (.t 48)), ⟨some ⟨5, [13, 23, 36, 42, 46, 51, 55], []⟩, .mv (.t 49), none⟩]))
(.seq (.mrex [.mkm ⟨50, [], []⟩, .x (.o ⟨some ⟨10, [], []⟩, .mv (.t 50), none⟩)])
(cutM (.seq (.ic (.reg [i1 51 5 (.cp (.t 5)), i0 52 (.len (.t 51)), i0 53 (.cp (.c (.sc (.int .i64 0))))]))
(.block 4 (.loop (.seq (.ic (.reg [iO 54 .lss 53 52]))
(.seq (.ic (.cond (.t 54) .skip (.exit 4)))
(.seq (.block 5 (.seq (.ic (.reg [iIr 55 5 1 51 53, iL 56 55, iM 12 56]))
(.seq (cutM (.mrex [.x (.o ⟨some ⟨57, [], []⟩, .cp (.t 12), none⟩), .x (.o ⟨some ⟨58, [], []⟩, .call 38 [.t 57] 0, none⟩), .x (.o ⟨some ⟨59, [], []⟩, .un .not (.t 58), none⟩), .x (.o ⟨some ⟨60, [], []⟩, .cp (.t 59), none⟩), .x (.o ⟨some ⟨61, [], []⟩, .cp (.t 10), some (60, false)⟩), .x (.o ⟨some ⟨62, [], []⟩, .cp (.t 12), some (60, false)⟩), .lkp (some (60, false)) ⟨63, [], []⟩ (.t 61) (.t 62), .x (.o ⟨some ⟨64, [], []⟩, .pick (.t 60) (.c (.sc (.bool true))) (.t 63), none⟩)])
(.ic (.cond (.t 64) (sR [iB 4 false]
.ret) .skip)))
(.mrex [.x (.o ⟨some ⟨65, [], []⟩, .cp (.t 10), none⟩), .x (.o ⟨some ⟨66, [], []⟩, .cp (.t 12), none⟩), .mup (.t 65) (.t 66) (.c (.sc (.bool true)))]))))
(.ic (.reg [iP 67 .add 53 1, iC 53 67]))))))))
(.ic (sR [iB 4 true]
.ret)))))))))))
def f16g : Gi := ⟨[(13, [5]), (16, [2]), (23, [5]), (24, [7]), (29, [2]), (36, [5]), (37, [9]), (42, [5]), (43, [2]), (46, [5]), (47, [2]), (51, [5]), (55, [5])]⟩
def f16r : List RV := [.tmp 4]
def f16 : FIM := ⟨f16c, f16g, f16r⟩
theorem chk16 : chkFM Tryd.prog Tryd.f16 f16 = true := by kernel_rfl
def c_vaNa_J4 (seen : List ByteArray) : Option Bool :=
  some true
def c_vaNa_J3 (L3 : Int → (List ByteArray) → Option Bool) (seen : List ByteArray) (t53v : Int) (x_2 : ByteArray) (t64v : Bool) : Option Bool :=
  if t64v then
    some false
  else
  if (seen.any fun ζ => ζ == x_2) = false then
  L3 (w64 (t53v + 1)) (seen ++ [x_2])
  else none
def c_vaNa_L3 (all_3 : List ByteArray) (wv : SWorld) (L3 : Int → (List ByteArray) → Option Bool) (t53v : Int) (seen : List ByteArray) : Option Bool :=
  if decide (t53v < (((all_3 ++ wv.Futures) ++ wv.Threads).length : Int)) then
    (gt ((all_3 ++ wv.Futures) ++ wv.Threads) t53v).bind fun x_2 =>
    (t_IsNa x_2).bind fun v =>
    if !v then
      c_vaNa_J3 L3 seen t53v x_2 true
    else
    c_vaNa_J3 L3 seen t53v x_2 (seen.any fun ζ => ζ == x_2)
  else
  c_vaNa_J4 seen
def c_vaNa_L3r (all_3 : List ByteArray) (wv : SWorld) : Nat → Int → (List ByteArray) → Option Bool
  | 0, _, _ => none
  | n + 1, t53v, seen => c_vaNa_L3 all_3 wv (c_vaNa_L3r all_3 wv n) t53v seen
def c_vaNa_J2 (wv : SWorld) (all_3 : List ByteArray) : Option Bool :=
  if roomOK (all_3.length + wv.Futures.length) 16 = true then
  if roomOK ((all_3 ++ wv.Futures).length + wv.Threads.length) 16 = true then
  c_vaNa_L3r all_3 wv big 0 []
  else none
  else none
def c_vaNa_L2 (wv : SWorld) (L2 : (List ByteArray) → Int → Option Bool) (all_2 : List ByteArray) (t32v : Int) : Option Bool :=
  if decide (t32v < (wv.Conds.length : Int)) then
    (gt wv.Conds t32v).bind fun x_1 =>
    if roomOK (all_2.length + 1) 16 = true then
    L2 (all_2 ++ [x_1.Name]) (w64 (t32v + 1))
    else none
  else
  c_vaNa_J2 wv all_2
def c_vaNa_L2r (wv : SWorld) : Nat → (List ByteArray) → Int → Option Bool
  | 0, _, _ => none
  | n + 1, all_2, t32v => c_vaNa_L2 wv (c_vaNa_L2r wv n) all_2 t32v
def c_vaNa_J1 (wv : SWorld) (all_1 : List ByteArray) : Option Bool :=
  c_vaNa_L2r wv big all_1 0
def c_vaNa_L1 (wv : SWorld) (L1 : (List ByteArray) → Int → Option Bool) (all : List ByteArray) (t19v : Int) : Option Bool :=
  if decide (t19v < (wv.Locks.length : Int)) then
    (gt wv.Locks t19v).bind fun x =>
    if roomOK (all.length + 1) 16 = true then
    L1 (all ++ [x.Name]) (w64 (t19v + 1))
    else none
  else
  c_vaNa_J1 wv all
def c_vaNa_L1r (wv : SWorld) : Nat → (List ByteArray) → Int → Option Bool
  | 0, _, _ => none
  | n + 1, all, t19v => c_vaNa_L1 wv (c_vaNa_L1r wv n) all t19v
def c_vaNa (wv : SWorld) (variables : List ByteArray) : Option Bool :=
  if roomOK (variables.length) 16 = true then
  c_vaNa_L1r wv big variables 0
  else none
theorem c_vaNa_ok {wv : SWorld} {variables : List ByteArray} {r : Bool} (h : c_vaNa wv variables = some r) : Says Tryd.prog 16 [.agg (eWorld wv), .sl false 1 (variables.map eS)] (sb r) := by
 refine says_ofM mix Tryd.func16 chk16 (of_decide_eq_true (by kernel_rfl)) rfl ?_
 simp only [f16, f16c, f16g, f16r]
 obtain ⟨g1, h⟩ := cS h
 try simp +decide only [go_sem, g1]
 refine cutMH (fun τ ν => ∃ all_1 : List ByteArray, (τ 2 = bA 6 (eWorld wv) ∧ τ 5 = .own false 1 (all_1.map eS)) ∧ c_vaNa_J1 wv all_1 = some r) fun M1 m1 => ⟨?_, ?_⟩
 · try simp +decide only [go_sem, g1]
   refine loopH (fun n τ => ∃ all : List ByteArray, ∃ t19v : Int, (τ 2 = bA 6 (eWorld wv) ∧ τ 5 = .own false 1 (all.map eS) ∧ τ 17 = .sl false 2 (wv.Locks.map eLock) ∧ τ 18 = si (wv.Locks.length : Int) ∧ τ 19 = si t19v) ∧ c_vaNa_L1r wv n all t19v = some r) ⟨variables, 0, ?_, h⟩ fun n1 τ1 N1 => ?_
   · simp +decide only [go_sem, g1]
   rintro ⟨all, t19v, s1, h⟩ k1
   cases n1 with
   | zero => exact no_none h
   | succ n1 =>
    rw [c_vaNa_L1r] at h; generalize q1 : c_vaNa_L1r wv n1 = L1 at h
    try simp +decide only [go_sem, s1]
    refine cI h (fun e1 h => ?_) fun e1 h => ?_
    · obtain ⟨x, g2, h⟩ := gB h
      obtain ⟨g3, h⟩ := cS h
      try simp +decide only [go_sem, s1, e1, g2, g3]
      refine k1 n1 (Nat.lt_succ_self _) _ ⟨all ++ [x.Name], w64 (t19v + 1), ?_, q1.symm ▸ h⟩
      simp +decide only [go_sem, s1, e1, g2, g3]
    try simp +decide only [go_sem, s1, e1]
    refine m1 _ _ ⟨all, ?_, h⟩
    simp +decide only [go_sem, s1, e1]
 rintro τ1 ν1 ⟨all_1, s1, h⟩
 try simp +decide only [go_sem, s1]
 refine cutMH (fun τ ν => ∃ all_3 : List ByteArray, (τ 2 = bA 6 (eWorld wv) ∧ τ 5 = .own false 1 (all_3.map eS)) ∧ c_vaNa_J2 wv all_3 = some r) fun M2 m2 => ⟨?_, ?_⟩
 · try simp +decide only [go_sem, s1]
   refine loopH (fun n τ => ∃ all_2 : List ByteArray, ∃ t32v : Int, (τ 2 = bA 6 (eWorld wv) ∧ τ 5 = .own false 1 (all_2.map eS) ∧ τ 30 = .sl false 2 (wv.Conds.map eCond) ∧ τ 31 = si (wv.Conds.length : Int) ∧ τ 32 = si t32v) ∧ c_vaNa_L2r wv n all_2 t32v = some r) ⟨all_1, 0, ?_, h⟩ fun n2 τ2 N2 => ?_
   · simp +decide only [go_sem, s1]
   rintro ⟨all_2, t32v, s2, h⟩ k2
   cases n2 with
   | zero => exact no_none h
   | succ n2 =>
    rw [c_vaNa_L2r] at h; generalize q2 : c_vaNa_L2r wv n2 = L2 at h
    try simp +decide only [go_sem, s2]
    refine cI h (fun e2 h => ?_) fun e2 h => ?_
    · obtain ⟨x_1, g4, h⟩ := gB h
      obtain ⟨g5, h⟩ := cS h
      try simp +decide only [go_sem, s2, e2, g4, g5]
      refine k2 n2 (Nat.lt_succ_self _) _ ⟨all_2 ++ [x_1.Name], w64 (t32v + 1), ?_, q2.symm ▸ h⟩
      simp +decide only [go_sem, s2, e2, g4, g5]
    try simp +decide only [go_sem, s2, e2]
    refine m2 _ _ ⟨all_2, ?_, h⟩
    simp +decide only [go_sem, s2, e2]
 rintro τ2 ν2 ⟨all_3, s2, h⟩
 obtain ⟨g6, h⟩ := cS h
 obtain ⟨g7, h⟩ := cS h
 try simp +decide only [go_sem, s2, g6, g7]
 intro b1 hb1
 try simp +decide only [go_sem, s2, g6, g7, hb1]
 refine cutMH (fun τ ν => ∃ seen : List ByteArray, (ν b1 = some (.mp (seen.map tv))) ∧ c_vaNa_J4 seen = some r) fun M4 m4 => ⟨?_, ?_⟩
 · try simp +decide only [go_sem, s2, g6, g7, hb1]
   refine loopMH (fun n τ ν => ∃ t53v : Int, ∃ seen : List ByteArray, (τ 5 = .own false 1 (((all_3 ++ wv.Futures) ++ wv.Threads).map eS) ∧ τ 10 = .sc (.map (some b1)) ∧ τ 51 = .al 5 [] ∧ τ 52 = si (((all_3 ++ wv.Futures) ++ wv.Threads).length : Int) ∧ τ 53 = si t53v ∧ ν b1 = some (.mp (seen.map tv))) ∧ c_vaNa_L3r all_3 wv n t53v seen = some r) ⟨0, [], ?_, h⟩ fun n3 τ3 ν3 N3 => ?_
   · simp +decide only [go_sem, s2, g6, g7, hb1]
   rintro ⟨t53v, seen, s3, h⟩ k3
   cases n3 with
   | zero => exact no_none h
   | succ n3 =>
    rw [c_vaNa_L3r] at h; generalize q3 : c_vaNa_L3r all_3 wv n3 = L3 at h
    try simp +decide only [go_sem, s3]
    refine cI h (fun e3 h => ?_) fun e3 h => ?_
    · obtain ⟨x_2, g8, h⟩ := gB h
      try simp +decide only [go_sem, s3, e3, g8]
      refine cutMH (fun τ ν => ∃ t64v : Bool, (τ 5 = .own false 1 (((all_3 ++ wv.Futures) ++ wv.Threads).map eS) ∧ τ 10 = .sc (.map (some b1)) ∧ τ 12 = sst x_2 ∧ τ 51 = .al 5 [] ∧ τ 52 = si (((all_3 ++ wv.Futures) ++ wv.Threads).length : Int) ∧ τ 53 = si t53v ∧ τ 64 = sb t64v ∧ ν b1 = some (.mp (seen.map tv))) ∧ c_vaNa_J3 L3 seen t53v x_2 t64v = some r) fun M3 m3 => ⟨?_, ?_⟩
      · obtain ⟨v, g9, h⟩ := bS h
        try simp +decide only [go_sem, s3, e3, g8]
        refine ⟨_, t_IsNa_ok g9, ?_⟩
        try simp +decide only [go_sem, s3, e3, g8]
        refine gI h (fun e4 h => ?_) fun e4 h => ?_
        · try simp +decide only [go_sem, s3, e3, g8, e4]
          refine m3 _ _ ⟨true, ?_, h⟩
          simp +decide only [go_sem, s3, e3, g8, e4]
        try simp +decide only [go_sem, s3, e3, g8, e4]
        refine m3 _ _ ⟨seen.any fun ζ => ζ == x_2, ?_, h⟩
        simp +decide only [go_sem, s3, e3, g8, e4]
      rintro τ3 ν3 ⟨t64v, s3, h⟩
      try simp +decide only [go_sem, s3]
      refine cI h (fun e5 h => ?_) fun e5 h => ?_
      · obtain rfl := Option.some.inj h
        simp +decide only [go_sem, s3, e5]
      obtain ⟨g10, h⟩ := cS h
      try simp +decide only [go_sem, s3, e5, g10]
      refine k3 n3 (Nat.lt_succ_self _) _ _ ⟨w64 (t53v + 1), seen ++ [x_2], ?_, q3.symm ▸ h⟩
      simp +decide only [go_sem, s3, e5, g10]
    try simp +decide only [go_sem, s3, e3]
    refine m4 _ _ ⟨seen, ?_, h⟩
    simp +decide only [go_sem, s3, e3]
 rintro τ4 ν4 ⟨seen, s4, h⟩
 obtain rfl := Option.some.inj h
 simp +decide only [go_sem, s4]
end Go.Abs
