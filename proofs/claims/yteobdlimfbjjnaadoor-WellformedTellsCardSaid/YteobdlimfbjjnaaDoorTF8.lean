/- Typed programs: wellformed.Check, interleaveref06.names, interleaveref01.Letter, interleaveref01.Keywords. -/
import Derived.Test.YteobdlimfbjjnaaDoorTE
import Derived.Test.YteobdlimfbjjnaaDoorTF1
import Derived.Test.YteobdlimfbjjnaaDoorTF2
import Derived.Test.YteobdlimfbjjnaaDoorTF7
set_option linter.unusedSimpArgs false
namespace Go.Abs
open Go.Proofs
set_option maxRecDepth 100000
set_option maxHeartbeats 4000000
def f4c : IC := (sR [⟨some ⟨1, [10, 14, 18, 21, 22, 26, 35], []⟩, .bx 7 (.t 0), none⟩, iK 2 0, iK 3 0]
(.seq (sR [iFr 10 1 6 1, iL 11 10, i0 12 (.len (.t 11)), iP 13 .gtr 12 400]
(.cond (.t 13) (sR [iK 2 0, iK 3 2]
.ret) .skip))
(.seq (sR [iFr 14 1 0 1, i0 15 (.ld true 6 (.t 14)), i0 16 (.call 7 [.t 15] 0), iN 17 16]
(.cond (.t 17) (sR [iK 2 0, iK 3 1]
.ret) .skip))
(sR [iFr 18 1 0 1, i0 19 (.ld true 6 (.t 18)), i0 20 (.call 8 [.t 19] 2), ⟨some ⟨4, [37], []⟩, .bx 7 (.c (.agg [.own false 2 [], .sc (.int .i64 0), .own false 1 [], .own false 3 [], .own false 1 [], .own false 1 [], .own false 1 []])), none⟩, iS 7 4 20]
(sR [iFr 21 1 0 1, iFr 22 1 4 21, iL 23 22, i0 24 (.len (.t 23)), i0 25 (.mk 1 24 [.own false 1 []] (.t 24) (.t 24)), ⟨some ⟨5, [45, 48, 49, 58, 61, 62, 73], []⟩, .mv (.t 25), none⟩]
(cutS (sR [iFr 26 1 6 1, iL 27 26, i0 28 (.len (.t 27)), i0 29 (.cp (.c (.sc (.int .i64 0))))]
(.block 0 (.loop (sR [iO 30 .lss 29 28]
(.seq (.cond (.t 30) .skip (.exit 0))
(.seq (.block 1 (sR [iC 31 29, iI 32 7 27 29, i0 33 (.ld true 7 (.t 32)), ⟨some ⟨7, [46, 56, 59, 63, 67], []⟩, .bx 7 (.c (.agg [.sc (.int .i64 0), .sc (.int .i64 0), .sc (.int .i64 0), .sc (.int .i64 0), .sc (.int .i64 0), .own false 1 [], .own false 1 []])), none⟩, iM 6 31, iS 7 7 33]
(sR [iFr 35 1 0 1, i0 36 (.ld true 6 (.t 35)), i1 37 4 (.ld true 7 (.t 4)), i0 38 (.ld true 7 (.t 7)), ⟨some ⟨39, [34, 40, 41], []⟩, .call 9 [.t 36, .t 37, .t 38] 2, none⟩, i1 34 39 (.cp (.t 39)), i1 40 39 (.ext (.t 34) 0), i1 41 39 (.ext (.t 34) 1), ⟨some ⟨8, [74], []⟩, .bx 7 (.c (.agg [.own false 2 [], .sc (.int .i64 0), .own false 1 [], .own false 3 [], .own false 1 [], .own false 1 [], .own false 1 []])), none⟩, iS 7 8 40, ⟨some ⟨9, [42], []⟩, .mv (.t 41), none⟩]
(.seq (cutS (.reg [i1 42 9 (.cp (.t 9)), iN 43 42, iC 44 43, j1 45 5 (.cp (.t 5)) 44 false, jFr 46 7 0 7 44 false, jL 47 46 44 false, j1 48 5 (.iad 1 (.t 45) (.t 47)) 44 false, jLr 49 5 48 44 false, j0 50 (.ld true 7 (.t 7)) 44 false, j0 51 (.call 10 [.t 49, .t 50] 0) 44 false, j0 52 (.un .not (.t 51)) 44 false, i0 53 (.pick (.t 44) (.c (.sc (.bool true))) (.t 52))])
(.cond (.t 53) (sR [iC 54 6, iM 2 54, iK 3 12]
.ret) .skip))
(cutS (.flc 5 0 18 55 [i0 55 .fl, iFr 56 7 0 7, iL 57 56, i1 58 5 (.cp (.t 5)), iFr 59 7 0 7, iL 60 59, iIr 61 5 1 58 60, iLr 62 5 61, iFr 63 7 1 7, iL 64 63, iQ 65 64 3, iC 66 65, jFr 67 7 1 7 66 false, jL 68 67 66 false, j0 69 (.bin .eql (.t 68) (.c (.sc (.int .i64 23)))) 66 false, i0 70 (.pick (.t 66) (.c (.sc (.bool true))) (.t 69)), i0 71 (.bsl 1 [[.sc (.bool false)]] [(0, .t 70)]), i0 72 (.app 1 1 (.t 62) (.t 71)), iIr 73 5 1 5 57, iS 1 73 72])
(.reg [i1 74 8 (.ld true 7 (.t 8)), iS 7 4 74]))))))
(.reg [iP 75 .add 29 1, iC 29 75])))))))
(sR [iK 2 0, iK 3 0]
.ret)))))))
def f4g : Gi := ⟨[(10, [1]), (14, [1]), (18, [1]), (21, [1]), (22, [1]), (26, [1]), (34, [39]), (35, [1]), (37, [4]), (40, [39]), (41, [39]), (42, [9]), (45, [5]), (46, [7]), (48, [5]), (49, [5]), (56, [7]), (58, [5]), (59, [7]), (61, [5]), (62, [5]), (63, [7]), (67, [7]), (73, [5]), (74, [8])]⟩
def f4r : List RV := [.tmp 2, .tmp 3]
def f4 : FI := ⟨f4c, f4g, f4r⟩
theorem chk4 : chkF Tryd.prog Tryd.f4 f4 = true := by kernel_rfl
def w_Ch_J3 : Option (Int × Int) :=
  some (0, 0)
def w_Ch_J2 (L1 : SSnapshot → (List (List Bool)) → Int → Option (Int × Int)) (t29v : Int) (v_2 : SSnapshot × Bool) (reads_1 : List (List Bool)) : Option (Int × Int) :=
  L1 v_2.1 reads_1 (w64 (t29v + 1))
def w_Ch_J1 (L1 : SSnapshot → (List (List Bool)) → Int → Option (Int × Int)) (reads : List (List Bool)) (t29v : Int) (v_2 : SSnapshot × Bool) (x : SEvent) (t53v : Bool) : Option (Int × Int) :=
  if t53v then
    some (t29v, 12)
  else
  (gt reads x.Thread).bind fun x_2 =>
  if x.Kind == 3 then
    if roomOK (x_2.length + 1) 1 = true then
    w_Ch_J2 L1 t29v v_2 (reads.set x.Thread.toNat (x_2 ++ [true]))
    else none
  else
  if roomOK (x_2.length + 1) 1 = true then
  w_Ch_J2 L1 t29v v_2 (reads.set x.Thread.toNat (x_2 ++ [x.Kind == 23]))
  else none
def w_Ch_L1 (t : STrace) (L1 : SSnapshot → (List (List Bool)) → Int → Option (Int × Int)) (s : SSnapshot) (reads : List (List Bool)) (t29v : Int) : Option (Int × Int) :=
  if decide (t29v < (t.Events.length : Int)) then
    (gt t.Events t29v).bind fun x =>
    (w_Stq t.World s x).bind fun v_2 =>
    if !v_2.2 then
      w_Ch_J1 L1 reads t29v v_2 x true
    else
    (gt reads x.Thread).bind fun x_1 =>
    (w_alRe x_1 x).bind fun v_3 =>
    w_Ch_J1 L1 reads t29v v_2 x (!v_3)
  else
  w_Ch_J3
def w_Ch_L1r (t : STrace) : Nat → SSnapshot → (List (List Bool)) → Int → Option (Int × Int)
  | 0, _, _, _ => none
  | n + 1, s, reads, t29v => w_Ch_L1 t (w_Ch_L1r t n) s reads t29v
def w_Ch (t : STrace) : Option (Int × Int) :=
  if decide ((t.Events.length : Int) > 400) then
    some (0, 2)
  else
  (c_VaWo t.World).bind fun v =>
  if !v then
    some (0, 1)
  else
  (w_St t.World).bind fun v_1 =>
  if 0 ≤ (t.World.Threads.length : Int) ∧ (t.World.Threads.length : Int) ≤ (t.World.Threads.length : Int) ∧ roomOK t.World.Threads.length 24 = true then
  w_Ch_L1r t big v_1 (List.replicate t.World.Threads.length []) 0
  else none
theorem w_Ch_ok {t : STrace} {r : Int × Int} (h : w_Ch t = some r) : Says Tryd.prog 4 [.agg (eTrace t)] (.tup [si r.1, si r.2]) := by
 refine says_of mix Tryd.func4 chk4 (of_decide_eq_true (by kernel_rfl)) rfl ?_
 simp only [f4, f4c, f4g, f4r]
 try simp +decide only [go_sem]
 refine cI h (fun e1 h => ?_) fun e1 h => ?_
 · obtain rfl := Option.some.inj h
   simp +decide only [go_sem, e1]
 obtain ⟨v, g1, h⟩ := bS h
 try simp +decide only [go_sem, e1]
 refine ⟨_, c_VaWo_ok g1, ?_⟩
 try simp +decide only [go_sem, e1]
 refine cI h (fun e2 h => ?_) fun e2 h => ?_
 · obtain rfl := Option.some.inj h
   simp +decide only [go_sem, e1, e2]
 obtain ⟨v_1, g2, h⟩ := bS h
 try simp +decide only [go_sem, e1, e2]
 refine ⟨_, w_St_ok g2, ?_⟩
 obtain ⟨g3, h⟩ := cS h
 try simp +decide only [go_sem, e1, e2, g3]
 refine cutH (fun τ => (True) ∧ w_Ch_J3 = some r) fun M3 m3 => ⟨?_, ?_⟩
 · try simp +decide only [go_sem, e1, e2, g3]
   refine loopH (fun n τ => ∃ s : SSnapshot, ∃ reads : List (List Bool), ∃ t29v : Int, (τ 1 = bA 7 (eTrace t) ∧ τ 4 = bA 7 (eSnapshoto s) ∧ τ 5 = .own false 1 (reads.map eLBo) ∧ τ 27 = .sl false 7 (t.Events.map eEvent) ∧ τ 28 = si (t.Events.length : Int) ∧ τ 29 = si t29v) ∧ w_Ch_L1r t n s reads t29v = some r) ⟨v_1, List.replicate t.World.Threads.length [], 0, ?_, h⟩ fun n1 τ1 N1 => ?_
   · simp +decide only [go_sem, e1, e2, g3]
   rintro ⟨s, reads, t29v, s1, h⟩ k1
   cases n1 with
   | zero => exact no_none h
   | succ n1 =>
    rw [w_Ch_L1r] at h; generalize q1 : w_Ch_L1r t n1 = L1 at h
    try simp +decide only [go_sem, s1]
    refine cI h (fun e3 h => ?_) fun e3 h => ?_
    · obtain ⟨x, g6, h⟩ := gB h
      obtain ⟨v_2, g7, h⟩ := bS h
      try simp +decide only [go_sem, s1, e3, g6]
      refine ⟨_, w_Stq_ok g7, ?_⟩
      try simp +decide only [go_sem, s1, e3, g6]
      refine cutH (fun τ => ∃ t53v : Bool, (τ 1 = bA 7 (eTrace t) ∧ τ 4 = bA 7 (eSnapshoto s) ∧ τ 5 = .own false 1 (reads.map eLBo) ∧ τ 6 = si t29v ∧ τ 7 = bA 7 (eEvent x) ∧ τ 8 = bA 7 (eSnapshoto v_2.1) ∧ τ 27 = .sl false 7 (t.Events.map eEvent) ∧ τ 28 = si (t.Events.length : Int) ∧ τ 29 = si t29v ∧ τ 53 = sb t53v) ∧ w_Ch_J1 L1 reads t29v v_2 x t53v = some r) fun M1 m1 => ⟨?_, ?_⟩
      · try simp +decide only [go_sem, s1, e3, g6]
        refine gI h (fun e4 h => ?_) fun e4 h => ?_
        · try simp +decide only [go_sem, s1, e3, g6, e4]
          refine m1 _ ⟨true, ?_, h⟩
          simp +decide only [go_sem, s1, e3, g6, e4]
        obtain ⟨x_1, g8, h⟩ := gB h
        obtain ⟨v_3, g9, h⟩ := bS h
        try simp +decide only [go_sem, s1, e3, g6, e4, g8]
        refine ⟨_, w_alRe_ok g9, ?_⟩
        try simp +decide only [go_sem, s1, e3, g6, e4, g8]
        refine m1 _ ⟨!v_3, ?_, h⟩
        simp +decide only [go_sem, s1, e3, g6, e4, g8]
      rintro τ1 ⟨t53v, s1, h⟩
      try simp +decide only [go_sem, s1]
      refine cI h (fun e5 h => ?_) fun e5 h => ?_
      · obtain rfl := Option.some.inj h
        simp +decide only [go_sem, s1, e5]
      try simp +decide only [go_sem, s1, e5]
      refine cutH (fun τ => ∃ reads_1 : List (List Bool), (τ 1 = bA 7 (eTrace t) ∧ τ 4 = bA 7 (eSnapshoto s) ∧ τ 5 = .own false 1 (reads_1.map eLBo) ∧ τ 8 = bA 7 (eSnapshoto v_2.1) ∧ τ 27 = .sl false 7 (t.Events.map eEvent) ∧ τ 28 = si (t.Events.length : Int) ∧ τ 29 = si t29v) ∧ w_Ch_J2 L1 t29v v_2 reads_1 = some r) fun M2 m2 => ⟨?_, ?_⟩
      · obtain ⟨x_2, g10, h⟩ := gB h
        try simp +decide only [go_sem, s1, e5, g10]
        refine gI h (fun e6 h => ?_) fun e6 h => ?_
        · obtain ⟨g11, h⟩ := cS h
          try simp +decide only [go_sem, s1, e5, g10, e6, g11]
          refine m2 _ ⟨reads.set x.Thread.toNat (x_2 ++ [true]), ?_, h⟩
          simp +decide only [go_sem, s1, e5, g10, e6, g11]
        obtain ⟨g12, h⟩ := cS h
        try simp +decide only [go_sem, s1, e5, g10, e6, g12]
        refine m2 _ ⟨reads.set x.Thread.toNat (x_2 ++ [x.Kind == 23]), ?_, h⟩
        simp +decide only [go_sem, s1, e5, g10, e6, g12]
      rintro τ2 ⟨reads_1, s2, h⟩
      try simp +decide only [go_sem, s2]
      refine k1 n1 (Nat.lt_succ_self _) _ ⟨v_2.1, reads_1, w64 (t29v + 1), ?_, q1.symm ▸ h⟩
      simp +decide only [go_sem, s2]
    try simp +decide only [go_sem, s1, e3]
    refine m3 _ ⟨?_, h⟩
    simp +decide only [go_sem, s1, e3]
 rintro τ3 ⟨_, h⟩
 obtain rfl := Option.some.inj h
 simp +decide only [go_sem]
def f28c : IC := (sR [⟨some ⟨1, [12, 16, 45, 58, 99, 106, 115, 122, 131, 135], []⟩, .bx 6 (.t 0), none⟩, i0 2 (.mv (.c (.own false 1 []))), iB 3 false]
(sR [⟨some ⟨4, [21, 105, 121, 130, 134], []⟩, .mv (.c (.own false 1 [])), none⟩]
(cutS (sR [iK 5 0]
(.block 0 (.loop (.seq (sR [iC 11 5, iFr 12 1 0 1, iL 13 12, i0 14 (.len (.t 13)), iO 15 .lss 11 14]
(.cond (.t 15) .skip (.exit 0)))
(.block 1 (sR [iFr 16 1 0 1, iL 17 16, iC 18 5, iI 19 5 17 18, i0 20 (.ld true 5 (.t 19)), ⟨some ⟨6, [22, 26, 29, 34, 38, 43, 53, 72, 79, 86, 95], []⟩, .bx 5 (.c (.agg [.sc (.string ⟨#[]⟩), .sc (.int .i64 0), .sc (.int .i64 0), .sc (.bool false), .sc (.int .i64 0)])), none⟩, iS 5 6 20]
(sR [i1 21 4 (.cp (.t 4)), iFr 22 6 0 6, iL 23 22, i0 24 (.bsl 1 [[.sc (.string ⟨#[]⟩)]] [(0, .t 23)]), i0 25 (.app 1 16 (.t 21) (.t 24)), ⟨some ⟨4, [21, 105, 121, 130, 134], []⟩, .mv (.t 25), none⟩]
(.seq (sR [iFr 26 6 2 6, iL 27 26, iQ 28 27 0]
(.cond (.t 28) (.seq (sR [iFr 29 6 1 6, iL 30 29, iP 31 .neq 30 0]
(.cond (.t 31) (sR [i0 2 (.mv (.c (.own false 1 []))), iB 3 false]
.ret) .skip))
(sR [iC 32 5, iP 33 .add 32 1, iM 5 33]
(.exit 1))) .skip))
(.seq (cutS (.reg [iFr 34 6 2 6, iL 35 34, iP 36 .lss 35 1, iC 37 36, jFr 38 6 2 6 37 false, jL 39 38 37 false, j0 40 (.bin .gtr (.t 39) (.c (.sc (.int .i64 4)))) 37 false, i0 41 (.pick (.t 37) (.c (.sc (.bool true))) (.t 40)), iC 42 41, jFr 43 6 2 6 42 false, jL 44 43 42 false, jFr 45 1 0 1 42 false, jL 46 45 42 false, j0 47 (.len (.t 46)) 42 false, j0 48 (.cp (.t 5)) 42 false, j0 49 (.bin .sub (.t 47) (.t 48)) 42 false, j0 50 (.bin .gtr (.t 44) (.t 49)) 42 false, i0 51 (.pick (.t 42) (.c (.sc (.bool true))) (.t 50))])
(.cond (.t 51) (sR [i0 2 (.mv (.c (.own false 1 []))), iB 3 false]
.ret) .skip))
(cutS (sR [iK 7 0]
(.block 2 (.loop (.seq (sR [iC 52 7, iFr 53 6 2 6, iL 54 53, iO 55 .lss 52 54]
(.cond (.t 55) .skip (.exit 2)))
(.seq (.block 3 (sR [iFr 58 1 0 1, iL 59 58, iC 60 5, iC 61 7, iO 62 .add 60 61, iI 63 5 59 62, i0 64 (.ld true 5 (.t 63)), ⟨some ⟨8, [65, 70, 77, 84, 91], []⟩, .bx 5 (.c (.agg [.sc (.string ⟨#[]⟩), .sc (.int .i64 0), .sc (.int .i64 0), .sc (.bool false), .sc (.int .i64 0)])), none⟩, iS 5 8 64]
(cutS (.reg [iFr 65 8 1 8, iL 66 65, iC 67 7, iO 68 .neq 66 67, iC 69 68, jFr 70 8 0 8 69 false, jL 71 70 69 false, jFr 72 6 0 6 69 false, jL 73 72 69 false, j0 74 (.bin .neq (.t 71) (.t 73)) 69 false, i0 75 (.pick (.t 69) (.c (.sc (.bool true))) (.t 74)), iC 76 75, jFr 77 8 2 8 76 false, jL 78 77 76 false, jFr 79 6 2 6 76 false, jL 80 79 76 false, j0 81 (.bin .neq (.t 78) (.t 80)) 76 false, i0 82 (.pick (.t 76) (.c (.sc (.bool true))) (.t 81)), iC 83 82, jFr 84 8 4 8 83 false, jL 85 84 83 false, jFr 86 6 4 6 83 false, jL 87 86 83 false, j0 88 (.bin .neq (.t 85) (.t 87)) 83 false, i0 89 (.pick (.t 83) (.c (.sc (.bool true))) (.t 88)), iC 90 89, jFr 91 8 3 8 90 false, jL 92 91 90 false, i0 93 (.pick (.t 90) (.c (.sc (.bool true))) (.t 92))])
(.cond (.t 93) (sR [i0 2 (.mv (.c (.own false 1 []))), iB 3 false]
.ret) .skip))))
(.reg [iC 56 7, iP 57 .add 56 1, iM 7 57]))))))
(.reg [iC 94 5, iFr 95 6 2 6, iL 96 95, iO 97 .add 94 96, iM 5 97])))))))))))
(cutS (sR [iK 9 0]
(.block 4 (.loop (.seq (sR [iC 98 9, iFr 99 1 1 1, iL 100 99, i0 101 (.len (.t 100)), iO 102 .lss 98 101]
(.cond (.t 102) .skip (.exit 4)))
(.seq (.block 5 (.reg [i1 105 4 (.cp (.t 4)), iFr 106 1 1 1, iL 107 106, iC 108 9, iI 109 2 107 108, iF 110 0 109, iL 111 110, i0 112 (.bsl 1 [[.sc (.string ⟨#[]⟩)]] [(0, .t 111)]), i0 113 (.app 1 16 (.t 105) (.t 112)), ⟨some ⟨4, [21, 105, 121, 130, 134], []⟩, .mv (.t 113), none⟩]))
(.reg [iC 103 9, iP 104 .add 103 1, iM 9 104]))))))
(cutS (sR [iK 10 0]
(.block 6 (.loop (.seq (sR [iC 114 10, iFr 115 1 2 1, iL 116 115, i0 117 (.len (.t 116)), iO 118 .lss 114 117]
(.cond (.t 118) .skip (.exit 6)))
(.seq (.block 7 (.reg [i1 121 4 (.cp (.t 4)), iFr 122 1 2 1, iL 123 122, iC 124 10, iI 125 2 123 124, iF 126 0 125, iL 127 126, i0 128 (.bsl 1 [[.sc (.string ⟨#[]⟩)]] [(0, .t 127)]), i0 129 (.app 1 16 (.t 121) (.t 128)), ⟨some ⟨4, [21, 105, 121, 130, 134], []⟩, .mv (.t 129), none⟩]))
(.reg [iC 119 10, iP 120 .add 119 1, iM 10 120]))))))
(sR [i1 130 4 (.cp (.t 4)), iFr 131 1 3 1, iL 132 131, i0 133 (.app 1 16 (.t 130) (.t 132)), ⟨some ⟨4, [21, 105, 121, 130, 134], []⟩, .mv (.t 133), none⟩]
(sR [i1 134 4 (.cp (.t 4)), iFr 135 1 4 1, iL 136 135, i0 137 (.app 1 16 (.t 134) (.t 136)), iM 2 137, iB 3 true]
.ret)))))))
def f28g : Gi := ⟨[(12, [1]), (16, [1]), (21, [4]), (22, [6]), (26, [6]), (29, [6]), (34, [6]), (38, [6]), (43, [6]), (45, [1]), (53, [6]), (58, [1]), (65, [8]), (70, [8]), (72, [6]), (77, [8]), (79, [6]), (84, [8]), (86, [6]), (91, [8]), (95, [6]), (99, [1]), (105, [4]), (106, [1]), (115, [1]), (121, [4]), (122, [1]), (130, [4]), (131, [1]), (134, [4]), (135, [1])]⟩
def f28r : List RV := [.tmp 2, .tmp 3]
def f28 : FI := ⟨f28c, f28g, f28r⟩
theorem chk28 : chkF Tryd.prog Tryd.f28 f28 = true := by kernel_rfl
def r06_na_J6 (wv : SWorld) (l_5 : List ByteArray) : Option ((List ByteArray) × Bool) :=
  if roomOK (l_5.length + wv.Futures.length) 16 = true then
  if roomOK ((l_5 ++ wv.Futures).length + wv.Threads.length) 16 = true then
  some ((l_5 ++ wv.Futures) ++ wv.Threads, true)
  else none
  else none
def r06_na_L4 (wv : SWorld) (L4 : (List ByteArray) → Int → Option ((List ByteArray) × Bool)) (l_4 : List ByteArray) (i_2 : Int) : Option ((List ByteArray) × Bool) :=
  if decide (i_2 < (wv.Conds.length : Int)) then
    (gt wv.Conds i_2).bind fun x_3 =>
    if roomOK (l_4.length + 1) 16 = true then
    L4 (l_4 ++ [x_3.Name]) (w64 (i_2 + 1))
    else none
  else
  r06_na_J6 wv l_4
def r06_na_L4r (wv : SWorld) : Nat → (List ByteArray) → Int → Option ((List ByteArray) × Bool)
  | 0, _, _ => none
  | n + 1, l_4, i_2 => r06_na_L4 wv (r06_na_L4r wv n) l_4 i_2
def r06_na_J5 (wv : SWorld) (l_3 : List ByteArray) : Option ((List ByteArray) × Bool) :=
  r06_na_L4r wv big l_3 0
def r06_na_L3 (wv : SWorld) (L3 : (List ByteArray) → Int → Option ((List ByteArray) × Bool)) (l_2 : List ByteArray) (i_1 : Int) : Option ((List ByteArray) × Bool) :=
  if decide (i_1 < (wv.Locks.length : Int)) then
    (gt wv.Locks i_1).bind fun x_2 =>
    if roomOK (l_2.length + 1) 16 = true then
    L3 (l_2 ++ [x_2.Name]) (w64 (i_1 + 1))
    else none
  else
  r06_na_J5 wv l_2
def r06_na_L3r (wv : SWorld) : Nat → (List ByteArray) → Int → Option ((List ByteArray) × Bool)
  | 0, _, _ => none
  | n + 1, l_2, i_1 => r06_na_L3 wv (r06_na_L3r wv n) l_2 i_1
def r06_na_J4 (wv : SWorld) (l_1 : List ByteArray) : Option ((List ByteArray) × Bool) :=
  r06_na_L3r wv big l_1 0
def r06_na_J3 (L1 : (List ByteArray) → Int → Option ((List ByteArray) × Bool)) (i : Int) (l : List ByteArray) (x : SCell) : Option ((List ByteArray) × Bool) :=
  L1 (l ++ [x.Name]) (w64 (i + x.Size))
def r06_na_J2 (L2 : Int → Option ((List ByteArray) × Bool)) (k : Int) (t93v : Bool) : Option ((List ByteArray) × Bool) :=
  if t93v then
    some ([], false)
  else
  L2 (w64 (k + 1))
def r06_na_L2 (L1 : (List ByteArray) → Int → Option ((List ByteArray) × Bool)) (i : Int) (l : List ByteArray) (wv : SWorld) (x : SCell) (L2 : Int → Option ((List ByteArray) × Bool)) (k : Int) : Option ((List ByteArray) × Bool) :=
  if decide (k < x.Size) then
    (gt wv.Cells (w64 (i + k))).bind fun x_1 =>
    if x_1.Index != k then
      r06_na_J2 L2 k true
    else
    if !(x_1.Name.toList == x.Name.toList) then
      r06_na_J2 L2 k true
    else
    if x_1.Size != x.Size then
      r06_na_J2 L2 k true
    else
    if x_1.Init != x.Init then
      r06_na_J2 L2 k true
    else
    r06_na_J2 L2 k x_1.Volatile
  else
  r06_na_J3 L1 i l x
def r06_na_L2r (L1 : (List ByteArray) → Int → Option ((List ByteArray) × Bool)) (i : Int) (l : List ByteArray) (wv : SWorld) (x : SCell) : Nat → Int → Option ((List ByteArray) × Bool)
  | 0, _ => none
  | n + 1, k => r06_na_L2 L1 i l wv x (r06_na_L2r L1 i l wv x n) k
def r06_na_J1 (L1 : (List ByteArray) → Int → Option ((List ByteArray) × Bool)) (i : Int) (l : List ByteArray) (wv : SWorld) (x : SCell) (t51v : Bool) : Option ((List ByteArray) × Bool) :=
  if t51v then
    some ([], false)
  else
  r06_na_L2r L1 i l wv x big 0
def r06_na_L1 (wv : SWorld) (L1 : (List ByteArray) → Int → Option ((List ByteArray) × Bool)) (l : List ByteArray) (i : Int) : Option ((List ByteArray) × Bool) :=
  if decide (i < (wv.Cells.length : Int)) then
    (gt wv.Cells i).bind fun x =>
    if roomOK (l.length + 1) 16 = true then
    if x.Size == 0 then
      if x.Index != 0 then
        some ([], false)
      else
      L1 (l ++ [x.Name]) (w64 (i + 1))
    else
    if decide (x.Size < 1) then
      r06_na_J1 L1 i l wv x true
    else
    if decide (x.Size > 4) then
      r06_na_J1 L1 i l wv x true
    else
    r06_na_J1 L1 i l wv x (decide (x.Size > (w64 ((wv.Cells.length : Int) - i))))
    else none
  else
  r06_na_J4 wv l
def r06_na_L1r (wv : SWorld) : Nat → (List ByteArray) → Int → Option ((List ByteArray) × Bool)
  | 0, _, _ => none
  | n + 1, l, i => r06_na_L1 wv (r06_na_L1r wv n) l i
def r06_na (wv : SWorld) : Option ((List ByteArray) × Bool) :=
  r06_na_L1r wv big [] 0
theorem r06_na_ok {wv : SWorld} {r : (List ByteArray) × Bool} (h : r06_na wv = some r) : Says Tryd.prog 28 [.agg (eWorld wv)] (.tup [.own false 1 (r.1.map eS), sb r.2]) := by
 refine says_of mix Tryd.func28 chk28 (of_decide_eq_true (by kernel_rfl)) rfl ?_
 simp only [f28, f28c, f28g, f28r]
 try simp +decide only [go_sem]
 refine cutH (fun τ => ∃ l_1 : List ByteArray, (τ 1 = bA 6 (eWorld wv) ∧ τ 4 = .own false 1 (l_1.map eS)) ∧ r06_na_J4 wv l_1 = some r) fun M4 m4 => ⟨?_, ?_⟩
 · try simp +decide only [go_sem]
   refine loopH (fun n τ => ∃ l : List ByteArray, ∃ i : Int, (τ 1 = bA 6 (eWorld wv) ∧ τ 4 = .own false 1 (l.map eS) ∧ τ 5 = si i) ∧ r06_na_L1r wv n l i = some r) ⟨[], 0, ?_, h⟩ fun n1 τ1 N1 => ?_
   · simp +decide only [go_sem]
   rintro ⟨l, i, s1, h⟩ k1
   cases n1 with
   | zero => exact no_none h
   | succ n1 =>
    rw [r06_na_L1r] at h; generalize q1 : r06_na_L1r wv n1 = L1 at h
    try simp +decide only [go_sem, s1]
    refine cI h (fun e1 h => ?_) fun e1 h => ?_
    · obtain ⟨x, g1, h⟩ := gB h
      obtain ⟨g2, h⟩ := cS h
      try simp +decide only [go_sem, s1, e1, g1, g2]
      refine cI h (fun e2 h => ?_) fun e2 h => ?_
      · try simp +decide only [go_sem, s1, e1, g1, g2, e2]
        refine cI h (fun e3 h => ?_) fun e3 h => ?_
        · obtain rfl := Option.some.inj h
          simp +decide only [go_sem, s1, e1, g1, g2, e2, e3]
        try simp +decide only [go_sem, s1, e1, g1, g2, e2, e3]
        refine k1 n1 (Nat.lt_succ_self _) _ ⟨l ++ [x.Name], w64 (i + 1), ?_, q1.symm ▸ h⟩
        simp +decide only [go_sem, s1, e1, g1, g2, e2, e3]
      try simp +decide only [go_sem, s1, e1, g1, g2, e2]
      refine cutH (fun τ => ∃ t51v : Bool, (τ 1 = bA 6 (eWorld wv) ∧ τ 4 = .own false 1 ((l ++ [x.Name]).map eS) ∧ τ 5 = si i ∧ τ 6 = bA 5 (eCell x) ∧ τ 51 = sb t51v) ∧ r06_na_J1 L1 i l wv x t51v = some r) fun M1 m1 => ⟨?_, ?_⟩
      · try simp +decide only [go_sem, s1, e1, g1, g2, e2]
        refine gI h (fun e4 h => ?_) fun e4 h => ?_
        · try simp +decide only [go_sem, s1, e1, g1, g2, e2, e4]
          refine m1 _ ⟨true, ?_, h⟩
          simp +decide only [go_sem, s1, e1, g1, g2, e2, e4]
        try simp +decide only [go_sem, s1, e1, g1, g2, e2, e4]
        refine gI h (fun e5 h => ?_) fun e5 h => ?_
        · try simp +decide only [go_sem, s1, e1, g1, g2, e2, e4, e5]
          refine m1 _ ⟨true, ?_, h⟩
          simp +decide only [go_sem, s1, e1, g1, g2, e2, e4, e5]
        try simp +decide only [go_sem, s1, e1, g1, g2, e2, e4, e5]
        refine m1 _ ⟨decide (x.Size > (w64 ((wv.Cells.length : Int) - i))), ?_, h⟩
        simp +decide only [go_sem, s1, e1, g1, g2, e2, e4, e5]
      rintro τ1 ⟨t51v, s1, h⟩
      try simp +decide only [go_sem, s1]
      refine cI h (fun e6 h => ?_) fun e6 h => ?_
      · obtain rfl := Option.some.inj h
        simp +decide only [go_sem, s1, e6]
      try simp +decide only [go_sem, s1, e6]
      refine cutH (fun τ => (τ 1 = bA 6 (eWorld wv) ∧ τ 4 = .own false 1 ((l ++ [x.Name]).map eS) ∧ τ 5 = si i ∧ τ 6 = bA 5 (eCell x)) ∧ r06_na_J3 L1 i l x = some r) fun M3 m3 => ⟨?_, ?_⟩
      · try simp +decide only [go_sem, s1, e6]
        refine loopH (fun n τ => ∃ k : Int, (τ 1 = bA 6 (eWorld wv) ∧ τ 4 = .own false 1 ((l ++ [x.Name]).map eS) ∧ τ 5 = si i ∧ τ 6 = bA 5 (eCell x) ∧ τ 7 = si k) ∧ r06_na_L2r L1 i l wv x n k = some r) ⟨0, ?_, h⟩ fun n2 τ2 N2 => ?_
        · simp +decide only [go_sem, s1, e6]
        rintro ⟨k, s2, h⟩ k2
        cases n2 with
        | zero => exact no_none h
        | succ n2 =>
         rw [r06_na_L2r] at h; generalize q2 : r06_na_L2r L1 i l wv x n2 = L2 at h
         try simp +decide only [go_sem, s2]
         refine cI h (fun e7 h => ?_) fun e7 h => ?_
         · obtain ⟨x_1, g3, h⟩ := gB h
           try simp +decide only [go_sem, s2, e7, g3]
           refine cutH (fun τ => ∃ t93v : Bool, (τ 1 = bA 6 (eWorld wv) ∧ τ 4 = .own false 1 ((l ++ [x.Name]).map eS) ∧ τ 5 = si i ∧ τ 6 = bA 5 (eCell x) ∧ τ 7 = si k ∧ τ 93 = sb t93v) ∧ r06_na_J2 L2 k t93v = some r) fun M2 m2 => ⟨?_, ?_⟩
           · try simp +decide only [go_sem, s2, e7, g3]
             refine gI h (fun e8 h => ?_) fun e8 h => ?_
             · try simp +decide only [go_sem, s2, e7, g3, e8]
               refine m2 _ ⟨true, ?_, h⟩
               simp +decide only [go_sem, s2, e7, g3, e8]
             try simp +decide only [go_sem, s2, e7, g3, e8]
             refine gI h (fun e9 h => ?_) fun e9 h => ?_
             · try simp +decide only [go_sem, s2, e7, g3, e8, e9]
               refine m2 _ ⟨true, ?_, h⟩
               simp +decide only [go_sem, s2, e7, g3, e8, e9]
             try simp +decide only [go_sem, s2, e7, g3, e8, e9]
             refine gI h (fun e10 h => ?_) fun e10 h => ?_
             · try simp +decide only [go_sem, s2, e7, g3, e8, e9, e10]
               refine m2 _ ⟨true, ?_, h⟩
               simp +decide only [go_sem, s2, e7, g3, e8, e9, e10]
             try simp +decide only [go_sem, s2, e7, g3, e8, e9, e10]
             refine gI h (fun e11 h => ?_) fun e11 h => ?_
             · try simp +decide only [go_sem, s2, e7, g3, e8, e9, e10, e11]
               refine m2 _ ⟨true, ?_, h⟩
               simp +decide only [go_sem, s2, e7, g3, e8, e9, e10, e11]
             try simp +decide only [go_sem, s2, e7, g3, e8, e9, e10, e11]
             refine m2 _ ⟨x_1.Volatile, ?_, h⟩
             simp +decide only [go_sem, s2, e7, g3, e8, e9, e10, e11]
           rintro τ2 ⟨t93v, s2, h⟩
           try simp +decide only [go_sem, s2]
           refine cI h (fun e12 h => ?_) fun e12 h => ?_
           · obtain rfl := Option.some.inj h
             simp +decide only [go_sem, s2, e12]
           try simp +decide only [go_sem, s2, e12]
           refine k2 n2 (Nat.lt_succ_self _) _ ⟨w64 (k + 1), ?_, q2.symm ▸ h⟩
           simp +decide only [go_sem, s2, e12]
         try simp +decide only [go_sem, s2, e7]
         refine m3 _ ⟨?_, h⟩
         simp +decide only [go_sem, s2, e7]
      rintro τ3 ⟨s3, h⟩
      try simp +decide only [go_sem, s3]
      refine k1 n1 (Nat.lt_succ_self _) _ ⟨l ++ [x.Name], w64 (i + x.Size), ?_, q1.symm ▸ h⟩
      simp +decide only [go_sem, s3]
    try simp +decide only [go_sem, s1, e1]
    refine m4 _ ⟨l, ?_, h⟩
    simp +decide only [go_sem, s1, e1]
 rintro τ4 ⟨l_1, s4, h⟩
 try simp +decide only [go_sem, s4]
 refine cutH (fun τ => ∃ l_3 : List ByteArray, (τ 1 = bA 6 (eWorld wv) ∧ τ 4 = .own false 1 (l_3.map eS)) ∧ r06_na_J5 wv l_3 = some r) fun M5 m5 => ⟨?_, ?_⟩
 · try simp +decide only [go_sem, s4]
   refine loopH (fun n τ => ∃ l_2 : List ByteArray, ∃ i_1 : Int, (τ 1 = bA 6 (eWorld wv) ∧ τ 4 = .own false 1 (l_2.map eS) ∧ τ 9 = si i_1) ∧ r06_na_L3r wv n l_2 i_1 = some r) ⟨l_1, 0, ?_, h⟩ fun n3 τ3 N3 => ?_
   · simp +decide only [go_sem, s4]
   rintro ⟨l_2, i_1, s3, h⟩ k3
   cases n3 with
   | zero => exact no_none h
   | succ n3 =>
    rw [r06_na_L3r] at h; generalize q3 : r06_na_L3r wv n3 = L3 at h
    try simp +decide only [go_sem, s3]
    refine cI h (fun e13 h => ?_) fun e13 h => ?_
    · obtain ⟨x_2, g4, h⟩ := gB h
      obtain ⟨g5, h⟩ := cS h
      try simp +decide only [go_sem, s3, e13, g4, g5]
      refine k3 n3 (Nat.lt_succ_self _) _ ⟨l_2 ++ [x_2.Name], w64 (i_1 + 1), ?_, q3.symm ▸ h⟩
      simp +decide only [go_sem, s3, e13, g4, g5]
    try simp +decide only [go_sem, s3, e13]
    refine m5 _ ⟨l_2, ?_, h⟩
    simp +decide only [go_sem, s3, e13]
 rintro τ5 ⟨l_3, s5, h⟩
 try simp +decide only [go_sem, s5]
 refine cutH (fun τ => ∃ l_5 : List ByteArray, (τ 1 = bA 6 (eWorld wv) ∧ τ 4 = .own false 1 (l_5.map eS)) ∧ r06_na_J6 wv l_5 = some r) fun M6 m6 => ⟨?_, ?_⟩
 · try simp +decide only [go_sem, s5]
   refine loopH (fun n τ => ∃ l_4 : List ByteArray, ∃ i_2 : Int, (τ 1 = bA 6 (eWorld wv) ∧ τ 4 = .own false 1 (l_4.map eS) ∧ τ 10 = si i_2) ∧ r06_na_L4r wv n l_4 i_2 = some r) ⟨l_3, 0, ?_, h⟩ fun n4 τ4 N4 => ?_
   · simp +decide only [go_sem, s5]
   rintro ⟨l_4, i_2, s4, h⟩ k4
   cases n4 with
   | zero => exact no_none h
   | succ n4 =>
    rw [r06_na_L4r] at h; generalize q4 : r06_na_L4r wv n4 = L4 at h
    try simp +decide only [go_sem, s4]
    refine cI h (fun e14 h => ?_) fun e14 h => ?_
    · obtain ⟨x_3, g6, h⟩ := gB h
      obtain ⟨g7, h⟩ := cS h
      try simp +decide only [go_sem, s4, e14, g6, g7]
      refine k4 n4 (Nat.lt_succ_self _) _ ⟨l_4 ++ [x_3.Name], w64 (i_2 + 1), ?_, q4.symm ▸ h⟩
      simp +decide only [go_sem, s4, e14, g6, g7]
    try simp +decide only [go_sem, s4, e14]
    refine m6 _ ⟨l_4, ?_, h⟩
    simp +decide only [go_sem, s4, e14]
 rintro τ6 ⟨l_5, s6, h⟩
 obtain ⟨g8, h⟩ := cS h
 obtain ⟨g9, h⟩ := cS h
 obtain rfl := Option.some.inj h
 simp +decide only [go_sem, s6, g8, g9]
def f51c : IC := (sR [iB 2 false]
(cutS (.reg [iC 3 0, i0 4 (.bin .geq (.t 3) (.c (.sc (.int .u8 97)))), iC 5 4, j0 6 (.cp (.t 0)) 5 true, j0 7 (.bin .leq (.t 6) (.c (.sc (.int .u8 122)))) 5 true, i0 8 (.pick (.t 5) (.t 7) (.c (.sc (.bool false)))), iC 9 8, j0 10 (.cp (.t 0)) 9 false, j0 11 (.bin .geq (.t 10) (.c (.sc (.int .u8 65)))) 9 false, j0 12 (.cp (.t 11)) 9 false, j0 13 (.cp (.t 0)) 12 true, j0 14 (.bin .leq (.t 13) (.c (.sc (.int .u8 90)))) 12 true, j0 15 (.pick (.t 12) (.t 14) (.c (.sc (.bool false)))) 9 false, i0 16 (.pick (.t 9) (.c (.sc (.bool true))) (.t 15)), iM 2 16])
.ret))
def f51g : Gi := ⟨[]⟩
def f51r : List RV := [.tmp 2]
def f51 : FI := ⟨f51c, f51g, f51r⟩
theorem chk51 : chkF Tryd.prog Tryd.f51 f51 = true := by kernel_rfl
def r01_Le_J1 (t2v : Bool) : Option Bool :=
  some t2v
def r01_Le (c : Int) : Option Bool :=
  if decide (c ≥ 97) then
    if decide (c ≤ 122) then
      r01_Le_J1 true
    else
    if decide (c ≥ 65) then
      r01_Le_J1 (decide (c ≤ 90))
    else
    r01_Le_J1 false
  else
  if decide (c ≥ 65) then
    r01_Le_J1 (decide (c ≤ 90))
  else
  r01_Le_J1 false
theorem r01_Le_ok {c : Int} {r : Bool} (h : r01_Le c = some r) : Says Tryd.prog 51 [.sc (.int .u8 c)] (sb r) := by
 refine says_of mix Tryd.func51 chk51 (of_decide_eq_true (by kernel_rfl)) rfl ?_
 simp only [f51, f51c, f51g, f51r]
 try simp +decide only [go_sem]
 refine cutH (fun τ => ∃ t2v : Bool, (τ 2 = sb t2v) ∧ r01_Le_J1 t2v = some r) fun M1 m1 => ⟨?_, ?_⟩
 · try simp +decide only [go_sem]
   refine gI h (fun e1 h => ?_) fun e1 h => ?_
   · try simp +decide only [go_sem, e1]
     refine gI h (fun e2 h => ?_) fun e2 h => ?_
     · try simp +decide only [go_sem, e1, e2]
       refine m1 _ ⟨true, ?_, h⟩
       simp +decide only [go_sem, e1, e2]
     try simp +decide only [go_sem, e1, e2]
     refine gI h (fun e3 h => ?_) fun e3 h => ?_
     · try simp +decide only [go_sem, e1, e2, e3]
       refine m1 _ ⟨decide (c ≤ 90), ?_, h⟩
       simp +decide only [go_sem, e1, e2, e3]
     try simp +decide only [go_sem, e1, e2, e3]
     refine m1 _ ⟨false, ?_, h⟩
     simp +decide only [go_sem, e1, e2, e3]
   try simp +decide only [go_sem, e1]
   refine gI h (fun e4 h => ?_) fun e4 h => ?_
   · try simp +decide only [go_sem, e1, e4]
     refine m1 _ ⟨decide (c ≤ 90), ?_, h⟩
     simp +decide only [go_sem, e1, e4]
   try simp +decide only [go_sem, e1, e4]
   refine m1 _ ⟨false, ?_, h⟩
   simp +decide only [go_sem, e1, e4]
 rintro τ1 ⟨t2v, s1, h⟩
 obtain rfl := Option.some.inj h
 simp +decide only [go_sem, s1]
def f70c : IC := (sR [i0 0 (.mv (.c (.own false 1 [])))]
(sR [i0 1 (.bsl 1 [[.sc (.string ⟨#[]⟩)], [.sc (.string ⟨#[]⟩)], [.sc (.string ⟨#[]⟩)], [.sc (.string ⟨#[]⟩)], [.sc (.string ⟨#[]⟩)], [.sc (.string ⟨#[]⟩)], [.sc (.string ⟨#[]⟩)], [.sc (.string ⟨#[]⟩)], [.sc (.string ⟨#[]⟩)], [.sc (.string ⟨#[]⟩)], [.sc (.string ⟨#[]⟩)], [.sc (.string ⟨#[]⟩)], [.sc (.string ⟨#[]⟩)], [.sc (.string ⟨#[]⟩)], [.sc (.string ⟨#[]⟩)], [.sc (.string ⟨#[]⟩)], [.sc (.string ⟨#[]⟩)], [.sc (.string ⟨#[]⟩)], [.sc (.string ⟨#[]⟩)], [.sc (.string ⟨#[]⟩)], [.sc (.string ⟨#[]⟩)], [.sc (.string ⟨#[]⟩)]] [(0, .c (.sc (.string ⟨#[118, 97, 114]⟩))), (1, .c (.sc (.string ⟨#[118, 111, 108, 97, 116, 105, 108, 101]⟩))), (2, .c (.sc (.string ⟨#[109, 117, 116, 101, 120]⟩))), (3, .c (.sc (.string ⟨#[114, 119, 108, 111, 99, 107]⟩))), (4, .c (.sc (.string ⟨#[99, 111, 110, 100]⟩))), (5, .c (.sc (.string ⟨#[102, 117, 116, 117, 114, 101]⟩))), (6, .c (.sc (.string ⟨#[116, 104, 114, 101, 97, 100]⟩))), (7, .c (.sc (.string ⟨#[105, 102]⟩))), (8, .c (.sc (.string ⟨#[101, 108, 115, 101]⟩))), (9, .c (.sc (.string ⟨#[119, 104, 105, 108, 101]⟩))), (10, .c (.sc (.string ⟨#[108, 111, 99, 107]⟩))), (11, .c (.sc (.string ⟨#[114, 101, 97, 100]⟩))), (12, .c (.sc (.string ⟨#[119, 114, 105, 116, 101]⟩))), (13, .c (.sc (.string ⟨#[116, 114, 97, 110, 115, 97, 99, 116, 105, 111, 110]⟩))), (14, .c (.sc (.string ⟨#[97, 116, 111, 109, 105, 99]⟩))), (15, .c (.sc (.string ⟨#[119, 97, 105, 116]⟩))), (16, .c (.sc (.string ⟨#[110, 111, 116, 105, 102, 121]⟩))), (17, .c (.sc (.string ⟨#[110, 111, 116, 105, 102, 121, 97, 108, 108]⟩))), (18, .c (.sc (.string ⟨#[115, 112, 97, 119, 110]⟩))), (19, .c (.sc (.string ⟨#[106, 111, 105, 110]⟩))), (20, .c (.sc (.string ⟨#[115, 101, 116]⟩))), (21, .c (.sc (.string ⟨#[103, 101, 116]⟩)))]), iM 0 1]
.ret))
def f70g : Gi := ⟨[]⟩
def f70r : List RV := [.tmp 0]
def f70 : FI := ⟨f70c, f70g, f70r⟩
theorem chk70 : chkF Tryd.prog Tryd.f70 f70 = true := by kernel_rfl
def r01_Ke : Option (List ByteArray) :=
  some [(⟨#[118, 97, 114]⟩ : ByteArray), (⟨#[118, 111, 108, 97, 116, 105, 108, 101]⟩ : ByteArray), (⟨#[109, 117, 116, 101, 120]⟩ : ByteArray), (⟨#[114, 119, 108, 111, 99, 107]⟩ : ByteArray), (⟨#[99, 111, 110, 100]⟩ : ByteArray), (⟨#[102, 117, 116, 117, 114, 101]⟩ : ByteArray), (⟨#[116, 104, 114, 101, 97, 100]⟩ : ByteArray), (⟨#[105, 102]⟩ : ByteArray), (⟨#[101, 108, 115, 101]⟩ : ByteArray), (⟨#[119, 104, 105, 108, 101]⟩ : ByteArray), (⟨#[108, 111, 99, 107]⟩ : ByteArray), (⟨#[114, 101, 97, 100]⟩ : ByteArray), (⟨#[119, 114, 105, 116, 101]⟩ : ByteArray), (⟨#[116, 114, 97, 110, 115, 97, 99, 116, 105, 111, 110]⟩ : ByteArray), (⟨#[97, 116, 111, 109, 105, 99]⟩ : ByteArray), (⟨#[119, 97, 105, 116]⟩ : ByteArray), (⟨#[110, 111, 116, 105, 102, 121]⟩ : ByteArray), (⟨#[110, 111, 116, 105, 102, 121, 97, 108, 108]⟩ : ByteArray), (⟨#[115, 112, 97, 119, 110]⟩ : ByteArray), (⟨#[106, 111, 105, 110]⟩ : ByteArray), (⟨#[115, 101, 116]⟩ : ByteArray), (⟨#[103, 101, 116]⟩ : ByteArray)]
theorem r01_Ke_ok {r : List ByteArray} (h : r01_Ke = some r) : Says Tryd.prog 70 [] (.own false 1 (r.map eS)) := by
 refine says_of mix Tryd.func70 chk70 (of_decide_eq_true (by kernel_rfl)) rfl ?_
 simp only [f70, f70c, f70g, f70r]
 obtain rfl := Option.some.inj h
 simp +decide only [go_sem]
end Go.Abs
