/- Typed programs: interleaveref07.Union, interleaveref08.without, interleaveref08.Apply, interleaveref16.Step. -/
import Derived.Test.YteobdlimfbjjnaaDoorTE
import Derived.Test.YteobdlimfbjjnaaDoorTF13
import Derived.Test.YteobdlimfbjjnaaDoorTF12
import Derived.Test.YteobdlimfbjjnaaDoorTF11
set_option linter.unusedSimpArgs false
namespace Go.Abs
open Go.Proofs
set_option maxRecDepth 100000
set_option maxHeartbeats 4000000
def f60c : IC := (sR [i0 4 (.mv (.c (.own false 1 [])))]
(sR [⟨some ⟨5, [14, 26, 32], []⟩, .mv (.c (.own false 1 [])), none⟩]
(cutS (sR [iK 6 0]
(.block 0 (.loop (.seq (sR [iC 8 6, iC 9 0, i0 10 (.len (.t 9)), iO 11 .lss 8 10]
(.cond (.t 11) .skip (.exit 0)))
(.seq (.block 1 (.reg [i1 14 5 (.cp (.t 5)), iC 15 0, iC 16 6, iI 17 1 15 16, iL 18 17, i0 19 (.call 72 [.t 14, .t 18] 3), ⟨some ⟨5, [14, 26, 32], []⟩, .mv (.t 19), none⟩]))
(.reg [iC 12 6, iP 13 .add 12 1, iM 6 13]))))))
(cutS (sR [iK 7 0]
(.block 2 (.loop (.seq (sR [iC 20 7, iC 21 1, i0 22 (.len (.t 21)), iO 23 .lss 20 22]
(.cond (.t 23) .skip (.exit 2)))
(.seq (.block 3 (.reg [i1 26 5 (.cp (.t 5)), iC 27 1, iC 28 7, iI 29 1 27 28, iL 30 29, i0 31 (.call 72 [.t 26, .t 30] 3), ⟨some ⟨5, [14, 26, 32], []⟩, .mv (.t 31), none⟩]))
(.reg [iC 24 7, iP 25 .add 24 1, iM 7 25]))))))
(sR [i1 32 5 (.cp (.t 5)), iM 4 32]
.ret)))))
def f60g : Gi := ⟨[(14, [5]), (26, [5]), (32, [5])]⟩
def f60r : List RV := [.tmp 4]
def f60 : FI := ⟨f60c, f60g, f60r⟩
theorem chk60 : chkF Tryd.prog Tryd.f60 f60 = true := by kernel_rfl
def r07_Un_J2 (out_3 : List Int) : Option (List Int) :=
  some out_3
def r07_Un_L2 (b : List Int) (L2 : (List Int) → Int → Option (List Int)) (out_2 : List Int) (i_1 : Int) : Option (List Int) :=
  if decide (i_1 < (b.length : Int)) then
    (gt b i_1).bind fun x_1 =>
    (r07_Pu out_2 x_1).bind fun v_1 =>
    L2 v_1 (w64 (i_1 + 1))
  else
  r07_Un_J2 out_2
def r07_Un_L2r (b : List Int) : Nat → (List Int) → Int → Option (List Int)
  | 0, _, _ => none
  | n + 1, out_2, i_1 => r07_Un_L2 b (r07_Un_L2r b n) out_2 i_1
def r07_Un_J1 (b : List Int) (out_1 : List Int) : Option (List Int) :=
  r07_Un_L2r b big out_1 0
def r07_Un_L1 (a : List Int) (b : List Int) (L1 : (List Int) → Int → Option (List Int)) (out : List Int) (i : Int) : Option (List Int) :=
  if decide (i < (a.length : Int)) then
    (gt a i).bind fun x =>
    (r07_Pu out x).bind fun v =>
    L1 v (w64 (i + 1))
  else
  r07_Un_J1 b out
def r07_Un_L1r (a : List Int) (b : List Int) : Nat → (List Int) → Int → Option (List Int)
  | 0, _, _ => none
  | n + 1, out, i => r07_Un_L1 a b (r07_Un_L1r a b n) out i
def r07_Un (a : List Int) (b : List Int) : Option (List Int) :=
  r07_Un_L1r a b big [] 0
theorem r07_Un_ok {a : List Int} {b : List Int} {r : List Int} (h : r07_Un a b = some r) : Says Tryd.prog 60 [.sl false 1 (a.map eI), .sl false 1 (b.map eI)] (.own false 1 (r.map eI)) := by
 refine says_of mix Tryd.func60 chk60 (of_decide_eq_true (by kernel_rfl)) rfl ?_
 simp only [f60, f60c, f60g, f60r]
 try simp +decide only [go_sem]
 refine cutH (fun τ => ∃ out_1 : List Int, (τ 1 = .sl false 1 (b.map eI) ∧ τ 5 = .own false 1 (out_1.map eI)) ∧ r07_Un_J1 b out_1 = some r) fun M1 m1 => ⟨?_, ?_⟩
 · try simp +decide only [go_sem]
   refine loopH (fun n τ => ∃ out : List Int, ∃ i : Int, (τ 0 = .sl false 1 (a.map eI) ∧ τ 1 = .sl false 1 (b.map eI) ∧ τ 5 = .own false 1 (out.map eI) ∧ τ 6 = si i) ∧ r07_Un_L1r a b n out i = some r) ⟨[], 0, ?_, h⟩ fun n1 τ1 N1 => ?_
   · simp +decide only [go_sem]
   rintro ⟨out, i, s1, h⟩ k1
   cases n1 with
   | zero => exact no_none h
   | succ n1 =>
    rw [r07_Un_L1r] at h; generalize q1 : r07_Un_L1r a b n1 = L1 at h
    try simp +decide only [go_sem, s1]
    refine cI h (fun e1 h => ?_) fun e1 h => ?_
    · obtain ⟨x, g1, h⟩ := gB h
      obtain ⟨v, g2, h⟩ := bS h
      try simp +decide only [go_sem, s1, e1, g1]
      refine ⟨_, r07_Pu_ok g2, ?_⟩
      try simp +decide only [go_sem, s1, e1, g1]
      refine k1 n1 (Nat.lt_succ_self _) _ ⟨v, w64 (i + 1), ?_, q1.symm ▸ h⟩
      simp +decide only [go_sem, s1, e1, g1]
    try simp +decide only [go_sem, s1, e1]
    refine m1 _ ⟨out, ?_, h⟩
    simp +decide only [go_sem, s1, e1]
 rintro τ1 ⟨out_1, s1, h⟩
 try simp +decide only [go_sem, s1]
 refine cutH (fun τ => ∃ out_3 : List Int, (τ 5 = .own false 1 (out_3.map eI)) ∧ r07_Un_J2 out_3 = some r) fun M2 m2 => ⟨?_, ?_⟩
 · try simp +decide only [go_sem, s1]
   refine loopH (fun n τ => ∃ out_2 : List Int, ∃ i_1 : Int, (τ 1 = .sl false 1 (b.map eI) ∧ τ 5 = .own false 1 (out_2.map eI) ∧ τ 7 = si i_1) ∧ r07_Un_L2r b n out_2 i_1 = some r) ⟨out_1, 0, ?_, h⟩ fun n2 τ2 N2 => ?_
   · simp +decide only [go_sem, s1]
   rintro ⟨out_2, i_1, s2, h⟩ k2
   cases n2 with
   | zero => exact no_none h
   | succ n2 =>
    rw [r07_Un_L2r] at h; generalize q2 : r07_Un_L2r b n2 = L2 at h
    try simp +decide only [go_sem, s2]
    refine cI h (fun e2 h => ?_) fun e2 h => ?_
    · obtain ⟨x_1, g3, h⟩ := gB h
      obtain ⟨v_1, g4, h⟩ := bS h
      try simp +decide only [go_sem, s2, e2, g3]
      refine ⟨_, r07_Pu_ok g4, ?_⟩
      try simp +decide only [go_sem, s2, e2, g3]
      refine k2 n2 (Nat.lt_succ_self _) _ ⟨v_1, w64 (i_1 + 1), ?_, q2.symm ▸ h⟩
      simp +decide only [go_sem, s2, e2, g3]
    try simp +decide only [go_sem, s2, e2]
    refine m2 _ ⟨out_2, ?_, h⟩
    simp +decide only [go_sem, s2, e2]
 rintro τ2 ⟨out_3, s2, h⟩
 obtain rfl := Option.some.inj h
 simp +decide only [go_sem, s2]
def f61c : IC := (sR [i0 4 (.mv (.c (.own false 1 [])))]
(sR [⟨some ⟨5, [19, 26], []⟩, .mv (.c (.own false 1 [])), none⟩]
(cutS (sR [iK 6 0]
(.block 0 (.loop (.seq (sR [iC 7 6, iC 8 0, i0 9 (.len (.t 8)), iO 10 .lss 7 9]
(.cond (.t 10) .skip (.exit 0)))
(cutS (.block 1 (sR [iC 13 0, iC 14 6, iI 15 1 13 14, iL 16 15, iC 17 1, iO 18 .neq 16 17]
(.cond (.t 18) (.reg [i1 19 5 (.cp (.t 5)), iC 20 0, iC 21 6, iI 22 1 20 21, iL 23 22, i0 24 (.bsl 1 [[.sc (.int .i64 0)]] [(0, .t 23)]), i0 25 (.app 1 8 (.t 19) (.t 24)), ⟨some ⟨5, [19, 26], []⟩, .mv (.t 25), none⟩]) .skip)))
(.reg [iC 11 6, iP 12 .add 11 1, iM 6 12]))))))
(sR [i1 26 5 (.cp (.t 5)), iM 4 26]
.ret))))
def f61g : Gi := ⟨[(19, [5]), (26, [5])]⟩
def f61r : List RV := [.tmp 4]
def f61 : FI := ⟨f61c, f61g, f61r⟩
theorem chk61 : chkF Tryd.prog Tryd.f61 f61 = true := by kernel_rfl
def r08_wi_J2 (out_2 : List Int) : Option (List Int) :=
  some out_2
def r08_wi_J1 (L1 : (List Int) → Int → Option (List Int)) (i : Int) (out_1 : List Int) : Option (List Int) :=
  L1 out_1 (w64 (i + 1))
def r08_wi_L1 (l : List Int) (nv : Int) (L1 : (List Int) → Int → Option (List Int)) (out : List Int) (i : Int) : Option (List Int) :=
  if decide (i < (l.length : Int)) then
    (gt l i).bind fun x =>
    if x != nv then
      if roomOK (out.length + 1) 8 = true then
      r08_wi_J1 L1 i (out ++ [x])
      else none
    else
    r08_wi_J1 L1 i out
  else
  r08_wi_J2 out
def r08_wi_L1r (l : List Int) (nv : Int) : Nat → (List Int) → Int → Option (List Int)
  | 0, _, _ => none
  | n + 1, out, i => r08_wi_L1 l nv (r08_wi_L1r l nv n) out i
def r08_wi (l : List Int) (nv : Int) : Option (List Int) :=
  r08_wi_L1r l nv big [] 0
theorem r08_wi_ok {l : List Int} {nv : Int} {r : List Int} (h : r08_wi l nv = some r) : Says Tryd.prog 61 [.sl false 1 (l.map eI), si nv] (.own false 1 (r.map eI)) := by
 refine says_of mix Tryd.func61 chk61 (of_decide_eq_true (by kernel_rfl)) rfl ?_
 simp only [f61, f61c, f61g, f61r]
 try simp +decide only [go_sem]
 refine cutH (fun τ => ∃ out_2 : List Int, (τ 5 = .own false 1 (out_2.map eI)) ∧ r08_wi_J2 out_2 = some r) fun M2 m2 => ⟨?_, ?_⟩
 · try simp +decide only [go_sem]
   refine loopH (fun n τ => ∃ out : List Int, ∃ i : Int, (τ 0 = .sl false 1 (l.map eI) ∧ τ 1 = si nv ∧ τ 5 = .own false 1 (out.map eI) ∧ τ 6 = si i) ∧ r08_wi_L1r l nv n out i = some r) ⟨[], 0, ?_, h⟩ fun n1 τ1 N1 => ?_
   · simp +decide only [go_sem]
   rintro ⟨out, i, s1, h⟩ k1
   cases n1 with
   | zero => exact no_none h
   | succ n1 =>
    rw [r08_wi_L1r] at h; generalize q1 : r08_wi_L1r l nv n1 = L1 at h
    try simp +decide only [go_sem, s1]
    refine cI h (fun e1 h => ?_) fun e1 h => ?_
    · try simp +decide only [go_sem, s1, e1]
      refine cutH (fun τ => ∃ out_1 : List Int, (τ 0 = .sl false 1 (l.map eI) ∧ τ 1 = si nv ∧ τ 5 = .own false 1 (out_1.map eI) ∧ τ 6 = si i) ∧ r08_wi_J1 L1 i out_1 = some r) fun M1 m1 => ⟨?_, ?_⟩
      · obtain ⟨x, g1, h⟩ := gB h
        try simp +decide only [go_sem, s1, e1, g1]
        refine cI h (fun e2 h => ?_) fun e2 h => ?_
        · obtain ⟨g2, h⟩ := cS h
          try simp +decide only [go_sem, s1, e1, g1, e2, g2]
          refine m1 _ ⟨out ++ [x], ?_, h⟩
          simp +decide only [go_sem, s1, e1, g1, e2, g2]
        try simp +decide only [go_sem, s1, e1, g1, e2]
        refine m1 _ ⟨out, ?_, h⟩
        simp +decide only [go_sem, s1, e1, g1, e2]
      rintro τ1 ⟨out_1, s1, h⟩
      try simp +decide only [go_sem, s1]
      refine k1 n1 (Nat.lt_succ_self _) _ ⟨out_1, w64 (i + 1), ?_, q1.symm ▸ h⟩
      simp +decide only [go_sem, s1]
    try simp +decide only [go_sem, s1, e1]
    refine m2 _ ⟨out, ?_, h⟩
    simp +decide only [go_sem, s1, e1]
 rintro τ2 ⟨out_2, s2, h⟩
 obtain rfl := Option.some.inj h
 simp +decide only [go_sem, s2]
def f37c : IC := (sR [⟨some ⟨6, [118, 141], []⟩, .bx 6 (.t 0), none⟩, ⟨some ⟨7, [21, 28, 33, 34, 36, 37, 40, 41, 43, 44, 48, 49, 52, 53, 57, 58, 60, 61, 64, 65, 67, 68, 70, 71, 72, 76, 77, 80, 81, 83, 84, 86, 87, 88, 91, 92, 96, 99, 102, 103, 105, 106, 109, 110, 112, 113, 116, 117, 124, 125, 126, 127, 129, 130, 133, 134, 135, 136, 139, 140, 148, 149, 150, 151, 153, 154, 156, 157, 158, 159, 162, 175, 176, 178, 179, 183, 192, 193, 198, 199, 204, 205, 207, 208, 211, 212, 214, 215], []⟩, .bx 4 (.t 1), none⟩, i0 12 (.bx 4 (.c (.agg [.own false 2 [], .sc (.int .i64 0), .own false 1 [], .own false 3 []]))), iK 13 0, iB 14 false]
(.seq (sR [i0 20 (.ld true 6 (.t 6)), i1 21 7 (.ld true 4 (.t 7)), iC 22 2, iC 23 3, iC 24 4, i0 25 (.call 34 [.t 20, .t 21, .t 22, .t 23, .t 24] 0), iN 26 25]
(.cond (.t 26) (sR [i0 27 (.bld [.own false 2 [], .sc (.int .i64 0), .own false 1 [], .own false 3 []] []), iS 4 12 27, iK 13 0, iB 14 false]
.ret) .skip))
(sR [i1 28 7 (.ld true 4 (.t 7)), i0 29 (.call 59 [.t 28] 2), iS 4 7 29]
(sR [iK 15 0]
(cutS (sR [iC 30 3]
(.block 0 (sR [iQ 32 30 1, iM 31 32]
(.cond (.t 31) (.reg [iFr 33 7 3 7, iLr 34 7 33, iC 35 2, iIr 36 7 3 34 35, iFr 37 7 0 36, iT 37 2]) (sR [iQ 39 30 2, iM 38 39]
(.cond (.t 38) (.reg [iFr 40 7 3 7, iLr 41 7 40, iC 42 2, iIr 43 7 3 41 42, iFr 44 7 0 43, iT 44 5]) (cutS (sR [iQ 46 30 6, iM 45 46]
(.cond (.t 45) .skip (.reg [iQ 47 30 10, iM 45 47])))
(.cond (.t 45) (.reg [iFr 48 7 0 7, iLr 49 7 48, iC 50 4, iC 51 2, iIr 52 7 2 49 50, iFr 53 7 0 52, iS 1 53 51]) (cutS (sR [iQ 55 30 7, iM 54 55]
(.cond (.t 54) .skip (.reg [iQ 56 30 11, iM 54 56])))
(.cond (.t 54) (.reg [iFr 57 7 0 7, iLr 58 7 57, iC 59 4, iIr 60 7 2 58 59, iFr 61 7 0 60, iT 61 (-1)]) (sR [iQ 63 30 8, iM 62 63]
(.cond (.t 62) (.reg [iFr 64 7 0 7, iLr 65 7 64, iC 66 4, iFr 67 7 0 7, iLr 68 7 67, iC 69 4, iIr 70 7 2 68 69, iFr 71 7 1 70, iLr 72 7 71, iC 73 2, i0 74 (.bsl 1 [[.sc (.int .i64 0)]] [(0, .t 73)]), i0 75 (.call 60 [.t 72, .t 74] 2), iIr 76 7 2 65 66, iFr 77 7 1 76, iS 1 77 75]) (sR [iQ 79 30 9, iM 78 79]
(.cond (.t 78) (.reg [iFr 80 7 0 7, iLr 81 7 80, iC 82 4, iFr 83 7 0 7, iLr 84 7 83, iC 85 4, iIr 86 7 2 84 85, iFr 87 7 1 86, iLr 88 7 87, iC 89 2, i0 90 (.call 61 [.t 88, .t 89] 2), iIr 91 7 2 81 82, iFr 92 7 1 91, iS 1 92 90]) (sR [iQ 94 30 12, iM 93 94]
(.cond (.t 93) (.reg [iC 95 2, iFr 96 7 1 7, iS 1 96 95]) (sR [iQ 98 30 13, iM 97 98]
(.cond (.t 97) (.reg [iFr 99 7 1 7, iT 99 (-1)]) (sR [iQ 101 30 14, iM 100 101]
(.cond (.t 100) (.reg [iFr 102 7 3 7, iLr 103 7 102, iC 104 2, iIr 105 7 3 103 104, iFr 106 7 2 105, ⟨none, .st 1 (.t 106) (.c (.sc (.bool true))), none⟩]) (sR [iQ 108 30 15, iM 107 108]
(.cond (.t 107) (.reg [iFr 109 7 3 7, iLr 110 7 109, iC 111 2, iIr 112 7 3 110 111, iFr 113 7 2 112, ⟨none, .st 1 (.t 113) (.c (.sc (.bool false))), none⟩]) (sR [iQ 115 30 16, iM 114 115]
(.cond (.t 114) (sR [iFr 116 7 0 7, iLr 117 7 116, iFr 118 6 2 6, iL 119 118, iC 120 4, iI 121 2 119 120, iF 122 1 121, iL 123 122, iIr 124 7 2 117 123, iFr 125 7 0 124, iT 125 (-1)]
(.reg [iFr 126 7 3 7, i1 127 7 (.lda (.t 126)), iC 128 2, iFr 129 7 3 7, i1 130 7 (.lda (.t 129)), iC 131 2, iC 132 4, iIr 133 7 3 127 128, iFr 134 7 0 133, ⟨none, .sts (.t 134) (.c (.sc (.int .i64 3))), none⟩, iIr 135 7 3 130 131, iFr 136 7 1 135, ⟨none, .sts (.t 136) (.t 132), none⟩])) (sR [iQ 138 30 17, iM 137 138]
(.cond (.t 137) (sR [iFr 139 7 0 7, iLr 140 7 139, iFr 141 6 2 6, iL 142 141, iC 143 4, iI 144 2 142 143, iF 145 1 144, iL 146 145, iC 147 2, iIr 148 7 2 140 146, iFr 149 7 0 148, iS 1 149 147]
(.reg [iFr 150 7 3 7, i1 151 7 (.lda (.t 150)), iC 152 2, iFr 153 7 3 7, i1 154 7 (.lda (.t 153)), iC 155 2, iIr 156 7 3 151 152, iFr 157 7 0 156, ⟨none, .sts (.t 157) (.c (.sc (.int .i64 2))), none⟩, iIr 158 7 3 154 155, iFr 159 7 1 158, ⟨none, .sts (.t 159) (.c (.sc (.int .i64 0))), none⟩])) (sR [iQ 161 30 18, iM 160 161]
(.cond (.t 160) (sR [i1 162 7 (.ld true 4 (.t 7)), iC 163 4, i0 164 (.call 58 [.t 162, .t 163] 2), ⟨some ⟨16, [165, 168, 169, 171], []⟩, .mv (.t 164), none⟩]
(sR [iK 15 (-1)]
(sR [i1 165 16 (.cp (.t 16)), i0 166 (.len (.t 165)), iP 167 .gtr 166 0]
(.cond (.t 167) (sR [i1 168 16 (.cp (.t 16)), i1 169 16 (.iad 1 (.t 168) (.c (.sc (.int .i64 0)))), iL 170 169, iM 17 170]
(cutS (sR [i1 171 16 (.cp (.t 16)), iC 172 5, i0 173 (.call 57 [.t 171, .t 172] 0)]
(.cond (.t 173) (.reg [iC 174 5, iM 17 174]) .skip))
(sR [iFr 175 7 3 7, iLr 176 7 175, iC 177 17, iIr 178 7 3 176 177, iFr 179 7 0 178, iT 179 4]
(.reg [iC 180 17, iM 15 180])))) .skip)))) (sR [iQ 182 30 19, iM 181 182]
(.cond (.t 181) (sR [i1 183 7 (.ld true 4 (.t 7)), iC 184 4, i0 185 (.call 58 [.t 183, .t 184] 2), ⟨some ⟨18, [187, 194, 196, 200], []⟩, .mv (.t 185), none⟩]
(cutS (sR [iK 19 0]
(.block 1 (.loop (.seq (sR [iC 186 19, i1 187 18 (.cp (.t 18)), i0 188 (.len (.t 187)), iO 189 .lss 186 188]
(.cond (.t 189) .skip (.exit 1)))
(.seq (.block 2 (.reg [iFr 192 7 3 7, iLr 193 7 192, i1 194 18 (.cp (.t 18)), iC 195 19, iIr 196 18 1 194 195, iL 197 196, iIr 198 7 3 193 197, iFr 199 7 0 198, iT 199 4]))
(.reg [iC 190 19, iP 191 .add 190 1, iM 19 191]))))))
(.reg [i1 200 18 (.cp (.t 18)), i0 201 (.len (.t 200)), iM 15 201]))) (sR [iQ 203 30 20, iM 202 203]
(.cond (.t 202) (.reg [iFr 204 7 3 7, iLr 205 7 204, iC 206 4, iIr 207 7 3 205 206, iFr 208 7 0 207, iT 208 1]) (sR [iQ 210 30 22, iM 209 210]
(.cond (.t 209) (.reg [iFr 211 7 2 7, iLr 212 7 211, iC 213 4, iIr 214 7 1 212 213, ⟨none, .st 1 (.t 214) (.c (.sc (.bool true))), none⟩]) .skip))))))))))))))))))))))))))))))))))
(sR [i1 215 7 (.ld true 4 (.t 7)), iC 216 15, iS 4 12 215, iM 13 216, iB 14 true]
.ret))))))
def f37g : Gi := ⟨[(21, [7]), (28, [7]), (33, [7]), (34, [7]), (36, [7]), (37, [7]), (40, [7]), (41, [7]), (43, [7]), (44, [7]), (48, [7]), (49, [7]), (52, [7]), (53, [7]), (57, [7]), (58, [7]), (60, [7]), (61, [7]), (64, [7]), (65, [7]), (67, [7]), (68, [7]), (70, [7]), (71, [7]), (72, [7]), (76, [7]), (77, [7]), (80, [7]), (81, [7]), (83, [7]), (84, [7]), (86, [7]), (87, [7]), (88, [7]), (91, [7]), (92, [7]), (96, [7]), (99, [7]), (102, [7]), (103, [7]), (105, [7]), (106, [7]), (109, [7]), (110, [7]), (112, [7]), (113, [7]), (116, [7]), (117, [7]), (118, [6]), (124, [7]), (125, [7]), (126, [7]), (127, [7]), (129, [7]), (130, [7]), (133, [7]), (134, [7]), (135, [7]), (136, [7]), (139, [7]), (140, [7]), (141, [6]), (148, [7]), (149, [7]), (150, [7]), (151, [7]), (153, [7]), (154, [7]), (156, [7]), (157, [7]), (158, [7]), (159, [7]), (162, [7]), (165, [16]), (168, [16]), (169, [16]), (171, [16]), (175, [7]), (176, [7]), (178, [7]), (179, [7]), (183, [7]), (187, [18]), (192, [7]), (193, [7]), (194, [18]), (196, [18]), (198, [7]), (199, [7]), (200, [18]), (204, [7]), (205, [7]), (207, [7]), (208, [7]), (211, [7]), (212, [7]), (214, [7]), (215, [7])]⟩
def f37r : List RV := [.cell 12 true 4, .tmp 13, .tmp 14]
def f37 : FI := ⟨f37c, f37g, f37r⟩
theorem chk37 : chkF Tryd.prog Tryd.f37 f37 = true := by kernel_rfl
def r08_Ap_J5 (s_3 : SSync) (v_7 : Int) : Option (SSync × Int × Bool) :=
  some (s_3, v_7, true)
def r08_Ap_J3 (v_1 : SSync) (u : Int) : Option (SSync × Int × Bool) :=
  (gt v_1.Threads u).bind fun x_17 =>
  r08_Ap_J5 (SSync.mk v_1.Locks v_1.Tx v_1.Done (v_1.Threads.set u.toNat (SThreadSync.mk 4 x_17.Cond x_17.Atomic))) u
def r08_Ap_J4 (v_6 : List Int) (s_2 : SSync) : Option (SSync × Int × Bool) :=
  r08_Ap_J5 s_2 (v_6.length : Int)
def r08_Ap_L1 (v_6 : List Int) (L1 : SSync → Int → Option (SSync × Int × Bool)) (s_1 : SSync) (i : Int) : Option (SSync × Int × Bool) :=
  if decide (i < (v_6.length : Int)) then
    (gt v_6 i).bind fun x_18 =>
    (gt s_1.Threads x_18).bind fun x_19 =>
    L1 (SSync.mk s_1.Locks s_1.Tx s_1.Done (s_1.Threads.set x_18.toNat (SThreadSync.mk 4 x_19.Cond x_19.Atomic))) (w64 (i + 1))
  else
  r08_Ap_J4 v_6 s_1
def r08_Ap_L1r (v_6 : List Int) : Nat → SSync → Int → Option (SSync × Int × Bool)
  | 0, _, _ => none
  | n + 1, s_1, i => r08_Ap_L1 v_6 (r08_Ap_L1r v_6 n) s_1 i
def r08_Ap_J2 (kind : Int) (obj : Int) (thread : Int) (v_1 : SSync) (wake : Int) (wv : SWorld) (t54v : Bool) : Option (SSync × Int × Bool) :=
  if t54v then
    (gt v_1.Locks obj).bind fun x_3 =>
    r08_Ap_J5 (SSync.mk (v_1.Locks.set obj.toNat (SLockState.mk (-1) x_3.Readers)) v_1.Tx v_1.Done v_1.Threads) 0
  else
  if kind == 8 then
    (gt v_1.Locks obj).bind fun x_4 =>
    (r07_Un x_4.Readers [thread]).bind fun v_2 =>
    r08_Ap_J5 (SSync.mk (v_1.Locks.set obj.toNat (SLockState.mk x_4.Owner v_2)) v_1.Tx v_1.Done v_1.Threads) 0
  else
  if kind == 9 then
    (gt v_1.Locks obj).bind fun x_5 =>
    (r08_wi x_5.Readers thread).bind fun v_3 =>
    r08_Ap_J5 (SSync.mk (v_1.Locks.set obj.toNat (SLockState.mk x_5.Owner v_3)) v_1.Tx v_1.Done v_1.Threads) 0
  else
  if kind == 12 then
    r08_Ap_J5 (SSync.mk v_1.Locks thread v_1.Done v_1.Threads) 0
  else
  if kind == 13 then
    r08_Ap_J5 (SSync.mk v_1.Locks (-1) v_1.Done v_1.Threads) 0
  else
  if kind == 14 then
    (gt v_1.Threads thread).bind fun x_6 =>
    r08_Ap_J5 (SSync.mk v_1.Locks v_1.Tx v_1.Done (v_1.Threads.set thread.toNat (SThreadSync.mk x_6.Status x_6.Cond true))) 0
  else
  if kind == 15 then
    (gt v_1.Threads thread).bind fun x_7 =>
    r08_Ap_J5 (SSync.mk v_1.Locks v_1.Tx v_1.Done (v_1.Threads.set thread.toNat (SThreadSync.mk x_7.Status x_7.Cond false))) 0
  else
  if kind == 16 then
    (gt wv.Conds obj).bind fun x_8 =>
    (gt v_1.Locks x_8.Mutex).bind fun x_9 =>
    (gt v_1.Threads thread).bind fun x_10 =>
    (gt (v_1.Threads.set thread.toNat (SThreadSync.mk 3 x_10.Cond x_10.Atomic)) thread).bind fun x_11 =>
    r08_Ap_J5 (SSync.mk (v_1.Locks.set x_8.Mutex.toNat (SLockState.mk (-1) x_9.Readers)) v_1.Tx v_1.Done ((v_1.Threads.set thread.toNat (SThreadSync.mk 3 x_10.Cond x_10.Atomic)).set thread.toNat (SThreadSync.mk x_11.Status obj x_11.Atomic))) 0
  else
  if kind == 17 then
    (gt wv.Conds obj).bind fun x_12 =>
    (gt v_1.Locks x_12.Mutex).bind fun x_13 =>
    (gt v_1.Threads thread).bind fun x_14 =>
    (gt (v_1.Threads.set thread.toNat (SThreadSync.mk 2 x_14.Cond x_14.Atomic)) thread).bind fun x_15 =>
    r08_Ap_J5 (SSync.mk (v_1.Locks.set x_12.Mutex.toNat (SLockState.mk thread x_13.Readers)) v_1.Tx v_1.Done ((v_1.Threads.set thread.toNat (SThreadSync.mk 2 x_14.Cond x_14.Atomic)).set thread.toNat (SThreadSync.mk x_15.Status 0 x_15.Atomic))) 0
  else
  if kind == 18 then
    (r08_Wa v_1 obj).bind fun v_4 =>
    if decide ((v_4.length : Int) > 0) then
      (gt v_4 0).bind fun x_16 =>
      (r07_Ha v_4 wake).bind fun v_5 =>
      if v_5 then
        r08_Ap_J3 v_1 wake
      else
      r08_Ap_J3 v_1 x_16
    else
    r08_Ap_J5 v_1 (-1)
  else
  if kind == 19 then
    (r08_Wa v_1 obj).bind fun v_6 =>
    r08_Ap_L1r v_6 big v_1 0
  else
  if kind == 20 then
    (gt v_1.Threads obj).bind fun x_20 =>
    r08_Ap_J5 (SSync.mk v_1.Locks v_1.Tx v_1.Done (v_1.Threads.set obj.toNat (SThreadSync.mk 1 x_20.Cond x_20.Atomic))) 0
  else
  if kind == 22 then
    (gt v_1.Done obj).bind fun x_21 =>
    r08_Ap_J5 (SSync.mk v_1.Locks v_1.Tx (v_1.Done.set obj.toNat true) v_1.Threads) 0
  else
  r08_Ap_J5 v_1 0
def r08_Ap_J1 (kind : Int) (obj : Int) (thread : Int) (v_1 : SSync) (wake : Int) (wv : SWorld) (t45v : Bool) : Option (SSync × Int × Bool) :=
  if t45v then
    (gt v_1.Locks obj).bind fun x_2 =>
    r08_Ap_J5 (SSync.mk (v_1.Locks.set obj.toNat (SLockState.mk thread x_2.Readers)) v_1.Tx v_1.Done v_1.Threads) 0
  else
  if kind == 7 then
    r08_Ap_J2 kind obj thread v_1 wake wv (kind == 7)
  else
  r08_Ap_J2 kind obj thread v_1 wake wv (kind == 11)
def r08_Ap (wv : SWorld) (s : SSync) (thread : Int) (kind : Int) (obj : Int) (wake : Int) : Option (SSync × Int × Bool) :=
  (r08_En wv s thread kind obj).bind fun v =>
  if !v then
    some ((SSync.mk [] 0 [] []), 0, false)
  else
  (r08_Co s).bind fun v_1 =>
  if kind == 1 then
    (gt v_1.Threads thread).bind fun x =>
    r08_Ap_J5 (SSync.mk v_1.Locks v_1.Tx v_1.Done (v_1.Threads.set thread.toNat (SThreadSync.mk 2 x.Cond x.Atomic))) 0
  else
  if kind == 2 then
    (gt v_1.Threads thread).bind fun x_1 =>
    r08_Ap_J5 (SSync.mk v_1.Locks v_1.Tx v_1.Done (v_1.Threads.set thread.toNat (SThreadSync.mk 5 x_1.Cond x_1.Atomic))) 0
  else
  if kind == 6 then
    r08_Ap_J1 kind obj thread v_1 wake wv (kind == 6)
  else
  r08_Ap_J1 kind obj thread v_1 wake wv (kind == 10)
theorem r08_Ap_ok {wv : SWorld} {s : SSync} {thread : Int} {kind : Int} {obj : Int} {wake : Int} {r : SSync × Int × Bool} (h : r08_Ap wv s thread kind obj wake = some r) : Says Tryd.prog 37 [.agg (eWorld wv), .agg (eSync s), si thread, si kind, si obj, si wake] (.tup [.agg (eSynco r.1), si r.2.1, sb r.2.2]) := by
 refine says_of mix Tryd.func37 chk37 (of_decide_eq_true (by kernel_rfl)) rfl ?_
 simp only [f37, f37c, f37g, f37r]
 obtain ⟨v, g1, h⟩ := bS h
 try simp +decide only [go_sem]
 refine ⟨_, r08_En_ok g1, ?_⟩
 try simp +decide only [go_sem]
 refine cI h (fun e1 h => ?_) fun e1 h => ?_
 · obtain rfl := Option.some.inj h
   simp +decide only [go_sem, e1]
 obtain ⟨v_1, g2, h⟩ := bS h
 try simp +decide only [go_sem, e1]
 refine ⟨_, r08_Co_ok g2, ?_⟩
 try simp +decide only [go_sem, e1]
 refine cutH (fun τ => ∃ s_3 : SSync, ∃ v_7 : Int, (τ 7 = bA 4 (eSynco s_3) ∧ τ 12 = bA 4 [.own false 2 ([]), si 0, .own false 1 ([]), .own false 3 ([])] ∧ τ 15 = si v_7) ∧ r08_Ap_J5 s_3 v_7 = some r) fun M5 m5 => ⟨?_, ?_⟩
 · try simp +decide only [go_sem, e1]
   refine cI h (fun e2 h => ?_) fun e2 h => ?_
   · obtain ⟨x, g3, h⟩ := gB h
     try simp +decide only [go_sem, e1, e2, g3]
     refine m5 _ ⟨(SSync.mk v_1.Locks v_1.Tx v_1.Done (v_1.Threads.set thread.toNat (SThreadSync.mk 2 x.Cond x.Atomic))), 0, ?_, h⟩
     simp +decide only [go_sem, e1, e2, g3]
   try simp +decide only [go_sem, e1, e2]
   refine cI h (fun e3 h => ?_) fun e3 h => ?_
   · obtain ⟨x_1, g4, h⟩ := gB h
     try simp +decide only [go_sem, e1, e2, e3, g4]
     refine m5 _ ⟨(SSync.mk v_1.Locks v_1.Tx v_1.Done (v_1.Threads.set thread.toNat (SThreadSync.mk 5 x_1.Cond x_1.Atomic))), 0, ?_, h⟩
     simp +decide only [go_sem, e1, e2, e3, g4]
   try simp +decide only [go_sem, e1, e2, e3]
   refine cutH (fun τ => ∃ t45v : Bool, (τ 2 = si thread ∧ τ 4 = si obj ∧ τ 5 = si wake ∧ τ 6 = bA 6 (eWorld wv) ∧ τ 7 = bA 4 (eSynco v_1) ∧ τ 12 = bA 4 [.own false 2 ([]), si 0, .own false 1 ([]), .own false 3 ([])] ∧ τ 15 = si 0 ∧ τ 30 = si kind ∧ τ 45 = sb t45v) ∧ r08_Ap_J1 kind obj thread v_1 wake wv t45v = some r) fun M1 m1 => ⟨?_, ?_⟩
   · try simp +decide only [go_sem, e1, e2, e3]
     refine cI h (fun e4 h => ?_) fun e4 h => ?_
     · try simp +decide only [go_sem, e1, e2, e3, e4]
       refine m1 _ ⟨kind == 6, ?_, h⟩
       simp +decide only [go_sem, e1, e2, e3, e4]
     try simp +decide only [go_sem, e1, e2, e3, e4]
     refine m1 _ ⟨kind == 10, ?_, h⟩
     simp +decide only [go_sem, e1, e2, e3, e4]
   rintro τ1 ⟨t45v, s1, h⟩
   try simp +decide only [go_sem, s1]
   refine cI h (fun e5 h => ?_) fun e5 h => ?_
   · obtain ⟨x_2, g5, h⟩ := gB h
     try simp +decide only [go_sem, s1, e5, g5]
     refine m5 _ ⟨(SSync.mk (v_1.Locks.set obj.toNat (SLockState.mk thread x_2.Readers)) v_1.Tx v_1.Done v_1.Threads), 0, ?_, h⟩
     simp +decide only [go_sem, s1, e5, g5]
   try simp +decide only [go_sem, s1, e5]
   refine cutH (fun τ => ∃ t54v : Bool, (τ 2 = si thread ∧ τ 4 = si obj ∧ τ 5 = si wake ∧ τ 6 = bA 6 (eWorld wv) ∧ τ 7 = bA 4 (eSynco v_1) ∧ τ 12 = bA 4 [.own false 2 ([]), si 0, .own false 1 ([]), .own false 3 ([])] ∧ τ 15 = si 0 ∧ τ 30 = si kind ∧ τ 54 = sb t54v) ∧ r08_Ap_J2 kind obj thread v_1 wake wv t54v = some r) fun M2 m2 => ⟨?_, ?_⟩
   · try simp +decide only [go_sem, s1, e5]
     refine cI h (fun e6 h => ?_) fun e6 h => ?_
     · try simp +decide only [go_sem, s1, e5, e6]
       refine m2 _ ⟨kind == 7, ?_, h⟩
       simp +decide only [go_sem, s1, e5, e6]
     try simp +decide only [go_sem, s1, e5, e6]
     refine m2 _ ⟨kind == 11, ?_, h⟩
     simp +decide only [go_sem, s1, e5, e6]
   rintro τ2 ⟨t54v, s2, h⟩
   try simp +decide only [go_sem, s2]
   refine cI h (fun e7 h => ?_) fun e7 h => ?_
   · obtain ⟨x_3, g6, h⟩ := gB h
     try simp +decide only [go_sem, s2, e7, g6]
     refine m5 _ ⟨(SSync.mk (v_1.Locks.set obj.toNat (SLockState.mk (-1) x_3.Readers)) v_1.Tx v_1.Done v_1.Threads), 0, ?_, h⟩
     simp +decide only [go_sem, s2, e7, g6]
   try simp +decide only [go_sem, s2, e7]
   refine cI h (fun e8 h => ?_) fun e8 h => ?_
   · obtain ⟨x_4, g7, h⟩ := gB h
     obtain ⟨v_2, g8, h⟩ := bS h
     try simp +decide only [go_sem, s2, e7, e8, g7]
     refine ⟨_, r07_Un_ok g8, ?_⟩
     try simp +decide only [go_sem, s2, e7, e8, g7]
     refine m5 _ ⟨(SSync.mk (v_1.Locks.set obj.toNat (SLockState.mk x_4.Owner v_2)) v_1.Tx v_1.Done v_1.Threads), 0, ?_, h⟩
     simp +decide only [go_sem, s2, e7, e8, g7]
   try simp +decide only [go_sem, s2, e7, e8]
   refine cI h (fun e9 h => ?_) fun e9 h => ?_
   · obtain ⟨x_5, g9, h⟩ := gB h
     obtain ⟨v_3, g10, h⟩ := bS h
     try simp +decide only [go_sem, s2, e7, e8, e9, g9]
     refine ⟨_, r08_wi_ok g10, ?_⟩
     try simp +decide only [go_sem, s2, e7, e8, e9, g9]
     refine m5 _ ⟨(SSync.mk (v_1.Locks.set obj.toNat (SLockState.mk x_5.Owner v_3)) v_1.Tx v_1.Done v_1.Threads), 0, ?_, h⟩
     simp +decide only [go_sem, s2, e7, e8, e9, g9]
   try simp +decide only [go_sem, s2, e7, e8, e9]
   refine cI h (fun e10 h => ?_) fun e10 h => ?_
   · try simp +decide only [go_sem, s2, e7, e8, e9, e10]
     refine m5 _ ⟨(SSync.mk v_1.Locks thread v_1.Done v_1.Threads), 0, ?_, h⟩
     simp +decide only [go_sem, s2, e7, e8, e9, e10]
   try simp +decide only [go_sem, s2, e7, e8, e9, e10]
   refine cI h (fun e11 h => ?_) fun e11 h => ?_
   · try simp +decide only [go_sem, s2, e7, e8, e9, e10, e11]
     refine m5 _ ⟨(SSync.mk v_1.Locks (-1) v_1.Done v_1.Threads), 0, ?_, h⟩
     simp +decide only [go_sem, s2, e7, e8, e9, e10, e11]
   try simp +decide only [go_sem, s2, e7, e8, e9, e10, e11]
   refine cI h (fun e12 h => ?_) fun e12 h => ?_
   · obtain ⟨x_6, g11, h⟩ := gB h
     try simp +decide only [go_sem, s2, e7, e8, e9, e10, e11, e12, g11]
     refine m5 _ ⟨(SSync.mk v_1.Locks v_1.Tx v_1.Done (v_1.Threads.set thread.toNat (SThreadSync.mk x_6.Status x_6.Cond true))), 0, ?_, h⟩
     simp +decide only [go_sem, s2, e7, e8, e9, e10, e11, e12, g11]
   try simp +decide only [go_sem, s2, e7, e8, e9, e10, e11, e12]
   refine cI h (fun e13 h => ?_) fun e13 h => ?_
   · obtain ⟨x_7, g12, h⟩ := gB h
     try simp +decide only [go_sem, s2, e7, e8, e9, e10, e11, e12, e13, g12]
     refine m5 _ ⟨(SSync.mk v_1.Locks v_1.Tx v_1.Done (v_1.Threads.set thread.toNat (SThreadSync.mk x_7.Status x_7.Cond false))), 0, ?_, h⟩
     simp +decide only [go_sem, s2, e7, e8, e9, e10, e11, e12, e13, g12]
   try simp +decide only [go_sem, s2, e7, e8, e9, e10, e11, e12, e13]
   refine cI h (fun e14 h => ?_) fun e14 h => ?_
   · obtain ⟨x_8, g13, h⟩ := gB h
     obtain ⟨x_9, g14, h⟩ := gB h
     obtain ⟨x_10, g15, h⟩ := gB h
     obtain ⟨x_11, g16, h⟩ := gB h
     try simp +decide only [go_sem, s2, e7, e8, e9, e10, e11, e12, e13, e14, g13, g14, g15, g16]
     refine m5 _ ⟨(SSync.mk (v_1.Locks.set x_8.Mutex.toNat (SLockState.mk (-1) x_9.Readers)) v_1.Tx v_1.Done ((v_1.Threads.set thread.toNat (SThreadSync.mk 3 x_10.Cond x_10.Atomic)).set thread.toNat (SThreadSync.mk x_11.Status obj x_11.Atomic))), 0, ?_, h⟩
     simp +decide only [go_sem, s2, e7, e8, e9, e10, e11, e12, e13, e14, g13, g14, g15, g16]
   try simp +decide only [go_sem, s2, e7, e8, e9, e10, e11, e12, e13, e14]
   refine cI h (fun e15 h => ?_) fun e15 h => ?_
   · obtain ⟨x_12, g17, h⟩ := gB h
     obtain ⟨x_13, g18, h⟩ := gB h
     obtain ⟨x_14, g19, h⟩ := gB h
     obtain ⟨x_15, g20, h⟩ := gB h
     try simp +decide only [go_sem, s2, e7, e8, e9, e10, e11, e12, e13, e14, e15, g17, g18, g19, g20]
     refine m5 _ ⟨(SSync.mk (v_1.Locks.set x_12.Mutex.toNat (SLockState.mk thread x_13.Readers)) v_1.Tx v_1.Done ((v_1.Threads.set thread.toNat (SThreadSync.mk 2 x_14.Cond x_14.Atomic)).set thread.toNat (SThreadSync.mk x_15.Status 0 x_15.Atomic))), 0, ?_, h⟩
     simp +decide only [go_sem, s2, e7, e8, e9, e10, e11, e12, e13, e14, e15, g17, g18, g19, g20]
   try simp +decide only [go_sem, s2, e7, e8, e9, e10, e11, e12, e13, e14, e15]
   refine cI h (fun e16 h => ?_) fun e16 h => ?_
   · obtain ⟨v_4, g21, h⟩ := bS h
     try simp +decide only [go_sem, s2, e7, e8, e9, e10, e11, e12, e13, e14, e15, e16]
     refine ⟨_, r08_Wa_ok g21, ?_⟩
     try simp +decide only [go_sem, s2, e7, e8, e9, e10, e11, e12, e13, e14, e15, e16]
     refine cI h (fun e17 h => ?_) fun e17 h => ?_
     · obtain ⟨x_16, g22, h⟩ := gL (n := 0) (by simp) h
       try simp +decide only [go_sem, s2, e7, e8, e9, e10, e11, e12, e13, e14, e15, e16, e17, g22]
       refine cutH (fun τ => ∃ u : Int, (τ 7 = bA 4 (eSynco v_1) ∧ τ 12 = bA 4 [.own false 2 ([]), si 0, .own false 1 ([]), .own false 3 ([])] ∧ τ 17 = si u) ∧ r08_Ap_J3 v_1 u = some r) fun M3 m3 => ⟨?_, ?_⟩
       · obtain ⟨v_5, g23, h⟩ := bS h
         try simp +decide only [go_sem, s2, e7, e8, e9, e10, e11, e12, e13, e14, e15, e16, e17, g22]
         refine ⟨_, r07_Ha_ok g23, ?_⟩
         try simp +decide only [go_sem, s2, e7, e8, e9, e10, e11, e12, e13, e14, e15, e16, e17, g22]
         refine cI h (fun e18 h => ?_) fun e18 h => ?_
         · try simp +decide only [go_sem, s2, e7, e8, e9, e10, e11, e12, e13, e14, e15, e16, e17, g22, e18]
           refine m3 _ ⟨wake, ?_, h⟩
           simp +decide only [go_sem, s2, e7, e8, e9, e10, e11, e12, e13, e14, e15, e16, e17, g22, e18]
         try simp +decide only [go_sem, s2, e7, e8, e9, e10, e11, e12, e13, e14, e15, e16, e17, g22, e18]
         refine m3 _ ⟨x_16, ?_, h⟩
         simp +decide only [go_sem, s2, e7, e8, e9, e10, e11, e12, e13, e14, e15, e16, e17, g22, e18]
       rintro τ3 ⟨u, s3, h⟩
       obtain ⟨x_17, g24, h⟩ := gB h
       try simp +decide only [go_sem, s3, g24]
       refine m5 _ ⟨(SSync.mk v_1.Locks v_1.Tx v_1.Done (v_1.Threads.set u.toNat (SThreadSync.mk 4 x_17.Cond x_17.Atomic))), u, ?_, h⟩
       simp +decide only [go_sem, s3, g24]
     try simp +decide only [go_sem, s2, e7, e8, e9, e10, e11, e12, e13, e14, e15, e16, e17]
     refine m5 _ ⟨v_1, (-1), ?_, h⟩
     simp +decide only [go_sem, s2, e7, e8, e9, e10, e11, e12, e13, e14, e15, e16, e17]
   try simp +decide only [go_sem, s2, e7, e8, e9, e10, e11, e12, e13, e14, e15, e16]
   refine cI h (fun e19 h => ?_) fun e19 h => ?_
   · obtain ⟨v_6, g25, h⟩ := bS h
     try simp +decide only [go_sem, s2, e7, e8, e9, e10, e11, e12, e13, e14, e15, e16, e19]
     refine ⟨_, r08_Wa_ok g25, ?_⟩
     try simp +decide only [go_sem, s2, e7, e8, e9, e10, e11, e12, e13, e14, e15, e16, e19]
     refine cutH (fun τ => ∃ s_2 : SSync, (τ 7 = bA 4 (eSynco s_2) ∧ τ 12 = bA 4 [.own false 2 ([]), si 0, .own false 1 ([]), .own false 3 ([])] ∧ τ 18 = .own false 1 (v_6.map eI)) ∧ r08_Ap_J4 v_6 s_2 = some r) fun M4 m4 => ⟨?_, ?_⟩
     · try simp +decide only [go_sem, s2, e7, e8, e9, e10, e11, e12, e13, e14, e15, e16, e19]
       refine loopH (fun n τ => ∃ s_1 : SSync, ∃ i : Int, (τ 7 = bA 4 (eSynco s_1) ∧ τ 12 = bA 4 [.own false 2 ([]), si 0, .own false 1 ([]), .own false 3 ([])] ∧ τ 18 = .own false 1 (v_6.map eI) ∧ τ 19 = si i) ∧ r08_Ap_L1r v_6 n s_1 i = some r) ⟨v_1, 0, ?_, h⟩ fun n1 τ1 N1 => ?_
       · simp +decide only [go_sem, s2, e7, e8, e9, e10, e11, e12, e13, e14, e15, e16, e19]
       rintro ⟨s_1, i, s1, h⟩ k1
       cases n1 with
       | zero => exact no_none h
       | succ n1 =>
        rw [r08_Ap_L1r] at h; generalize q1 : r08_Ap_L1r v_6 n1 = L1 at h
        try simp +decide only [go_sem, s1]
        refine cI h (fun e20 h => ?_) fun e20 h => ?_
        · obtain ⟨x_18, g26, h⟩ := gB h
          obtain ⟨x_19, g27, h⟩ := gB h
          try simp +decide only [go_sem, s1, e20, g26, g27]
          refine k1 n1 (Nat.lt_succ_self _) _ ⟨(SSync.mk s_1.Locks s_1.Tx s_1.Done (s_1.Threads.set x_18.toNat (SThreadSync.mk 4 x_19.Cond x_19.Atomic))), w64 (i + 1), ?_, q1.symm ▸ h⟩
          simp +decide only [go_sem, s1, e20, g26, g27]
        try simp +decide only [go_sem, s1, e20]
        refine m4 _ ⟨s_1, ?_, h⟩
        simp +decide only [go_sem, s1, e20]
     rintro τ4 ⟨s_2, s4, h⟩
     try simp +decide only [go_sem, s4]
     refine m5 _ ⟨s_2, (v_6.length : Int), ?_, h⟩
     simp +decide only [go_sem, s4]
   try simp +decide only [go_sem, s2, e7, e8, e9, e10, e11, e12, e13, e14, e15, e16, e19]
   refine cI h (fun e21 h => ?_) fun e21 h => ?_
   · obtain ⟨x_20, g28, h⟩ := gB h
     try simp +decide only [go_sem, s2, e7, e8, e9, e10, e11, e12, e13, e14, e15, e16, e19, e21, g28]
     refine m5 _ ⟨(SSync.mk v_1.Locks v_1.Tx v_1.Done (v_1.Threads.set obj.toNat (SThreadSync.mk 1 x_20.Cond x_20.Atomic))), 0, ?_, h⟩
     simp +decide only [go_sem, s2, e7, e8, e9, e10, e11, e12, e13, e14, e15, e16, e19, e21, g28]
   try simp +decide only [go_sem, s2, e7, e8, e9, e10, e11, e12, e13, e14, e15, e16, e19, e21]
   refine cI h (fun e22 h => ?_) fun e22 h => ?_
   · obtain ⟨x_21, g29, h⟩ := gB h
     try simp +decide only [go_sem, s2, e7, e8, e9, e10, e11, e12, e13, e14, e15, e16, e19, e21, e22, g29]
     refine m5 _ ⟨(SSync.mk v_1.Locks v_1.Tx (v_1.Done.set obj.toNat true) v_1.Threads), 0, ?_, h⟩
     simp +decide only [go_sem, s2, e7, e8, e9, e10, e11, e12, e13, e14, e15, e16, e19, e21, e22, g29]
   try simp +decide only [go_sem, s2, e7, e8, e9, e10, e11, e12, e13, e14, e15, e16, e19, e21, e22]
   refine m5 _ ⟨v_1, 0, ?_, h⟩
   simp +decide only [go_sem, s2, e7, e8, e9, e10, e11, e12, e13, e14, e15, e16, e19, e21, e22]
 rintro τ5 ⟨s_3, v_7, s5, h⟩
 obtain rfl := Option.some.inj h
 simp +decide only [go_sem, s5]
def f13c : IC := (sR [⟨some ⟨3, [18, 62, 68, 100], []⟩, .bx 6 (.t 0), none⟩, ⟨some ⟨4, [36, 129, 140, 157, 161, 165, 176], []⟩, .bx 7 (.t 1), none⟩, ⟨some ⟨5, [16, 25, 30, 38, 40, 42, 48, 52, 56, 60, 70, 75, 80, 84, 88, 93, 102, 112, 117, 122, 127, 131, 138, 142, 169, 172, 178, 180, 182, 190, 195, 197, 200, 205, 207, 212], []⟩, .bx 7 (.t 2), none⟩, i0 6 (.bx 7 (.c (.agg [.own false 2 [], .sc (.int .i64 0), .own false 1 [], .own false 3 [], .own false 1 [], .own false 1 [], .own false 1 []]))), iB 7 false]
(.seq (cutS (.reg [i0 11 (.ld true 6 (.t 3)), i0 12 (.ld true 7 (.t 4)), i0 13 (.call 32 [.t 11, .t 12] 0), iN 14 13, iC 15 14, jFr 16 5 0 5 15 false, jL 17 16 15 false, jFr 18 3 4 3 15 false, jL 19 18 15 false, j0 20 (.len (.t 19)) 15 false, j0 21 (.call 33 [.t 17, .t 20] 0) 15 false, j0 22 (.un .not (.t 21)) 15 false, i0 23 (.pick (.t 15) (.c (.sc (.bool true))) (.t 22)), iC 24 23, jFr 25 5 1 5 24 false, jL 26 25 24 false, j0 27 (.bin .lss (.t 26) (.c (.sc (.int .i64 1)))) 24 false, i0 28 (.pick (.t 24) (.c (.sc (.bool true))) (.t 27)), iC 29 28, jFr 30 5 1 5 29 false, jL 31 30 29 false, j0 32 (.bin .gtr (.t 31) (.c (.sc (.int .i64 23)))) 29 false, i0 33 (.pick (.t 29) (.c (.sc (.bool true))) (.t 32)), iC 34 33, j0 35 (.ld true 6 (.t 3)) 34 false, jFr 36 4 0 4 34 false, j0 37 (.ld true 4 (.t 36)) 34 false, jFr 38 5 0 5 34 false, jL 39 38 34 false, jFr 40 5 1 5 34 false, jL 41 40 34 false, jFr 42 5 2 5 34 false, jL 43 42 34 false, j0 44 (.call 34 [.t 35, .t 37, .t 39, .t 41, .t 43] 0) 34 false, j0 45 (.un .not (.t 44)) 34 false, i0 46 (.pick (.t 34) (.c (.sc (.bool true))) (.t 45))])
(.cond (.t 46) (sR [i0 47 (.bld [.own false 2 [], .sc (.int .i64 0), .own false 1 [], .own false 3 [], .own false 1 [], .own false 1 [], .own false 1 []] []), iS 7 6 47, iB 7 false]
.ret) .skip))
(cutS (cutS (.reg [iFr 48 5 1 5, iL 49 48, iQ 50 49 1, iC 51 50, jFr 52 5 1 5 51 false, jL 53 52 51 false, j0 54 (.bin .eql (.t 53) (.c (.sc (.int .i64 2)))) 51 false, i0 55 (.pick (.t 51) (.c (.sc (.bool true))) (.t 54))])
(.cond (.t 55) (sR [iFr 56 5 4 5, iL 57 56, iP 58 .neq 57 (-1)]
(.cond (.t 58) (sR [i0 59 (.bld [.own false 2 [], .sc (.int .i64 0), .own false 1 [], .own false 3 [], .own false 1 [], .own false 1 [], .own false 1 []] []), iS 7 6 59, iB 7 false]
.ret) .skip)) (cutS (.reg [iFr 60 5 4 5, iL 61 60, iFr 62 3 5 3, iL 63 62, i0 64 (.len (.t 63)), i0 65 (.call 33 [.t 61, .t 64] 0), iN 66 65, iC 67 66, jFr 68 3 5 3 67 false, jL 69 68 67 false, jFr 70 5 4 5 67 false, jL 71 70 67 false, j0 72 (.iad 3 (.t 69) (.t 71)) 67 false, jF 73 0 72 67 false, jL 74 73 67 false, jFr 75 5 0 5 67 false, jL 76 75 67 false, j0 77 (.bin .neq (.t 74) (.t 76)) 67 false, i0 78 (.pick (.t 67) (.c (.sc (.bool true))) (.t 77))])
(.cond (.t 78) (sR [i0 79 (.bld [.own false 2 [], .sc (.int .i64 0), .own false 1 [], .own false 3 [], .own false 1 [], .own false 1 [], .own false 1 []] []), iS 7 6 79, iB 7 false]
.ret) .skip))))
(cutS (.reg [iFr 80 5 1 5, iL 81 80, iQ 82 81 3, iC 83 82, jFr 84 5 1 5 83 false, jL 85 84 83 false, j0 86 (.bin .eql (.t 85) (.c (.sc (.int .i64 4)))) 83 false, i0 87 (.pick (.t 83) (.c (.sc (.bool true))) (.t 86)), iM 8 87])
(.seq (cutS (.reg [iFr 88 5 5 5, iL 89 88, i0 90 (.len (.t 89)), iP 91 .gtr 90 0, iC 92 91, jFr 93 5 1 5 92 true, jL 94 93 92 true, j0 95 (.bin .neq (.t 94) (.c (.sc (.int .i64 5)))) 92 true, i0 96 (.pick (.t 92) (.t 95) (.c (.sc (.bool false)))), iC 97 96, j0 98 (.cp (.t 8)) 97 true, j0 99 (.cp (.t 98)) 97 true, jFr 100 3 0 3 99 true, jL 101 100 99 true, jFr 102 5 2 5 99 true, jL 103 102 99 true, j0 104 (.iad 5 (.t 101) (.t 103)) 99 true, jF 105 2 104 99 true, jL 106 105 99 true, j0 107 (.bin .neq (.t 106) (.c (.sc (.int .i64 0)))) 99 true, j0 108 (.pick (.t 99) (.t 107) (.c (.sc (.bool false)))) 97 true, j0 109 (.un .not (.t 108)) 97 true, i0 110 (.pick (.t 97) (.t 109) (.c (.sc (.bool false))))])
(.cond (.t 110) (sR [i0 111 (.bld [.own false 2 [], .sc (.int .i64 0), .own false 1 [], .own false 3 [], .own false 1 [], .own false 1 [], .own false 1 []] []), iS 7 6 111, iB 7 false]
.ret) .skip))
(.seq (cutS (.reg [iFr 112 5 6 5, iL 113 112, i0 114 (.len (.t 113)), iP 115 .gtr 114 0, iC 116 115, jFr 117 5 1 5 116 true, jL 118 117 116 true, j0 119 (.bin .neq (.t 118) (.c (.sc (.int .i64 4)))) 116 true, i0 120 (.pick (.t 116) (.t 119) (.c (.sc (.bool false)))), iC 121 120, jFr 122 5 1 5 121 true, jL 123 122 121 true, j0 124 (.bin .neq (.t 123) (.c (.sc (.int .i64 22)))) 121 true, i0 125 (.pick (.t 121) (.t 124) (.c (.sc (.bool false))))])
(.cond (.t 125) (sR [i0 126 (.bld [.own false 2 [], .sc (.int .i64 0), .own false 1 [], .own false 3 [], .own false 1 [], .own false 1 [], .own false 1 []] []), iS 7 6 126, iB 7 false]
.ret) .skip))
(.seq (cutS (.reg [iFr 127 5 5 5, iL 128 127, iFr 129 4 6 4, iL 130 129, iFr 131 5 0 5, iL 132 131, iI 133 1 130 132, iL 134 133, i0 135 (.call 35 [.t 128, .t 134] 0), iN 136 135, iC 137 136, jFr 138 5 6 5 137 false, jL 139 138 137 false, jFr 140 4 6 4 137 false, jL 141 140 137 false, jFr 142 5 0 5 137 false, jL 143 142 137 false, j0 144 (.iad 1 (.t 141) (.t 143)) 137 false, jL 145 144 137 false, j0 146 (.call 35 [.t 139, .t 145] 0) 137 false, j0 147 (.un .not (.t 146)) 137 false, i0 148 (.pick (.t 137) (.c (.sc (.bool true))) (.t 147)), iC 149 148, j0 150 (.ld true 7 (.t 4)) 149 false, j0 151 (.ld true 7 (.t 5)) 149 false, j0 152 (.call 36 [.t 150, .t 151] 0) 149 false, j0 153 (.un .not (.t 152)) 149 false, i0 154 (.pick (.t 149) (.c (.sc (.bool true))) (.t 153))])
(.cond (.t 154) (sR [i0 155 (.bld [.own false 2 [], .sc (.int .i64 0), .own false 1 [], .own false 3 [], .own false 1 [], .own false 1 [], .own false 1 []] []), iS 7 6 155, iB 7 false]
.ret) .skip))
(sR [i0 156 (.bsl 1 [] []), iFr 157 4 4 4, iL 158 157, i0 159 (.app 1 8 (.t 156) (.t 158)), i0 160 (.bsl 1 [] []), iFr 161 4 5 4, iL 162 161, i0 163 (.app 1 8 (.t 160) (.t 162)), i0 164 (.bsl 1 [] []), iFr 165 4 6 4, iL 166 165, i0 167 (.app 1 8 (.t 164) (.t 166)), i0 168 (.bld [.own false 2 [], .sc (.int .i64 0), .own false 1 [], .own false 3 [], .own false 1 [], .own false 1 [], .own false 1 []] [(4, 1, .t 159), (5, 1, .t 163), (6, 1, .t 167)]), ⟨some ⟨9, [189, 193, 194, 199, 203, 204, 209, 210, 211, 214, 217, 218], []⟩, .bx 7 (.c (.agg [.own false 2 [], .sc (.int .i64 0), .own false 1 [], .own false 3 [], .own false 1 [], .own false 1 [], .own false 1 []])), none⟩, iS 7 9 168]
(sR [iK 10 (-1)]
(cutS (sR [iFr 169 5 1 5, iL 170 169, iQ 171 170 18]
(.cond (.t 171) (.reg [iFr 172 5 3 5, iL 173 172, iM 10 173]) .skip))
(sR [i0 175 (.ld true 6 (.t 3)), iFr 176 4 0 4, i0 177 (.ld true 4 (.t 176)), iFr 178 5 0 5, iL 179 178, iFr 180 5 1 5, iL 181 180, iFr 182 5 2 5, iL 183 182, iC 184 10, ⟨some ⟨185, [174, 186, 187, 188], []⟩, .call 37 [.t 175, .t 177, .t 179, .t 181, .t 183, .t 184] 2, none⟩, i1 174 185 (.cp (.t 185)), i1 186 185 (.ext (.t 174) 0), i1 187 185 (.ext (.t 174) 1), i1 188 185 (.ext (.t 174) 2), iFr 189 9 0 9, iS 4 189 186]
(cutS (sR [iFr 190 5 1 5, iL 191 190, iQ 192 191 4]
(.cond (.t 192) (.reg [iFr 193 9 4 9, iLr 194 9 193, iFr 195 5 2 5, iL 196 195, iFr 197 5 3 5, iL 198 197, iIr 199 9 1 194 196, iS 1 199 198]) .skip))
(cutS (sR [iFr 200 5 1 5, iL 201 200, iQ 202 201 22]
(.cond (.t 202) (.reg [iFr 203 9 5 9, iLr 204 9 203, iFr 205 5 2 5, iL 206 205, iFr 207 5 3 5, iL 208 207, iIr 209 9 1 204 206, iS 1 209 208]) .skip))
(sR [iFr 210 9 6 9, iLr 211 9 210, iFr 212 5 0 5, iL 213 212, iIr 214 9 1 211 213, iL 215 214, iP 216 .add 215 1, iIr 217 9 1 211 213, iS 1 217 216]
(sR [i1 218 9 (.ld true 7 (.t 9)), iS 7 6 218, iB 7 true]
.ret)))))))))))))))
def f13g : Gi := ⟨[(16, [5]), (18, [3]), (25, [5]), (30, [5]), (36, [4]), (38, [5]), (40, [5]), (42, [5]), (48, [5]), (52, [5]), (56, [5]), (60, [5]), (62, [3]), (68, [3]), (70, [5]), (75, [5]), (80, [5]), (84, [5]), (88, [5]), (93, [5]), (100, [3]), (102, [5]), (112, [5]), (117, [5]), (122, [5]), (127, [5]), (129, [4]), (131, [5]), (138, [5]), (140, [4]), (142, [5]), (157, [4]), (161, [4]), (165, [4]), (169, [5]), (172, [5]), (174, [185]), (176, [4]), (178, [5]), (180, [5]), (182, [5]), (186, [185]), (187, [185]), (188, [185]), (189, [9]), (190, [5]), (193, [9]), (194, [9]), (195, [5]), (197, [5]), (199, [9]), (200, [5]), (203, [9]), (204, [9]), (205, [5]), (207, [5]), (209, [9]), (210, [9]), (211, [9]), (212, [5]), (214, [9]), (217, [9]), (218, [9])]⟩
def f13r : List RV := [.cell 6 true 7, .tmp 7]
def f13 : FI := ⟨f13c, f13g, f13r⟩
theorem chk13 : chkF Tryd.prog Tryd.f13 f13 = true := by kernel_rfl
def r16_Stq_J11 (ev : SEvent) (out_1 : SSnapshot) : Option (SSnapshot × Bool) :=
  (gt out_1.Count ev.Thread).bind fun x_5 =>
  some ((SSnapshot.mk out_1.Sync out_1.Cells out_1.Futures (out_1.Count.set ev.Thread.toNat (w64 (x_5 + 1)))), true)
def r16_Stq_J10 (ev : SEvent) (out : SSnapshot) : Option (SSnapshot × Bool) :=
  if ev.Kind == 22 then
    (gt out.Futures ev.Obj).bind fun x_4 =>
    r16_Stq_J11 ev (SSnapshot.mk out.Sync out.Cells (out.Futures.set ev.Obj.toNat ev.Value) out.Count)
  else
  r16_Stq_J11 ev out
def r16_Stq_J9 (ev : SEvent) (s : SSnapshot) (wv : SWorld) (wake : Int) : Option (SSnapshot × Bool) :=
  (r08_Ap wv s.Sync ev.Thread ev.Kind ev.Obj wake).bind fun v_7 =>
  if ev.Kind == 4 then
    (gt s.Cells ev.Obj).bind fun x_3 =>
    r16_Stq_J10 ev (SSnapshot.mk v_7.1 (s.Cells.set ev.Obj.toNat ev.Value) s.Futures s.Count)
  else
  r16_Stq_J10 ev (SSnapshot.mk v_7.1 s.Cells s.Futures s.Count)
def r16_Stq_J8 (ev : SEvent) (s : SSnapshot) (wv : SWorld) (t154v : Bool) : Option (SSnapshot × Bool) :=
  if t154v then
    some ((SSnapshot.mk (SSync.mk [] 0 [] []) [] [] []), false)
  else
  if roomOK (s.Cells.length) 8 = true then
  if roomOK (s.Futures.length) 8 = true then
  if roomOK (s.Count.length) 8 = true then
  if ev.Kind == 18 then
    r16_Stq_J9 ev s wv ev.Value
  else
  r16_Stq_J9 ev s wv (-1)
  else none
  else none
  else none
def r16_Stq_J7 (ev : SEvent) (s : SSnapshot) (wv : SWorld) (t125v : Bool) : Option (SSnapshot × Bool) :=
  if t125v then
    some ((SSnapshot.mk (SSync.mk [] 0 [] []) [] [] []), false)
  else
  (gt s.Count ev.Thread).bind fun x_2 =>
  (r16_nu ev.Deps x_2).bind fun v_4 =>
  if !v_4 then
    r16_Stq_J8 ev s wv true
  else
  (r16_nu ev.From x_2).bind fun v_5 =>
  if !v_5 then
    r16_Stq_J8 ev s wv true
  else
  (r16_va s ev).bind fun v_6 =>
  r16_Stq_J8 ev s wv (!v_6)
def r16_Stq_J6 (ev : SEvent) (s : SSnapshot) (wv : SWorld) (t110v : Bool) : Option (SSnapshot × Bool) :=
  if t110v then
    some ((SSnapshot.mk (SSync.mk [] 0 [] []) [] [] []), false)
  else
  if decide ((ev.From.length : Int) > 0) then
    if ev.Kind != 4 then
      r16_Stq_J7 ev s wv (ev.Kind != 22)
    else
    r16_Stq_J7 ev s wv false
  else
  r16_Stq_J7 ev s wv false
def r16_Stq_J5 (ev : SEvent) (s : SSnapshot) (wv : SWorld) (access : Bool) : Option (SSnapshot × Bool) :=
  if decide ((ev.Deps.length : Int) > 0) then
    if ev.Kind != 5 then
      if access then
        (gt wv.Cells ev.Obj).bind fun x_1 =>
        r16_Stq_J6 ev s wv (!(x_1.Size != 0))
      else
      r16_Stq_J6 ev s wv true
    else
    r16_Stq_J6 ev s wv false
  else
  r16_Stq_J6 ev s wv false
def r16_Stq_J4 (ev : SEvent) (s : SSnapshot) (wv : SWorld) : Option (SSnapshot × Bool) :=
  if ev.Kind == 3 then
    r16_Stq_J5 ev s wv true
  else
  r16_Stq_J5 ev s wv (ev.Kind == 4)
def r16_Stq_J3 (ev : SEvent) (s : SSnapshot) (wv : SWorld) (t78v : Bool) : Option (SSnapshot × Bool) :=
  if t78v then
    some ((SSnapshot.mk (SSync.mk [] 0 [] []) [] [] []), false)
  else
  r16_Stq_J4 ev s wv
def r16_Stq_J2 (ev : SEvent) (s : SSnapshot) (wv : SWorld) (t55v : Bool) : Option (SSnapshot × Bool) :=
  if t55v then
    if ev.Site != (-1) then
      some ((SSnapshot.mk (SSync.mk [] 0 [] []) [] [] []), false)
    else
    r16_Stq_J4 ev s wv
  else
  (r16_in ev.Site (wv.Sites.length : Int)).bind fun v_3 =>
  if !v_3 then
    r16_Stq_J3 ev s wv true
  else
  (gt wv.Sites ev.Site).bind fun x =>
  r16_Stq_J3 ev s wv (x.Thread != ev.Thread)
def r16_Stq_J1 (ev : SEvent) (s : SSnapshot) (wv : SWorld) (t46v : Bool) : Option (SSnapshot × Bool) :=
  if t46v then
    some ((SSnapshot.mk (SSync.mk [] 0 [] []) [] [] []), false)
  else
  if ev.Kind == 1 then
    r16_Stq_J2 ev s wv true
  else
  r16_Stq_J2 ev s wv (ev.Kind == 2)
def r16_Stq (wv : SWorld) (s : SSnapshot) (ev : SEvent) : Option (SSnapshot × Bool) :=
  (r16_Fi wv s).bind fun v =>
  if !v then
    r16_Stq_J1 ev s wv true
  else
  (r16_in ev.Thread (wv.Threads.length : Int)).bind fun v_1 =>
  if !v_1 then
    r16_Stq_J1 ev s wv true
  else
  if decide (ev.Kind < 1) then
    r16_Stq_J1 ev s wv true
  else
  if decide (ev.Kind > 23) then
    r16_Stq_J1 ev s wv true
  else
  (r08_En wv s.Sync ev.Thread ev.Kind ev.Obj).bind fun v_2 =>
  r16_Stq_J1 ev s wv (!v_2)
theorem r16_Stq_ok {wv : SWorld} {s : SSnapshot} {ev : SEvent} {r : SSnapshot × Bool} (h : r16_Stq wv s ev = some r) : Says Tryd.prog 13 [.agg (eWorld wv), .agg (eSnapshot s), .agg (eEvent ev)] (.tup [.agg (eSnapshoto r.1), sb r.2]) := by
 refine says_of mix Tryd.func13 chk13 (of_decide_eq_true (by kernel_rfl)) rfl ?_
 simp only [f13, f13c, f13g, f13r]
 try simp +decide only [go_sem]
 refine cutH (fun τ => ∃ t46v : Bool, (τ 3 = bA 6 (eWorld wv) ∧ τ 4 = bA 7 (eSnapshot s) ∧ τ 5 = bA 7 (eEvent ev) ∧ τ 6 = bA 7 [.own false 2 ([]), si 0, .own false 1 ([]), .own false 3 ([]), .own false 1 ([]), .own false 1 ([]), .own false 1 ([])] ∧ τ 46 = sb t46v) ∧ r16_Stq_J1 ev s wv t46v = some r) fun M1 m1 => ⟨?_, ?_⟩
 · obtain ⟨v, g1, h⟩ := bS h
   try simp +decide only [go_sem]
   refine ⟨_, r16_Fi_ok g1, ?_⟩
   try simp +decide only [go_sem]
   refine gI h (fun e1 h => ?_) fun e1 h => ?_
   · try simp +decide only [go_sem, e1]
     refine m1 _ ⟨true, ?_, h⟩
     simp +decide only [go_sem, e1]
   obtain ⟨v_1, g2, h⟩ := bS h
   try simp +decide only [go_sem, e1]
   refine ⟨_, r16_in_ok g2, ?_⟩
   try simp +decide only [go_sem, e1]
   refine gI h (fun e2 h => ?_) fun e2 h => ?_
   · try simp +decide only [go_sem, e1, e2]
     refine m1 _ ⟨true, ?_, h⟩
     simp +decide only [go_sem, e1, e2]
   try simp +decide only [go_sem, e1, e2]
   refine gI h (fun e3 h => ?_) fun e3 h => ?_
   · try simp +decide only [go_sem, e1, e2, e3]
     refine m1 _ ⟨true, ?_, h⟩
     simp +decide only [go_sem, e1, e2, e3]
   try simp +decide only [go_sem, e1, e2, e3]
   refine gI h (fun e4 h => ?_) fun e4 h => ?_
   · try simp +decide only [go_sem, e1, e2, e3, e4]
     refine m1 _ ⟨true, ?_, h⟩
     simp +decide only [go_sem, e1, e2, e3, e4]
   obtain ⟨v_2, g3, h⟩ := bS h
   try simp +decide only [go_sem, e1, e2, e3, e4]
   refine ⟨_, r08_En_ok g3, ?_⟩
   try simp +decide only [go_sem, e1, e2, e3, e4]
   refine m1 _ ⟨!v_2, ?_, h⟩
   simp +decide only [go_sem, e1, e2, e3, e4]
 rintro τ1 ⟨t46v, s1, h⟩
 try simp +decide only [go_sem, s1]
 refine cI h (fun e5 h => ?_) fun e5 h => ?_
 · obtain rfl := Option.some.inj h
   simp +decide only [go_sem, s1, e5]
 try simp +decide only [go_sem, s1, e5]
 refine cutH (fun τ => (τ 3 = bA 6 (eWorld wv) ∧ τ 4 = bA 7 (eSnapshot s) ∧ τ 5 = bA 7 (eEvent ev) ∧ τ 6 = bA 7 [.own false 2 ([]), si 0, .own false 1 ([]), .own false 3 ([]), .own false 1 ([]), .own false 1 ([]), .own false 1 ([])]) ∧ r16_Stq_J4 ev s wv = some r) fun M4 m4 => ⟨?_, ?_⟩
 · try simp +decide only [go_sem, s1, e5]
   refine cutH (fun τ => ∃ t55v : Bool, (τ 3 = bA 6 (eWorld wv) ∧ τ 4 = bA 7 (eSnapshot s) ∧ τ 5 = bA 7 (eEvent ev) ∧ τ 6 = bA 7 [.own false 2 ([]), si 0, .own false 1 ([]), .own false 3 ([]), .own false 1 ([]), .own false 1 ([]), .own false 1 ([])] ∧ τ 55 = sb t55v) ∧ r16_Stq_J2 ev s wv t55v = some r) fun M2 m2 => ⟨?_, ?_⟩
   · try simp +decide only [go_sem, s1, e5]
     refine gI h (fun e6 h => ?_) fun e6 h => ?_
     · try simp +decide only [go_sem, s1, e5, e6]
       refine m2 _ ⟨true, ?_, h⟩
       simp +decide only [go_sem, s1, e5, e6]
     try simp +decide only [go_sem, s1, e5, e6]
     refine m2 _ ⟨ev.Kind == 2, ?_, h⟩
     simp +decide only [go_sem, s1, e5, e6]
   rintro τ2 ⟨t55v, s2, h⟩
   try simp +decide only [go_sem, s2]
   refine cI h (fun e7 h => ?_) fun e7 h => ?_
   · try simp +decide only [go_sem, s2, e7]
     refine cI h (fun e8 h => ?_) fun e8 h => ?_
     · obtain rfl := Option.some.inj h
       simp +decide only [go_sem, s2, e7, e8]
     try simp +decide only [go_sem, s2, e7, e8]
     refine m4 _ ⟨?_, h⟩
     simp +decide only [go_sem, s2, e7, e8]
   try simp +decide only [go_sem, s2, e7]
   refine cutH (fun τ => ∃ t78v : Bool, (τ 3 = bA 6 (eWorld wv) ∧ τ 4 = bA 7 (eSnapshot s) ∧ τ 5 = bA 7 (eEvent ev) ∧ τ 6 = bA 7 [.own false 2 ([]), si 0, .own false 1 ([]), .own false 3 ([]), .own false 1 ([]), .own false 1 ([]), .own false 1 ([])] ∧ τ 78 = sb t78v) ∧ r16_Stq_J3 ev s wv t78v = some r) fun M3 m3 => ⟨?_, ?_⟩
   · obtain ⟨v_3, g4, h⟩ := bS h
     try simp +decide only [go_sem, s2, e7]
     refine ⟨_, r16_in_ok g4, ?_⟩
     try simp +decide only [go_sem, s2, e7]
     refine gI h (fun e9 h => ?_) fun e9 h => ?_
     · try simp +decide only [go_sem, s2, e7, e9]
       refine m3 _ ⟨true, ?_, h⟩
       simp +decide only [go_sem, s2, e7, e9]
     obtain ⟨x, g5, h⟩ := gB h
     try simp +decide only [go_sem, s2, e7, e9, g5]
     refine m3 _ ⟨x.Thread != ev.Thread, ?_, h⟩
     simp +decide only [go_sem, s2, e7, e9, g5]
   rintro τ3 ⟨t78v, s3, h⟩
   try simp +decide only [go_sem, s3]
   refine cI h (fun e10 h => ?_) fun e10 h => ?_
   · obtain rfl := Option.some.inj h
     simp +decide only [go_sem, s3, e10]
   try simp +decide only [go_sem, s3, e10]
   refine m4 _ ⟨?_, h⟩
   simp +decide only [go_sem, s3, e10]
 rintro τ4 ⟨s4, h⟩
 try simp +decide only [go_sem, s4]
 refine cutH (fun τ => ∃ access : Bool, (τ 3 = bA 6 (eWorld wv) ∧ τ 4 = bA 7 (eSnapshot s) ∧ τ 5 = bA 7 (eEvent ev) ∧ τ 6 = bA 7 [.own false 2 ([]), si 0, .own false 1 ([]), .own false 3 ([]), .own false 1 ([]), .own false 1 ([]), .own false 1 ([])] ∧ τ 8 = sb access) ∧ r16_Stq_J5 ev s wv access = some r) fun M5 m5 => ⟨?_, ?_⟩
 · try simp +decide only [go_sem, s4]
   refine gI h (fun e11 h => ?_) fun e11 h => ?_
   · try simp +decide only [go_sem, s4, e11]
     refine m5 _ ⟨true, ?_, h⟩
     simp +decide only [go_sem, s4, e11]
   try simp +decide only [go_sem, s4, e11]
   refine m5 _ ⟨ev.Kind == 4, ?_, h⟩
   simp +decide only [go_sem, s4, e11]
 rintro τ5 ⟨access, s5, h⟩
 try simp +decide only [go_sem, s5]
 refine cutH (fun τ => ∃ t110v : Bool, (τ 3 = bA 6 (eWorld wv) ∧ τ 4 = bA 7 (eSnapshot s) ∧ τ 5 = bA 7 (eEvent ev) ∧ τ 6 = bA 7 [.own false 2 ([]), si 0, .own false 1 ([]), .own false 3 ([]), .own false 1 ([]), .own false 1 ([]), .own false 1 ([])] ∧ τ 110 = sb t110v) ∧ r16_Stq_J6 ev s wv t110v = some r) fun M6 m6 => ⟨?_, ?_⟩
 · try simp +decide only [go_sem, s5]
   refine gI h (fun e12 h => ?_) fun e12 h => ?_
   · try simp +decide only [go_sem, s5, e12]
     refine gI h (fun e13 h => ?_) fun e13 h => ?_
     · try simp +decide only [go_sem, s5, e12, e13]
       refine gI h (fun e14 h => ?_) fun e14 h => ?_
       · obtain ⟨x_1, g6, h⟩ := gB h
         try simp +decide only [go_sem, s5, e12, e13, e14, g6]
         refine m6 _ ⟨!(x_1.Size != 0), ?_, h⟩
         simp +decide only [go_sem, s5, e12, e13, e14, g6]
       try simp +decide only [go_sem, s5, e12, e13, e14]
       refine m6 _ ⟨true, ?_, h⟩
       simp +decide only [go_sem, s5, e12, e13, e14]
     try simp +decide only [go_sem, s5, e12, e13]
     refine m6 _ ⟨false, ?_, h⟩
     simp +decide only [go_sem, s5, e12, e13]
   try simp +decide only [go_sem, s5, e12]
   refine m6 _ ⟨false, ?_, h⟩
   simp +decide only [go_sem, s5, e12]
 rintro τ6 ⟨t110v, s6, h⟩
 try simp +decide only [go_sem, s6]
 refine cI h (fun e15 h => ?_) fun e15 h => ?_
 · obtain rfl := Option.some.inj h
   simp +decide only [go_sem, s6, e15]
 try simp +decide only [go_sem, s6, e15]
 refine cutH (fun τ => ∃ t125v : Bool, (τ 3 = bA 6 (eWorld wv) ∧ τ 4 = bA 7 (eSnapshot s) ∧ τ 5 = bA 7 (eEvent ev) ∧ τ 6 = bA 7 [.own false 2 ([]), si 0, .own false 1 ([]), .own false 3 ([]), .own false 1 ([]), .own false 1 ([]), .own false 1 ([])] ∧ τ 125 = sb t125v) ∧ r16_Stq_J7 ev s wv t125v = some r) fun M7 m7 => ⟨?_, ?_⟩
 · try simp +decide only [go_sem, s6, e15]
   refine gI h (fun e16 h => ?_) fun e16 h => ?_
   · try simp +decide only [go_sem, s6, e15, e16]
     refine gI h (fun e17 h => ?_) fun e17 h => ?_
     · try simp +decide only [go_sem, s6, e15, e16, e17]
       refine m7 _ ⟨ev.Kind != 22, ?_, h⟩
       simp +decide only [go_sem, s6, e15, e16, e17]
     try simp +decide only [go_sem, s6, e15, e16, e17]
     refine m7 _ ⟨false, ?_, h⟩
     simp +decide only [go_sem, s6, e15, e16, e17]
   try simp +decide only [go_sem, s6, e15, e16]
   refine m7 _ ⟨false, ?_, h⟩
   simp +decide only [go_sem, s6, e15, e16]
 rintro τ7 ⟨t125v, s7, h⟩
 try simp +decide only [go_sem, s7]
 refine cI h (fun e18 h => ?_) fun e18 h => ?_
 · obtain rfl := Option.some.inj h
   simp +decide only [go_sem, s7, e18]
 try simp +decide only [go_sem, s7, e18]
 refine cutH (fun τ => ∃ t154v : Bool, (τ 3 = bA 6 (eWorld wv) ∧ τ 4 = bA 7 (eSnapshot s) ∧ τ 5 = bA 7 (eEvent ev) ∧ τ 6 = bA 7 [.own false 2 ([]), si 0, .own false 1 ([]), .own false 3 ([]), .own false 1 ([]), .own false 1 ([]), .own false 1 ([])] ∧ τ 154 = sb t154v) ∧ r16_Stq_J8 ev s wv t154v = some r) fun M8 m8 => ⟨?_, ?_⟩
 · obtain ⟨x_2, g7, h⟩ := gB h
   obtain ⟨v_4, g8, h⟩ := bS h
   try simp +decide only [go_sem, s7, e18, g7]
   refine ⟨_, r16_nu_ok g8, ?_⟩
   try simp +decide only [go_sem, s7, e18, g7]
   refine gI h (fun e19 h => ?_) fun e19 h => ?_
   · try simp +decide only [go_sem, s7, e18, g7, e19]
     refine m8 _ ⟨true, ?_, h⟩
     simp +decide only [go_sem, s7, e18, g7, e19]
   obtain ⟨v_5, g9, h⟩ := bS h
   try simp +decide only [go_sem, s7, e18, g7, e19]
   refine ⟨_, r16_nu_ok g9, ?_⟩
   try simp +decide only [go_sem, s7, e18, g7, e19]
   refine gI h (fun e20 h => ?_) fun e20 h => ?_
   · try simp +decide only [go_sem, s7, e18, g7, e19, e20]
     refine m8 _ ⟨true, ?_, h⟩
     simp +decide only [go_sem, s7, e18, g7, e19, e20]
   obtain ⟨v_6, g10, h⟩ := bS h
   try simp +decide only [go_sem, s7, e18, g7, e19, e20]
   refine ⟨_, r16_va_ok g10, ?_⟩
   try simp +decide only [go_sem, s7, e18, g7, e19, e20]
   refine m8 _ ⟨!v_6, ?_, h⟩
   simp +decide only [go_sem, s7, e18, g7, e19, e20]
 rintro τ8 ⟨t154v, s8, h⟩
 try simp +decide only [go_sem, s8]
 refine cI h (fun e21 h => ?_) fun e21 h => ?_
 · obtain rfl := Option.some.inj h
   simp +decide only [go_sem, s8, e21]
 obtain ⟨g11, h⟩ := cS h
 obtain ⟨g12, h⟩ := cS h
 obtain ⟨g13, h⟩ := cS h
 try simp +decide only [go_sem, s8, e21, g11, g12, g13]
 refine cutH (fun τ => ∃ wake : Int, (τ 3 = bA 6 (eWorld wv) ∧ τ 4 = bA 7 (eSnapshot s) ∧ τ 5 = bA 7 (eEvent ev) ∧ τ 6 = bA 7 [.own false 2 ([]), si 0, .own false 1 ([]), .own false 3 ([]), .own false 1 ([]), .own false 1 ([]), .own false 1 ([])] ∧ τ 9 = bA 7 [.own false 2 ([]), si 0, .own false 1 ([]), .own false 3 ([]), .own false 1 (s.Cells.map eI), .own false 1 (s.Futures.map eI), .own false 1 (s.Count.map eI)] ∧ τ 10 = si wake) ∧ r16_Stq_J9 ev s wv wake = some r) fun M9 m9 => ⟨?_, ?_⟩
 · try simp +decide only [go_sem, s8, e21, g11, g12, g13]
   refine cI h (fun e22 h => ?_) fun e22 h => ?_
   · try simp +decide only [go_sem, s8, e21, g11, g12, g13, e22]
     refine m9 _ ⟨ev.Value, ?_, h⟩
     simp +decide only [go_sem, s8, e21, g11, g12, g13, e22]
   try simp +decide only [go_sem, s8, e21, g11, g12, g13, e22]
   refine m9 _ ⟨(-1), ?_, h⟩
   simp +decide only [go_sem, s8, e21, g11, g12, g13, e22]
 rintro τ9 ⟨wake, s9, h⟩
 obtain ⟨v_7, g14, h⟩ := bS h
 try simp +decide only [go_sem, s9]
 refine ⟨_, r08_Ap_ok g14, ?_⟩
 try simp +decide only [go_sem, s9]
 refine cutH (fun τ => ∃ out : SSnapshot, (τ 5 = bA 7 (eEvent ev) ∧ τ 6 = bA 7 [.own false 2 ([]), si 0, .own false 1 ([]), .own false 3 ([]), .own false 1 ([]), .own false 1 ([]), .own false 1 ([])] ∧ τ 9 = bA 7 (eSnapshoto out)) ∧ r16_Stq_J10 ev out = some r) fun M10 m10 => ⟨?_, ?_⟩
 · try simp +decide only [go_sem, s9]
   refine cI h (fun e23 h => ?_) fun e23 h => ?_
   · obtain ⟨x_3, g15, h⟩ := gB h
     try simp +decide only [go_sem, s9, e23, g15]
     refine m10 _ ⟨(SSnapshot.mk v_7.1 (s.Cells.set ev.Obj.toNat ev.Value) s.Futures s.Count), ?_, h⟩
     simp +decide only [go_sem, s9, e23, g15]
   try simp +decide only [go_sem, s9, e23]
   refine m10 _ ⟨(SSnapshot.mk v_7.1 s.Cells s.Futures s.Count), ?_, h⟩
   simp +decide only [go_sem, s9, e23]
 rintro τ10 ⟨out, s10, h⟩
 try simp +decide only [go_sem, s10]
 refine cutH (fun τ => ∃ out_1 : SSnapshot, (τ 5 = bA 7 (eEvent ev) ∧ τ 6 = bA 7 [.own false 2 ([]), si 0, .own false 1 ([]), .own false 3 ([]), .own false 1 ([]), .own false 1 ([]), .own false 1 ([])] ∧ τ 9 = bA 7 (eSnapshoto out_1)) ∧ r16_Stq_J11 ev out_1 = some r) fun M11 m11 => ⟨?_, ?_⟩
 · try simp +decide only [go_sem, s10]
   refine cI h (fun e24 h => ?_) fun e24 h => ?_
   · obtain ⟨x_4, g16, h⟩ := gB h
     try simp +decide only [go_sem, s10, e24, g16]
     refine m11 _ ⟨(SSnapshot.mk out.Sync out.Cells (out.Futures.set ev.Obj.toNat ev.Value) out.Count), ?_, h⟩
     simp +decide only [go_sem, s10, e24, g16]
   try simp +decide only [go_sem, s10, e24]
   refine m11 _ ⟨out, ?_, h⟩
   simp +decide only [go_sem, s10, e24]
 rintro τ11 ⟨out_1, s11, h⟩
 obtain ⟨x_5, g17, h⟩ := gB h
 obtain rfl := Option.some.inj h
 simp +decide only [go_sem, s11, g17]
end Go.Abs
