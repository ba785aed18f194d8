/- Typed programs of Go functions, and that the functions do what these say. -/
import Derived.Test.YtdadohkcmclilaaGreatDoorWalkK
import Derived.Shelf.Slices.SearchI
set_option linter.unusedSimpArgs false
set_option linter.unusedVariables false
namespace Go.Abs
open Go.Proofs
set_option maxRecDepth 1000000
set_option maxHeartbeats 4000000
def f45c:IC:=(Ra 0 [.b 1 [13,15,16,20,28,52,53] (.bx 15 (.t 0)),.B 2 false]
(Ra 13 [.F 7 1,.A 7 13,.w 3,.o (.bx 7 (.c (.agg [.own false 2 [],si 0,.own false 1 [],.own false 3 [],.own false 1 [],.own false 1 [],.own false 1 []]))),.S 7 3 14]
(Ra 15 [.F 0 1,.h 1 4 15,.Z 17,.o (.mk 1 24 [.own false 1 []] (.t 18) (.t 18)),.b 4 [64,67,68,72,75,76,78,88,91,92,103] (.mv (.t 19))]
(Tg (Ra 20 [.f 14 1,.Z 21,.Y 0]
(Bl 0 (Ra 24 [.O .lss 23 22]
(Sq (cX 24 0)
(Tg (Bk 1 (Ra 25 [.I 7 21 23,.A 7 25,.b 6 [37,39,55,65,73,86,89,93,97] (.bx 7 (.c (.agg [si 0,si 0,si 0,si 0,si 0,.own false 1 [],.own false 1 []]))),.S 7 6 26]
(Ra 28 [.F 0 1,.A 6 28,.A 7 3,.A 7 6,.c 35 [29,30,31] 1,.w 27,.C 32,.w 33,.o (.ext (.t 27) 0),.o (.ext (.t 27) 1),.w 7,.o (.bx 7 (.c (.agg [.own false 2 [],si 0,.own false 1 [],.own false 3 [],.own false 1 [],.own false 1 [],.own false 1 []]))),.S 7 7 33,.M 8 34]
(Sq (Ra 35 [.C 8,.N 35]
(Ci 36 (Rb 0 [.B 2 false])))
(Tg (Ra 37 [.f 5 6,.f 6 6,.o (.TY [.own false 1 [],.own false 1 []] [(0,1,.t 38),(1,1,.t 40)]),.Y 0]
(Bl 2 (Ra 43 [.P .lss 42 2]
(Sq (cX 43 2)
(Tg (Bk 3 (Tg (Rc 44 [.o (.idx false 2 1 (.t 41) (.t 42)),.M 10 44])
(Ra 45 [.C 10,.Z 45,.Y 0]
(Bl 4 (Ra 48 [.O .lss 47 46]
(Sq (cX 48 4)
(Sq (Bk 5 (Ra 49 [.I 1 45 47,.L 49,.M 12 50]
(Ra 51 [.C 12,.F 7 1,.h 1 6 52,.f 0 6,.I 1 54 56,.L 57,.O .sub 51 58,.M 12 59]
(Tg (Rc 60 [.C 12,.P .geq 60 0,.C 61,.G 62 true,.C 12,.y 4 (.cp (.t 4)),.f 0 6,.y 4 (.Va 1 (.t 64) (.t 66)),.l 4 67,.Z 68,.O .geq 63 69,.C 70,.G 71 false,.y 4 (.cp (.t 4)),.f 0 6,.y 4 (.Va 1 (.t 72) (.t 74)),.l 4 75,.C 12,.y 4 (.Va 1 (.t 76) (.t 77)),.L 78,.N 79,.G 62 true,.o (.pick (.t 71) (.c (sb true)) (.t 80)),.e,.W 62 81])
(Ci 82 (Rb 0 [.B 2 false]))))))
(Rc 83 [.P .add 47 1,.w 47,.C 83]))))))))
(Rc 84 [.P .add 42 1,.w 42,.C 84]))))))
(Tg (.bE [(4,0,18,85)] [i0 85 .fl,ML 86 6 0 6,iL 87 86,i1 88 4 (.cp (.t 4)),ML 89 6 0 6,iL 90 89,iIr 91 4 1 88 90,bL 92 4 91,ML 93 6 1 6,iL 94 93,iQ 95 94 3,iC 96 95,jFr 97 6 1 6 96 false,jL 98 97 96 false,jP 99 .eql 98 23 96 false,iOr 100 96 99,i0 101 (.NH 1 [[sb false]] [(0,.t 100)]),i0 102 (.app 1 1 (.t 92) (.t 101)),iIr 103 4 1 4 87,iS 1 103 102])
(Rc 104 [.A 7 7,.S 7 3 104])))))))
(Rc 105 [.P .add 23 1,.w 23,.C 105]))))))
(Rb 0 [.B 2 true])))))
def f45g:Gi:=⟨[(13,[1]),(15,[1]),(16,[1]),(20,[1]),(28,[1]),(37,[6]),(39,[6]),(52,[1]),(53,[1]),(55,[6]),(64,[4]),(65,[6]),(67,[4]),(68,[4]),(72,[4]),(73,[6]),(75,[4]),(76,[4]),(78,[4]),(86,[6]),(88,[4]),(89,[6]),(91,[4]),(92,[4]),(93,[6]),(97,[6]),(103,[4])]⟩
def f45r:List RV:=[.tmp 2]
def f45:FI:=⟨f45c,f45g,f45r⟩
theorem chk45:K9 Tryz.prog Tryz.f45 f45=true:=by kernel_rfl
namespace Av
def J7:ABh Bool:=
some true
def J6 (L1:AB->(List (List Bool))->Int->ABh Bool) (HF:Int) (s_1:AB) (Sl:List (List Bool)):ABh Bool:=
L1 s_1 Sl (Aq (HF+1))
def J5 (L1:AB->(List (List Bool))->Int->ABh Bool) (HF:Int) (v:AB×Bool) (Sk:List (List Bool)):ABh Bool:=
J6 L1 HF v.1 Sk
def J4 (L1:AB->(List (List Bool))->Int->ABh Bool) (reads:List (List Bool)) (HF:Int) (v:AB×Bool) (x:AK):ABh Bool:=
(gt reads x.Thread).bind λx_5=>
if x.Kind==3 then
if Ap (x_5.length+1) 1=true then
J5 L1 HF v (reads.set x.Thread.toNat (x_5++[true]))
else none
else
if Ap (x_5.length+1) 1=true then
J5 L1 HF v (reads.set x.Thread.toNat (x_5++[x.Kind==23]))
else none
def J3 (L2:Int->ABh Bool) (Ji:Int):ABh Bool:=
L2 (Aq (Ji+1))
def J2 (L3:Int->ABh Bool) (RO:Int) (t82v:Bool):ABh Bool:=
if t82v then
some false
else
L3 (Aq (RO+1))
def L3 (L2:Int->ABh Bool) (l:List Int) (reads:List (List Bool)) (Ji:Int) (wv:AP) (x:AK) (L3:Int->ABh Bool) (RO:Int):ABh Bool:=
if decide (RO<(l.length:Int))then
(gt l RO).bind λx_1=>
(gt wv.Init.Count x.Thread).bind λmN=>
if decide ((Aq (x_1-mN))≥0)then
(gt reads x.Thread).bind λx_3=>
if decide ((Aq (x_1-mN))≥(x_3.length:Int))then
J2 L3 RO true
else
(gt x_3 (Aq (x_1-mN))).bind λx_4=>
J2 L3 RO (!x_4)
else
J2 L3 RO false
else
J3 L2 Ji
def GL (L2:Int->ABh Bool) (l:List Int) (reads:List (List Bool)) (Ji:Int) (wv:AP) (x:AK):Nat->Int->ABh Bool
|0,_=>none
|n+1,RO=>L3 L2 l reads Ji wv x (GL L2 l reads Ji wv x n) RO
def J1 (L2:Int->ABh Bool) (reads:List (List Bool)) (Ji:Int) (wv:AP) (x:AK) (l:List Int):ABh Bool:=
GL L2 l reads Ji wv x Bg 0
def L2 (L1:AB->(List (List Bool))->Int->ABh Bool) (reads:List (List Bool)) (HF:Int) (v:AB×Bool) (wv:AP) (x:AK) (L2:Int->ABh Bool) (Ji:Int):ABh Bool:=
if decide (Ji<2)then
if Ji==0 then
J1 L2 reads Ji wv x x.EI
else
if Ji==1 then
J1 L2 reads Ji wv x x.Dr
else
none
else
J4 L1 reads HF v x
def DI (L1:AB->(List (List Bool))->Int->ABh Bool) (reads:List (List Bool)) (HF:Int) (v:AB×Bool) (wv:AP) (x:AK):Nat->Int->ABh Bool
|0,_=>none
|n+1,Ji=>L2 L1 reads HF v wv x (DI L1 reads HF v wv x n) Ji
def L1 (wv:AP) (L1:AB->(List (List Bool))->Int->ABh Bool) (s:AB) (reads:List (List Bool)) (HF:Int):ABh Bool:=
if decide (HF<(wv.AE.length:Int))then
(gt wv.AE HF).bind λx=>
(Bm wv.World s x).bind λv=>
if !v.2 then
some false
else
DI L1 reads HF v wv x Bg 0
else
J7
def AZ (wv:AP):Nat->AB->(List (List Bool))->Int->ABh Bool
|0,_,_,_=>none
|n+1,s,reads,HF=>L1 wv (AZ wv n) s reads HF
end Av
section
open Av
def Av (wv:AP):ABh Bool:=
if 0≤(wv.World.AA.length:Int)/\(wv.World.AA.length:Int)≤(wv.World.AA.length:Int)/\Ap wv.World.AA.length 24=true then
AZ wv Bg wv.Init (List.replicate wv.World.AA.length ([]:List Bool)) 0
else none
theorem RS {wv:AP} {r:Bool} (h:Av wv=some r):Says Tryz.prog 45 [.agg (BW wv)] (sb r):=by
 refine Iw mix Tryz.func45 chk45 (AAT (by kernel_rfl)) rfl ?_;simp only[f45,f45c,f45g,f45r];obtain⟨_,h⟩:=cS h
 try simp +decide only[go_sem, *]
 refine WH (λτ=>(True)/\J7=some r) λM7 hM7=>⟨?_,?_⟩
 . try simp +decide only[go_sem, *]
   refine UQ (λn τ=>∃s:AB,∃reads:List (List Bool),∃HF:Int,(τ 1=bA 15 (BW wv)/\τ 3=bA 7 (BH s)/\τ 4=vO 1 Py reads/\τ 21=vS 7 BQ wv.AE/\τ 22=si (wv.AE.length:Int)/\τ 23=si HF)/\AZ wv n s reads HF=some r) ⟨_,_,_,?_,h⟩ λn1 τ1 N1=> ?_
   . simp +decide only[go_sem, *]
   rintro⟨s,reads,HF,s1,h⟩ hN1;cases n1 with
   |zero=>exact Dm h
   |succ n1=>
    rw[AZ]at h;generalize hL1:AZ wv n1=L1 at h
    try simp +decide only[go_sem, *]
    refine cI h (λ_ h=> ?_) λ_ h=> ?_
    . try simp +decide only[go_sem, *]
      refine WH (λτ=>∃s_1:AB,∃Sl:List (List Bool),(τ 1=bA 15 (BW wv)/\τ 3=bA 7 (BH s_1)/\τ 4=vO 1 Py Sl/\τ 21=vS 7 BQ wv.AE/\τ 22=si (wv.AE.length:Int)/\τ 23=si HF)/\J6 L1 HF s_1 Sl=some r) λM6 hM6=>⟨?_,?_⟩
      . obtain⟨x,_,h⟩:=gB h;obtain⟨v,g5,h⟩:=bS h
        try simp +decide only[go_sem, *]
        refine⟨_,I5 g5,?_⟩
        try simp +decide only[go_sem, *]
        refine cI h (λ_ h=> ?_) λ_ h=> ?_
        . obtain rfl:=AAJ h;simp +decide only[go_sem, *]
        try simp +decide only[go_sem, *]
        refine WH (λτ=>(τ 1=bA 15 (BW wv)/\τ 3=bA 7 (BH s)/\τ 4=vO 1 Py reads/\τ 6=bA 7 (BQ x)/\τ 7=bA 7 (BH v.1)/\τ 21=vS 7 BQ wv.AE/\τ 22=si (wv.AE.length:Int)/\τ 23=si HF)/\J4 L1 reads HF v x=some r) λM4 hM4=>⟨?_,?_⟩
        . try simp +decide only[go_sem, *]
          refine UQ (λn τ=>∃Ji:Int,(τ 1=bA 15 (BW wv)/\τ 3=bA 7 (BH s)/\τ 4=vO 1 Py reads/\τ 6=bA 7 (BQ x)/\τ 7=bA 7 (BH v.1)/\τ 21=vS 7 BQ wv.AE/\τ 22=si (wv.AE.length:Int)/\τ 23=si HF/\τ 41= .agg [vS 1 eI x.EI,vS 1 eI x.Dr]/\τ 42=si Ji)/\DI L1 reads HF v wv x n Ji=some r) ⟨_,?_,h⟩ λn2 τ2 N2=> ?_
          . simp +decide only[go_sem, *]
          rintro⟨Ji,s2,h⟩ hN2;cases n2 with
          |zero=>exact Dm h
          |succ n2=>
           rw[DI]at h;generalize gG:DI L1 reads HF v wv x n2=L2 at h
           try simp +decide only[go_sem, *]
           refine cI h (λ_ h=> ?_) λ_ h=> ?_
           . try simp +decide only[go_sem, *]
             refine WH (λτ=>(τ 1=bA 15 (BW wv)/\τ 3=bA 7 (BH s)/\τ 4=vO 1 Py reads/\τ 6=bA 7 (BQ x)/\τ 7=bA 7 (BH v.1)/\τ 21=vS 7 BQ wv.AE/\τ 22=si (wv.AE.length:Int)/\τ 23=si HF/\τ 41= .agg [vS 1 eI x.EI,vS 1 eI x.Dr]/\τ 42=si Ji)/\J3 L2 Ji=some r) λM3 hM3=>⟨?_,?_⟩
             . try simp +decide only[go_sem, *]
               refine WH (λτ=>∃l:List Int,(τ 1=bA 15 (BW wv)/\τ 3=bA 7 (BH s)/\τ 4=vO 1 Py reads/\τ 6=bA 7 (BQ x)/\τ 7=bA 7 (BH v.1)/\τ 10=vS 1 eI l/\τ 21=vS 7 BQ wv.AE/\τ 22=si (wv.AE.length:Int)/\τ 23=si HF/\τ 41= .agg [vS 1 eI x.EI,vS 1 eI x.Dr]/\τ 42=si Ji)/\J1 L2 reads Ji wv x l=some r) λM1 hM1=>⟨?_,?_⟩
               . rcases xA h with⟨e4,h⟩|⟨e4,h⟩
                 . obtain rfl:=e4
                   try simp +decide only[go_sem, *]
                   refine hM1 _ ⟨_,?_,h⟩;simp +decide only[go_sem, *]
                 . obtain rfl:=e4
                   try simp +decide only[go_sem, *]
                   refine hM1 _ ⟨_,?_,h⟩;simp +decide only[go_sem, *]
               rintro τ1 ⟨l,s1,h⟩
               try simp +decide only[go_sem, *]
               refine UQ (λn τ=>∃RO:Int,(τ 1=bA 15 (BW wv)/\τ 3=bA 7 (BH s)/\τ 4=vO 1 Py reads/\τ 6=bA 7 (BQ x)/\τ 7=bA 7 (BH v.1)/\τ 21=vS 7 BQ wv.AE/\τ 22=si (wv.AE.length:Int)/\τ 23=si HF/\τ 41= .agg [vS 1 eI x.EI,vS 1 eI x.Dr]/\τ 42=si Ji/\τ 45=vS 1 eI l/\τ 46=si (l.length:Int)/\τ 47=si RO)/\GL L2 l reads Ji wv x n RO=some r) ⟨_,?_,h⟩ λn3 τ3 N3=> ?_
               . simp +decide only[go_sem, *]
               rintro⟨RO,s3,h⟩ hN3;cases n3 with
               |zero=>exact Dm h
               |succ n3=>
                rw[GL]at h;generalize hL3:GL L2 l reads Ji wv x n3=L3 at h
                try simp +decide only[go_sem, *]
                refine cI h (λ_ h=> ?_) λ_ h=> ?_
                . obtain⟨x_1,_,h⟩:=gB h;obtain⟨mN,_,h⟩:=gB h
                  try simp +decide only[go_sem, *]
                  refine WH (λτ=>∃t82v:Bool,(τ 1=bA 15 (BW wv)/\τ 3=bA 7 (BH s)/\τ 4=vO 1 Py reads/\τ 6=bA 7 (BQ x)/\τ 7=bA 7 (BH v.1)/\τ 21=vS 7 BQ wv.AE/\τ 22=si (wv.AE.length:Int)/\τ 23=si HF/\τ 41= .agg [vS 1 eI x.EI,vS 1 eI x.Dr]/\τ 42=si Ji/\τ 45=vS 1 eI l/\τ 46=si (l.length:Int)/\τ 47=si RO/\τ 82=sb t82v)/\J2 L3 RO t82v=some r) λM2 zS=>⟨?_,?_⟩
                  . try simp +decide only[go_sem, *]
                    refine gI h (λ_ h=> ?_) λ_ h=> ?_
                    . obtain⟨x_3,_,h⟩:=gB h
                      try simp +decide only[go_sem, *]
                      refine gI h (λ_ h=> ?_) λ_ h=> ?_
                      . try simp +decide only[go_sem, *]
                        refine zS _ ⟨_,?_,h⟩;simp +decide only[go_sem, *]
                      obtain⟨x_4,_,h⟩:=gB h
                      try simp +decide only[go_sem, *]
                      refine zS _ ⟨_,?_,h⟩;simp +decide only[go_sem, *]
                    try simp +decide only[go_sem, *]
                    refine zS _ ⟨_,?_,h⟩;simp +decide only[go_sem, *]
                  rintro τ2 ⟨t82v,s2,h⟩
                  try simp +decide only[go_sem, *]
                  refine cI h (λ_ h=> ?_) λ_ h=> ?_
                  . obtain rfl:=AAJ h;simp +decide only[go_sem, *]
                  try simp +decide only[go_sem, *]
                  refine hN3 n3 (ABP _) _ ⟨_,?_,hL3.symm▸h⟩;simp +decide only[go_sem, *]
                try simp +decide only[go_sem, *]
                refine hM3 _ ⟨?_,h⟩;simp +decide only[go_sem, *]
             rintro τ3 ⟨s3,h⟩
             try simp +decide only[go_sem, *]
             refine hN2 n2 (ABP _) _ ⟨_,?_,gG.symm▸h⟩;simp +decide only[go_sem, *]
           try simp +decide only[go_sem, *]
           refine hM4 _ ⟨?_,h⟩;simp +decide only[go_sem, *]
        rintro τ4 ⟨s4,h⟩
        try simp +decide only[go_sem, *]
        refine WH (λτ=>∃Sk:List (List Bool),(τ 1=bA 15 (BW wv)/\τ 3=bA 7 (BH s)/\τ 4=vO 1 Py Sk/\τ 7=bA 7 (BH v.1)/\τ 21=vS 7 BQ wv.AE/\τ 22=si (wv.AE.length:Int)/\τ 23=si HF)/\J5 L1 HF v Sk=some r) λM5 hM5=>⟨?_,?_⟩
        . obtain⟨x_5,_,h⟩:=gB h
          try simp +decide only[go_sem, *]
          refine gI h (λ_ h=> ?_) λ_ h=> ?_
          . obtain⟨_,h⟩:=cS h
            try simp +decide only[go_sem, *]
            refine hM5 _ ⟨_,?_,h⟩;simp +decide only[go_sem, *]
          obtain⟨_,h⟩:=cS h
          try simp +decide only[go_sem, *]
          refine hM5 _ ⟨_,?_,h⟩;simp +decide only[go_sem, *]
        rintro τ5 ⟨Sk,s5,h⟩
        try simp +decide only[go_sem, *]
        refine hM6 _ ⟨_,_,?_,h⟩;simp +decide only[go_sem, *]
      rintro τ6 ⟨s_1,Sl,s6,h⟩
      try simp +decide only[go_sem, *]
      refine hN1 n1 (ABP _) _ ⟨_,_,_,?_,hL1.symm▸h⟩;simp +decide only[go_sem, *]
    try simp +decide only[go_sem, *]
    refine hM7 _ ⟨?_,h⟩;simp +decide only[go_sem, *]
 rintro τ7 ⟨_,h⟩;obtain rfl:=AAJ h;simp +decide only[go_sem, *]
end
def f111c:IC:=(Ra 0 [.K 4 0,.K 5 0]
(Sq (Ra 0 [.K 6 0]
(Bl 0 (Sq (Ra 10 [.C 6,.C 1,.Z 11,.O .lss 10 12]
(cX 13 0))
(Sq (Bk 1 (Ra 16 [.C 1,.C 6,.I 11 16 17,.A 11 18,.b 7 [33,48,57] (.bx 11 (.c (.agg z4))),.S 11 7 19]
(Ra 20 [.y 0 (.cp (.t 0)),.A 11 7,.o (.Ww 148 [] (.t 20) none [.t 21]),.M 8 22]
(OZ 1 (Ra 23 [.r 0 3,.Z 26,.P .add 27 1,.P .gtr 28 6]
(Ci 29 (Rc 0 [.K 8 2])))
(Sq (Ra 30 [.C 8,.P .neq 30 0]
(Ci 31 (Rb 32 [.C 8,.f 1 7,.M 4 32,.M 5 34])))
(Sq (.apd ⟨42,43,45,7,8,9,11,12⟩ [i1 35 0 (.cp (.t 0)),i1 36 0 (.JW (.t 35)),ML 37 0 3 36,bL 38 0 37,iA 39 11 7,iZ 40 38,i0 41 (.NH 11 [z4] [(0,.c (.agg z4))]),⟨some ⟨42,[43],[]⟩,.app 11 176 (.t 38) (.t 41),none⟩,iIr 43 42 11 42 40,iS 11 43 39,i1 44 0 (.JW (.t 35)),ML 45 0 3 44,⟨none,.std (.t 45),none⟩])
(Ra 47 [.y 0 (.cp (.t 0)),.f 9 7,.o (.Ww 111 [] (.t 47) none [.t 49]),.w 46,.C 50,.w 51,.o (.ext (.t 46) 0),.o (.ext (.t 46) 1),.M 8 51,.M 9 52]
(Sq (Ra 53 [.C 8,.Q 53 0]
(Ci 54 (Rc 56 [.y 0 (.cp (.t 0)),.f 10 7,.o (.Ww 111 [] (.t 56) none [.t 58]),.w 55,.C 59,.w 60,.o (.ext (.t 55) 0),.o (.ext (.t 55) 1),.M 8 60,.M 9 61])))
(Sq (.bE [(0,0,12,62)] [i0 62 .fl,i1 63 0 (.cp (.t 0)),i1 64 0 (.JW (.t 63)),ML 65 0 3 64,bL 66 0 65,i1 67 0 (.cp (.t 0)),i1 68 0 (.JW (.t 67)),ML 69 0 3 68,bL 70 0 69,iZ 71 70,iP 72 .sub 71 1,i0 73 (.vV 11 false (.t 66) none (some (.t 72)) none),i1 74 0 (.JW (.t 0)),ML 75 0 3 74,iS 1 75 73])
(Ra 76 [.C 8,.P .neq 76 0]
(Ci 77 (Rb 78 [.C 8,.C 9,.M 4 78,.M 5 79]))))))))))))
(Rc 14 [.C 6,.P .add 14 1,.M 6 15])))))
(Rb 0 [.K 4 0,.K 5 0])))
def f111g:Gi:=⟨[(20,[0]),(23,[0]),(24,[0]),(25,[0]),(26,[0]),(33,[7]),(35,[0]),(36,[0]),(37,[0]),(38,[0]),(43,[42]),(44,[0]),(45,[0]),(47,[0]),(48,[7]),(56,[0]),(57,[7]),(63,[0]),(64,[0]),(65,[0]),(66,[0]),(67,[0]),(68,[0]),(69,[0]),(70,[0]),(74,[0]),(75,[0])]⟩
def f111r:List RV:=[.tmp 4,.tmp 5]
namespace B2
def J3 (s:BI):ABh (Int×Int×BI):=
some (0,0,s)
def J2 (L1:BI->Int->ABh (Int×Int×BI)) (c:Int) (d:BI) (p q:Int):ABh (Int×Int×BI):=
if 0≤(Aq ((d.Fi.length:Int)-1))/\((Aq ((d.Fi.length:Int)-1)).toNat)≤d.Fi.length then
if p != 0 then
some (p,q,(BI.mk d.p d.Be (d.Fi.take ((Aq ((d.Fi.length:Int)-1)).toNat)) d.LS d.Xf))
else
L1 (BI.mk d.p d.Be (d.Fi.take ((Aq ((d.Fi.length:Int)-1)).toNat)) d.LS d.Xf) (Aq (c+1))
else none
def J1 (L1:BI->Int->ABh (Int×Int×BI)) (R100:BI->(List AR)->ABh (Int×Int×BI)) (c:Int) (b:Int×BI) (a:AR) (i:Int):ABh (Int×Int×BI):=
if i != 0 then
some (i,a.E8,b.2)
else
if Ap (b.2.Fi.length+1) 176=true then
(gt (b.2.Fi++[(AR.mk 0 0 (⟨#[]⟩:ABi) (⟨#[]⟩:ABi) [] (BA.mk 0 0 (⟨#[]⟩:ABi) []) [] [])]) (b.2.Fi.length:Int)).bind λt=>
(R100 (BI.mk b.2.p b.2.Be ((b.2.Fi++[(AR.mk 0 0 (⟨#[]⟩:ABi) (⟨#[]⟩:ABi) [] (BA.mk 0 0 (⟨#[]⟩:ABi) []) [] [])]).set b.2.Fi.length a) b.2.LS b.2.Xf) a.Body).bind λj=>
if j.1==0 then
(R100 j.2.2 a.Else).bind λo=>
J2 L1 c o.2.2 o.1 o.2.1
else
J2 L1 c j.2.2 j.1 j.2.1
else none
def L1 (R100:BI->(List AR)->ABh (Int×Int×BI)) (e:List AR) (L1:BI->Int->ABh (Int×Int×BI)) (f:BI) (c:Int):ABh (Int×Int×BI):=
if decide (c<(e.length:Int))then
(gt e c).bind λa=>
(BF f a).bind λb=>
if decide ((Aq ((b.2.Fi.length:Int)+1))>6)then
J1 L1 R100 c b a 2
else
J1 L1 R100 c b a b.1
else
J3 f
def AZ (R100:BI->(List AR)->ABh (Int×Int×BI)) (e:List AR):Nat->BI->Int->ABh (Int×Int×BI)
|0,_,_=>none
|n+1,f,c=>L1 R100 e (AZ R100 e n) f c
end B2
section
open B2
def B2 (R100:BI->(List AR)->ABh (Int×Int×BI)) (l:BI) (e:List AR):ABh (Int×Int×BI):=
AZ R100 e Bg l 0
theorem Sv {R100:BI->(List AR)->ABh (Int×Int×BI)} (H100:∀{x0 x1 r},R100 x0 x1=some r->BM Tryz.prog 111 [bA 6 (Gv x0),vS 11 A6 x1] (.BT [si r.1,si r.2.1]) [bA 6 (Gv r.2.2),.dead]) {l:BI} {e:List AR} {r:Int×Int×BI} (h:B2 R100 l e=some r):BM Tryz.prog 111 [bA 6 (Gv l),vS 11 A6 e] (.BT [si r.1,si r.2.1]) [bA 6 (Gv r.2.2),.dead]:=by refine wL mix Tryz.func111 (I:=⟨f111c,f111g,f111r⟩) ?_;simp only[f111c,f111g,f111r];have a1:= @Sw;have a2:= @H100;have l1:=λn1 n2 n3 n4:Nat=>A7 λn τ=>∃(f:BI) (c:Int),(τ 0=bA 6 (Gv f)/\τ 1=vS 11 A6 e/\τ 6=si c)/\AZ R100 e n f c=some r;have c1:=λn1 n2 n3 n4:Nat=>Bu 1 λτ=>∃(c:Int) (b:Int×BI) (a:AR) (i:Int),(τ 0=bA 6 (Gv b.2)/\τ 1=vS 11 A6 e/\τ 6=si c/\τ 7=bA 11 [si a.Op,si a.E8,BZ a.Name,BZ a.Arg,vS 4 BC a.Index,si a.Expr.Op,si a.Expr.N,BZ a.Expr.Name,vS 4 BC a.Expr.L,vS 11 A6 a.Body,vS 11 A6 a.Else]/\τ 8=si i)/\J1 (AZ R100 e n1) R100 c b a i=some r;unfold B2 at h;exact walk
end
def Nw:Nat->(BI->(List AR)->ABh (Int×Int×BI))
|0=>(λ_ _=>none)
|n+1=>B2 ((Nw n))
def Ea (n:Nat):BI->(List AR)->ABh (Int×Int×BI):=(Nw n)
theorem RD (n:Nat):(∀{x0 x1 r},(Ea n) x0 x1=some r->BM Tryz.prog 111 [bA 6 (Gv x0),.sl false 11 (x1.map A6)] (.BT [si r.1,si r.2.1]) [bA 6 (Gv r.2.2),.dead]):=by
  induction n with
  |zero=>exactλh=>Dm h
  |succ n ih=>exactλh=>Sv ih h
theorem RE {n:Nat}:∀{x0 x1 r},(Ea n) x0 x1=some r->BM Tryz.prog 111 [bA 6 (Gv x0),.sl false 11 (x1.map A6)] (.BT [si r.1,si r.2.1]) [bA 6 (Gv r.2.2),.dead]:=(RD n)
def f30c:IC:=(Ra 0 [.b 1 [10,14,18,21,22,26,35] (.bx 7 (.t 0)),.K 2 0,.K 3 0]
(Sq (Ra 10 [.f 6 1,.Z 11,.P .gtr 12 400]
(Ci 13 (Rb 0 [.K 2 0,.K 3 2])))
(Sq (Ra 14 [.F 0 1,.A 6 14,.c 39 [15] 0,.N 16]
(Ci 17 (Rb 0 [.K 2 0,.K 3 1])))
(Ra 18 [.F 0 1,.A 6 18,.c 31 [19] 2,.b 4 [37] (.bx 7 (.c (.agg z0))),.S 7 4 20]
(Ra 21 [.F 0 1,.h 1 4 21,.Z 23,.o (.mk 1 24 z16 (.t 24) (.t 24)),.b 5 [45,48,49,58,61,62,73] (.mv (.t 25))]
(Sq (Ra 26 [.f 6 1,.Z 27,.Y 0]
(Bl 0 (Ra 30 [.O .lss 29 28]
(Sq (cX 30 0)
(Sq (Bk 1 (Ra 31 [.C 29,.I 7 27 29,.A 7 32,.b 7 [46,56,59,63,67] (.bx 7 (.c (.agg z5))),.M 6 31,.S 7 7 33]
(Ra 35 [.F 0 1,.A 6 35,.y 4 (.ld true 7 (.t 4)),.A 7 7,.b 39 [34,40,41] (.call 35 [.t 36,.t 37,.t 38] 2),.w 34,.y 39 (.cp (.t 39)),.w 40,.y 39 (.ext (.t 34) 0),.y 39 (.ext (.t 34) 1),.b 8 [74] (.bx 7 (.c (.agg z0))),.S 7 8 40,.b 9 [42] (.mv (.t 41))]
(Sq (Ra 42 [.y 9 (.cp (.t 9)),.N 42,.C 43,.G 44 false,.y 5 (.cp (.t 5)),.f 0 7,.y 5 (.Va 1 (.t 45) (.t 47)),.l 5 48,.o (.ld true 7 (.t 7)),.c 67 [49,50] 0,.N 51,.e,.V 44 52]
(Ci 53 (Rb 54 [.C 6,.M 2 54,.K 3 12])))
(Sq (.bE [(5,0,18,55)] [i0 55 .fl,ML 56 7 0 7,iL 57 56,i1 58 5 (.cp (.t 5)),ML 59 7 0 7,iL 60 59,iIr 61 5 1 58 60,bL 62 5 61,ML 63 7 1 7,iL 64 63,iQ 65 64 3,iC 66 65,jFr 67 7 1 7 66 false,jL 68 67 66 false,jP 69 .eql 68 23 66 false,iOr 70 66 69,i0 71 (.NH 1 [[sb false]] [(0,.t 70)]),i0 72 (.app 1 1 (.t 62) (.t 71)),iIr 73 5 1 5 57,iS 1 73 72])
(Rc 74 [.y 8 (.ld true 7 (.t 8)),.S 7 4 74]))))))
(Rc 75 [.P .add 29 1,.w 29,.C 75]))))))
(Rb 0 [.K 2 0,.K 3 0])))))))
def f30g:Gi:=⟨[(10,[1]),(14,[1]),(18,[1]),(21,[1]),(22,[1]),(26,[1]),(34,[39]),(35,[1]),(37,[4]),(40,[39]),(41,[39]),(42,[9]),(45,[5]),(46,[7]),(48,[5]),(49,[5]),(56,[7]),(58,[5]),(59,[7]),(61,[5]),(62,[5]),(63,[7]),(67,[7]),(73,[5]),(74,[8])]⟩
def f30r:List RV:=[.tmp 2,.tmp 3]
namespace CJ
def J3:ABh (Int×Int):=
some (0,0)
def J2 (L1:AB->(List (List Bool))->Int->ABh (Int×Int)) (b:Int) (e:AB×Bool) (j:List (List Bool)):ABh (Int×Int):=
L1 e.1 j (Aq (b+1))
def J1 (L1:AB->(List (List Bool))->Int->ABh (Int×Int)) (c:List (List Bool)) (b:Int) (e:AB×Bool) (d:AK) (l:Bool):ABh (Int×Int):=
if l then
some (b,12)
else
(gt c d.Thread).bind λi=>
if d.Kind==3 then
if Ap (i.length+1) 1=true then
J2 L1 b e (c.set d.Thread.toNat (i++[true]))
else none
else
if Ap (i.length+1) 1=true then
J2 L1 b e (c.set d.Thread.toNat (i++[d.Kind==23]))
else none
def L1 (a:BN) (L1:AB->(List (List Bool))->Int->ABh (Int×Int)) (f:AB) (c:List (List Bool)) (b:Int):ABh (Int×Int):=
if decide (b<(a.AE.length:Int))then
(gt a.AE b).bind λd=>
(Bm a.World f d).bind λe=>
if !e.2 then
J1 L1 c b e d true
else
(gt c d.Thread).bind λs=>
(Am s d).bind λq=>
J1 L1 c b e d (!q)
else
J3
def AZ (a:BN):Nat->AB->(List (List Bool))->Int->ABh (Int×Int)
|0,_,_,_=>none
|n+1,f,c,b=>L1 a (AZ a n) f c b
end CJ
section
open CJ
def CJ (a:BN):ABh (Int×Int):=
if decide ((a.AE.length:Int)>400)then
some (0,2)
else
(Bf a.World).bind λo=>
if !o then
some (0,1)
else
(Cx a.World).bind λp=>
if 0≤(a.World.AA.length:Int)/\(a.World.AA.length:Int)≤(a.World.AA.length:Int)/\Ap a.World.AA.length 24=true then
AZ a Bg p (List.replicate a.World.AA.length ([]:List Bool)) 0
else none
theorem QM {a:BN} {r:Int×Int} (h:CJ a=some r):Says Tryz.prog 30 [.agg (Ia a)] (.BT [si r.1,si r.2]):=by refine wO mix Tryz.func30 (I:=⟨f30c,f30g,f30r⟩) ?_;simp only[f30c,f30g,f30r];have a1:= @Jk;have a2:= @Kp;have a3:= @I5;have a4:= @Nc;have l1:=λn1 n2 n3 n4:Nat=>A7 λn τ=>∃(f:AB) (c:List (List Bool)) (b:Int),(τ 1=bA 7 (Ia a)/\τ 4=bA 7 (Et f)/\τ 5=vO 1 Py c/\τ 27=vS 7 BQ a.AE/\τ 28=si (a.AE.length:Int)/\τ 29=si b)/\AZ a n f c b=some r;unfold CJ at h;exact walk
end
namespace CZ
def J5 (t:AK):ABh (AK×Bool):=
some (t,true)
def J4 (d:AK) (c:AM) (a:Ac) (u:Bool):ABh (AK×Bool):=
if u then
(gt c.CA a.B).bind λs=>
if Ap (d.Dr.length+s.length) 8=true then
J5 (AK.mk d.Thread d.Kind d.Obj d.Value d.Site d.EI (d.Dr++s))
else none
else
J5 d
def J3 (c:AM) (a:Ac) (d:AK):ABh (AK×Bool):=
if a.Op==8 then
J4 d c a true
else
if a.Op==9 then
J4 d c a true
else
J4 d c a (a.Op==26)
def J2 (b i j:Int) (c:AM) (a:Ac) (v:Bool):ABh (AK×Bool):=
if v then
(gt c.CA a.C).bind λq=>
if Ap (q.length) 8=true then
J3 c a (AK.mk b i j 0 a.Site q [])
else none
else
J3 c a (AK.mk b i j 0 a.Site [] [])
def J1 (e:BB) (f:Ae) (b:Int) (l:Bool):ABh (AK×Bool):=
if l then
some ((AK.mk 0 0 0 0 0 [] []),false)
else
(gt f.AA b).bind λc=>
(gt e.AA b).bind λx=>
(gt x.Aw c.PC).bind λa=>
(gt f.Sync.AA b).bind λo=>
if o.Status==1 then
some ((AK.mk b 1 (-1) 0 (-1) [] []),true)
else
if o.Status==4 then
some ((AK.mk b 17 o.DC 0 a.Site [] []),true)
else
if o.Status==2 then
(HS a.Op).bind λi=>
(E2 a c).bind λj=>
if i==0 then
some ((AK.mk 0 0 0 0 0 [] []),false)
else
if a.Op==10 then
(gt c.CA a.A).bind λp=>
if Ap (p.length) 8=true then
J3 c a (AK.mk b i j 0 a.Site p [])
else none
else
if a.Op==7 then
J2 b i j c a (a.Op==7)
else
J2 b i j c a (a.Op==9)
else
some ((AK.mk 0 0 0 0 0 [] []),false)
end CZ
section
open CZ
def CZ (e:BB) (f:Ae) (b:Int):ABh (AK×Bool):=
(Ef e f).bind λw=>
if !w then
J1 e f b true
else
if decide (b<0)then
J1 e f b true
else
J1 e f b (decide (b≥(e.AA.length:Int)))
theorem T1 {e:BB} {f:Ae} {b:Int} {r:AK×Bool} (h:CZ e f b=some r):Says Tryz.prog 129 [.agg (He e),.agg (Iz f),si b] (.BT [.agg (It r.1),sb r.2]):=by refine kO mix Tryz.func129 (hn [(3,[21,32]),(4,[27,46,47,60,61]),(8,[38,90,103,126]),(9,[43,72,84,92,105,111,115,120,128]),(10,[67,68,69,78,79,80,88,89,97,101,102,110,124,125,133,134])] [(2,1),(20,3)] (E:=[(11,(Rc 60 [.F 0 4,.h 4 3 60,.C 2,.I 3 62 63,.U 1 64,.F 1 10,.x ⟨none,.Vg (.t 67) (.c (si 17)),none⟩,.F 2 10,.x ⟨none,.Vg (.t 68) (.t 66),none⟩])),(14,(Rc 72 [.f 0 9,.c 167 [73] 0,.A 6 9,.A 4 8,.c 168 [75,76] 0,.F 1 10,.x ⟨none,.Vg (.t 78) (.t 74),none⟩,.F 2 10,.x ⟨none,.Vg (.t 79) (.t 77),none⟩]))])) ?_;have a1:= @YR;have a2:= @VH;have a3:= @YP;have c3:=λn1 n2 n3 n4:Nat=>Bu 3 λτ=>∃(c:AM) (a:Ac) (d:AK),(τ 6=bA 7 z5/\τ 8=bA 4 (Eu c)/\τ 9=bA 6 (EB a)/\τ 10=bA 7 (It d))/\J3 c a d=some r;have c1:=λn1 n2 n3 n4:Nat=>Bu 1 λτ=>∃(l:Bool),(τ 2=si b/\τ 3=bA 7 (He e)/\τ 4=bA 7 (Iz f)/\τ 6=bA 7 z5/\τ 25=sb l)/\J1 e f b l=some r;unfold CZ at h;exact walk
end
namespace Gb
def J2 (e:List AP):ABh ((List AP)×Int):=
some (e,0)
def L1 (b:Int) (a:BN) (L1:(List AP)->Int->ABh ((List AP)×Int)) (d:List AP) (c:Int):ABh ((List AP)×Int):=
if decide (c<(a.AE.length:Int))then
(G1 a c).bind λj=>
if 0≤c/\0≤(if(a.AE.length:Int)<(Aq (c+b))then(a.AE.length:Int)else(Aq (c+b)))/\c.toNat≤((if(a.AE.length:Int)<(Aq (c+b))then(a.AE.length:Int)else(Aq (c+b))).toNat)/\((if(a.AE.length:Int)<(Aq (c+b))then(a.AE.length:Int)else(Aq (c+b))).toNat)≤a.AE.length then
if Ap (d.length+1) 328=true then
L1 (d++[(AP.mk a.World c j ((a.AE.drop c.toNat).take (((if(a.AE.length:Int)<(Aq (c+b))then(a.AE.length:Int)else(Aq (c+b))).toNat)-c.toNat)))]) (Aq (c+b))
else none
else none
else
J2 d
def AZ (b:Int) (a:BN):Nat->(List AP)->Int->ABh ((List AP)×Int)
|0,_,_=>none
|n+1,d,c=>L1 b a (AZ b a n) d c
def J1 (b:Int) (a:BN) (f:Bool):ABh ((List AP)×Int):=
if f then
some ([],1)
else
AZ b a Bg [] 0
end Gb
section
open Gb
def Gb (a:BN) (b:Int):ABh ((List AP)×Int):=
(Gt a).bind λi=>
if i.2 != 0 then
some ([],12)
else
if decide (b<1)then
J1 b a true
else
J1 b a (decide (b>16))
theorem XT {a:BN} {b:Int} {r:(List AP)×Int} (h:Gb a b=some r):Says Tryz.prog 22 [.agg (Ia a),si b] (.BT [vO 15 HV r.1,si r.2]):=by refine kO mix Tryz.func22 (hn [(2,[24,32,38,44]),(8,[31,52])]) ?_;have a1:= @XQ;have a2:= @XV;have l1:=λn1 n2 n3 n4:Nat=>A7 λn τ=>∃(d:List AP) (c:Int),(τ 1=si b/\τ 2=bA 7 (Ia a)/\τ 8=vO 15 HV d/\τ 9=si c)/\AZ b a n d c=some r;unfold Gb at h;exact walk
end
end Go.Abs
