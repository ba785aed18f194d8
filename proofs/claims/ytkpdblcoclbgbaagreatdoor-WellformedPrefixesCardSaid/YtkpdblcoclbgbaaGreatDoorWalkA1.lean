/- Typed programs of Go functions, and that the functions do what these say. -/
import Derived.Test.YtkpdblcoclbgbaaGreatDoorBaseA
import Derived.Test.YtkpdblcoclbgbaaGreatDoorWalkC
import Derived.Test.YtkpdblcoclbgbaaGreatDoorWalkZ
import Derived.Test.YtkpdblcoclbgbaaGreatDoorWalkY
import Derived.Test.YtkpdblcoclbgbaaGreatDoorWalkB
import Derived.Shelf.Slices.SearchI
set_option linter.unusedSimpArgs false
set_option linter.unusedVariables false
namespace Go.Abs
open Go.Proofs
set_option maxRecDepth 100000
set_option maxHeartbeats 4000000
def AAQ:IC:=(Sq (.Z1 [.rM ⟨2,[],[0]⟩ 4 0,.o (iK 4 0)])
(Ra 0 [.K 5 0]
(Hl (Ra 8 [.m 0 3 2,.Z 9,.Y 0]
(Bl 0 (Ra 12 [.O .lss 11 10]
(Sq (cX 12 0)
(Hl (Bk 1 (Ra 13 [.C 11,.J 0 3 9 11,.A 3 14,.w 7,.o (.bx 3 (.c (.agg fD))),.M 6 13,.S 3 7 15]
(Ra 16 [.A 3 7,.C 1,.c 94 [16,17] 0]
(Ci 18 (Ra 19 [.m 0 3 2,.C 6,.J 0 3 20 21,.H 0 0 22,.T 23 4]
(Rc 24 [.C 5,.P .add 24 1,.M 5 25]))))))
(Rc 26 [.P .add 11 1,.w 11,.C 26]))))))
(Rb 27 [.C 5,.M 4 27]))))
def AAR:Gi:=⟨[(2,[0]),(8,[0]),(9,[0]),(14,[0]),(19,[0]),(20,[0]),(22,[0]),(23,[0])]⟩
def AAS:List RV:=[.tmp 4]
def f63:FI:=⟨AAQ,AAR,AAS⟩
theorem vQ:I2 Tryz.prog Tryz.f63 f63=true:=by kernel_rfl
namespace CR
def J2 (s_2:List AD) (nv_2:Int):Option (Int×(List AD)):=
some (nv_2,s_2)
def J1 (L1:(List AD)->Int->Int->Option (Int×(List AD))) (t11v:Int) (s_1:List AD) (nv_1:Int):Option (Int×(List AD)):=
L1 s_1 nv_1 (BE (t11v+1))
def L1 (cond:Int) (threads:List AD) (L1:(List AD)->Int->Int->Option (Int×(List AD))) (s:List AD) (nv t11v:Int):Option (Int×(List AD)):=
if decide (t11v<(threads.length:Int))then
(gt s t11v).bind λx=>
(EA x cond).bind λv=>
if v then
J1 L1 t11v (s.set t11v.toNat (AD.mk 4 x.Ef x.Atomic)) (BE (nv+1))
else
J1 L1 t11v s nv
else
J2 s nv
def Ac (cond:Int) (threads:List AD):Nat->(List AD)->Int->Int->Option (Int×(List AD))
|0,_,_,_=>none
|n+1,s,nv,t11v=>L1 cond threads (Ac cond threads n) s nv t11v
end CR
section
open CR
def CR (tx:Int) (threads:List AD) (cond:Int):Option (Int×(List AD)):=
Ac cond threads Bo threads 0 0
theorem LY {tx:Int} {threads:List AD} {cond:Int} {r:Int×(List AD)} (h:CR tx threads cond=some r):A5 Tryz.prog 63 [.agg [.dead,si tx,.dead,vO 3 A2 threads],si cond] (si r.1) [.agg [.dead,si tx,.dead,vO 3 A2 r.2],.dead]:=by
 refine RT mix Tryz.func63 vQ (by kernel_rfl) (of_decide_eq_true (by kernel_rfl)) rfl rfl ?_
 simp only[f63,AAQ,AAR,AAS]
 try simp +decide only[go_sem, *]
 intro us1 _
 try simp +decide only[go_sem, *]
 refine II (λτ=>∃s_2:List AD,∃nv_2:Int,(τ 0= .agg [.dead,si tx,.dead,vO 3 A2 s_2]/\τ 5=si nv_2)/\J2 s_2 nv_2=some r) λM2 hM2=>⟨?_,?_⟩
 . try simp +decide only[go_sem, *]
   refine Jc (λn τ=>∃s:List AD,∃nv:Int,∃t11v:Int,(τ 0= .agg [.dead,si tx,.dead,vO 3 A2 s]/\τ 1=si cond/\τ 2= .vb 0 0 us1/\τ 5=si nv/\τ 9= .al 0 [(0,3,0)]/\τ 10=si (threads.length:Int)/\τ 11=si t11v)/\Ac cond threads n s nv t11v=some r) ⟨_,_,_,?_,h⟩ λn1 τ1 N1=> ?_
   . simp +decide only[go_sem, *]
   rintro⟨s,nv,t11v,s1,h⟩ hN1
   cases n1 with
   |zero=>exact B9 h
   |succ n1=>
    rw[Ac]at h;generalize hL1:Ac cond threads n1=L1 at h
    try simp +decide only[go_sem, *]
    refine cI h (λ_ h=> ?_) λ_ h=> ?_
    . try simp +decide only[go_sem, *]
      refine II (λτ=>∃s_1:List AD,∃nv_1:Int,(τ 0= .agg [.dead,si tx,.dead,vO 3 A2 s_1]/\τ 1=si cond/\τ 2= .vb 0 0 us1/\τ 5=si nv_1/\τ 9= .al 0 [(0,3,0)]/\τ 10=si (threads.length:Int)/\τ 11=si t11v)/\J1 L1 t11v s_1 nv_1=some r) λM1 hM1=>⟨?_,?_⟩
      . obtain⟨x,_,h⟩:=gB h
        obtain⟨v,g2,h⟩:=bS h
        try simp +decide only[go_sem, *]
        refine⟨_,Jd g2,?_⟩
        try simp +decide only[go_sem, *]
        refine cI h (λ_ h=> ?_) λ_ h=> ?_
        . try simp +decide only[go_sem, *]
          refine hM1 _ ⟨_,_,?_,h⟩
          simp +decide only[go_sem, *]
        try simp +decide only[go_sem, *]
        refine hM1 _ ⟨_,_,?_,h⟩
        simp +decide only[go_sem, *]
      rintro τ1 ⟨s_1,nv_1,s1,h⟩
      try simp +decide only[go_sem, *]
      refine hN1 n1 (Nat.lt_succ_self _) _ ⟨_,_,_,?_,hL1.symm▸h⟩
      simp +decide only[go_sem, *]
    try simp +decide only[go_sem, *]
    refine hM2 _ ⟨_,_,?_,h⟩
    simp +decide only[go_sem, *]
 rintro τ2 ⟨s_2,nv_2,s2,h⟩
 obtain rfl:=Option.some.inj h
 simp +decide only[go_sem, *]
end
def yC:IC:=(Ra 12 [.b 6 [119,142] (.bx 6 (.t 0)),.b 7 [18,25,30,31,33,34,37,38,40,41,45,46,49,50,54,55,57,58,61,62,64,65,66,72,73,77,78,84,85,87,88,89,92,93,97,100,103,104,106,107,110,111,113,114,117,118,125,126,127,128,130,131,134,135,136,137,140,141,149,150,151,152,154,155,157,158,159,160,163,169,174,175,177,178,181,182,184,185] (.bx 4 (.t 1)),.b 8 [90] (.bx 1 (.t 2)),.o (.bx 4 (.c (.agg z4))),.K 13 0,.B 14 false]
(Sq (Ra 17 [.A 6 6,.y 7 (.ld true 4 (.t 7)),.L 8,.C 3,.C 4,.c 29 [17,18,19,20,21] 0,.N 22]
(Ci 23 (Rb 24 [.o (.Dc z4 []),.S 4 12 24,.K 13 0,.B 14 false])))
(Ra 25 [.y 7 (.ld true 4 (.t 7)),.c 57 [25] 2,.S 4 7 26]
(Ra 0 [.K 15 0]
(Bw 3 (Ra 27 [.C 3]
(Bk 0 (Ra 29 [.q 27 1 28]
(Cn 28 (Rc 30 [.m 7 3 7,.L 8,.J 7 3 31 32,.H 7 0 33,.T 34 2]) (Ra 36 [.q 27 2 35]
(Cn 35 (Rc 37 [.m 7 3 7,.L 8,.J 7 3 38 39,.H 7 0 40,.T 41 5]) (Bw 1 (Ra 43 [.q 27 6 42]
(Cn 42 .skip (Rc 44 [.q 27 10 42])))
(Cn 42 (Rc 45 [.m 7 0 7,.C 4,.L 8,.J 7 2 46 47,.H 7 0 49,.S 1 50 48]) (Bw 2 (Ra 52 [.q 27 7 51]
(Cn 51 .skip (Rc 53 [.q 27 11 51])))
(Cn 51 (Rc 54 [.m 7 0 7,.C 4,.J 7 2 55 56,.H 7 0 57,.T 58 (-1)]) (Ra 60 [.q 27 8 59]
(Cn 59 (Ra 61 [.m 7 0 7,.C 4,.J 7 2 62 63,.m 7 1 64,.L 8,.o (.Eg 1 [[si 0]] [(0,.t 67)]),.o (.app 1 8 (.t 66) (.t 68)),.b 16 [70,75] (.mv (.t 69))]
(Ra 70 [.y 16 (.cp (.t 16)),.o (.EK 58 [] (.t 70) none [])]
(Rc 72 [.m 7 0 7,.C 4,.y 16 (.cp (.t 16)),.c 59 [75] 3,.J 7 2 73 74,.H 7 1 77,.S 1 78 76]))) (Ra 80 [.q 27 9 79]
(Cn 79 (.tZ ⟨7,0,4,0,1,11,81,82⟩ [i0 81 .fl,i0 82 .fl,iC 83 4,LQ 84 7 0 7,VD 85 7 84,iC 86 4,rV 87 7 2 85 86,LQ 88 7 1 87,VD 89 7 88,i1 90 8 (.fM 61 [.t 8]),i0 91 (.call 60 [.t 89,.t 90] 4),i1 92 7 (.VE 7 0 4 2 (.t 83))]
[LQ 93 7 1 92,iS 1 93 91]) (Ra 95 [.q 27 12 94]
(Cn 94 (Rc 96 [.L 8,.F 1 7,.S 1 97 96]) (Ra 99 [.q 27 13 98]
(Cn 98 (Rc 100 [.F 1 7,.T 100 (-1)]) (Ra 102 [.q 27 14 101]
(Cn 101 (Rc 103 [.m 7 3 7,.L 8,.J 7 3 104 105,.H 7 2 106,.x ⟨none,.st 1 (.t 107) (.c (sb true)),none⟩]) (Ra 109 [.q 27 15 108]
(Cn 108 (Rc 110 [.m 7 3 7,.L 8,.J 7 3 111 112,.H 7 2 113,.x ⟨none,.st 1 (.t 114) (.c (sb false)),none⟩]) (Ra 116 [.q 27 16 115]
(Cn 115 (Ra 117 [.m 7 0 7,.f 2 6,.C 4,.I 2 120 121,.U 1 122,.J 7 2 118 124,.H 7 0 125,.T 126 (-1)]
(Rc 127 [.F 3 7,.y 7 (.Qt (.t 127)),.L 8,.F 3 7,.y 7 (.Qt (.t 130)),.L 8,.C 4,.J 7 3 128 129,.H 7 0 134,.x ⟨none,.P1 (.t 135) (.c (si 3)),none⟩,.J 7 3 131 132,.H 7 1 136,.x ⟨none,.P1 (.t 137) (.t 133),none⟩])) (Ra 139 [.q 27 17 138]
(Cn 138 (Ra 140 [.m 7 0 7,.f 2 6,.C 4,.I 2 143 144,.U 1 145,.L 8,.J 7 2 141 147,.H 7 0 149,.S 1 150 148]
(Rc 151 [.F 3 7,.y 7 (.Qt (.t 151)),.L 8,.F 3 7,.y 7 (.Qt (.t 154)),.L 8,.J 7 3 152 153,.H 7 0 157,.x ⟨none,.P1 (.t 158) (.c (si 2)),none⟩,.J 7 3 155 156,.H 7 1 159,.x ⟨none,.P1 (.t 160) (.c (si 0)),none⟩])) (Ra 162 [.q 27 18 161]
(Cn 161 (Rc 163 [.y 7 (.ld true 4 (.t 7)),.C 4,.C 5,.o (.EK 62 [] (.t 163) (some 3) [.t 164,.t 165]),.M 15 166]) (Ra 168 [.q 27 19 167]
(Cn 167 (Rc 169 [.y 7 (.ld true 4 (.t 7)),.C 4,.o (.EK 63 [] (.t 169) (some 3) [.t 170]),.M 15 171]) (Ra 173 [.q 27 20 172]
(Cn 172 (Rc 174 [.m 7 3 7,.C 4,.J 7 3 175 176,.H 7 0 177,.T 178 1]) (Ra 180 [.q 27 22 179]
(Ci 179 (Rc 181 [.m 7 2 7,.C 4,.J 7 1 182 183,.x ⟨none,.st 1 (.t 184) (.c (sb true)),none⟩])))))))))))))))))))))))))))))))))))
(Rb 185 [.y 7 (.ld true 4 (.t 7)),.C 15,.S 4 12 185,.M 13 186,.B 14 true]))))))
def yD:Gi:=⟨[(18,[7]),(25,[7]),(30,[7]),(31,[7]),(33,[7]),(34,[7]),(37,[7]),(38,[7]),(40,[7]),(41,[7]),(45,[7]),(46,[7]),(49,[7]),(50,[7]),(54,[7]),(55,[7]),(57,[7]),(58,[7]),(61,[7]),(62,[7]),(64,[7]),(65,[7]),(66,[7]),(70,[16]),(72,[7]),(73,[7]),(75,[16]),(77,[7]),(78,[7]),(84,[7]),(85,[7]),(87,[7]),(88,[7]),(89,[7]),(90,[8]),(92,[7]),(93,[7]),(97,[7]),(100,[7]),(103,[7]),(104,[7]),(106,[7]),(107,[7]),(110,[7]),(111,[7]),(113,[7]),(114,[7]),(117,[7]),(118,[7]),(119,[6]),(125,[7]),(126,[7]),(127,[7]),(128,[7]),(130,[7]),(131,[7]),(134,[7]),(135,[7]),(136,[7]),(137,[7]),(140,[7]),(141,[7]),(142,[6]),(149,[7]),(150,[7]),(151,[7]),(152,[7]),(154,[7]),(155,[7]),(157,[7]),(158,[7]),(159,[7]),(160,[7]),(163,[7]),(169,[7]),(174,[7]),(175,[7]),(177,[7]),(178,[7]),(181,[7]),(182,[7]),(184,[7]),(185,[7])]⟩
def yE:List RV:=[.cell 12 true 4,.tmp 13,.tmp 14]
namespace Dm
def J3 (j:AO) (p:Int):Option (AO×Int×Bool):=
some (j,p,true)
def J2 (c d b:Int) (a:AO) (f:Int) (e:AB) (o:Bool):Option (AO×Int×Bool):=
if o then
(gt a.AG d).bind λau=>
J3 (AO.mk (a.AG.set d.toNat (AY.mk (-1) au.BW)) a.Tx a.Ce a.AA) 0
else
if c==8 then
(gt a.AG d).bind λt=>
if Aq (t.BW.length+1) 8=true then
(Il (t.BW++[b])).bind λaj=>
(slices_Compact aj).bind λal=>
J3 (AO.mk (a.AG.set d.toNat (AY.mk t.En al)) a.Tx a.Ce a.AA) 0
else none
else
if c==9 then
(gt a.AG d).bind λac=>
(F6 ac.BW b).bind λao=>
J3 (AO.mk (a.AG.set d.toNat (AY.mk ac.En ao)) a.Tx a.Ce a.AA) 0
else
if c==12 then
J3 (AO.mk a.AG b a.Ce a.AA) 0
else
if c==13 then
J3 (AO.mk a.AG (-1) a.Ce a.AA) 0
else
if c==14 then
(gt a.AA b).bind λad=>
J3 (AO.mk a.AG a.Tx a.Ce (a.AA.set b.toNat (AD.mk ad.Status ad.Ef true))) 0
else
if c==15 then
(gt a.AA b).bind λae=>
J3 (AO.mk a.AG a.Tx a.Ce (a.AA.set b.toNat (AD.mk ae.Status ae.Ef false))) 0
else
if c==16 then
(gt e.Au d).bind λaf=>
(gt a.AG af.Mutex).bind λav=>
(gt a.AA b).bind λq=>
(gt (a.AA.set b.toNat (AD.mk 3 q.Ef q.Atomic)) b).bind λy=>
J3 (AO.mk (a.AG.set af.Mutex.toNat (AY.mk (-1) av.BW)) a.Tx a.Ce ((a.AA.set b.toNat (AD.mk 3 q.Ef q.Atomic)).set b.toNat (AD.mk y.Status d y.Atomic))) 0
else
if c==17 then
(gt e.Au d).bind λz=>
(gt a.AG z.Mutex).bind λap=>
(gt a.AA b).bind λs=>
(gt (a.AA.set b.toNat (AD.mk 2 s.Ef s.Atomic)) b).bind λaa=>
J3 (AO.mk (a.AG.set z.Mutex.toNat (AY.mk b ap.BW)) a.Tx a.Ce ((a.AA.set b.toNat (AD.mk 2 s.Ef s.Atomic)).set b.toNat (AD.mk aa.Status 0 aa.Atomic))) 0
else
if c==18 then
(CU a.Tx a.AA d f).bind λu=>
J3 (AO.mk a.AG a.Tx a.Ce u.2) u.1
else
if c==19 then
(CR a.Tx a.AA d).bind λv=>
J3 (AO.mk a.AG a.Tx a.Ce v.2) v.1
else
if c==20 then
(gt a.AA d).bind λab=>
J3 (AO.mk a.AG a.Tx a.Ce (a.AA.set d.toNat (AD.mk 1 ab.Ef ab.Atomic))) 0
else
if c==22 then
(gt a.Ce d).bind λaw=>
J3 (AO.mk a.AG a.Tx (a.Ce.set d.toNat true) a.AA) 0
else
J3 a 0
def J1 (c d b:Int) (a:AO) (f:Int) (e:AB) (l:Bool):Option (AO×Int×Bool):=
if l then
(gt a.AG d).bind λaq=>
J3 (AO.mk (a.AG.set d.toNat (AY.mk b aq.BW)) a.Tx a.Ce a.AA) 0
else
if c==7 then
J2 c d b a f e (c==7)
else
J2 c d b a f e (c==11)
end Dm
section
open Dm
def Dm (e:AB) (i:AO) (b c:Int) (d f:Int):Option (AO×Int×Bool):=
(Cg e i b c d).bind λai=>
if !ai then
some ((AO.mk [] 0 [] []),0,false)
else
(C8 i).bind λa=>
if c==1 then
(gt a.AA b).bind λw=>
J3 (AO.mk a.AG a.Tx a.Ce (a.AA.set b.toNat (AD.mk 2 w.Ef w.Atomic))) 0
else
if c==2 then
(gt a.AA b).bind λx=>
J3 (AO.mk a.AG a.Tx a.Ce (a.AA.set b.toNat (AD.mk 5 x.Ef x.Atomic))) 0
else
if c==6 then
J1 c d b a f e (c==6)
else
J1 c d b a f e (c==10)
theorem PQ {e:AB} {i:AO} {b c:Int} {d f:Int} {r:AO×Int×Bool} (h:Dm e i b c d f=some r):Says Tryz.prog 33 [.agg (Ap e),.agg (GZ i),si b,si c,si d,si f] (.A9 [.agg (FK r.1),si r.2.1,sb r.2.2]):=by
 refine wO mix Tryz.func33 (I:=⟨yC,yD,yE⟩) ?_
 simp only[yC,yD,yE]
 have a1:= @Ic
 have a2:= @PT
 have a3:= @Rf
 have a4:= @OD
 have a5:= @I9
 have a6:= @OX
 have a7:= @LY
 have c3:=λn1 n2 n3 n4:Nat=>B7 3 λτ=>∃(j:AO) (p:Int),(τ 7=bA 4 (FK j)/\τ 12=bA 4 z4/\τ 15=si p)/\J3 j p=some r
 have c2:=λn1 n2 n3 n4:Nat=>B7 2 λτ=>∃(a:AO) (o:Bool),(τ 4=si d/\τ 5=si f/\τ 6=bA 6 (Ap e)/\τ 7=bA 4 (FK a)/\τ 8=bA 1 [si b]/\τ 12=bA 4 z4/\τ 15=si 0/\τ 27=si c/\τ 51=sb o)/\J2 c d b a f e o=some r
 have c1:=λn1 n2 n3 n4:Nat=>B7 1 λτ=>∃(a:AO) (l:Bool),(τ 4=si d/\τ 5=si f/\τ 6=bA 6 (Ap e)/\τ 7=bA 4 (FK a)/\τ 8=bA 1 [si b]/\τ 12=bA 4 z4/\τ 15=si 0/\τ 27=si c/\τ 42=sb l)/\J1 c d b a f e l=some r
 unfold Dm at h
 exact walk
end
def yF:IC:=(.seq (.TO [⟨some ⟨2,[],[]⟩,.mv (.c (.own false 1 [])),none⟩])
(.seq (.seq (.Z1 [.o ⟨some ⟨3,[],[]⟩,.cp (.t 0),none⟩,
.Ty ⟨4,[],[]⟩ false (.t 3)])
(.cond (.t 4) (.seq (.TO [⟨some ⟨2,[],[]⟩,.mv (.c (.own false 1 [])),none⟩])
.ret) .skip))
(.seq (.TO [⟨some ⟨5,[],[]⟩,.Eg 1 [] [],none⟩,
⟨some ⟨6,[],[]⟩,.cp (.t 0),none⟩,
⟨some ⟨7,[],[]⟩,.app 1 8 (.t 5) (.t 6),none⟩,
⟨some ⟨2,[],[]⟩,.mv (.t 7),none⟩])
.ret)))
def yG:Gi:=⟨[]⟩
def yH:List RV:=[.tmp 2]
def f34:FI:=⟨yF,yG,yH⟩
theorem vI:I2 Tryz.prog Tryz.f34 f34=true:=by kernel_rfl
def FO (l:List Int):Option (List Int):=if Aq l.length 8=true then some l else none
theorem KA {l:List Int} {r:List Int} (h:FO l=some r):Says Tryz.prog 34 [vS 1 eI l] (vO 1 eI r):=by
  obtain⟨g,h⟩:=HZ h
  obtain rfl:=Option.some.inj h
  refine Ij mix Tryz.func34 vI (of_decide_eq_true (by kernel_rfl)) rfl ?_
  simp only[f34,yF,yG,yH]
  simp +decide only[go_sem,g]
  intro b hb
  cases b with
  |true=>
    have hl:l=[]:=by simpa using hb rfl
    subst hl
    simp +decide only[go_sem,g]
  |false=>simp +decide only[go_sem,g]
def wH:IC:=(Ra 6 [.b 3 [25] (.bx 6 (.t 0)),.b 4 [42,79,96,99,102] (.bx 7 (.t 1)),.b 5 [18,23,31,36,44,46,48,72,75,81,83,85,106,112,114,121,123,128] (.bx 7 (.t 2)),.o (.bx 7 (.c (.agg z1))),.B 7 false]
(Sq (Bw 1 (Rc 13 [.A 6 3,.A 7 4,.c 28 [13,14] 0,.N 15,.C 16,.G 17 false,.f 0 5,.P .lss 19 0,.e,.V 17 20,.C 21,.G 22 false,.f 0 5,.f 4 3,.Z 26,.O .geq 24 27,.e,.V 22 28,.C 29,.G 30 false,.f 1 5,.P .lss 32 1,.e,.V 30 33,.C 34,.G 35 false,.f 1 5,.P .gtr 37 23,.e,.V 35 38])
(Ci 39 (Rb 40 [.o (.Dc z1 []),.S 7 6 40,.B 7 false])))
(Sq (Bw 2 (Rc 41 [.A 6 3,.F 0 4,.A 4 42,.f 0 5,.f 1 5,.f 2 5,.c 29 [41,43,45,47,49] 0,.N 50,.C 51,.G 52 false,.o (.ld true 6 (.t 3)),.o (.ld true 7 (.t 5)),.c 30 [53,54] 0,.N 55,.e,.V 52 56,.C 57,.G 58 false,.o (.ld true 6 (.t 3)),.o (.ld true 7 (.t 4)),.o (.ld true 7 (.t 5)),.c 31 [59,60,61] 0,.N 62,.e,.V 58 63,.C 64,.G 65 false,.o (.ld true 7 (.t 4)),.o (.ld true 7 (.t 5)),.c 32 [66,67] 0,.N 68,.e,.V 65 69])
(Ci 70 (Rb 71 [.o (.Dc z1 []),.S 7 6 71,.B 7 false])))
(Ra 0 [.K 8 (-1)]
(Bw 3 (Ra 72 [.f 1 5,.Q 73 18]
(Ci 74 (Rc 75 [.f 3 5,.M 8 76])))
(Ra 78 [.A 6 3,.F 0 4,.A 4 79,.f 0 5,.f 1 5,.f 2 5,.C 8,.b 88 [77,89,90,91] (.call 33 [.t 78,.t 80,.t 82,.t 84,.t 86,.t 87] 2),.w 77,.y 88 (.cp (.t 88)),.w 89,.y 88 (.ext (.t 77) 0),.y 88 (.ext (.t 77) 1),.y 88 (.ext (.t 77) 2),.b 9 [95] (.bx 4 (.c (.agg z4))),.S 4 9 89,.M 10 90,.b 11 [92] (.mv (.t 91))]
(Sq (Ra 92 [.y 11 (.cp (.t 11)),.N 92]
(Ci 93 (Rb 94 [.o (.Dc z1 []),.S 7 6 94,.B 7 false])))
(Ra 95 [.y 9 (.ld true 4 (.t 9)),.f 4 4,.c 34 [97] 2,.f 5 4,.c 34 [100] 2,.f 6 4,.c 35 [103] 2,.o (.Dc z1 [(0,4,.t 95),(4,1,.t 98),(5,1,.t 101),(6,1,.t 104)]),.b 12 [110,111,116,119,120,125,126,127,130,133,134] (.bx 7 (.c (.agg z1))),.S 7 12 105]
(Sq (Ra 106 [.f 1 5]
(Bk 0 (Ra 109 [.q 107 4 108]
(Cn 108 (Rc 110 [.m 12 4 12,.f 2 5,.f 3 5,.J 12 1 111 113,.S 1 116 115]) (Ra 118 [.q 107 22 117]
(Ci 117 (Rc 119 [.m 12 5 12,.f 2 5,.f 3 5,.J 12 1 120 122,.S 1 125 124])))))))
(Ra 126 [.m 12 6 12,.f 0 5,.J 12 1 127 129,.L 130,.P .add 131 1,.J 12 1 127 129,.S 1 133 132]
(Rb 134 [.y 12 (.ld true 7 (.t 12)),.S 7 6 134,.B 7 true])))))))))))
def wI:Gi:=⟨[(18,[5]),(23,[5]),(25,[3]),(31,[5]),(36,[5]),(42,[4]),(44,[5]),(46,[5]),(48,[5]),(72,[5]),(75,[5]),(77,[88]),(79,[4]),(81,[5]),(83,[5]),(85,[5]),(89,[88]),(90,[88]),(91,[88]),(92,[11]),(95,[9]),(96,[4]),(99,[4]),(102,[4]),(106,[5]),(110,[12]),(111,[12]),(112,[5]),(114,[5]),(116,[12]),(119,[12]),(120,[12]),(121,[5]),(123,[5]),(125,[12]),(126,[12]),(127,[12]),(128,[5]),(130,[12]),(133,[12]),(134,[12])]⟩
def wJ:List RV:=[.cell 6 true 7,.tmp 7]
namespace BZ
def J4 (a:AN) (d:AM):Option (AM×Bool):=
(gt d.Count a.Thread).bind λw=>
some ((AM.mk d.Sync d.Cells d.AH (d.Count.set a.Thread.toNat (BE (w+1)))),true)
def J3 (a:AN) (b:AM) (c:AB) (o:Int):Option (AM×Bool):=
(Dm c b.Sync a.Thread a.Kind a.Obj o).bind λi=>
if !i.2.2 then
some ((AM.mk (AO.mk [] 0 [] []) [] [] []),false)
else
(FO b.Cells).bind λj=>
(FO b.AH).bind λl=>
(slices_Clone_int b.Count).bind λp=>
if a.Kind==4 then
(gt j a.Obj).bind λx=>
J4 a (AM.mk i.1 (j.set a.Obj.toNat a.Value) l p)
else
if a.Kind==22 then
(gt l a.Obj).bind λy=>
J4 a (AM.mk i.1 j (l.set a.Obj.toNat a.Value) p)
else
J4 a (AM.mk i.1 j l p)
def J2 (a:AN) (b:AM) (c:AB) (f:Bool):Option (AM×Bool):=
if f then
some ((AM.mk (AO.mk [] 0 [] []) [] [] []),false)
else
if a.Kind==18 then
J3 a b c a.Value
else
J3 a b c (-1)
def J1 (a:AN) (b:AM) (c:AB) (e:Bool):Option (AM×Bool):=
if e then
some ((AM.mk (AO.mk [] 0 [] []) [] [] []),false)
else
(Cg c b.Sync a.Thread a.Kind a.Obj).bind λs=>
if !s then
J2 a b c true
else
(CW c a).bind λt=>
if !t then
J2 a b c true
else
(AR c b a).bind λu=>
if !u then
J2 a b c true
else
(Am b a).bind λv=>
J2 a b c (!v)
end BZ
section
open BZ
def BZ (c:AB) (b:AM) (a:AN):Option (AM×Bool):=
(DS c b).bind λq=>
if !q then
J1 a b c true
else
if decide (a.Thread<0)then
J1 a b c true
else
if decide (a.Thread≥(c.AA.length:Int))then
J1 a b c true
else
if decide (a.Kind<1)then
J1 a b c true
else
J1 a b c (decide (a.Kind>23))
theorem Mo {c:AB} {b:AM} {a:AN} {r:AM×Bool} (h:BZ c b a=some r):Says Tryz.prog 14 [.agg (Ap c),.agg (Cz b),.agg (C4 a)] (.A9 [.agg (HL r.1),sb r.2]):=by
 refine wO mix Tryz.func14 (I:=⟨wH,wI,wJ⟩) ?_
 simp only[wH,wI,wJ]
 have a1:= @PQ
 have a2:= @KA
 have a3:= @Hp
 have a4:= @Ic
 have a5:= @Kx
 have a6:= @Iv
 have a7:= @Ky
 have a8:= @Mq
 have c3:=λn1 n2 n3 n4:Nat=>B7 3 λτ=>∃(o:Int),(τ 3=bA 6 (Ap c)/\τ 4=bA 7 (Cz b)/\τ 5=bA 7 (C4 a)/\τ 6=bA 7 z1/\τ 8=si o)/\J3 a b c o=some r
 have c2:=λn1 n2 n3 n4:Nat=>B7 2 λτ=>∃(f:Bool),(τ 3=bA 6 (Ap c)/\τ 4=bA 7 (Cz b)/\τ 5=bA 7 (C4 a)/\τ 6=bA 7 z1/\τ 70=sb f)/\J2 a b c f=some r
 have c1:=λn1 n2 n3 n4:Nat=>B7 1 λτ=>∃(e:Bool),(τ 3=bA 6 (Ap c)/\τ 4=bA 7 (Cz b)/\τ 5=bA 7 (C4 a)/\τ 6=bA 7 z1/\τ 39=sb e)/\J1 a b c e=some r
 unfold BZ at h
 exact walk
end
end Go.Abs
