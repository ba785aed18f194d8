/- Typed programs of Go functions, and that the functions do what these say. -/
import Derived.Test.YtkpdblcoclbgbaaGreatDoorBaseA
import Derived.Test.YtkpdblcoclbgbaaGreatDoorWalkA
import Derived.Test.YtkpdblcoclbgbaaGreatDoorWalkB
import Derived.Shelf.Slices.SearchI
set_option linter.unusedSimpArgs false
set_option linter.unusedVariables false
namespace Go.Abs
open Go.Proofs
set_option maxRecDepth 100000
set_option maxHeartbeats 4000000
def AA9:IC:=(Ra 0 [.B 2 false]
(Rb 3 [.C 0,.c 76 [3] 0,.C 4,.G 5 false,.C 0,.c 111 [6] 0,.e,.V 5 7,.C 8,.G 9 false,.C 0,.o (.bin .eql (.t 10) (.c (.sc (.int .u8 95)))),.e,.V 9 11,.M 2 12]))
def ABA:Gi:=⟨[]⟩
def ABB:List RV:=[.tmp 2]
namespace Er
def J1 (b:Bool):Option Bool:=
some b
end Er
section
open Er
def Er (a:Int):Option Bool:=
(EB a).bind λc=>
if c then
J1 true
else
(E9 a).bind λd=>
if d then
J1 true
else
J1 (a==95)
theorem Q6 {a:Int} {r:Bool} (h:Er a=some r):Says Tryz.prog 78 [.sc (.int .u8 a)] (sb r):=by
 refine wO mix Tryz.func78 (I:=⟨AA9,ABA,ABB⟩) ?_
 simp only[AA9,ABA,ABB]
 have a1:= @Jg
 have a2:= @Q4
 unfold Er at h
 exact walk
end
def zD:IC:=(Ra 0 [.B 2 false]
(Sq (Hl (Rc 4 [.C 0,.o (.Pk (.t 4)),.P .lss 5 1,.C 6,.G 7 false,.C 0,.o (.Pk (.t 8)),.P .gtr 9 12,.e,.V 7 10,.C 11,.G 12 false,.C 0,.o (.UE (.t 13) (.c (si 0))),.c 76 [14] 0,.N 15,.e,.V 12 16,.C 17,.G 18 false,.C 0,.c 77 [19] 0,.e,.V 18 20])
(Ci 21 (Rb 0 [.B 2 false])))
(Hl (Ra 0 [.K 3 0]
(Bl 0 (Sq (Ra 22 [.C 3,.C 0,.o (.Pk (.t 23)),.O .lss 22 24]
(cX 25 0))
(Sq (Bk 1 (Ra 28 [.C 0,.C 3,.o (.UE (.t 28) (.t 29)),.c 78 [30] 0,.N 31]
(Ci 32 (Rb 0 [.B 2 false]))))
(Rc 26 [.C 3,.P .add 26 1,.M 3 27])))))
(Rb 0 [.B 2 true]))))
def zE:Gi:=⟨[]⟩
def zF:List RV:=[.tmp 2]
def f42:FI:=⟨zD,zE,zF⟩
theorem vL:I2 Tryz.prog Tryz.f42 f42=true:=by kernel_rfl
namespace BV
def J2:Option Bool:=
some true
def L1 (s:ByteArray) (L1:Int->Option Bool) (i:Int):Option Bool:=
if decide (i<(s.size:Int))then
(q8 s i).bind λc_1=>
(Er (c_1.toNat:Int)).bind λv_2=>
if !v_2 then
some false
else
L1 (BE (i+1))
else
J2
def Ac (s:ByteArray):Nat->Int->Option Bool
|0,_=>none
|n+1,i=>L1 s (Ac s n) i
def J1 (s:ByteArray) (t21v:Bool):Option Bool:=
if t21v then
some false
else
Ac s Bo 0
end BV
section
open BV
def BV (s:ByteArray):Option Bool:=
if decide ((s.size:Int)<1)then
J1 s true
else
if decide ((s.size:Int)>12)then
J1 s true
else
(q8 s 0).bind λc=>
(EB (c.toNat:Int)).bind λv=>
if !v then
J1 s true
else
(CQ s).bind λv_1=>
J1 s v_1
theorem FV {s:ByteArray} {r:Bool} (h:BV s=some r):Says Tryz.prog 42 [Ao s] (sb r):=by
 refine Ij mix Tryz.func42 vL (of_decide_eq_true (by kernel_rfl)) rfl ?_
 simp only[f42,zD,zE,zF]
 try simp +decide only[go_sem, *]
 refine II (λτ=>∃t21v:Bool,(τ 0=Ao s/\τ 21=sb t21v)/\J1 s t21v=some r) λM1 hM1=>⟨?_,?_⟩
 . try simp +decide only[go_sem, *]
   refine gI h (λ_ h=> ?_) λ_ h=> ?_
   . try simp +decide only[go_sem, *]
     refine hM1 _ ⟨_,?_,h⟩
     simp +decide only[go_sem, *]
   try simp +decide only[go_sem, *]
   refine gI h (λ_ h=> ?_) λ_ h=> ?_
   . try simp +decide only[go_sem, *]
     refine hM1 _ ⟨_,?_,h⟩
     simp +decide only[go_sem, *]
   obtain⟨c,_,h⟩:=sgL (n:=0) (by simp) h
   obtain⟨v,g2,h⟩:=bS h
   try simp +decide only[go_sem, *]
   refine⟨_,Jg g2,?_⟩
   try simp +decide only[go_sem, *]
   refine gI h (λ_ h=> ?_) λ_ h=> ?_
   . try simp +decide only[go_sem, *]
     refine hM1 _ ⟨_,?_,h⟩
     simp +decide only[go_sem, *]
   obtain⟨v_1,g3,h⟩:=bS h
   try simp +decide only[go_sem, *]
   refine⟨_,Md g3,?_⟩
   try simp +decide only[go_sem, *]
   refine hM1 _ ⟨_,?_,h⟩
   simp +decide only[go_sem, *]
 rintro τ1 ⟨t21v,s1,h⟩
 try simp +decide only[go_sem, *]
 refine cI h (λ_ h=> ?_) λ_ h=> ?_
 . obtain rfl:=Option.some.inj h
   simp +decide only[go_sem, *]
 try simp +decide only[go_sem, *]
 refine II (λτ=>(True)/\J2=some r) λM2 hM2=>⟨?_,?_⟩
 . try simp +decide only[go_sem, *]
   refine Jc (λn τ=>∃i:Int,(τ 0=Ao s/\τ 3=si i)/\Ac s n i=some r) ⟨_,?_,h⟩ λn1 τ1 N1=> ?_
   . simp +decide only[go_sem, *]
   rintro⟨i,s1,h⟩ hN1
   cases n1 with
   |zero=>exact B9 h
   |succ n1=>
    rw[Ac]at h;generalize hL1:Ac s n1=L1 at h
    try simp +decide only[go_sem, *]
    refine cI h (λ_ h=> ?_) λ_ h=> ?_
    . obtain⟨c_1,_,h⟩:=sgB h
      obtain⟨v_2,g5,h⟩:=bS h
      try simp +decide only[go_sem, *]
      refine⟨_,Q6 g5,?_⟩
      try simp +decide only[go_sem, *]
      refine cI h (λ_ h=> ?_) λ_ h=> ?_
      . obtain rfl:=Option.some.inj h
        simp +decide only[go_sem, *]
      try simp +decide only[go_sem, *]
      refine hN1 n1 (Nat.lt_succ_self _) _ ⟨_,?_,hL1.symm▸h⟩
      simp +decide only[go_sem, *]
    try simp +decide only[go_sem, *]
    refine hM2 _ ⟨?_,h⟩
    simp +decide only[go_sem, *]
 rintro τ2 ⟨_,h⟩
 obtain rfl:=Option.some.inj h
 simp +decide only[go_sem, *]
end
def nA:IC:=(Ra 0 [.b 1 [3,7,12,18,23,27,32,36,42,46,51,55,59,64] (.bx 6 (.t 0)),.B 2 false]
(Sq (Bw 1 (Rc 3 [.f 0 1,.P .lss 4 1,.C 5,.G 6 false,.f 0 1,.P .gtr 8 6,.e,.V 6 9,.C 10,.G 11 false,.f 2 1,.c 42 [13] 0,.N 14,.e,.V 11 15,.C 16,.G 17 false,.f 3 1,.P .lss 19 0,.e,.V 17 20,.C 21,.G 22 false,.f 0 1,.P .neq 24 1,.C 25,.G 26 true,.f 3 1,.P .neq 28 0,.G 22 false,.o (.pick (.t 26) (.t 29) (.c (sb false))),.e,.V 22 30])
(Ci 31 (Rb 0 [.B 2 false])))
(Sq (Bw 2 (Rc 32 [.f 0 1,.Q 33 5,.C 34,.G 35 true,.f 5 1,.c 42 [37] 0,.N 38,.e,.W 35 39,.C 40,.G 41 false,.f 0 1,.P .neq 43 5,.C 44,.G 45 true,.f 5 1,.o (.bin .neq (.t 47) (.c (Ao ⟨#[]⟩))),.G 41 false,.o (.pick (.t 45) (.t 48) (.c (sb false))),.e,.V 41 49])
(Ci 50 (Rb 0 [.B 2 false])))
(Rb 51 [.f 4 1,.P .gtr 52 (-9223372036854775808),.C 53,.G 54 true,.f 4 1,.P .eql 56 0,.C 57,.G 58 false,.f 0 1,.P .eql 60 1,.G 54 true,.o (.pick (.t 58) (.c (sb true)) (.t 61)),.C 62,.G 63 false,.f 0 1,.P .eql 65 2,.G 54 true,.o (.pick (.t 63) (.c (sb true)) (.t 66)),.e,.W 54 67,.M 2 68]))))
def nC:Gi:=⟨[(3,[1]),(7,[1]),(12,[1]),(18,[1]),(23,[1]),(27,[1]),(32,[1]),(36,[1]),(42,[1]),(46,[1]),(51,[1]),(55,[1]),(59,[1]),(64,[1])]⟩
def nF:List RV:=[.tmp 2]
namespace Bs
def J3 (d:Bool):Option Bool:=
some d
def J2 (a:DK) (c:Bool):Option Bool:=
if c then
some false
else
if decide (a.Init>(-9223372036854775808))then
if a.Init==0 then
J3 true
else
if a.Kind==1 then
J3 true
else
J3 (a.Kind==2)
else
J3 false
def J1 (a:DK) (b:Bool):Option Bool:=
if b then
some false
else
if a.Kind==5 then
(BV a.On).bind λf=>
if !f then
J2 a true
else
if a.Kind != 5 then
J2 a (!(a.On.toList==(⟨#[]⟩:ByteArray).toList))
else
J2 a false
else
if a.Kind != 5 then
J2 a (!(a.On.toList==(⟨#[]⟩:ByteArray).toList))
else
J2 a false
end Bs
section
open Bs
def Bs (a:DK):Option Bool:=
if decide (a.Kind<1)then
J1 a true
else
if decide (a.Kind>6)then
J1 a true
else
(BV a.Name).bind λe=>
if !e then
J1 a true
else
if decide (a.Bn<0)then
J1 a true
else
if a.Kind != 1 then
J1 a (a.Bn != 0)
else
J1 a false
theorem Lb {a:DK} {r:Bool} (h:Bs a=some r):Says Tryz.prog 132 [.agg (G2 a)] (sb r):=by
 refine wO mix Tryz.func132 (I:=⟨nA,nC,nF⟩) ?_
 simp only[nA,nC,nF]
 have a1:= @FV
 have c2:=λn1 n2 n3 n4:Nat=>B7 2 λτ=>∃(c:Bool),(τ 1=bA 6 (G2 a)/\τ 50=sb c)/\J2 a c=some r
 have c1:=λn1 n2 n3 n4:Nat=>B7 1 λτ=>∃(b:Bool),(τ 1=bA 6 (G2 a)/\τ 31=sb b)/\J1 a b=some r
 unfold Bs at h
 exact walk
end
def qW:IC:=(Ra 0 [.K 2 0]
(Sq (Bk 0 (Bw 1 (Rc 4 [.C 0,.Q 4 1,.C 5,.G 6 false,.C 0,.P .eql 7 2,.e,.V 6 8,.M 3 9])
(Cn 3 (Rb 0 [.K 2 0]) (Ra 11 [.C 0,.P .geq 11 3,.C 12,.G 13 true,.C 0,.P .leq 14 5,.e,.W 13 15,.M 10 16]
(Cn 10 (Rb 0 [.K 2 1]) (Ra 18 [.C 0,.P .geq 18 6,.C 19,.G 20 true,.C 0,.P .leq 21 18,.e,.W 20 22,.M 17 23]
(Ci 17 (Rb 0 [.K 2 2]))))))))
(Rb 0 [.K 2 (-1)])))
def qX:Gi:=⟨[]⟩
def qY:List RV:=[.tmp 2]
namespace Cu
def J3 (d:Bool):Option Int:=
if d then
some 2
else
some (-1)
def J2 (a:Int) (c:Bool):Option Int:=
if c then
some 1
else
if decide (a≥6)then
J3 (decide (a≤18))
else
J3 false
def J1 (a:Int) (b:Bool):Option Int:=
if b then
some 0
else
if decide (a≥3)then
J2 a (decide (a≤5))
else
J2 a false
end Cu
section
open Cu
def Cu (a:Int):Option Int:=
if a==1 then
J1 a true
else
J1 a (a==2)
theorem Nn {a r:Int} (h:Cu a=some r):Says Tryz.prog 171 [si a] (si r):=by
 refine wO mix Tryz.func171 (I:=⟨qW,qX,qY⟩) ?_
 simp only[qW,qX,qY]
 have c1:=λn1 n2 n3 n4:Nat=>B7 1 λτ=>∃(b:Bool),(τ 0=si a/\τ 3=sb b)/\J1 a b=some r
 unfold Cu at h
 exact walk
end
def oL:IC:=(Ra 4 [.o (.bx 4 (.t 1)),.o (.bx 4 (.t 2)),.o (.bx 4 (.c (.agg z12)))]
(Rb 7 [.C 0,.A 4 4,.A 4 5,.o (.Eg 4 [z12,z12] [(0,.t 8),(1,.t 9)]),.o (.Dc z12 [(0,1,.t 7),(3,1,.t 10)]),.S 4 6 11]))
def oM:Gi:=⟨[]⟩
def oN:List RV:=[.cell 6 true 4]
def Ft (c:Int) (a b:As):Option As:=
some (As.mk c 0 (⟨#[]⟩:ByteArray) [a,b])
theorem KT {c:Int} {a b r:As} (h:Ft c a b=some r):Says Tryz.prog 143 [si c,.agg [si a.Op,si a.N,Ao a.Name,vS 4 Av a.L],.agg [si b.Op,si b.N,Ao b.Name,vS 4 Av b.L]] (.agg [si r.Op,si r.N,Ao r.Name,vS 4 Av r.L]):=by
 refine wF mix Tryz.func143 (I:=⟨oL,oM,oN⟩) ?_
 simp only[oL,oM,oN]
 unfold Ft at h
 exact walk
def oI:IC:=(Ra 4 [.o (.bx 4 (.c (.agg z12)))]
(Ra 8 [.o (.Eg 1 [[Ao ⟨#[]⟩],[Ao ⟨#[]⟩],[Ao ⟨#[]⟩],[Ao ⟨#[]⟩],[Ao ⟨#[]⟩],[Ao ⟨#[]⟩],[Ao ⟨#[]⟩]] [(0,.c (Ao ⟨#[97]⟩)),(1,.c (Ao ⟨#[98]⟩)),(2,.c (Ao ⟨#[120]⟩)),(3,.c (Ao ⟨#[121]⟩)),(4,.c (Ao ⟨#[118]⟩)),(5,.c (Ao ⟨#[120]⟩)),(6,.c (Ao ⟨#[121]⟩))]),.b 5 [34,39,42] (.mv (.t 8))]
(Ra 9 [.r 0 0,.o (.EK 72 [] (.t 12) none [.c (si 10)]),.M 6 13]
(Sq (Bk 0 (Bw 1 (Rc 15 [.C 6,.P .lss 15 2,.C 16,.G 17 false,.C 1,.P .eql 18 0,.C 19,.G 20 true,.C 6,.P .geq 21 7,.G 17 false,.o (.pick (.t 20) (.t 22) (.c (sb false))),.e,.V 17 23,.M 14 24])
(Cn 14 (Rb 25 [.r 0 0,.o (.EK 72 [] (.t 28) none [.c (si 4)]),.c 75 [29] 1,.S 4 4 30]) (Ra 32 [.C 6,.P .lss 32 7,.M 31 33]
(Cn 31 (Rb 34 [.y 5 (.cp (.t 5)),.r 0 0,.y 5 (.cp (.t 5)),.Z 39,.o (.EK 72 [] (.t 38) none [.t 40]),.J 5 1 34 41,.L 42,.c 144 [43] 1,.S 4 4 44]) (Ra 46 [.C 6,.q 46 7 45]
(Ci 45 (Rb 48 [.y 0 (.cp (.t 0)),.o (.EK 142 [] (.t 48) none [.c (si 0)]),.o (.Eg 4 [z12] [(0,.t 49)]),.o (.Dc z12 [(0,1,.c (si 3)),(2,1,.c (Ao ⟨#[113]⟩)),(3,1,.t 50)]),.S 4 4 51]))))))))
(Ra 52 [.o (.Eg 1 [[si 0],[si 0],[si 0],[si 0],[si 0],[si 0]] [(0,.c (si 6)),(1,.c (si 7)),(2,.c (si 8)),(3,.c (si 11)),(4,.c (si 13)),(5,.c (si 17))]),.b 7 [53,58,61] (.mv (.t 52))]
(Sq (.Vt [(0,10,13,63),(0,14,17,67)] [i1 53 7 (.cp (.t 7)),i1 54 0 (.cp (.t 0)),i1 55 0 (.FF (.t 54)),LQ 56 0 0 55,VD 57 0 56,i1 58 7 (.cp (.t 7)),iZ 59 58,i0 60 (.EK 72 [] (.t 57) none [.t 59]),rV 61 7 1 53 60,iL 62 61,i0 63 .fl,iC 64 1,iP 65 .sub 64 1,i0 66 (.EK 142 [] (.t 0) none [.t 65]),i0 67 .fl,iC 68 1,iP 69 .sub 68 1,i0 70 (.EK 142 [] (.t 0) none [.t 69]),i0 71 (.call 143 [.t 62,.t 66,.t 70] 1),iS 4 4 71])
.ret))))))
def oJ:Gi:=⟨[(9,[0]),(10,[0]),(11,[0]),(12,[0]),(25,[0]),(26,[0]),(27,[0]),(28,[0]),(34,[5]),(35,[0]),(36,[0]),(37,[0]),(38,[0]),(39,[5]),(42,[5]),(48,[0]),(53,[7]),(54,[0]),(55,[0]),(56,[0]),(57,[0]),(58,[7]),(61,[7])]⟩
def oK:List RV:=[.cell 4 true 4]
namespace CD
def J1 (R142:AF->Int->Option (As×AF)) (c:Int) (a:AF) (b:Int×Cm) (d:Bool):Option (As×AF):=
if d then
(BF b.2 4).bind λe=>
(G4 e.1).bind λp=>
some (p,(AF.mk e.2 a.BG a.left a.E5 a.tx a.atomic a.loop a.held))
else
if decide (b.1<7)then
(BF b.2 7).bind λf=>
(gt [(⟨#[97]⟩:ByteArray),(⟨#[98]⟩:ByteArray),(⟨#[120]⟩:ByteArray),(⟨#[121]⟩:ByteArray),(⟨#[118]⟩:ByteArray),(⟨#[120]⟩:ByteArray),(⟨#[121]⟩:ByteArray)] f.1).bind λt=>
(GH t).bind λq=>
some (q,(AF.mk f.2 a.BG a.left a.E5 a.tx a.atomic a.loop a.held))
else
if b.1==7 then
(R142 (AF.mk b.2 a.BG a.left a.E5 a.tx a.atomic a.loop a.held) 0).bind λi=>
some ((As.mk 3 0 (⟨#[113]⟩:ByteArray) [i.1]),i.2)
else
(BF b.2 6).bind λj=>
(gt [6,7,8,11,13,17] j.1).bind λu=>
(R142 (AF.mk j.2 a.BG a.left a.E5 a.tx a.atomic a.loop a.held) (BE (c-1))).bind λl=>
(R142 l.2 (BE (c-1))).bind λo=>
(Ft u l.1 o.1).bind λs=>
some (s,o.2)
end CD
section
open CD
def CD (R142:AF->Int->Option (As×AF)) (a:AF) (c:Int):Option (As×AF):=
(BF a.t 10).bind λb=>
if decide (b.1<2)then
J1 R142 c a b true
else
if c==0 then
J1 R142 c a b (decide (b.1≥7))
else
J1 R142 c a b false
theorem MX {R142:AF->Int->Option (As×AF)} (H142:∀{x0 x1 r},R142 x0 x1=some r->A5 Tryz.prog 142 [bA 8 (Be x0),si x1] (.agg [si r.1.Op,si r.1.N,Ao r.1.Name,vS 4 Av r.1.L]) [bA 8 (Be r.2),.dead]) {a:AF} {c:Int} {r:As×AF} (h:CD R142 a c=some r):A5 Tryz.prog 142 [bA 8 (Be a),si c] (.agg [si r.1.Op,si r.1.N,Ao r.1.Name,vS 4 Av r.1.L]) [bA 8 (Be r.2),.dead]:=by
 refine wP mix Tryz.func142 (I:=⟨oI,oJ,oK⟩) ?_
 simp only[oI,oJ,oK]
 have a1:= @Fi
 have a2:= @KW
 have a3:= @NW
 have a4:= @H142
 have a5:= @KT
 have c1:=λn1 n2 n3 n4:Nat=>B7 1 λτ=>∃(b:Int×Cm) (d:Bool),(τ 0=bA 8 [bA 2 (Ot b.2),si a.BG,si a.left,sb a.E5,sb a.tx,sb a.atomic,sb a.loop,vO 1 eS a.held]/\τ 1=si c/\τ 4=bA 4 z12/\τ 5= .own false 1 ([[Ao ⟨#[97]⟩],[Ao ⟨#[98]⟩],[Ao ⟨#[120]⟩],[Ao ⟨#[121]⟩],[Ao ⟨#[118]⟩],[Ao ⟨#[120]⟩],[Ao ⟨#[121]⟩]])/\τ 6=si b.1/\τ 14=sb d)/\J1 R142 c a b d=some r
 unfold CD at h
 exact walk
end
def I5:Nat->(AF->Int->Option (As×AF))
|0=>(λ_ _=>none)
|n+1=>CD ((I5 n))
def BX (n:Nat):AF->Int->Option (As×AF):=(I5 n)
theorem LS (n:Nat):(∀{x0 x1 r},(BX n) x0 x1=some r->A5 Tryz.prog 142 [bA 8 (Be x0),si x1] (.agg [si r.1.Op,si r.1.N,Ao r.1.Name,.sl false 4 (r.1.L.map Av)]) [bA 8 (Be r.2),.dead]):=by
  induction n with
  |zero=>exactλh=>B9 h
  |succ n ih=>exactλh=>MX ih h
theorem LU {n:Nat}:∀{x0 x1 r},(BX n) x0 x1=some r->A5 Tryz.prog 142 [bA 8 (Be x0),si x1] (.agg [si r.1.Op,si r.1.N,Ao r.1.Name,.sl false 4 (r.1.L.map Av)]) [bA 8 (Be r.2),.dead]:=(LS n)
def AAx:IC:=(Ra 3 [.o (.bx 4 (.t 1)),.o (.bx 11 (.c (.agg z0)))]
(Rb 5 [.C 0,.A 4 3,.o (.Dc z0 [(0,1,.c (si 1)),(2,1,.t 5),(5,4,.t 6)]),.S 11 4 7]))
def AAy:Gi:=⟨[]⟩
def AAz:List RV:=[.cell 4 true 11]
def DX (b:ByteArray) (a:As):Option AK:=
some (AK.mk 1 0 b (⟨#[]⟩:ByteArray) [] a [] [])
theorem KS {b:ByteArray} {a:As} {r:AK} (h:DX b a=some r):Says Tryz.prog 74 [Ao b,.agg [si a.Op,si a.N,Ao a.Name,vS 4 Av a.L]] (.agg [si r.Op,si r.D4,Ao r.Name,Ao r.Arg,vS 4 Av r.Index,si r.Expr.Op,si r.Expr.N,Ao r.Expr.Name,vS 4 Av r.Expr.L,vS 11 An r.Body,vS 11 An r.Else]):=by
 refine wF mix Tryz.func74 (I:=⟨AAx,AAy,AAz⟩) ?_
 simp only[AAx,AAy,AAz]
 unfold DX at h
 exact walk
def zG:IC:=(Ra 0 [.K 4 0]
(Sq (Ra 0 [.K 5 0]
(Bl 0 (Sq (Ra 6 [.C 5,.C 0,.Z 7,.O .lss 6 8]
(cX 9 0))
(Sq (Bk 1 (Ra 12 [.C 0,.C 5,.I 1 12 13,.L 14,.C 1,.O .eql 15 16]
(Ci 17 (Rb 18 [.C 5,.M 4 18]))))
(Rc 10 [.C 5,.P .add 10 1,.M 5 11])))))
(Rb 0 [.K 4 (-1)])))
def zH:Gi:=⟨[]⟩
def zI:List RV:=[.tmp 4]
namespace CF
def J1:Option Int:=
some (-1)
def L1 (a:List ByteArray) (b:ByteArray) (L1:Int->Option Int) (c:Int):Option Int:=
if decide (c<(a.length:Int))then
(gt a c).bind λd=>
if d.toList==b.toList then
some c
else
L1 (BE (c+1))
else
J1
def Ac (a:List ByteArray) (b:ByteArray):Nat->Int->Option Int
|0,_=>none
|n+1,c=>L1 a b (Ac a b n) c
end CF
section
open CF
def CF (a:List ByteArray) (b:ByteArray):Option Int:=
Ac a b Bo 0
theorem FB {a:List ByteArray} {b:ByteArray} {r:Int} (h:CF a b=some r):Says Tryz.prog 43 [vS 1 eS a,Ao b] (si r):=by
 refine wO mix Tryz.func43 (I:=⟨zG,zH,zI⟩) ?_
 simp only[zG,zH,zI]
 have l1:=λn1 n2 n3 n4:Nat=>BM λn τ=>∃(c:Int),(τ 0=vS 1 eS a/\τ 1=Ao b/\τ 5=si c)/\Ac a b n c=some r
 unfold CF at h
 exact walk
end
def ABj:IC:=(.seq (.TO [⟨some ⟨2,[],[]⟩,.mv (.c (.own false 3 [])),none⟩])
(.seq (.seq (.Z1 [.o ⟨some ⟨3,[],[]⟩,.cp (.t 0),none⟩,
.Ty ⟨4,[],[]⟩ false (.t 3)])
(.cond (.t 4) (.seq (.TO [⟨some ⟨2,[],[]⟩,.mv (.c (.own false 3 [])),none⟩])
.ret) .skip))
(.seq (.TO [⟨some ⟨5,[],[]⟩,.Eg 3 [] [],none⟩,
⟨some ⟨6,[],[]⟩,.cp (.t 0),none⟩,
⟨some ⟨7,[],[]⟩,.app 3 24 (.t 5) (.t 6),none⟩,
⟨some ⟨2,[],[]⟩,.mv (.t 7),none⟩])
.ret)))
def ABk:Gi:=⟨[]⟩
def ABl:List RV:=[.tmp 2]
def f90:FI:=⟨ABj,ABk,ABl⟩
theorem vT:I2 Tryz.prog Tryz.f90 f90=true:=by kernel_rfl
def EU (l:List AD):Option (List AD):=if Aq l.length 24=true then some l else none
theorem HT {l:List AD} {r:List AD} (h:EU l=some r):Says Tryz.prog 90 [vS 3 A2 l] (vO 3 A2 r):=by
  obtain⟨g,h⟩:=HZ h
  obtain rfl:=Option.some.inj h
  refine Ij mix Tryz.func90 vT (of_decide_eq_true (by kernel_rfl)) rfl ?_
  simp only[f90,ABj,ABk,ABl]
  simp +decide only[go_sem,g]
  intro b hb
  cases b with
  |true=>
    have hl:l=[]:=by simpa using hb rfl
    subst hl
    simp +decide only[go_sem,g]
  |false=>simp +decide only[go_sem,g]
def AAK:IC:=(Ra 2 [.b 1 [6,7,10,11,16,17,29,30,31,33,34,35,37,38] (.bx 4 (.t 0)),.o (.bx 4 (.c (.agg z4)))]
(Ra 6 [.m 1 0 1,.Z 7,.o (.mk 2 32 kN (.t 8) (.t 8)),.b 3 [18,26,28] (.mv (.t 9))]
(Sq (Ra 10 [.m 1 0 1,.Z 11,.Y 0]
(Bl 0 (Ra 14 [.O .lss 13 12]
(Sq (cX 14 0)
(Sq (Bk 1 (Ra 15 [.C 13,.J 1 2 11 13,.y 1 (.ld true 2 (.t 16)),.b 5 [20,22,23] (.bx 2 (.c (.agg kN))),.M 4 15,.S 2 5 17]
(Rc 18 [.y 3 (.cp (.t 3)),.C 4,.f 0 5,.m 5 1 5,.c 35 [23] 2,.o (.Dc kN [(0,1,.t 21),(1,1,.t 24)]),.J 3 2 18 19,.S 2 26 25])))
(Rc 27 [.P .add 13 1,.w 13,.C 27]))))))
(Ra 28 [.y 3 (.cp (.t 3)),.F 0 1,.S 1 29 28]
(Ra 30 [.m 1 2 1,.c 89 [31] 2,.F 2 1,.S 1 33 32]
(Ra 34 [.m 1 3 1,.c 90 [35] 2,.F 3 1,.S 1 37 36]
(Rb 38 [.y 1 (.ld true 4 (.t 1)),.S 4 2 38])))))))
def AAL:Gi:=⟨[(6,[1]),(7,[1]),(10,[1]),(11,[1]),(16,[1]),(17,[1]),(18,[3]),(20,[5]),(22,[5]),(23,[5]),(26,[3]),(28,[3]),(29,[1]),(30,[1]),(31,[1]),(33,[1]),(34,[1]),(35,[1]),(37,[1]),(38,[1])]⟩
def AAM:List RV:=[.cell 2 true 4]
namespace C8
def J1 (a:AO) (e:List AY):Option AO:=
(HD a.Ce).bind λi=>
(EU a.AA).bind λj=>
some (AO.mk e a.Tx i j)
def L1 (a:AO) (L1:(List AY)->Int->Option AO) (c:List AY) (b:Int):Option AO:=
if decide (b<(a.AG.length:Int))then
(gt a.AG b).bind λd=>
(slices_Clone_int d.BW).bind λf=>
(gt c b).bind λl=>
L1 (c.set b.toNat (AY.mk d.En f)) (BE (b+1))
else
J1 a c
def Ac (a:AO):Nat->(List AY)->Int->Option AO
|0,_,_=>none
|n+1,c,b=>L1 a (Ac a n) c b
end C8
section
open C8
def C8 (a:AO):Option AO:=
if 0≤(a.AG.length:Int)/\(a.AG.length:Int)≤(a.AG.length:Int)/\Aq a.AG.length 32=true then
Ac a Bo (List.replicate a.AG.length (AY.mk 0 [])) 0
else none
theorem PT {a r:AO} (h:C8 a=some r):Says Tryz.prog 57 [.agg (GZ a)] (.agg (FK r)):=by
 refine wO mix Tryz.func57 (I:=⟨AAK,AAL,AAM⟩) ?_
 simp only[AAK,AAL,AAM]
 have a1:= @Ks
 have a2:= @HT
 have a3:= @Hp
 have l1:=λn1 n2 n3 n4:Nat=>BM λn τ=>∃(c:List AY) (b:Int),(τ 1=bA 4 (GZ a)/\τ 2=bA 4 z4/\τ 3=vO 2 B5 c/\τ 11=vS 2 Gg a.AG/\τ 12=si (a.AG.length:Int)/\τ 13=si b)/\Ac a n c b=some r
 unfold C8 at h
 exact walk
end
def ABm:IC:=(Ra 0 [.b 2 [5,9] (.bx 3 (.t 0)),.B 4 false]
(Rb 5 [.f 0 2,.Q 6 3,.C 7,.G 8 true,.f 1 2,.C 1,.O .eql 10 11,.e,.W 8 12,.M 4 13]))
def ABn:Gi:=⟨[(5,[2]),(9,[2])]⟩
def ABo:List RV:=[.tmp 4]
namespace EA
def J1 (c:Bool):Option Bool:=
some c
end EA
section
open EA
def EA (a:AD) (b:Int):Option Bool:=
if a.Status==3 then
J1 (a.Ef==b)
else
J1 false
theorem Jd {a:AD} {b:Int} {r:Bool} (h:EA a b=some r):Says Tryz.prog 94 [.agg (A2 a),si b] (sb r):=by
 refine wO mix Tryz.func94 (I:=⟨ABm,ABn,ABo⟩) ?_
 simp only[ABm,ABn,ABo]
 unfold EA at h
 exact walk
end
def AAN:IC:=(Sq (.Z1 [.rM ⟨3,[],[0]⟩ 4 0,.o (iK 6 0)])
(Ra 0 [.K 7 (-1)]
(Hl (Ra 10 [.m 0 3 3,.Z 11,.Y 0]
(Bl 0 (Ra 14 [.O .lss 13 12]
(Sq (cX 14 0)
(Hl (Bk 1 (Ra 15 [.C 13,.J 0 3 11 13,.A 3 16,.w 9,.o (.bx 3 (.c (.agg fD))),.M 8 15,.S 3 9 17]
(Hl (Rc 18 [.A 3 9,.C 1,.c 94 [18,19] 0,.C 20,.G 21 true,.C 7,.P .lss 22 0,.C 23,.G 24 false,.C 8,.C 2,.O .eql 25 26,.G 21 true,.o (.pick (.t 24) (.c (sb true)) (.t 27)),.e,.W 21 28])
(Ci 29 (Rc 30 [.C 8,.M 7 30])))))
(Rc 31 [.P .add 13 1,.w 13,.C 31]))))))
(Hl (Ra 32 [.C 7,.P .geq 32 0]
(Ci 33 (Rc 34 [.m 0 3 3,.C 7,.J 0 3 35 36,.H 0 0 37,.T 38 4])))
(Rb 39 [.C 7,.M 6 39])))))
def AAO:Gi:=⟨[(3,[0]),(10,[0]),(11,[0]),(16,[0]),(34,[0]),(35,[0]),(37,[0]),(38,[0])]⟩
def AAP:List RV:=[.tmp 6]
def f62:FI:=⟨AAN,AAO,AAP⟩
theorem vP:I2 Tryz.prog Tryz.f62 f62=true:=by kernel_rfl
namespace CU
def J4 (chosen_2:Int) (s:List AD):Option (Int×(List AD)):=
some (chosen_2,s)
def J3 (threads:List AD) (chosen_2:Int):Option (Int×(List AD)):=
if decide (chosen_2≥0)then
(gt threads chosen_2).bind λx_1=>
J4 chosen_2 (threads.set chosen_2.toNat (AD.mk 4 x_1.Ef x_1.Atomic))
else
J4 chosen_2 threads
def J2 (L1:Int->Int->Option (Int×(List AD))) (t13v chosen_1:Int):Option (Int×(List AD)):=
L1 chosen_1 (BE (t13v+1))
def J1 (L1:Int->Int->Option (Int×(List AD))) (chosen t13v:Int) (t29v:Bool):Option (Int×(List AD)):=
if t29v then
J2 L1 t13v t13v
else
J2 L1 t13v chosen
def L1 (cond:Int) (threads:List AD) (wake:Int) (L1:Int->Int->Option (Int×(List AD))) (chosen t13v:Int):Option (Int×(List AD)):=
if decide (t13v<(threads.length:Int))then
(gt threads t13v).bind λx=>
(EA x cond).bind λv=>
if v then
if decide (chosen<0)then
J1 L1 chosen t13v true
else
J1 L1 chosen t13v (t13v==wake)
else
J1 L1 chosen t13v false
else
J3 threads chosen
def Ac (cond:Int) (threads:List AD) (wake:Int):Nat->Int->Int->Option (Int×(List AD))
|0,_,_=>none
|n+1,chosen,t13v=>L1 cond threads wake (Ac cond threads wake n) chosen t13v
end CU
section
open CU
def CU (tx:Int) (threads:List AD) (cond wake:Int):Option (Int×(List AD)):=
Ac cond threads wake Bo (-1) 0
theorem OX {tx:Int} {threads:List AD} {cond wake:Int} {r:Int×(List AD)} (h:CU tx threads cond wake=some r):A5 Tryz.prog 62 [.agg [.dead,si tx,.dead,vO 3 A2 threads],si cond,si wake] (si r.1) [.agg [.dead,si tx,.dead,vO 3 A2 r.2],.dead,.dead]:=by
 refine RT mix Tryz.func62 vP (by kernel_rfl) (of_decide_eq_true (by kernel_rfl)) rfl rfl ?_
 simp only[f62,AAN,AAO,AAP]
 try simp +decide only[go_sem, *]
 intro us1 _
 try simp +decide only[go_sem, *]
 refine II (λτ=>∃chosen_2:Int,(τ 0= .agg [.dead,si tx,.dead,vO 3 A2 threads]/\τ 3= .vb 0 0 us1/\τ 7=si chosen_2)/\J3 threads chosen_2=some r) λM3 hM3=>⟨?_,?_⟩
 . try simp +decide only[go_sem, *]
   refine Jc (λn τ=>∃chosen:Int,∃t13v:Int,(τ 0= .agg [.dead,si tx,.dead,vO 3 A2 threads]/\τ 1=si cond/\τ 2=si wake/\τ 3= .vb 0 0 us1/\τ 7=si chosen/\τ 11= .al 0 [(0,3,0)]/\τ 12=si (threads.length:Int)/\τ 13=si t13v)/\Ac cond threads wake n chosen t13v=some r) ⟨_,_,?_,h⟩ λn1 τ1 N1=> ?_
   . simp +decide only[go_sem, *]
   rintro⟨chosen,t13v,s1,h⟩ hN1
   cases n1 with
   |zero=>exact B9 h
   |succ n1=>
    rw[Ac]at h;generalize hL1:Ac cond threads wake n1=L1 at h
    try simp +decide only[go_sem, *]
    refine cI h (λ_ h=> ?_) λ_ h=> ?_
    . try simp +decide only[go_sem, *]
      refine II (λτ=>∃chosen_1:Int,(τ 0= .agg [.dead,si tx,.dead,vO 3 A2 threads]/\τ 1=si cond/\τ 2=si wake/\τ 3= .vb 0 0 us1/\τ 7=si chosen_1/\τ 11= .al 0 [(0,3,0)]/\τ 12=si (threads.length:Int)/\τ 13=si t13v)/\J2 L1 t13v chosen_1=some r) λM2 hM2=>⟨?_,?_⟩
      . obtain⟨x,_,h⟩:=gB h
        try simp +decide only[go_sem, *]
        refine II (λτ=>∃t29v:Bool,(τ 0= .agg [.dead,si tx,.dead,vO 3 A2 threads]/\τ 1=si cond/\τ 2=si wake/\τ 3= .vb 0 0 us1/\τ 7=si chosen/\τ 8=si t13v/\τ 11= .al 0 [(0,3,0)]/\τ 12=si (threads.length:Int)/\τ 13=si t13v/\τ 29=sb t29v)/\J1 L1 chosen t13v t29v=some r) λM1 hM1=>⟨?_,?_⟩
        . obtain⟨v,g2,h⟩:=bS h
          try simp +decide only[go_sem, *]
          refine⟨_,Jd g2,?_⟩
          try simp +decide only[go_sem, *]
          refine gI h (λ_ h=> ?_) λ_ h=> ?_
          . try simp +decide only[go_sem, *]
            refine gI h (λ_ h=> ?_) λ_ h=> ?_
            . try simp +decide only[go_sem, *]
              refine hM1 _ ⟨_,?_,h⟩
              simp +decide only[go_sem, *]
            try simp +decide only[go_sem, *]
            refine hM1 _ ⟨_,?_,h⟩
            simp +decide only[go_sem, *]
          try simp +decide only[go_sem, *]
          refine hM1 _ ⟨_,?_,h⟩
          simp +decide only[go_sem, *]
        rintro τ1 ⟨t29v,s1,h⟩
        try simp +decide only[go_sem, *]
        refine cI h (λ_ h=> ?_) λ_ h=> ?_
        . try simp +decide only[go_sem, *]
          refine hM2 _ ⟨_,?_,h⟩
          simp +decide only[go_sem, *]
        try simp +decide only[go_sem, *]
        refine hM2 _ ⟨_,?_,h⟩
        simp +decide only[go_sem, *]
      rintro τ2 ⟨chosen_1,s2,h⟩
      try simp +decide only[go_sem, *]
      refine hN1 n1 (Nat.lt_succ_self _) _ ⟨_,_,?_,hL1.symm▸h⟩
      simp +decide only[go_sem, *]
    try simp +decide only[go_sem, *]
    refine hM3 _ ⟨_,?_,h⟩
    simp +decide only[go_sem, *]
 rintro τ3 ⟨chosen_2,s3,h⟩
 try simp +decide only[go_sem, *]
 refine II (λτ=>∃s:List AD,(τ 0= .agg [.dead,si tx,.dead,vO 3 A2 s]/\τ 7=si chosen_2)/\J4 chosen_2 s=some r) λM4 hM4=>⟨?_,?_⟩
 . try simp +decide only[go_sem, *]
   refine cI h (λ_ h=> ?_) λ_ h=> ?_
   . obtain⟨x_1,_,h⟩:=gB h
     try simp +decide only[go_sem, *]
     refine hM4 _ ⟨_,?_,h⟩
     simp +decide only[go_sem, *]
   try simp +decide only[go_sem, *]
   refine hM4 _ ⟨_,?_,h⟩
   simp +decide only[go_sem, *]
 rintro τ4 ⟨s,s4,h⟩
 obtain rfl:=Option.some.inj h
 simp +decide only[go_sem, *]
end
end Go.Abs
