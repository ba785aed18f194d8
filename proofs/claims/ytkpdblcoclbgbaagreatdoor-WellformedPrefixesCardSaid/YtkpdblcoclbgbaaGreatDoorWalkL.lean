/- Typed programs of Go functions, and that the functions do what these say. -/
import Derived.Test.YtkpdblcoclbgbaaGreatDoorBaseA
import Derived.Test.YtkpdblcoclbgbaaGreatDoorWalkK
import Derived.Test.YtkpdblcoclbgbaaGreatDoorWalkC
import Derived.Test.YtkpdblcoclbgbaaGreatDoorWalkJ
import Derived.Shelf.Slices.SearchI
set_option linter.unusedSimpArgs false
set_option linter.unusedVariables false
namespace Go.Abs
open Go.Proofs
set_option maxRecDepth 100000
set_option maxHeartbeats 4000000
def nS:IC:=(Ra 0 [.b 3 [12,17,24,33,53,61,76] (.bx 11 (.t 1))]
(Ra 7 [.r 0 6,.Z 10,.M 4 11]
(Sq (Ra 12 [.f 4 3,.Z 13,.P .gtr 14 0]
(Ci 15 (Ra 16 [.y 0 (.cp (.t 0)),.f 4 3,.o (.Lr 4 (.t 18) (.c (si 0))),.A 4 19,.C 4,.o (.EK 141 [] (.t 16) none [.t 20,.t 21])]
(Ra 23 [.y 0 (.cp (.t 0)),.F 5 3,.A 4 24,.C 4,.P .add 26 1,.o (.EK 141 [] (.t 23) none [.t 25,.t 27])]
(Ra 29 [.D 0,.H 0 0 30,.y 0 (.ld true 6 (.t 31)),.f 2 3,.c 163 [32,34] 0,.M 5 35]
(Rb 36 [.y 0 (.cp (.t 0)),.C 5,.C 4,.P .add 38 1,.C 4,.D 0,.H 0 0 42,.m 0 0 43,.C 5,.J 0 5 45 46,.h 0 2 47,.o (.Dc z9 [(0,1,.c (si 9)),(1,1,.t 37),(2,1,.t 39),(3,1,.t 40),(4,1,.t 49)]),.o (.EK 69 [] (.t 36) none [.t 50])]))))))
(Ra 52 [.y 0 (.cp (.t 0)),.F 5 3,.A 4 53,.C 4,.o (.EK 141 [] (.t 52) none [.t 54,.t 55])]
(Ra 57 [.r 0 6,.f 2 3,.c 43 [60,62] 0,.M 6 63]
(Ra 64 [.C 6,.P .geq 64 0]
(Cn 65 (Rc 66 [.y 0 (.cp (.t 0)),.C 6,.C 4,.o (.Dc z9 [(0,1,.c (si 2)),(1,1,.t 67),(2,1,.t 68)]),.o (.EK 69 [] (.t 66) none [.t 69])]) (Rc 71 [.y 0 (.cp (.t 0)),.D 0,.H 0 0 73,.y 0 (.ld true 6 (.t 74)),.f 2 3,.c 163 [75,77] 0,.C 4,.o (.Dc z9 [(0,1,.c (si 8)),(1,1,.t 78),(2,1,.t 79)]),.o (.EK 69 [] (.t 71) none [.t 80])]))))))))
def nT:Gi:=⟨[(7,[0]),(8,[0]),(9,[0]),(10,[0]),(12,[3]),(16,[0]),(17,[3]),(23,[0]),(24,[3]),(29,[0]),(30,[0]),(31,[0]),(32,[0]),(33,[3]),(36,[0]),(41,[0]),(42,[0]),(43,[0]),(44,[0]),(45,[0]),(47,[0]),(48,[0]),(52,[0]),(53,[3]),(57,[0]),(58,[0]),(59,[0]),(60,[0]),(61,[3]),(66,[0]),(71,[0]),(72,[0]),(73,[0]),(74,[0]),(75,[0]),(76,[3])]⟩
def nU:List RV:=[]
def El (b:Aw) (a:AK):Option Aw:=
if decide ((a.Index.length:Int)>0)then
(gt a.Index 0).bind λp=>
(CX Bo b p (b.locals.length:Int)).bind λi=>
(CX Bo i a.Expr (BE ((b.locals.length:Int)+1))).bind λd=>
(Bp d.w a.Name).bind λe=>
(gt d.w.Cells e).bind λq=>
(Az d (AW.mk 9 e (BE ((b.locals.length:Int)+1)) (b.locals.length:Int) q.Bn 0)).bind λj=>
some j
else
(CX Bo b a.Expr (b.locals.length:Int)).bind λc=>
(CF c.locals a.Name).bind λf=>
if decide (f≥0)then
(Az c (AW.mk 2 f (b.locals.length:Int) 0 0 0)).bind λl=>
some l
else
(Bp c.w a.Name).bind λo=>
(Az c (AW.mk 8 o (b.locals.length:Int) 0 0 0)).bind λs=>
some s
theorem Ld {b:Aw} {a:AK} {r:Aw} (h:El b a=some r):A5 Tryz.prog 137 [bA 10 (DC b),.agg [si a.Op,si a.D4,Ao a.Name,Ao a.Arg,vS 4 Av a.Index,si a.Expr.Op,si a.Expr.N,Ao a.Expr.Name,vS 4 Av a.Expr.L,vS 11 An a.Body,vS 11 An a.Else]] (.A9 []) [bA 10 (DC r),.dead]:=by
 refine wL mix Tryz.func137 (I:=⟨nS,nT,nU⟩) ?_
 simp only[nS,nT,nU]
 have a1:= @GU
 have a2:= @Ji
 have a3:= @EZ
 have a4:= @FB
 unfold El at h
 exact walk
def oB:IC:=(Ra 0 [.K 4 0]
(Sq (Ra 0 [.K 5 0]
(Bl 0 (Sq (Ra 6 [.C 5,.D 0,.H 0 0 8,.m 0 2 9,.Z 11,.O .lss 6 12]
(cX 13 0))
(Sq (Bk 1 (Ra 16 [.D 0,.H 0 0 17,.m 0 2 18,.C 5,.J 0 2 20 21,.h 0 0 22,.C 1,.O .eql 24 25]
(Ci 26 (Rb 27 [.C 5,.M 4 27]))))
(Rc 14 [.C 5,.P .add 14 1,.M 5 15])))))
(Rb 0 [.K 4 (-1)])))
def oC:Gi:=⟨[(7,[0]),(8,[0]),(9,[0]),(10,[0]),(11,[0]),(16,[0]),(17,[0]),(18,[0]),(19,[0]),(20,[0]),(22,[0]),(23,[0])]⟩
def oE:List RV:=[.tmp 4]
namespace CG
def J1 (a:Aw):Option (Int×Aw):=
some ((-1),a)
def L1 (a:Aw) (b:ByteArray) (L1:Int->Option (Int×Aw)) (c:Int):Option (Int×Aw):=
if decide (c<(a.w.Au.length:Int))then
(gt a.w.Au c).bind λd=>
if d.Name.toList==b.toList then
some (c,a)
else
L1 (BE (c+1))
else
J1 a
def Ac (a:Aw) (b:ByteArray):Nat->Int->Option (Int×Aw)
|0,_=>none
|n+1,c=>L1 a b (Ac a b n) c
end CG
section
open CG
def CG (a:Aw) (b:ByteArray):Option (Int×Aw):=
Ac a b Bo 0
theorem Nv {a:Aw} {b:ByteArray} {r:Int×Aw} (h:CG a b=some r):A5 Tryz.prog 140 [bA 10 (DC a),Ao b] (si r.1) [bA 10 (DC r.2),.dead]:=by
 refine wL mix Tryz.func140 (I:=⟨oB,oC,oE⟩) ?_
 simp only[oB,oC,oE]
 have l1:=λn1 n2 n3 n4:Nat=>BM λn τ=>∃(c:Int),(τ 0=bA 10 (DC a)/\τ 1=Ao b/\τ 5=si c)/\Ac a b n c=some r
 unfold CG at h
 exact walk
end
def AAf:IC:=(Ra 0 [.K 4 0]
(Bl 0 (Sq (Ra 5 [.C 4,.C 1,.Z 6,.O .lss 5 7]
(cX 8 0))
(Sq (Bk 1 (Rc 11 [.y 0 (.cp (.t 0)),.C 1,.C 4,.I 11 12 13,.A 11 14,.o (.EK 108 [] (.t 11) none [.t 15])]))
(Rc 9 [.C 4,.P .add 9 1,.M 4 10])))))
def AAg:Gi:=⟨[(11,[0])]⟩
def AAh:List RV:=[]
namespace B8
def L1 (R108:Aw->AK->Option Aw) (a:List AK) (L1:Aw->Int->Option Aw) (c:Aw) (b:Int):Option Aw:=
if decide (b<(a.length:Int))then
(gt a b).bind λf=>
(R108 c f).bind λe=>
L1 e (BE (b+1))
else
some c
def Ac (R108:Aw->AK->Option Aw) (a:List AK):Nat->Aw->Int->Option Aw
|0,_,_=>none
|n+1,c,b=>L1 R108 a (Ac R108 a n) c b
end B8
section
open B8
def B8 (R108:Aw->AK->Option Aw) (d:Aw) (a:List AK):Option Aw:=
Ac R108 a Bo d 0
theorem Mg {R108:Aw->AK->Option Aw} (H108:∀{x0 x1 r},R108 x0 x1=some r->A5 Tryz.prog 108 [bA 10 (DC x0),.agg [si x1.Op,si x1.D4,Ao x1.Name,Ao x1.Arg,vS 4 Av x1.Index,si x1.Expr.Op,si x1.Expr.N,Ao x1.Expr.Name,vS 4 Av x1.Expr.L,vS 11 An x1.Body,vS 11 An x1.Else]] (.A9 []) [bA 10 (DC r),.dead]) {d:Aw} {a:List AK} {r:Aw} (h:B8 R108 d a=some r):A5 Tryz.prog 68 [bA 10 (DC d),vS 11 An a] (.A9 []) [bA 10 (DC r),.dead]:=by
 refine wL mix Tryz.func68 (I:=⟨AAf,AAg,AAh⟩) ?_
 simp only[AAf,AAg,AAh]
 have a1:= @H108
 have l1:=λn1 n2 n3 n4:Nat=>BM λn τ=>∃(c:Aw) (b:Int),(τ 0=bA 10 (DC c)/\τ 1=vS 11 An a/\τ 4=si b)/\Ac R108 a n c b=some r
 unfold B8 at h
 exact walk
end
def lS:IC:=(Ra 0 [.b 3 [24,46,59,72,90,99,108,121,134,142,152,165,173] (.bx 11 (.t 1))]
(Ra 5 [.y 0 (.cp (.t 0)),.p 0 9,.y 0 (.FF (.t 5)),.H 0 8 10,.S 1 11 9]
(Ra 12 [.p 0 9,.P .add 15 1,.y 0 (.FF (.t 12)),.H 0 9 17,.S 1 18 16]
(Ra 19 [.r 0 6,.Z 22,.M 4 23]
(Ra 24 [.f 0 3]
(Bk 0 (Ra 27 [.q 25 1 26]
(Cn 26 (Rc 28 [.y 0 (.cp (.t 0)),.A 11 3,.o (.EK 137 [] (.t 28) none [.t 29])]) (Bw 1 (Ra 32 [.q 25 2 31]
(Cn 31 .skip (Rc 33 [.q 25 3 31])))
(Cn 31 (Rc 34 [.y 0 (.cp (.t 0)),.A 11 3,.o (.EK 138 [] (.t 34) none [.t 35])]) (Ra 38 [.q 25 4 37]
(Cn 37 (Rc 39 [.y 0 (.cp (.t 0)),.A 11 3,.D 0,.H 0 0 42,.m 0 1 43,.f 2 3,.c 106 [45,47] 0,.o (.EK 139 [] (.t 39) none [.t 40,.c (si 11),.c (si 12),.t 48])]) (Ra 51 [.q 25 5 50]
(Cn 50 (Rc 52 [.y 0 (.cp (.t 0)),.A 11 3,.D 0,.H 0 0 55,.m 0 1 56,.f 2 3,.c 106 [58,60] 0,.o (.EK 139 [] (.t 52) none [.t 53,.c (si 13),.c (si 14),.t 61])]) (Ra 64 [.q 25 6 63]
(Cn 63 (Rc 65 [.y 0 (.cp (.t 0)),.A 11 3,.D 0,.H 0 0 68,.m 0 1 69,.f 2 3,.c 106 [71,73] 0,.o (.EK 139 [] (.t 65) none [.t 66,.c (si 15),.c (si 16),.t 74])]) (Ra 77 [.q 25 7 76]
(Cn 76 (Rc 78 [.y 0 (.cp (.t 0)),.A 11 3,.o (.EK 139 [] (.t 78) none [.t 79,.c (si 17),.c (si 18),.c (si 0)])]) (Ra 82 [.q 25 8 81]
(Cn 81 (Rc 83 [.y 0 (.cp (.t 0)),.A 11 3,.o (.EK 139 [] (.t 83) none [.t 84,.c (si 19),.c (si 20),.c (si 0)])]) (Ra 87 [.q 25 9 86]
(Cn 86 (Rc 88 [.y 0 (.cp (.t 0)),.y 0 (.cp (.t 0)),.f 2 3,.o (.EK 140 [] (.t 89) none [.t 91]),.o (.Dc z9 [(0,1,.c (si 21)),(1,1,.t 92)]),.o (.EK 69 [] (.t 88) none [.t 93])]) (Ra 96 [.q 25 10 95]
(Cn 95 (Rc 97 [.y 0 (.cp (.t 0)),.y 0 (.cp (.t 0)),.f 2 3,.o (.EK 140 [] (.t 98) none [.t 100]),.o (.Dc z9 [(0,1,.c (si 22)),(1,1,.t 101)]),.o (.EK 69 [] (.t 97) none [.t 102])]) (Ra 105 [.q 25 11 104]
(Cn 104 (Rc 106 [.y 0 (.cp (.t 0)),.y 0 (.cp (.t 0)),.f 2 3,.o (.EK 140 [] (.t 107) none [.t 109]),.o (.Dc z9 [(0,1,.c (si 23)),(1,1,.t 110)]),.o (.EK 69 [] (.t 106) none [.t 111])]) (Ra 114 [.q 25 12 113]
(Cn 113 (Rc 115 [.y 0 (.cp (.t 0)),.D 0,.H 0 0 117,.m 0 4 118,.f 2 3,.c 43 [120,122] 0,.o (.Dc z9 [(0,1,.c (si 24)),(1,1,.t 123)]),.o (.EK 69 [] (.t 115) none [.t 124])]) (Ra 127 [.q 25 13 126]
(Cn 126 (Rc 128 [.y 0 (.cp (.t 0)),.D 0,.H 0 0 130,.m 0 4 131,.f 2 3,.c 43 [133,135] 0,.o (.Dc z9 [(0,1,.c (si 25)),(1,1,.t 136)]),.o (.EK 69 [] (.t 128) none [.t 137])]) (Ra 140 [.q 25 14 139]
(Cn 139 (Ra 141 [.y 0 (.cp (.t 0)),.F 5 3,.A 4 142,.C 4,.o (.EK 141 [] (.t 141) none [.t 143,.t 144])]
(Rc 146 [.y 0 (.cp (.t 0)),.D 0,.H 0 0 148,.m 0 3 149,.f 2 3,.c 43 [151,153] 0,.C 4,.o (.Dc z9 [(0,1,.c (si 26)),(1,1,.t 154),(2,1,.t 155)]),.o (.EK 69 [] (.t 146) none [.t 156])])) (Ra 159 [.q 25 15 158]
(Ci 158 (Rc 160 [.y 0 (.cp (.t 0)),.r 0 6,.f 2 3,.c 43 [164,166] 0,.D 0,.H 0 0 169,.m 0 3 170,.f 3 3,.c 43 [172,174] 0,.o (.Dc z9 [(0,1,.c (si 27)),(1,1,.t 167),(2,1,.t 175)]),.o (.EK 69 [] (.t 160) none [.t 176])])))))))))))))))))))))))))))))))))))
def lT:Gi:=⟨[(5,[0]),(6,[0]),(7,[0]),(8,[0]),(10,[0]),(11,[0]),(12,[0]),(13,[0]),(14,[0]),(17,[0]),(18,[0]),(19,[0]),(20,[0]),(21,[0]),(22,[0]),(24,[3]),(28,[0]),(34,[0]),(39,[0]),(41,[0]),(42,[0]),(43,[0]),(44,[0]),(45,[0]),(46,[3]),(52,[0]),(54,[0]),(55,[0]),(56,[0]),(57,[0]),(58,[0]),(59,[3]),(65,[0]),(67,[0]),(68,[0]),(69,[0]),(70,[0]),(71,[0]),(72,[3]),(78,[0]),(83,[0]),(88,[0]),(89,[0]),(90,[3]),(97,[0]),(98,[0]),(99,[3]),(106,[0]),(107,[0]),(108,[3]),(115,[0]),(116,[0]),(117,[0]),(118,[0]),(119,[0]),(120,[0]),(121,[3]),(128,[0]),(129,[0]),(130,[0]),(131,[0]),(132,[0]),(133,[0]),(134,[3]),(141,[0]),(142,[3]),(146,[0]),(147,[0]),(148,[0]),(149,[0]),(150,[0]),(151,[0]),(152,[3]),(160,[0]),(161,[0]),(162,[0]),(163,[0]),(164,[0]),(165,[3]),(168,[0]),(169,[0]),(170,[0]),(171,[0]),(172,[0]),(173,[3])]⟩
def lU:List RV:=[]
namespace Cc
def J1 (R138:Aw->AK->Option Aw) (R139:Aw->AK->Int->Int->Int->Option Aw) (a:Aw) (b:AK) (c:Bool):Option Aw:=
if c then
(R138 (Aw.mk a.w a.locals a.out a.next (BE (a.next+1))) b).bind λl=>
some l
else
if b.Op==4 then
(Cr a.w.AG b.Name).bind λw=>
(R139 (Aw.mk a.w a.locals a.out a.next (BE (a.next+1))) b 11 12 w).bind λac=>
some ac
else
if b.Op==5 then
(Cr a.w.AG b.Name).bind λad=>
(R139 (Aw.mk a.w a.locals a.out a.next (BE (a.next+1))) b 13 14 ad).bind λae=>
some ae
else
if b.Op==6 then
(Cr a.w.AG b.Name).bind λaf=>
(R139 (Aw.mk a.w a.locals a.out a.next (BE (a.next+1))) b 15 16 af).bind λai=>
some ai
else
if b.Op==7 then
(R139 (Aw.mk a.w a.locals a.out a.next (BE (a.next+1))) b 17 18 0).bind λaj=>
some aj
else
if b.Op==8 then
(R139 (Aw.mk a.w a.locals a.out a.next (BE (a.next+1))) b 19 20 0).bind λal=>
some al
else
if b.Op==9 then
(CG (Aw.mk a.w a.locals a.out a.next (BE (a.next+1))) b.Name).bind λd=>
(Az d.2 (AW.mk 21 d.1 0 0 0 0)).bind λo=>
some o
else
if b.Op==10 then
(CG (Aw.mk a.w a.locals a.out a.next (BE (a.next+1))) b.Name).bind λe=>
(Az e.2 (AW.mk 22 e.1 0 0 0 0)).bind λp=>
some p
else
if b.Op==11 then
(CG (Aw.mk a.w a.locals a.out a.next (BE (a.next+1))) b.Name).bind λf=>
(Az f.2 (AW.mk 23 f.1 0 0 0 0)).bind λq=>
some q
else
if b.Op==12 then
(CF a.w.AA b.Name).bind λs=>
(Az (Aw.mk a.w a.locals a.out a.next (BE (a.next+1))) (AW.mk 24 s 0 0 0 0)).bind λt=>
some t
else
if b.Op==13 then
(CF a.w.AA b.Name).bind λu=>
(Az (Aw.mk a.w a.locals a.out a.next (BE (a.next+1))) (AW.mk 25 u 0 0 0 0)).bind λv=>
some v
else
if b.Op==14 then
(CX Bo (Aw.mk a.w a.locals a.out a.next (BE (a.next+1))) b.Expr (a.locals.length:Int)).bind λi=>
(CF i.w.AH b.Name).bind λx=>
(Az i (AW.mk 26 x (a.locals.length:Int) 0 0 0)).bind λy=>
some y
else
if b.Op==15 then
(CF a.locals b.Name).bind λz=>
(CF a.w.AH b.Arg).bind λaa=>
(Az (Aw.mk a.w a.locals a.out a.next (BE (a.next+1))) (AW.mk 27 z aa 0 0 0)).bind λab=>
some ab
else
some (Aw.mk a.w a.locals a.out a.next (BE (a.next+1)))
end Cc
section
open Cc
def Cc (R138:Aw->AK->Option Aw) (R139:Aw->AK->Int->Int->Int->Option Aw) (a:Aw) (b:AK):Option Aw:=
if b.Op==1 then
(El (Aw.mk a.w a.locals a.out a.next (BE (a.next+1))) b).bind λj=>
some j
else
if b.Op==2 then
J1 R138 R139 a b (b.Op==2)
else
J1 R138 R139 a b (b.Op==3)
theorem Nw {R138:Aw->AK->Option Aw} (H138:∀{x0 x1 r},R138 x0 x1=some r->A5 Tryz.prog 138 [bA 10 (DC x0),.agg [si x1.Op,si x1.D4,Ao x1.Name,Ao x1.Arg,vS 4 Av x1.Index,si x1.Expr.Op,si x1.Expr.N,Ao x1.Expr.Name,vS 4 Av x1.Expr.L,vS 11 An x1.Body,vS 11 An x1.Else]] (.A9 []) [bA 10 (DC r),.dead]) {R139:Aw->AK->Int->Int->Int->Option Aw} (H139:∀{x0 x1 x2 x3 x4 r},R139 x0 x1 x2 x3 x4=some r->A5 Tryz.prog 139 [bA 10 (DC x0),.agg [si x1.Op,si x1.D4,Ao x1.Name,Ao x1.Arg,vS 4 Av x1.Index,si x1.Expr.Op,si x1.Expr.N,Ao x1.Expr.Name,vS 4 Av x1.Expr.L,vS 11 An x1.Body,vS 11 An x1.Else],si x2,si x3,si x4] (.A9 []) [bA 10 (DC r),.dead,.dead,.dead,.dead]) {a:Aw} {b:AK} {r:Aw} (h:Cc R138 R139 a b=some r):A5 Tryz.prog 108 [bA 10 (DC a),.agg [si b.Op,si b.D4,Ao b.Name,Ao b.Arg,vS 4 Av b.Index,si b.Expr.Op,si b.Expr.N,Ao b.Expr.Name,vS 4 Av b.Expr.L,vS 11 An b.Body,vS 11 An b.Else]] (.A9 []) [bA 10 (DC r),.dead]:=by
 refine wL mix Tryz.func108 (I:=⟨lS,lT,lU⟩) ?_
 simp only[lS,lT,lU]
 have a1:= @Ld
 have a2:= @H138
 have a3:= @Jl
 have a4:= @H139
 have a5:= @Nv
 have a6:= @EZ
 have a7:= @FB
 have a8:= @GU
 have c1:=λn1 n2 n3 n4:Nat=>B7 1 λτ=>∃(c:Bool),(τ 0=bA 10 [vS 5 Fg a.w.Cells,vS 2 HI a.w.AG,vS 2 HH a.w.Au,vS 1 eS a.w.AH,vS 1 eS a.w.AA,vS 3 E7 a.w.BA,vS 1 eS a.locals,vO 6 C7 a.out,si a.next,si (BE (a.next+1))]/\τ 3=bA 11 [si b.Op,si b.D4,Ao b.Name,Ao b.Arg,vS 4 Av b.Index,si b.Expr.Op,si b.Expr.N,Ao b.Expr.Name,vS 4 Av b.Expr.L,vS 11 An b.Body,vS 11 An b.Else]/\τ 4=si (a.locals.length:Int)/\τ 25=si b.Op/\τ 31=sb c)/\J1 R138 R139 a b c=some r
 unfold Cc at h
 exact walk
end
end Go.Abs
