/- Typed programs of Go functions, and that the functions do what these say. -/
import Derived.Test.YtkpdblcoclbgbaaGreatDoorBaseA
import Derived.Test.YtkpdblcoclbgbaaGreatDoorWalkD
import Derived.Test.YtkpdblcoclbgbaaGreatDoorWalkB
import Derived.Shelf.Slices.SearchI
set_option linter.unusedSimpArgs false
set_option linter.unusedVariables false
namespace Go.Abs
open Go.Proofs
set_option maxRecDepth 100000
set_option maxHeartbeats 4000000
def AAc:IC:=(Ra 2 [.b 1 [19,25,95,103,116] (.bx 2 (.t 0)),.o (.bx 6 (.c (.agg kL)))]
(Ra 0 [.b 3 [17,32,33,38,49,50,64,68,69,78,81,82,85,86,93,101,102,111,113,114,125,126] (.bx 6 (.c (.agg kL)))]
(Sq (Ra 11 [.A 2 1,.c 66 [11] 0,.w 10,.C 12,.w 13,.o (.ext (.t 10) 0),.o (.ext (.t 10) 1),.M 4 13,.M 5 14]
(Ra 15 [.C 4,.P .neq 15 0]
(Ci 16 (Rb 17 [.y 3 (.ld true 6 (.t 3)),.S 6 2 17]))))
(Sq (Ra 0 [.K 6 0]
(Bl 0 (Sq (Ra 18 [.C 6,.f 0 1,.Z 20,.O .lss 18 21]
(cX 22 0))
(Sq (Bk 1 (Ra 25 [.f 0 1,.C 6,.I 6 26 27,.A 6 28,.b 7 [30,34,43,51,54,56,59,70,72,83,87] (.bx 6 (.c (.agg z5))),.S 6 7 29]
(Ra 30 [.f 0 7]
(Bk 2 (Bw 1 (Ra 40 [.q 31 1 39]
(Cn 39 .skip (Rc 41 [.q 31 2 39])))
(Cn 39 (Ra 0 [.K 8 0]
(Bl 3 (Sq (Ra 42 [.C 8,.f 3 7,.o (.mm true (.t 44) (.c (si 1))),.O .lss 42 45]
(cX 46 3))
(Sq (Bk 4 (Rc 49 [.m 3 0 3,.f 2 7,.C 8,.f 3 7,.f 0 7,.Q 57 2,.f 4 7,.o (.Dc sX [(0,1,.t 52),(1,1,.t 53),(2,1,.t 55),(3,1,.t 58),(4,1,.t 60)]),.o (.Eg 5 [sX] [(0,.t 61)]),.o (.app 5 48 (.t 50) (.t 62)),.F 0 3,.S 1 64 63]))
(Rc 47 [.C 8,.P .add 47 1,.M 8 48]))))) (Sq (Ra 66 [.q 31 3 65]
(Cn 65 .skip (Rc 67 [.q 31 4 65])))
(Cn 65 (Rc 68 [.m 3 1 3,.f 2 7,.f 0 7,.Q 73 4,.o (.Dc [Ao ⟨#[]⟩,sb false] [(0,1,.t 71),(1,1,.t 74)]),.o (.Eg 2 [[Ao ⟨#[]⟩,sb false]] [(0,.t 75)]),.o (.app 2 24 (.t 69) (.t 76)),.F 1 3,.S 1 78 77]) (Ra 80 [.q 31 5 79]
(Cn 79 (Rc 81 [.m 3 2 3,.f 2 7,.m 3 1 3,.f 5 7,.c 106 [86,88] 0,.o (.Dc [Ao ⟨#[]⟩,si 0] [(0,1,.t 84),(1,1,.t 89)]),.o (.Eg 2 [[Ao ⟨#[]⟩,si 0]] [(0,.t 90)]),.o (.app 2 24 (.t 82) (.t 91)),.F 2 3,.S 1 93 92]) (Rc 32 [.m 3 3 3,.f 2 7,.o (.Eg 1 [[Ao ⟨#[]⟩]] [(0,.t 35)]),.o (.app 1 16 (.t 33) (.t 36)),.F 3 3,.S 1 38 37])))))))))))
(Rc 23 [.C 6,.P .add 23 1,.M 6 24])))))
(Sq (Ra 0 [.K 9 0]
(Bl 5 (Sq (Ra 94 [.C 9,.f 1 1,.Z 96,.O .lss 94 97]
(cX 98 5))
(Sq (Bk 6 (Ra 101 [.m 3 4 3,.f 1 1,.C 9,.I 4 104 105,.U 0 106,.o (.Eg 1 [[Ao ⟨#[]⟩]] [(0,.t 108)]),.o (.app 1 16 (.t 102) (.t 109)),.F 4 3,.S 1 111 110]
(.Vt [(122,10,11,112)] [LQ 113 3 5 3,VD 114 3 113,iC 115 9,LQ 116 1 1 1,iL 117 116,iC 118 9,iI 119 4 117 118,iF 120 3 119,iL 121 120,⟨some ⟨122,[123],[]⟩,.call 107 [.t 114,.t 115,.c (si 0),.t 121] 3,none⟩,i0 112 (.jA (.t 122) 1),i1 123 122 (.ext (.t 122) 0),i0 124 .fl,LQ 125 3 5 3,iS 1 125 123])))
(Rc 99 [.C 9,.P .add 99 1,.M 9 100])))))
(Rb 126 [.y 3 (.ld true 6 (.t 3)),.S 6 2 126]))))))
def AAd:Gi:=⟨[(17,[3]),(19,[1]),(25,[1]),(30,[7]),(32,[3]),(33,[3]),(34,[7]),(38,[3]),(43,[7]),(49,[3]),(50,[3]),(51,[7]),(54,[7]),(56,[7]),(59,[7]),(64,[3]),(68,[3]),(69,[3]),(70,[7]),(72,[7]),(78,[3]),(81,[3]),(82,[3]),(83,[7]),(85,[3]),(86,[3]),(87,[7]),(93,[3]),(95,[1]),(101,[3]),(102,[3]),(103,[1]),(111,[3]),(113,[3]),(114,[3]),(116,[1]),(123,[122]),(125,[3]),(126,[3])]⟩
def AAe:List RV:=[.cell 2 true 6]
namespace CI
def J5 (w:AB):Option AB:=
some w
def L3 (d:AL) (L3:AB->Int->Option AB) (f:AB) (i:Int):Option AB:=
if decide (i<(d.AA.length:Int))then
(gt d.AA i).bind λo=>
if Aq (f.AA.length+1) 16=true then
(FY Bo f.BA i 0 o.Body).bind λt=>
L3 (AB.mk f.Cells f.AG f.Au f.AH (f.AA++[o.Name]) t.1) (BE (i+1))
else none
else
J5 f
def Gx (d:AL):Nat->AB->Int->Option AB
|0,_,_=>none
|n+1,f,i=>L3 d (Gx d n) f i
def J4 (d:AL) (v:AB):Option AB:=
Gx d Bo v 0
def J3 (L1:AB->Int->Option AB) (c:Int) (u:AB):Option AB:=
L1 u (BE (c+1))
def L2 (L1:AB->Int->Option AB) (c:Int) (b:DK) (L2:AB->Int->Option AB) (e:AB) (j:Int):Option AB:=
if decide (j<(if 1>b.Bn then 1 else b.Bn))then
if Aq (e.Cells.length+1) 48=true then
L2 (AB.mk (e.Cells++[(DJ.mk b.Name j b.Bn (b.Kind==2) b.Init)]) e.AG e.Au e.AH e.AA e.BA) (BE (j+1))
else none
else
J3 L1 c e
def Da (L1:AB->Int->Option AB) (c:Int) (b:DK):Nat->AB->Int->Option AB
|0,_,_=>none
|n+1,e,j=>L2 L1 c b (Da L1 c b n) e j
def J2 (L1:AB->Int->Option AB) (c:Int) (a:AB) (b:DK) (p:Bool):Option AB:=
if p then
if Aq (a.AG.length+1) 24=true then
J3 L1 c (AB.mk a.Cells (a.AG++[(Iy.mk b.Name (b.Kind==4))]) a.Au a.AH a.AA a.BA)
else none
else
if b.Kind==5 then
(Cr a.AG b.On).bind λs=>
if Aq (a.Au.length+1) 24=true then
J3 L1 c (AB.mk a.Cells a.AG (a.Au++[(QC.mk b.Name s)]) a.AH a.AA a.BA)
else none
else
if Aq (a.AH.length+1) 16=true then
J3 L1 c (AB.mk a.Cells a.AG a.Au (a.AH++[b.Name]) a.AA a.BA)
else none
def J1 (L1:AB->Int->Option AB) (c:Int) (a:AB) (b:DK) (l:Bool):Option AB:=
if l then
Da L1 c b Bo a 0
else
if b.Kind==3 then
J2 L1 c a b (b.Kind==3)
else
J2 L1 c a b (b.Kind==4)
def L1 (d:AL) (L1:AB->Int->Option AB) (a:AB) (c:Int):Option AB:=
if decide (c<(d.Decls.length:Int))then
(gt d.Decls c).bind λb=>
if b.Kind==1 then
J1 L1 c a b (b.Kind==1)
else
J1 L1 c a b (b.Kind==2)
else
J4 d a
def Ac (d:AL):Nat->AB->Int->Option AB
|0,_,_=>none
|n+1,a,c=>L1 d (Ac d n) a c
end CI
section
open CI
def CI (d:AL):Option AB:=
(BH d).bind λq=>
if q.1 != 0 then
some (AB.mk [] [] [] [] [] [])
else
Ac d Bo (AB.mk [] [] [] [] [] []) 0
theorem RF {d:AL} {r:AB} (h:CI d=some r):Says Tryz.prog 67 [.agg (Bb d)] (.agg (K8 r)):=by
 refine wO mix Tryz.func67 (I:=⟨AAc,AAd,AAe⟩) ?_
 simp only[AAc,AAd,AAe]
 have a1:= @HS
 have a2:= @Pg
 have a3:= @Jl
 have l3:=λn1 n2 n3 n4:Nat=>BM λn τ=>∃(f:AB) (i:Int),(τ 1=bA 2 (Bb d)/\τ 2=bA 6 kL/\τ 3=bA 6 (K8 f)/\τ 9=si i)/\Gx d n f i=some r
 have l1:=λn1 n2 n3 n4:Nat=>BM λn τ=>∃(a:AB) (c:Int),(τ 1=bA 2 (Bb d)/\τ 2=bA 6 kL/\τ 3=bA 6 (K8 a)/\τ 6=si c)/\Ac d n a c=some r
 have l2:=λn1 n2 n3 n4:Nat=>BM λn τ=>∃(c:Int) (b:DK) (e:AB) (j:Int),(τ 1=bA 2 (Bb d)/\τ 2=bA 6 kL/\τ 3=bA 6 (K8 e)/\τ 6=si c/\τ 7=bA 6 (G2 b)/\τ 8=si j)/\Da (Ac d n1) c b n e j=some r
 have c1:=λn1 n2 n3 n4:Nat=>B7 1 λτ=>∃(c:Int) (a:AB) (b:DK) (l:Bool),(τ 1=bA 2 (Bb d)/\τ 2=bA 6 kL/\τ 3=bA 6 (K8 a)/\τ 6=si c/\τ 7=bA 6 (G2 b)/\τ 31=si b.Kind/\τ 39=sb l)/\J1 (Ac d n1) c a b l=some r
 unfold CI at h
 exact walk
end
def AAi:IC:=(Ra 0 [.b 3 [8] (.bx 6 (.t 1))]
(Ra 4 [.p 0 8,.F 5 3,.S 1 8 7]
(.Vt [(0,0,8,9)] [i0 9 .fl,i1 10 0 (.cp (.t 0)),i1 11 0 (.FF (.t 10)),LQ 12 0 7 11,VD 13 0 12,iA 14 6 3,i0 15 (.Eg 6 [z9] [(0,.t 14)]),i0 16 (.app 6 48 (.t 13) (.t 15)),i1 17 0 (.FF (.t 0)),LQ 18 0 7 17,iS 1 18 16])))
def AAj:Gi:=⟨[(4,[0]),(5,[0]),(6,[0]),(8,[3]),(10,[0]),(11,[0]),(12,[0]),(13,[0]),(17,[0]),(18,[0])]⟩
def AAk:List RV:=[]
def Az (a:Aw) (b:AW):Option Aw:=
if Aq (a.out.length+1) 48=true then
some (Aw.mk a.w a.locals (a.out++[(AW.mk b.Op b.A b.B b.C b.N a.site)]) a.site a.next)
else none
theorem EZ {a:Aw} {b:AW} {r:Aw} (h:Az a b=some r):A5 Tryz.prog 69 [bA 10 (DC a),.agg (C7 b)] (.A9 []) [bA 10 (DC r),.dead]:=by
 refine wL mix Tryz.func69 (I:=⟨AAi,AAj,AAk⟩) ?_
 simp only[AAi,AAj,AAk]
 unfold Az at h
 exact walk
def qA:IC:=(Ra 0 [.b 2 [7,13] (.bx 6 (.t 0)),.K 4 0]
(Sq (Ra 0 [.K 5 0]
(Bl 0 (Sq (Ra 6 [.C 5,.f 0 2,.Z 8,.O .lss 6 9]
(cX 10 0))
(Sq (Bk 1 (Ra 13 [.f 0 2,.C 5,.I 5 14 15,.U 0 16,.C 1,.O .eql 18 19]
(Ci 20 (Rb 21 [.C 5,.M 4 21]))))
(Rc 11 [.C 5,.P .add 11 1,.M 5 12])))))
(Rb 0 [.K 4 (-1)])))
def qB:Gi:=⟨[(7,[2]),(13,[2])]⟩
def qC:List RV:=[.tmp 4]
namespace Bp
def J1:Option Int:=
some (-1)
def L1 (b:ByteArray) (a:AB) (L1:Int->Option Int) (c:Int):Option Int:=
if decide (c<(a.Cells.length:Int))then
(gt a.Cells c).bind λd=>
if d.Name.toList==b.toList then
some c
else
L1 (BE (c+1))
else
J1
def Ac (b:ByteArray) (a:AB):Nat->Int->Option Int
|0,_=>none
|n+1,c=>L1 b a (Ac b a n) c
end Bp
section
open Bp
def Bp (a:AB) (b:ByteArray):Option Int:=
Ac b a Bo 0
theorem Ji {a:AB} {b:ByteArray} {r:Int} (h:Bp a b=some r):Says Tryz.prog 163 [.agg (Ap a),Ao b] (si r):=by
 refine wO mix Tryz.func163 (I:=⟨qA,qB,qC⟩) ?_
 simp only[qA,qB,qC]
 have l1:=λn1 n2 n3 n4:Nat=>BM λn τ=>∃(c:Int),(τ 1=Ao b/\τ 2=bA 6 (Ap a)/\τ 5=si c)/\Ac b a n c=some r
 unfold Bp at h
 exact walk
end
def oF:IC:=(Ra 0 [.b 4 [9,16,28,33,38,43,50,66,72,76,86,105,110,119] (.bx 4 (.t 1))]
(Bk 0 (Ra 33 [.f 0 4,.q 34 1 32]
(Cn 32 (Rc 36 [.y 0 (.cp (.t 0)),.C 2,.f 1 4,.o (.Dc z9 [(0,1,.c (si 1)),(1,1,.t 37),(4,1,.t 39)]),.o (.EK 69 [] (.t 36) none [.t 40])]) (Ra 43 [.f 0 4,.q 44 2 42]
(Cn 42 (Ra 46 [.r 0 6,.f 2 4,.c 43 [49,51] 0,.M 6 52]
(Ra 53 [.C 6,.P .geq 53 0]
(Cn 54 (Rc 55 [.y 0 (.cp (.t 0)),.C 2,.C 6,.o (.Dc z9 [(0,1,.c (si 2)),(1,1,.t 56),(2,1,.t 57)]),.o (.EK 69 [] (.t 55) none [.t 58])]) (Rc 60 [.y 0 (.cp (.t 0)),.C 2,.D 0,.H 0 0 63,.y 0 (.ld true 6 (.t 64)),.f 2 4,.c 163 [65,67] 0,.o (.Dc z9 [(0,1,.c (si 6)),(1,1,.t 61),(2,1,.t 68)]),.o (.EK 69 [] (.t 60) none [.t 69])])))) (Ra 72 [.f 0 4,.q 73 3 71]
(Cn 71 (Ra 75 [.y 0 (.cp (.t 0)),.f 3 4,.o (.Lr 4 (.t 77) (.c (si 0))),.A 4 78,.C 2,.o (.EK 141 [] (.t 75) none [.t 79,.t 80])]
(Ra 82 [.D 0,.H 0 0 83,.y 0 (.ld true 6 (.t 84)),.f 2 4,.c 163 [85,87] 0,.M 7 88]
(Rc 89 [.y 0 (.cp (.t 0)),.C 2,.C 7,.C 2,.D 0,.H 0 0 94,.m 0 0 95,.C 7,.J 0 5 97 98,.h 0 2 99,.o (.Dc z9 [(0,1,.c (si 7)),(1,1,.t 90),(2,1,.t 91),(3,1,.t 92),(4,1,.t 101)]),.o (.EK 69 [] (.t 89) none [.t 102])]))) (Ra 105 [.f 3 4,.Z 106,.q 107 1 104]
(Cn 104 (Ra 109 [.y 0 (.cp (.t 0)),.f 3 4,.o (.Lr 4 (.t 111) (.c (si 0))),.A 4 112,.C 2,.o (.EK 141 [] (.t 109) none [.t 113,.t 114])]
(Rc 116 [.y 0 (.cp (.t 0)),.C 2,.C 2,.f 0 4,.o (.Dc z9 [(0,1,.c (si 3)),(1,1,.t 117),(2,1,.t 118),(4,1,.t 120)]),.o (.EK 69 [] (.t 116) none [.t 121])])) (Ra 8 [.y 0 (.cp (.t 0)),.f 3 4,.o (.Lr 4 (.t 10) (.c (si 0))),.A 4 11,.C 2,.o (.EK 141 [] (.t 8) none [.t 12,.t 13])]
(Ra 15 [.y 0 (.cp (.t 0)),.f 3 4,.o (.Lr 4 (.t 17) (.c (si 1))),.A 4 18,.C 2,.P .add 20 1,.o (.EK 141 [] (.t 15) none [.t 19,.t 21])]
(Rc 23 [.y 0 (.cp (.t 0)),.C 2,.C 2,.C 2,.P .add 26 1,.f 0 4,.o (.Dc z9 [(0,1,.c (si 4)),(1,1,.t 24),(2,1,.t 25),(3,1,.t 27),(4,1,.t 29)]),.o (.EK 69 [] (.t 23) none [.t 30])])))))))))))))
def oG:Gi:=⟨[(8,[0]),(9,[4]),(15,[0]),(16,[4]),(23,[0]),(28,[4]),(33,[4]),(36,[0]),(38,[4]),(43,[4]),(46,[0]),(47,[0]),(48,[0]),(49,[0]),(50,[4]),(55,[0]),(60,[0]),(62,[0]),(63,[0]),(64,[0]),(65,[0]),(66,[4]),(72,[4]),(75,[0]),(76,[4]),(82,[0]),(83,[0]),(84,[0]),(85,[0]),(86,[4]),(89,[0]),(93,[0]),(94,[0]),(95,[0]),(96,[0]),(97,[0]),(99,[0]),(100,[0]),(105,[4]),(109,[0]),(110,[4]),(116,[0]),(119,[4])]⟩
def oH:List RV:=[]
def Ez (R141:Aw->As->Int->Option Aw) (c:Aw) (a:As) (b:Int):Option Aw:=
if a.Op==1 then
(Az c (AW.mk 1 b 0 0 a.N 0)).bind λi=>
some i
else
if a.Op==2 then
(CF c.locals a.Name).bind λe=>
if decide (e≥0)then
(Az c (AW.mk 2 b e 0 0 0)).bind λo=>
some o
else
(Bp c.w a.Name).bind λp=>
(Az c (AW.mk 6 b p 0 0 0)).bind λq=>
some q
else
if a.Op==3 then
(gt a.L 0).bind λv=>
(R141 c v b).bind λd=>
(Bp d.w a.Name).bind λf=>
(gt d.w.Cells f).bind λw=>
(Az d (AW.mk 7 b f b w.Bn 0)).bind λs=>
some s
else
if(a.L.length:Int)==1 then
(gt a.L 0).bind λx=>
(R141 c x b).bind λt=>
(Az t (AW.mk 3 b b 0 a.Op 0)).bind λu=>
some u
else
(gt a.L 0).bind λy=>
(R141 c y b).bind λj=>
(gt a.L 1).bind λz=>
(R141 j z (BE (b+1))).bind λl=>
(Az l (AW.mk 4 b b (BE (b+1)) a.Op 0)).bind λaa=>
some aa
theorem Mh {R141:Aw->As->Int->Option Aw} (H141:∀{x0 x1 x2 r},R141 x0 x1 x2=some r->A5 Tryz.prog 141 [bA 10 (DC x0),.agg [si x1.Op,si x1.N,Ao x1.Name,vS 4 Av x1.L],si x2] (.A9 []) [bA 10 (DC r),.dead,.dead]) {c:Aw} {a:As} {b:Int} {r:Aw} (h:Ez R141 c a b=some r):A5 Tryz.prog 141 [bA 10 (DC c),.agg [si a.Op,si a.N,Ao a.Name,vS 4 Av a.L],si b] (.A9 []) [bA 10 (DC r),.dead,.dead]:=by
 refine wL mix Tryz.func141 (I:=⟨oF,oG,oH⟩) ?_
 simp only[oF,oG,oH]
 have a1:= @EZ
 have a2:= @FB
 have a3:= @Ji
 have a4:= @H141
 unfold Ez at h
 exact walk
def I8:Nat->(Aw->As->Int->Option Aw)
|0=>(λ_ _ _=>none)
|n+1=>Ez ((I8 n))
def CX (n:Nat):Aw->As->Int->Option Aw:=(I8 n)
theorem Li (n:Nat):(∀{x0 x1 x2 r},(CX n) x0 x1 x2=some r->A5 Tryz.prog 141 [bA 10 (DC x0),.agg [si x1.Op,si x1.N,Ao x1.Name,.sl false 4 (x1.L.map Av)],si x2] (.A9 []) [bA 10 (DC r),.dead,.dead]):=by
  induction n with
  |zero=>exactλh=>B9 h
  |succ n ih=>exactλh=>Mh ih h
theorem GU {n:Nat}:∀{x0 x1 x2 r},(CX n) x0 x1 x2=some r->A5 Tryz.prog 141 [bA 10 (DC x0),.agg [si x1.Op,si x1.N,Ao x1.Name,.sl false 4 (x1.L.map Av)],si x2] (.A9 []) [bA 10 (DC r),.dead,.dead]:=(Li n)
def nS:IC:=(Ra 0 [.b 3 [12,17,24,33,53,61,76] (.bx 11 (.t 1))]
(Ra 7 [.r 0 6,.Z 10,.M 4 11]
(Sq (Ra 12 [.f 4 3,.Z 13,.P .gtr 14 0]
(Ci 15 (Ra 16 [.y 0 (.cp (.t 0)),.f 4 3,.o (.Lr 4 (.t 18) (.c (si 0))),.A 4 19,.C 4,.o (.EK 141 [] (.t 16) none [.t 20,.t 21])]
(Ra 23 [.y 0 (.cp (.t 0)),.F 5 3,.A 4 24,.C 4,.P .add 26 1,.o (.EK 141 [] (.t 23) none [.t 25,.t 27])]
(Ra 29 [.D 0,.H 0 0 30,.y 0 (.ld true 6 (.t 31)),.f 2 3,.c 163 [32,34] 0,.M 5 35]
(Rb 36 [.y 0 (.cp (.t 0)),.C 5,.C 4,.P .add 38 1,.C 4,.D 0,.H 0 0 42,.m 0 0 43,.C 5,.J 0 5 45 46,.h 0 2 47,.o (.Dc z9 [(0,1,.c (si 9)),(1,1,.t 37),(2,1,.t 39),(3,1,.t 40),(4,1,.t 49)]),.o (.EK 69 [] (.t 36) none [.t 50])]))))))
(Ra 52 [.y 0 (.cp (.t 0)),.F 5 3,.A 4 53,.C 4,.o (.EK 141 [] (.t 52) none [.t 54,.t 55])]
(Ra 57 [.r 0 6,.f 2 3,.c 43 [60,62] 0,.M 6 63]
(Ra 64 [.C 6,.P .geq 64 0]
(Cn 65 (Rc 66 [.y 0 (.cp (.t 0)),.C 6,.C 4,.o (.Dc z9 [(0,1,.c (si 2)),(1,1,.t 67),(2,1,.t 68)]),.o (.EK 69 [] (.t 66) none [.t 69])]) (Rc 71 [.y 0 (.cp (.t 0)),.D 0,.H 0 0 73,.y 0 (.ld true 6 (.t 74)),.f 2 3,.c 163 [75,77] 0,.C 4,.o (.Dc z9 [(0,1,.c (si 8)),(1,1,.t 78),(2,1,.t 79)]),.o (.EK 69 [] (.t 71) none [.t 80])]))))))))
def nT:Gi:=⟨[(7,[0]),(8,[0]),(9,[0]),(10,[0]),(12,[3]),(16,[0]),(17,[3]),(23,[0]),(24,[3]),(29,[0]),(30,[0]),(31,[0]),(32,[0]),(33,[3]),(36,[0]),(41,[0]),(42,[0]),(43,[0]),(44,[0]),(45,[0]),(47,[0]),(48,[0]),(52,[0]),(53,[3]),(57,[0]),(58,[0]),(59,[0]),(60,[0]),(61,[3]),(66,[0]),(71,[0]),(72,[0]),(73,[0]),(74,[0]),(75,[0]),(76,[3])]⟩
def nU:List RV:=[]
def El (b:Aw) (a:AK):Option Aw:=
if decide ((a.Index.length:Int)>0)then
(gt a.Index 0).bind λp=>
(CX Bo b p (b.locals.length:Int)).bind λi=>
(CX Bo i a.Expr (BE ((b.locals.length:Int)+1))).bind λd=>
(Bp d.w a.Name).bind λe=>
(gt d.w.Cells e).bind λq=>
(Az d (AW.mk 9 e (BE ((b.locals.length:Int)+1)) (b.locals.length:Int) q.Bn 0)).bind λj=>
some j
else
(CX Bo b a.Expr (b.locals.length:Int)).bind λc=>
(CF c.locals a.Name).bind λf=>
if decide (f≥0)then
(Az c (AW.mk 2 f (b.locals.length:Int) 0 0 0)).bind λl=>
some l
else
(Bp c.w a.Name).bind λo=>
(Az c (AW.mk 8 o (b.locals.length:Int) 0 0 0)).bind λs=>
some s
theorem Ld {b:Aw} {a:AK} {r:Aw} (h:El b a=some r):A5 Tryz.prog 137 [bA 10 (DC b),.agg [si a.Op,si a.D4,Ao a.Name,Ao a.Arg,vS 4 Av a.Index,si a.Expr.Op,si a.Expr.N,Ao a.Expr.Name,vS 4 Av a.Expr.L,vS 11 An a.Body,vS 11 An a.Else]] (.A9 []) [bA 10 (DC r),.dead]:=by
 refine wL mix Tryz.func137 (I:=⟨nS,nT,nU⟩) ?_
 simp only[nS,nT,nU]
 have a1:= @GU
 have a2:= @Ji
 have a3:= @EZ
 have a4:= @FB
 unfold El at h
 exact walk
def oB:IC:=(Ra 0 [.K 4 0]
(Sq (Ra 0 [.K 5 0]
(Bl 0 (Sq (Ra 6 [.C 5,.D 0,.H 0 0 8,.m 0 2 9,.Z 11,.O .lss 6 12]
(cX 13 0))
(Sq (Bk 1 (Ra 16 [.D 0,.H 0 0 17,.m 0 2 18,.C 5,.J 0 2 20 21,.h 0 0 22,.C 1,.O .eql 24 25]
(Ci 26 (Rb 27 [.C 5,.M 4 27]))))
(Rc 14 [.C 5,.P .add 14 1,.M 5 15])))))
(Rb 0 [.K 4 (-1)])))
def oC:Gi:=⟨[(7,[0]),(8,[0]),(9,[0]),(10,[0]),(11,[0]),(16,[0]),(17,[0]),(18,[0]),(19,[0]),(20,[0]),(22,[0]),(23,[0])]⟩
def oE:List RV:=[.tmp 4]
namespace CG
def J1 (a:Aw):Option (Int×Aw):=
some ((-1),a)
def L1 (a:Aw) (b:ByteArray) (L1:Int->Option (Int×Aw)) (c:Int):Option (Int×Aw):=
if decide (c<(a.w.Au.length:Int))then
(gt a.w.Au c).bind λd=>
if d.Name.toList==b.toList then
some (c,a)
else
L1 (BE (c+1))
else
J1 a
def Ac (a:Aw) (b:ByteArray):Nat->Int->Option (Int×Aw)
|0,_=>none
|n+1,c=>L1 a b (Ac a b n) c
end CG
section
open CG
def CG (a:Aw) (b:ByteArray):Option (Int×Aw):=
Ac a b Bo 0
theorem Nv {a:Aw} {b:ByteArray} {r:Int×Aw} (h:CG a b=some r):A5 Tryz.prog 140 [bA 10 (DC a),Ao b] (si r.1) [bA 10 (DC r.2),.dead]:=by
 refine wL mix Tryz.func140 (I:=⟨oB,oC,oE⟩) ?_
 simp only[oB,oC,oE]
 have l1:=λn1 n2 n3 n4:Nat=>BM λn τ=>∃(c:Int),(τ 0=bA 10 (DC a)/\τ 1=Ao b/\τ 5=si c)/\Ac a b n c=some r
 unfold CG at h
 exact walk
end
def AAf:IC:=(Ra 0 [.K 4 0]
(Bl 0 (Sq (Ra 5 [.C 4,.C 1,.Z 6,.O .lss 5 7]
(cX 8 0))
(Sq (Bk 1 (Rc 11 [.y 0 (.cp (.t 0)),.C 1,.C 4,.I 11 12 13,.A 11 14,.o (.EK 108 [] (.t 11) none [.t 15])]))
(Rc 9 [.C 4,.P .add 9 1,.M 4 10])))))
def AAg:Gi:=⟨[(11,[0])]⟩
def AAh:List RV:=[]
namespace B8
def L1 (R108:Aw->AK->Option Aw) (a:List AK) (L1:Aw->Int->Option Aw) (c:Aw) (b:Int):Option Aw:=
if decide (b<(a.length:Int))then
(gt a b).bind λf=>
(R108 c f).bind λe=>
L1 e (BE (b+1))
else
some c
def Ac (R108:Aw->AK->Option Aw) (a:List AK):Nat->Aw->Int->Option Aw
|0,_,_=>none
|n+1,c,b=>L1 R108 a (Ac R108 a n) c b
end B8
section
open B8
def B8 (R108:Aw->AK->Option Aw) (d:Aw) (a:List AK):Option Aw:=
Ac R108 a Bo d 0
theorem Mg {R108:Aw->AK->Option Aw} (H108:∀{x0 x1 r},R108 x0 x1=some r->A5 Tryz.prog 108 [bA 10 (DC x0),.agg [si x1.Op,si x1.D4,Ao x1.Name,Ao x1.Arg,vS 4 Av x1.Index,si x1.Expr.Op,si x1.Expr.N,Ao x1.Expr.Name,vS 4 Av x1.Expr.L,vS 11 An x1.Body,vS 11 An x1.Else]] (.A9 []) [bA 10 (DC r),.dead]) {d:Aw} {a:List AK} {r:Aw} (h:B8 R108 d a=some r):A5 Tryz.prog 68 [bA 10 (DC d),vS 11 An a] (.A9 []) [bA 10 (DC r),.dead]:=by
 refine wL mix Tryz.func68 (I:=⟨AAf,AAg,AAh⟩) ?_
 simp only[AAf,AAg,AAh]
 have a1:= @H108
 have l1:=λn1 n2 n3 n4:Nat=>BM λn τ=>∃(c:Aw) (b:Int),(τ 0=bA 10 (DC c)/\τ 1=vS 11 An a/\τ 4=si b)/\Ac R108 a n c b=some r
 unfold B8 at h
 exact walk
end
def lS:IC:=(Ra 0 [.b 3 [24,46,59,72,90,99,108,121,134,142,152,165,173] (.bx 11 (.t 1))]
(Ra 5 [.y 0 (.cp (.t 0)),.p 0 9,.y 0 (.FF (.t 5)),.H 0 8 10,.S 1 11 9]
(Ra 12 [.p 0 9,.P .add 15 1,.y 0 (.FF (.t 12)),.H 0 9 17,.S 1 18 16]
(Ra 19 [.r 0 6,.Z 22,.M 4 23]
(Ra 24 [.f 0 3]
(Bk 0 (Ra 27 [.q 25 1 26]
(Cn 26 (Rc 28 [.y 0 (.cp (.t 0)),.A 11 3,.o (.EK 137 [] (.t 28) none [.t 29])]) (Bw 1 (Ra 32 [.q 25 2 31]
(Cn 31 .skip (Rc 33 [.q 25 3 31])))
(Cn 31 (Rc 34 [.y 0 (.cp (.t 0)),.A 11 3,.o (.EK 138 [] (.t 34) none [.t 35])]) (Ra 38 [.q 25 4 37]
(Cn 37 (Rc 39 [.y 0 (.cp (.t 0)),.A 11 3,.D 0,.H 0 0 42,.m 0 1 43,.f 2 3,.c 106 [45,47] 0,.o (.EK 139 [] (.t 39) none [.t 40,.c (si 11),.c (si 12),.t 48])]) (Ra 51 [.q 25 5 50]
(Cn 50 (Rc 52 [.y 0 (.cp (.t 0)),.A 11 3,.D 0,.H 0 0 55,.m 0 1 56,.f 2 3,.c 106 [58,60] 0,.o (.EK 139 [] (.t 52) none [.t 53,.c (si 13),.c (si 14),.t 61])]) (Ra 64 [.q 25 6 63]
(Cn 63 (Rc 65 [.y 0 (.cp (.t 0)),.A 11 3,.D 0,.H 0 0 68,.m 0 1 69,.f 2 3,.c 106 [71,73] 0,.o (.EK 139 [] (.t 65) none [.t 66,.c (si 15),.c (si 16),.t 74])]) (Ra 77 [.q 25 7 76]
(Cn 76 (Rc 78 [.y 0 (.cp (.t 0)),.A 11 3,.o (.EK 139 [] (.t 78) none [.t 79,.c (si 17),.c (si 18),.c (si 0)])]) (Ra 82 [.q 25 8 81]
(Cn 81 (Rc 83 [.y 0 (.cp (.t 0)),.A 11 3,.o (.EK 139 [] (.t 83) none [.t 84,.c (si 19),.c (si 20),.c (si 0)])]) (Ra 87 [.q 25 9 86]
(Cn 86 (Rc 88 [.y 0 (.cp (.t 0)),.y 0 (.cp (.t 0)),.f 2 3,.o (.EK 140 [] (.t 89) none [.t 91]),.o (.Dc z9 [(0,1,.c (si 21)),(1,1,.t 92)]),.o (.EK 69 [] (.t 88) none [.t 93])]) (Ra 96 [.q 25 10 95]
(Cn 95 (Rc 97 [.y 0 (.cp (.t 0)),.y 0 (.cp (.t 0)),.f 2 3,.o (.EK 140 [] (.t 98) none [.t 100]),.o (.Dc z9 [(0,1,.c (si 22)),(1,1,.t 101)]),.o (.EK 69 [] (.t 97) none [.t 102])]) (Ra 105 [.q 25 11 104]
(Cn 104 (Rc 106 [.y 0 (.cp (.t 0)),.y 0 (.cp (.t 0)),.f 2 3,.o (.EK 140 [] (.t 107) none [.t 109]),.o (.Dc z9 [(0,1,.c (si 23)),(1,1,.t 110)]),.o (.EK 69 [] (.t 106) none [.t 111])]) (Ra 114 [.q 25 12 113]
(Cn 113 (Rc 115 [.y 0 (.cp (.t 0)),.D 0,.H 0 0 117,.m 0 4 118,.f 2 3,.c 43 [120,122] 0,.o (.Dc z9 [(0,1,.c (si 24)),(1,1,.t 123)]),.o (.EK 69 [] (.t 115) none [.t 124])]) (Ra 127 [.q 25 13 126]
(Cn 126 (Rc 128 [.y 0 (.cp (.t 0)),.D 0,.H 0 0 130,.m 0 4 131,.f 2 3,.c 43 [133,135] 0,.o (.Dc z9 [(0,1,.c (si 25)),(1,1,.t 136)]),.o (.EK 69 [] (.t 128) none [.t 137])]) (Ra 140 [.q 25 14 139]
(Cn 139 (Ra 141 [.y 0 (.cp (.t 0)),.F 5 3,.A 4 142,.C 4,.o (.EK 141 [] (.t 141) none [.t 143,.t 144])]
(Rc 146 [.y 0 (.cp (.t 0)),.D 0,.H 0 0 148,.m 0 3 149,.f 2 3,.c 43 [151,153] 0,.C 4,.o (.Dc z9 [(0,1,.c (si 26)),(1,1,.t 154),(2,1,.t 155)]),.o (.EK 69 [] (.t 146) none [.t 156])])) (Ra 159 [.q 25 15 158]
(Ci 158 (Rc 160 [.y 0 (.cp (.t 0)),.r 0 6,.f 2 3,.c 43 [164,166] 0,.D 0,.H 0 0 169,.m 0 3 170,.f 3 3,.c 43 [172,174] 0,.o (.Dc z9 [(0,1,.c (si 27)),(1,1,.t 167),(2,1,.t 175)]),.o (.EK 69 [] (.t 160) none [.t 176])])))))))))))))))))))))))))))))))))))
def lT:Gi:=⟨[(5,[0]),(6,[0]),(7,[0]),(8,[0]),(10,[0]),(11,[0]),(12,[0]),(13,[0]),(14,[0]),(17,[0]),(18,[0]),(19,[0]),(20,[0]),(21,[0]),(22,[0]),(24,[3]),(28,[0]),(34,[0]),(39,[0]),(41,[0]),(42,[0]),(43,[0]),(44,[0]),(45,[0]),(46,[3]),(52,[0]),(54,[0]),(55,[0]),(56,[0]),(57,[0]),(58,[0]),(59,[3]),(65,[0]),(67,[0]),(68,[0]),(69,[0]),(70,[0]),(71,[0]),(72,[3]),(78,[0]),(83,[0]),(88,[0]),(89,[0]),(90,[3]),(97,[0]),(98,[0]),(99,[3]),(106,[0]),(107,[0]),(108,[3]),(115,[0]),(116,[0]),(117,[0]),(118,[0]),(119,[0]),(120,[0]),(121,[3]),(128,[0]),(129,[0]),(130,[0]),(131,[0]),(132,[0]),(133,[0]),(134,[3]),(141,[0]),(142,[3]),(146,[0]),(147,[0]),(148,[0]),(149,[0]),(150,[0]),(151,[0]),(152,[3]),(160,[0]),(161,[0]),(162,[0]),(163,[0]),(164,[0]),(165,[3]),(168,[0]),(169,[0]),(170,[0]),(171,[0]),(172,[0]),(173,[3])]⟩
def lU:List RV:=[]
namespace Cc
def J1 (R138:Aw->AK->Option Aw) (R139:Aw->AK->Int->Int->Int->Option Aw) (a:Aw) (b:AK) (c:Bool):Option Aw:=
if c then
(R138 (Aw.mk a.w a.locals a.out a.next (BE (a.next+1))) b).bind λl=>
some l
else
if b.Op==4 then
(Cr a.w.AG b.Name).bind λw=>
(R139 (Aw.mk a.w a.locals a.out a.next (BE (a.next+1))) b 11 12 w).bind λac=>
some ac
else
if b.Op==5 then
(Cr a.w.AG b.Name).bind λad=>
(R139 (Aw.mk a.w a.locals a.out a.next (BE (a.next+1))) b 13 14 ad).bind λae=>
some ae
else
if b.Op==6 then
(Cr a.w.AG b.Name).bind λaf=>
(R139 (Aw.mk a.w a.locals a.out a.next (BE (a.next+1))) b 15 16 af).bind λai=>
some ai
else
if b.Op==7 then
(R139 (Aw.mk a.w a.locals a.out a.next (BE (a.next+1))) b 17 18 0).bind λaj=>
some aj
else
if b.Op==8 then
(R139 (Aw.mk a.w a.locals a.out a.next (BE (a.next+1))) b 19 20 0).bind λal=>
some al
else
if b.Op==9 then
(CG (Aw.mk a.w a.locals a.out a.next (BE (a.next+1))) b.Name).bind λd=>
(Az d.2 (AW.mk 21 d.1 0 0 0 0)).bind λo=>
some o
else
if b.Op==10 then
(CG (Aw.mk a.w a.locals a.out a.next (BE (a.next+1))) b.Name).bind λe=>
(Az e.2 (AW.mk 22 e.1 0 0 0 0)).bind λp=>
some p
else
if b.Op==11 then
(CG (Aw.mk a.w a.locals a.out a.next (BE (a.next+1))) b.Name).bind λf=>
(Az f.2 (AW.mk 23 f.1 0 0 0 0)).bind λq=>
some q
else
if b.Op==12 then
(CF a.w.AA b.Name).bind λs=>
(Az (Aw.mk a.w a.locals a.out a.next (BE (a.next+1))) (AW.mk 24 s 0 0 0 0)).bind λt=>
some t
else
if b.Op==13 then
(CF a.w.AA b.Name).bind λu=>
(Az (Aw.mk a.w a.locals a.out a.next (BE (a.next+1))) (AW.mk 25 u 0 0 0 0)).bind λv=>
some v
else
if b.Op==14 then
(CX Bo (Aw.mk a.w a.locals a.out a.next (BE (a.next+1))) b.Expr (a.locals.length:Int)).bind λi=>
(CF i.w.AH b.Name).bind λx=>
(Az i (AW.mk 26 x (a.locals.length:Int) 0 0 0)).bind λy=>
some y
else
if b.Op==15 then
(CF a.locals b.Name).bind λz=>
(CF a.w.AH b.Arg).bind λaa=>
(Az (Aw.mk a.w a.locals a.out a.next (BE (a.next+1))) (AW.mk 27 z aa 0 0 0)).bind λab=>
some ab
else
some (Aw.mk a.w a.locals a.out a.next (BE (a.next+1)))
end Cc
section
open Cc
def Cc (R138:Aw->AK->Option Aw) (R139:Aw->AK->Int->Int->Int->Option Aw) (a:Aw) (b:AK):Option Aw:=
if b.Op==1 then
(El (Aw.mk a.w a.locals a.out a.next (BE (a.next+1))) b).bind λj=>
some j
else
if b.Op==2 then
J1 R138 R139 a b (b.Op==2)
else
J1 R138 R139 a b (b.Op==3)
theorem Nw {R138:Aw->AK->Option Aw} (H138:∀{x0 x1 r},R138 x0 x1=some r->A5 Tryz.prog 138 [bA 10 (DC x0),.agg [si x1.Op,si x1.D4,Ao x1.Name,Ao x1.Arg,vS 4 Av x1.Index,si x1.Expr.Op,si x1.Expr.N,Ao x1.Expr.Name,vS 4 Av x1.Expr.L,vS 11 An x1.Body,vS 11 An x1.Else]] (.A9 []) [bA 10 (DC r),.dead]) {R139:Aw->AK->Int->Int->Int->Option Aw} (H139:∀{x0 x1 x2 x3 x4 r},R139 x0 x1 x2 x3 x4=some r->A5 Tryz.prog 139 [bA 10 (DC x0),.agg [si x1.Op,si x1.D4,Ao x1.Name,Ao x1.Arg,vS 4 Av x1.Index,si x1.Expr.Op,si x1.Expr.N,Ao x1.Expr.Name,vS 4 Av x1.Expr.L,vS 11 An x1.Body,vS 11 An x1.Else],si x2,si x3,si x4] (.A9 []) [bA 10 (DC r),.dead,.dead,.dead,.dead]) {a:Aw} {b:AK} {r:Aw} (h:Cc R138 R139 a b=some r):A5 Tryz.prog 108 [bA 10 (DC a),.agg [si b.Op,si b.D4,Ao b.Name,Ao b.Arg,vS 4 Av b.Index,si b.Expr.Op,si b.Expr.N,Ao b.Expr.Name,vS 4 Av b.Expr.L,vS 11 An b.Body,vS 11 An b.Else]] (.A9 []) [bA 10 (DC r),.dead]:=by
 refine wL mix Tryz.func108 (I:=⟨lS,lT,lU⟩) ?_
 simp only[lS,lT,lU]
 have a1:= @Ld
 have a2:= @H138
 have a3:= @Jl
 have a4:= @H139
 have a5:= @Nv
 have a6:= @EZ
 have a7:= @FB
 have a8:= @GU
 have c1:=λn1 n2 n3 n4:Nat=>B7 1 λτ=>∃(c:Bool),(τ 0=bA 10 [vS 5 Fg a.w.Cells,vS 2 HI a.w.AG,vS 2 HH a.w.Au,vS 1 eS a.w.AH,vS 1 eS a.w.AA,vS 3 E7 a.w.BA,vS 1 eS a.locals,vO 6 C7 a.out,si a.next,si (BE (a.next+1))]/\τ 3=bA 11 [si b.Op,si b.D4,Ao b.Name,Ao b.Arg,vS 4 Av b.Index,si b.Expr.Op,si b.Expr.N,Ao b.Expr.Name,vS 4 Av b.Expr.L,vS 11 An b.Body,vS 11 An b.Else]/\τ 4=si (a.locals.length:Int)/\τ 25=si b.Op/\τ 31=sb c)/\J1 R138 R139 a b c=some r
 unfold Cc at h
 exact walk
end
def nV:IC:=(Ra 0 [.b 3 [18,40,47,66,103] (.bx 11 (.t 1))]
(Ra 8 [.p 0 8,.M 4 11]
(Ra 12 [.r 0 7,.Z 15,.M 5 16]
(Ra 17 [.y 0 (.cp (.t 0)),.F 5 3,.A 4 18,.r 0 6,.Z 23,.o (.EK 141 [] (.t 17) none [.t 19,.t 24])]
(Ra 26 [.r 0 7,.Z 29,.M 6 30]
(Ra 31 [.y 0 (.cp (.t 0)),.r 0 6,.Z 35,.o (.Dc z9 [(0,1,.c (si 10)),(1,1,.t 36)]),.o (.EK 69 [] (.t 31) none [.t 37])]
(Ra 39 [.y 0 (.cp (.t 0)),.f 9 3,.o (.EK 68 [] (.t 39) none [.t 41])]
(Ra 43 [.y 0 (.cp (.t 0)),.C 4,.y 0 (.FF (.t 43)),.H 0 8 45,.S 1 46 44]
(Sq (Ra 47 [.f 0 3,.Q 48 3]
(Ci 49 (Ra 50 [.y 0 (.cp (.t 0)),.C 5,.o (.Dc z9 [(0,1,.c (si 5)),(1,1,.t 51)]),.o (.EK 69 [] (.t 50) none [.t 52])]
(Rb 54 [.r 0 7,.C 6,.r 0 7,.Z 62,.J 0 6 57 58,.H 0 2 64,.S 1 65 63]))))
(Sq (Ra 66 [.f 10 3,.Z 67,.Q 68 0]
(Ci 69 (Rb 70 [.r 0 7,.C 6,.r 0 7,.Z 78,.J 0 6 73 74,.H 0 2 80,.S 1 81 79])))
(Ra 82 [.r 0 7,.Z 85,.M 7 86]
(Ra 87 [.y 0 (.cp (.t 0)),.o (.Dc z9 [(0,1,.c (si 5))]),.o (.EK 69 [] (.t 87) none [.t 88])]
(Ra 90 [.r 0 7,.C 6,.r 0 7,.Z 98,.J 0 6 93 94,.H 0 2 100,.S 1 101 99]
(Ra 102 [.y 0 (.cp (.t 0)),.f 10 3,.o (.EK 68 [] (.t 102) none [.t 104])]
(Rc 106 [.r 0 7,.C 7,.r 0 7,.Z 114,.J 0 6 109 110,.H 0 1 116,.S 1 117 115])))))))))))))))
def nW:Gi:=⟨[(8,[0]),(9,[0]),(10,[0]),(12,[0]),(13,[0]),(14,[0]),(15,[0]),(17,[0]),(18,[3]),(20,[0]),(21,[0]),(22,[0]),(23,[0]),(26,[0]),(27,[0]),(28,[0]),(29,[0]),(31,[0]),(32,[0]),(33,[0]),(34,[0]),(35,[0]),(39,[0]),(40,[3]),(43,[0]),(45,[0]),(46,[0]),(47,[3]),(50,[0]),(54,[0]),(55,[0]),(56,[0]),(57,[0]),(59,[0]),(60,[0]),(61,[0]),(62,[0]),(64,[0]),(65,[0]),(66,[3]),(70,[0]),(71,[0]),(72,[0]),(73,[0]),(75,[0]),(76,[0]),(77,[0]),(78,[0]),(80,[0]),(81,[0]),(82,[0]),(83,[0]),(84,[0]),(85,[0]),(87,[0]),(90,[0]),(91,[0]),(92,[0]),(93,[0]),(95,[0]),(96,[0]),(97,[0]),(98,[0]),(100,[0]),(101,[0]),(102,[0]),(103,[3]),(106,[0]),(107,[0]),(108,[0]),(109,[0]),(111,[0]),(112,[0]),(113,[0]),(114,[0]),(116,[0]),(117,[0])]⟩
def nX:List RV:=[]
def DM (R68:Aw->(List AK)->Option Aw) (c:Aw) (a:AK):Option Aw:=
(CX Bo c a.Expr (c.locals.length:Int)).bind λd=>
(Az d (AW.mk 10 (d.locals.length:Int) 0 0 0 0)).bind λq=>
(R68 q a.Body).bind λb=>
if a.Op==3 then
(Az (Aw.mk b.w b.locals b.out c.site b.next) (AW.mk 5 (c.out.length:Int) 0 0 0 0)).bind λe=>
(gt e.out (d.out.length:Int)).bind λj=>
some (Aw.mk e.w e.locals (e.out.set d.out.length (AW.mk j.Op j.A (e.out.length:Int) j.C j.N j.Site)) e.site e.next)
else
if(a.Else.length:Int)==0 then
(gt b.out (d.out.length:Int)).bind λl=>
some (Aw.mk b.w b.locals (b.out.set d.out.length (AW.mk l.Op l.A (b.out.length:Int) l.C l.N l.Site)) c.site b.next)
else
(Az (Aw.mk b.w b.locals b.out c.site b.next) (AW.mk 5 0 0 0 0 0)).bind λf=>
(gt f.out (d.out.length:Int)).bind λo=>
(R68 (Aw.mk f.w f.locals (f.out.set d.out.length (AW.mk o.Op o.A (f.out.length:Int) o.C o.N o.Site)) f.site f.next) a.Else).bind λi=>
(gt i.out (b.out.length:Int)).bind λp=>
some (Aw.mk i.w i.locals (i.out.set b.out.length (AW.mk p.Op (i.out.length:Int) p.B p.C p.N p.Site)) i.site i.next)
theorem Jz {R68:Aw->(List AK)->Option Aw} (H68:∀{x0 x1 r},R68 x0 x1=some r->A5 Tryz.prog 68 [bA 10 (DC x0),vS 11 An x1] (.A9 []) [bA 10 (DC r),.dead]) {c:Aw} {a:AK} {r:Aw} (h:DM R68 c a=some r):A5 Tryz.prog 138 [bA 10 (DC c),.agg [si a.Op,si a.D4,Ao a.Name,Ao a.Arg,vS 4 Av a.Index,si a.Expr.Op,si a.Expr.N,Ao a.Expr.Name,vS 4 Av a.Expr.L,vS 11 An a.Body,vS 11 An a.Else]] (.A9 []) [bA 10 (DC r),.dead]:=by
 refine wL mix Tryz.func138 (I:=⟨nV,nW,nX⟩) ?_
 simp only[nV,nW,nX]
 have a1:= @GU
 have a2:= @EZ
 have a3:= @H68
 unfold DM at h
 exact walk
def nY:IC:=(Ra 0 [.b 6 [21] (.bx 11 (.t 1))]
(Ra 11 [.p 0 8,.M 10 14]
(Ra 15 [.y 0 (.cp (.t 0)),.C 2,.C 4,.o (.Dc z9 [(0,1,.t 16),(1,1,.t 17)]),.o (.EK 69 [] (.t 15) none [.t 18])]
(Ra 20 [.y 0 (.cp (.t 0)),.f 9 6,.o (.EK 68 [] (.t 20) none [.t 22])]
(Ra 24 [.y 0 (.cp (.t 0)),.C 10,.y 0 (.FF (.t 24)),.H 0 8 26,.S 1 27 25]
(Rc 28 [.y 0 (.cp (.t 0)),.C 3,.C 4,.o (.Dc z9 [(0,1,.t 29),(1,1,.t 30)]),.o (.EK 69 [] (.t 28) none [.t 31])]))))))
def nZ:Gi:=⟨[(11,[0]),(12,[0]),(13,[0]),(15,[0]),(20,[0]),(21,[6]),(24,[0]),(26,[0]),(27,[0]),(28,[0])]⟩
def oA:List RV:=[]
def Du (R68:Aw->(List AK)->Option Aw) (b:Aw) (a:AK) (d e c:Int):Option Aw:=
(Az b (AW.mk d c 0 0 0 0)).bind λi=>
(R68 i a.Body).bind λf=>
(Az (Aw.mk f.w f.locals f.out b.site f.next) (AW.mk e c 0 0 0 0)).bind λj=>
some j
theorem Lc {R68:Aw->(List AK)->Option Aw} (H68:∀{x0 x1 r},R68 x0 x1=some r->A5 Tryz.prog 68 [bA 10 (DC x0),vS 11 An x1] (.A9 []) [bA 10 (DC r),.dead]) {b:Aw} {a:AK} {d e c:Int} {r:Aw} (h:Du R68 b a d e c=some r):A5 Tryz.prog 139 [bA 10 (DC b),.agg [si a.Op,si a.D4,Ao a.Name,Ao a.Arg,vS 4 Av a.Index,si a.Expr.Op,si a.Expr.N,Ao a.Expr.Name,vS 4 Av a.Expr.L,vS 11 An a.Body,vS 11 An a.Else],si d,si e,si c] (.A9 []) [bA 10 (DC r),.dead,.dead,.dead,.dead]:=by
 refine wL mix Tryz.func139 (I:=⟨nY,nZ,oA⟩) ?_
 simp only[nY,nZ,oA]
 have a1:= @EZ
 have a2:= @H68
 unfold Du at h
 exact walk
def DB:Nat->(Aw->(List AK)->Option Aw)×(Aw->AK->Option Aw)×(Aw->AK->Option Aw)×(Aw->AK->Int->Int->Int->Option Aw)
|0=>((λ_ _=>none),(λ_ _=>none),(λ_ _=>none),(λ_ _ _ _ _=>none))
|n+1=>(B8 ((DB n).2.1),Cc ((DB n).2.2.1) ((DB n).2.2.2),DM ((DB n).1),Du ((DB n).1))
def DD (n:Nat):Aw->(List AK)->Option Aw:=(DB n).1
def Jk (n:Nat):Aw->AK->Option Aw:=(DB n).2.1
def Le (n:Nat):Aw->AK->Option Aw:=(DB n).2.2.1
def Nu (n:Nat):Aw->AK->Int->Int->Int->Option Aw:=(DB n).2.2.2
theorem Lg (n:Nat):(∀{x0 x1 r},(DD n) x0 x1=some r->A5 Tryz.prog 68 [bA 10 (DC x0),.sl false 11 (x1.map An)] (.A9 []) [bA 10 (DC r),.dead])/\(∀{x0 x1 r},(Jk n) x0 x1=some r->A5 Tryz.prog 108 [bA 10 (DC x0),.agg [si x1.Op,si x1.D4,Ao x1.Name,Ao x1.Arg,.sl false 4 (x1.Index.map Av),si x1.Expr.Op,si x1.Expr.N,Ao x1.Expr.Name,.sl false 4 (x1.Expr.L.map Av),.sl false 11 (x1.Body.map An),.sl false 11 (x1.Else.map An)]] (.A9 []) [bA 10 (DC r),.dead])/\(∀{x0 x1 r},(Le n) x0 x1=some r->A5 Tryz.prog 138 [bA 10 (DC x0),.agg [si x1.Op,si x1.D4,Ao x1.Name,Ao x1.Arg,.sl false 4 (x1.Index.map Av),si x1.Expr.Op,si x1.Expr.N,Ao x1.Expr.Name,.sl false 4 (x1.Expr.L.map Av),.sl false 11 (x1.Body.map An),.sl false 11 (x1.Else.map An)]] (.A9 []) [bA 10 (DC r),.dead])/\(∀{x0 x1 x2 x3 x4 r},(Nu n) x0 x1 x2 x3 x4=some r->A5 Tryz.prog 139 [bA 10 (DC x0),.agg [si x1.Op,si x1.D4,Ao x1.Name,Ao x1.Arg,.sl false 4 (x1.Index.map Av),si x1.Expr.Op,si x1.Expr.N,Ao x1.Expr.Name,.sl false 4 (x1.Expr.L.map Av),.sl false 11 (x1.Body.map An),.sl false 11 (x1.Else.map An)],si x2,si x3,si x4] (.A9 []) [bA 10 (DC r),.dead,.dead,.dead,.dead]):=by
  induction n with
  |zero=>exact⟨λh=>B9 h,λh=>B9 h,λh=>B9 h,λh=>B9 h⟩
  |succ n ih=>exact⟨λh=>Mg ih.2.1 h,λh=>Nw ih.2.2.1 ih.2.2.2 h,λh=>Jz ih.1 h,λh=>Lc ih.1 h⟩
theorem Lh {n:Nat}:∀{x0 x1 r},(DD n) x0 x1=some r->A5 Tryz.prog 68 [bA 10 (DC x0),.sl false 11 (x1.map An)] (.A9 []) [bA 10 (DC r),.dead]:=(Lg n).1
def AAl:IC:=(Ra 2 [.b 1 [3,10,16,18,23,25,27,32,34,40,45,47] (.bx 6 (.t 0)),.o (.mv (.c (.own false 1 [])))]
(Sq (Ra 3 [.f 0 1]
(Bk 0 (Bw 1 (Ra 6 [.q 4 1 5]
(Cn 5 .skip (Ra 7 [.q 4 6 5]
(Cn 5 .skip (Ra 8 [.q 4 10 5]
(Cn 5 .skip (Rc 9 [.q 4 27 5])))))))
(Cn 5 (Rb 10 [.f 1 1,.o (.Eg 1 [[si 0]] [(0,.t 11)]),.M 2 12]) (Bw 2 (Ra 14 [.q 4 2 13]
(Cn 13 .skip (Rc 15 [.q 4 3 13])))
(Cn 13 (Rb 16 [.f 1 1,.f 2 1,.o (.Eg 1 [[si 0],[si 0]] [(0,.t 17),(1,.t 19)]),.M 2 20]) (Ra 22 [.q 4 4 21]
(Cn 21 (Rb 23 [.f 1 1,.f 2 1,.f 3 1,.o (.Eg 1 [[si 0],[si 0],[si 0]] [(0,.t 24),(1,.t 26),(2,.t 28)]),.M 2 29]) (Ra 31 [.q 4 7 30]
(Cn 30 (Rb 32 [.f 1 1,.f 3 1,.o (.Eg 1 [[si 0],[si 0]] [(0,.t 33),(1,.t 35)]),.M 2 36]) (Sq (Ra 38 [.q 4 8 37]
(Cn 37 .skip (Rc 39 [.q 4 26 37])))
(Cn 37 (Rb 40 [.f 2 1,.o (.Eg 1 [[si 0]] [(0,.t 41)]),.M 2 42]) (Ra 44 [.q 4 9 43]
(Ci 43 (Rb 45 [.f 2 1,.f 3 1,.o (.Eg 1 [[si 0],[si 0]] [(0,.t 46),(1,.t 48)]),.M 2 49])))))))))))))))
(Rb 2 [.o (.mv (.c (.own false 1 [])))])))
def AAm:Gi:=⟨[(3,[1]),(10,[1]),(16,[1]),(18,[1]),(23,[1]),(25,[1]),(27,[1]),(32,[1]),(34,[1]),(40,[1]),(45,[1]),(47,[1])]⟩
def AAn:List RV:=[.tmp 2]
namespace AQ
def J3 (a:AW) (d:Bool):Option (List Int):=
if d then
some [a.B]
else
if a.Op==9 then
some [a.B,a.C]
else
some []
def J2 (a:AW) (b:Bool):Option (List Int):=
if b then
some [a.A,a.B]
else
if a.Op==4 then
some [a.A,a.B,a.C]
else
if a.Op==7 then
some [a.A,a.C]
else
if a.Op==8 then
J3 a (a.Op==8)
else
J3 a (a.Op==26)
def J1 (a:AW) (c:Bool):Option (List Int):=
if c then
some [a.A]
else
if a.Op==2 then
J2 a (a.Op==2)
else
J2 a (a.Op==3)
end AQ
section
open AQ
def AQ (a:AW):Option (List Int):=
if a.Op==1 then
J1 a (a.Op==1)
else
if a.Op==6 then
J1 a (a.Op==6)
else
if a.Op==10 then
J1 a (a.Op==10)
else
J1 a (a.Op==27)
theorem Gm {a:AW} {r:List Int} (h:AQ a=some r):Says Tryz.prog 70 [.agg (C7 a)] (vO 1 eI r):=by
 refine wO mix Tryz.func70 (I:=⟨AAl,AAm,AAn⟩) ?_
 simp only[AAl,AAm,AAn]
 have c2:=λn1 n2 n3 n4:Nat=>B7 2 λτ=>∃(b:Bool),(τ 1=bA 6 (C7 a)/\τ 4=si a.Op/\τ 13=sb b)/\J2 a b=some r
 have c1:=λn1 n2 n3 n4:Nat=>B7 1 λτ=>∃(c:Bool),(τ 1=bA 6 (C7 a)/\τ 4=si a.Op/\τ 5=sb c)/\J1 a c=some r
 unfold AQ at h
 exact walk
end
def yU:IC:=(Ra 2 [.b 1 [29,37,47] (.bx 2 (.t 0)),.o (.bx 7 (.c (.agg z7))),.K 3 0,.K 4 0]
(Sq (Ra 16 [.A 2 1,.c 66 [16] 0,.w 15,.C 17,.w 18,.o (.ext (.t 15) 0),.o (.ext (.t 15) 1),.M 5 18,.M 6 19]
(Ra 20 [.C 5,.P .neq 20 0]
(Ci 21 (Rb 22 [.o (.Dc z7 []),.C 5,.C 6,.S 7 2 22,.M 3 23,.M 4 24]))))
(Ra 25 [.A 2 1,.c 67 [25] 1,.o (.Dc z7 [(0,6,.t 26)]),.b 7 [35,36,106,107,111,112] (.bx 7 (.c (.agg z7))),.S 7 7 27]
(Ra 0 [.K 8 0]
(Sq (Ra 0 [.K 9 0]
(Bl 0 (Sq (Ra 28 [.C 9,.f 1 1,.Z 30,.O .lss 28 31]
(cX 32 0))
(Sq (Bk 1 (Ra 35 [.F 0 7,.y 7 (.ld true 6 (.t 35)),.f 1 1,.C 9,.I 4 38 39,.U 2 40,.C 8,.o (.Dc [.own false 5 [],.own false 2 [],.own false 2 [],.own false 1 [],.own false 1 [],.own false 3 [],.own false 1 [],.own false 6 [],si 0,si 0] [(0,6,.t 36),(6,1,.t 42),(9,1,.t 43)]),.o (.bx 10 (.t 44)),.b 10 [46,54,55,56,58,59,60,61,64,65,66,67,69,70,71,72,75,76,77,78,83,84,85,86,88] (.mv (.t 45))]
(Ra 46 [.y 10 (.cp (.t 10)),.f 1 1,.C 9,.I 4 48 49,.U 3 50,.o (.EK 68 [] (.t 46) none [.t 52])]
(Ra 54 [.p 10 9,.M 8 57]
(Ra 58 [.D 10,.H 10 8 59,.T 60 (-1)]
(Ra 61 [.y 10 (.cp (.t 10)),.o (.Dc z9 [(0,1,.c (si 28))]),.o (.EK 69 [] (.t 61) none [.t 62])]
(Sq (.gz false 10 [(0,7,0)] (Rc 64 [.r 10 6,.Z 67,.r 10 7,.o (.Dc [si 0,.own false 6 []] [(0,1,.t 68),(1,1,.t 72)]),.b 11 [97,105,108] (.bx 2 (.c (.agg [si 0,.own false 6 []]))),.S 2 11 73]))
(Sq (Ra 0 [.K 12 0]
(Bl 2 (Sq (Ra 74 [.C 12,.r 10 7,.Z 78,.O .lss 74 79]
(cX 80 2))
(Sq (Bk 3 (Ra 83 [.r 10 7,.C 12,.J 10 6 86 87,.A 6 88,.c 70 [89] 2,.b 13 [92,99,101] (.mv (.t 90))]
(Ra 0 [.K 14 0]
(Bl 4 (Sq (Ra 91 [.C 14,.y 13 (.cp (.t 13)),.Z 92,.O .lss 91 93]
(cX 94 4))
(Sq (Bk 5 (Rc 97 [.f 0 11,.y 13 (.cp (.t 13)),.C 14,.J 13 1 99 100,.L 101,.P .add 102 1,.o (.mm true (.t 98) (.t 103)),.F 0 11,.S 1 105 104]))
(Rc 95 [.C 14,.P .add 95 1,.M 14 96])))))))
(Rc 81 [.C 12,.P .add 81 1,.M 12 82])))))
(Rc 106 [.m 7 6 7,.y 11 (.ld true 2 (.t 11)),.o (.Eg 2 [[si 0,.own false 6 []]] [(0,.t 108)]),.o (.app 2 32 (.t 107) (.t 109)),.F 6 7,.S 1 111 110])))))))))
(Rc 33 [.C 9,.P .add 33 1,.M 9 34])))))
(Rb 112 [.y 7 (.ld true 7 (.t 7)),.S 7 2 112,.K 3 0,.K 4 0]))))))
def yV:Gi:=⟨[(29,[1]),(35,[7]),(36,[7]),(37,[1]),(46,[10]),(47,[1]),(54,[10]),(55,[10]),(56,[10]),(58,[10]),(59,[10]),(60,[10]),(61,[10]),(64,[10]),(65,[10]),(66,[10]),(67,[10]),(69,[10]),(70,[10]),(71,[10]),(72,[10]),(75,[10]),(76,[10]),(77,[10]),(78,[10]),(83,[10]),(84,[10]),(85,[10]),(86,[10]),(88,[10]),(92,[13]),(97,[11]),(99,[13]),(101,[13]),(105,[11]),(106,[7]),(107,[7]),(108,[11]),(111,[7]),(112,[7])]⟩
def yW:List RV:=[.cell 2 true 7,.tmp 3,.tmp 4]
namespace BC
def J4 (v:BB):Option (BB×Int×Int):=
some (v,0,0)
def J3 (L1:BB->Int->Int->Option (BB×Int×Int)) (b:Int) (u:BB) (w:Int):Option (BB×Int×Int):=
L1 u w (BE (b+1))
def J2 (L1:BB->Int->Int->Option (BB×Int×Int)) (a:BB) (b:Int) (e:Aw) (y:Ak):Option (BB×Int×Int):=
if Aq (a.AA.length+1) 32=true then
J3 L1 b (BB.mk a.World (a.AA++[y])) e.next
else none
def J1 (L2:Ak->Int->Option (BB×Int×Int)) (c:Int) (x:Ak):Option (BB×Int×Int):=
L2 x (BE (c+1))
def L3 (L2:Ak->Int->Option (BB×Int×Int)) (c:Int) (i:List Int) (L3:Ak->Int->Option (BB×Int×Int)) (j:Ak) (l:Int):Option (BB×Int×Int):=
if decide (l<(i.length:Int))then
(gt i l).bind λt=>
L3 (Ak.mk (if(BE (t+1))>j.CN then(BE (t+1))else j.CN) j.B3) (BE (l+1))
else
J1 L2 c j
def Gx (L2:Ak->Int->Option (BB×Int×Int)) (c:Int) (i:List Int):Nat->Ak->Int->Option (BB×Int×Int)
|0,_,_=>none
|n+1,j,l=>L3 L2 c i (Gx L2 c i n) j l
def L2 (L1:BB->Int->Int->Option (BB×Int×Int)) (a:BB) (b:Int) (e f:Aw) (L2:Ak->Int->Option (BB×Int×Int)) (o:Ak) (c:Int):Option (BB×Int×Int):=
if decide (c<(f.out.length:Int))then
(gt f.out c).bind λaa=>
(AQ aa).bind λi=>
Gx L2 c i Bo o 0
else
J2 L1 a b e o
def Da (L1:BB->Int->Int->Option (BB×Int×Int)) (a:BB) (b:Int) (e f:Aw):Nat->Ak->Int->Option (BB×Int×Int)
|0,_,_=>none
|n+1,o,c=>L2 L1 a b e f (Da L1 a b e f n) o c
def L1 (d:AL) (L1:BB->Int->Int->Option (BB×Int×Int)) (a:BB) (p b:Int):Option (BB×Int×Int):=
if decide (b<(d.AA.length:Int))then
(gt d.AA b).bind λs=>
(DD Bo (Aw.mk a.World s.EY [] 0 p) s.Body).bind λe=>
(Az (Aw.mk e.w e.locals e.out (-1) e.next) (AW.mk 28 0 0 0 0 0)).bind λf=>
Da L1 a b e f Bo (Ak.mk (f.locals.length:Int) f.out) 0
else
J4 a
def Ac (d:AL):Nat->BB->Int->Int->Option (BB×Int×Int)
|0,_,_,_=>none
|n+1,a,p,b=>L1 d (Ac d n) a p b
end BC
section
open BC
def BC (d:AL):Option (BB×Int×Int):=
(BH d).bind λq=>
if q.1 != 0 then
some ((BB.mk (AB.mk [] [] [] [] [] []) []),q.1,q.2)
else
(CI d).bind λz=>
Ac d Bo (BB.mk z []) 0 0
theorem Oe {d:AL} {r:BB×Int×Int} (h:BC d=some r):Says Tryz.prog 39 [.agg (Bb d)] (.A9 [.agg (Gp r.1),si r.2.1,si r.2.2]):=by
 refine wF mix Tryz.func39 (I:=⟨yU,yV,yW⟩) ?_
 simp only[yU,yV,yW]
 have a1:= @HS
 have a2:= @RF
 have a3:= @Lh
 have a4:= @EZ
 have a5:= @Gm
 have l1:=λn1 n2 n3 n4:Nat=>BM λn τ=>∃(a:BB) (p b:Int),(τ 1=bA 2 (Bb d)/\τ 2=bA 7 z7/\τ 7=bA 7 [vS 5 Fg a.World.Cells,vS 2 HI a.World.AG,vS 2 HH a.World.Au,vS 1 eS a.World.AH,vS 1 eS a.World.AA,vS 3 E7 a.World.BA,vO 2 Bq a.AA]/\τ 8=si p/\τ 9=si b)/\Ac d n a p b=some r
 have l2:=λn1 n2 n3 n4:Nat=>BM λn τ=>∃(a:BB) (b:Int) (e f:Aw) (o:Ak) (c:Int),(τ 1=bA 2 (Bb d)/\τ 2=bA 7 z7/\τ 7=bA 7 [vS 5 Fg a.World.Cells,vS 2 HI a.World.AG,vS 2 HH a.World.Au,vS 1 eS a.World.AH,vS 1 eS a.World.AA,vS 3 E7 a.World.BA,vO 2 Bq a.AA]/\τ 8=si e.next/\τ 9=si b/\τ 10=bA 10 (rQ f)/\τ 11=bA 2 (Bq o)/\τ 12=si c)/\Da (Ac d n1) a b e f n o c=some r
 have l3:=λn1 n2 n3 n4:Nat=>BM λn τ=>∃(a:BB) (b:Int) (e f:Aw) (c:Int) (i:List Int) (j:Ak) (l:Int),(τ 1=bA 2 (Bb d)/\τ 2=bA 7 z7/\τ 7=bA 7 [vS 5 Fg a.World.Cells,vS 2 HI a.World.AG,vS 2 HH a.World.Au,vS 1 eS a.World.AH,vS 1 eS a.World.AA,vS 3 E7 a.World.BA,vO 2 Bq a.AA]/\τ 8=si e.next/\τ 9=si b/\τ 10=bA 10 (rQ f)/\τ 11=bA 2 (Bq j)/\τ 12=si c/\τ 13=vO 1 eI i/\τ 14=si l)/\Gx (Da (Ac d n1) a b e f n2) c i n j l=some r
 unfold BC at h
 exact walk
end
end Go.Abs
