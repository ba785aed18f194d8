/- Typed programs of Go functions, and that the functions do what these say. -/
import Derived.Test.YtkpdblcoclbgbaaGreatDoorBaseA
import Derived.Test.YtkpdblcoclbgbaaGreatDoorWalkJ
import Derived.Test.YtkpdblcoclbgbaaGreatDoorWalkC
import Derived.Shelf.Slices.SearchI
set_option linter.unusedSimpArgs false
set_option linter.unusedVariables false
namespace Go.Abs
open Go.Proofs
set_option maxRecDepth 100000
set_option maxHeartbeats 4000000
def AAc:IC:=(Ra 2 [.b 1 [19,25,95,103,116] (.bx 2 (.t 0)),.o (.bx 6 (.c (.agg kL)))]
(Ra 0 [.b 3 [17,32,33,38,49,50,64,68,69,78,81,82,85,86,93,101,102,111,113,114,125,126] (.bx 6 (.c (.agg kL)))]
(Sq (Ra 11 [.A 2 1,.c 66 [11] 0,.w 10,.C 12,.w 13,.o (.ext (.t 10) 0),.o (.ext (.t 10) 1),.M 4 13,.M 5 14]
(Ra 15 [.C 4,.P .neq 15 0]
(Ci 16 (Rb 17 [.y 3 (.ld true 6 (.t 3)),.S 6 2 17]))))
(Sq (Ra 0 [.K 6 0]
(Bl 0 (Sq (Ra 18 [.C 6,.f 0 1,.Z 20,.O .lss 18 21]
(cX 22 0))
(Sq (Bk 1 (Ra 25 [.f 0 1,.C 6,.I 6 26 27,.A 6 28,.b 7 [30,34,43,51,54,56,59,70,72,83,87] (.bx 6 (.c (.agg z5))),.S 6 7 29]
(Ra 30 [.f 0 7]
(Bk 2 (Bw 1 (Ra 40 [.q 31 1 39]
(Cn 39 .skip (Rc 41 [.q 31 2 39])))
(Cn 39 (Ra 0 [.K 8 0]
(Bl 3 (Sq (Ra 42 [.C 8,.f 3 7,.o (.mm true (.t 44) (.c (si 1))),.O .lss 42 45]
(cX 46 3))
(Sq (Bk 4 (Rc 49 [.m 3 0 3,.f 2 7,.C 8,.f 3 7,.f 0 7,.Q 57 2,.f 4 7,.o (.Dc sX [(0,1,.t 52),(1,1,.t 53),(2,1,.t 55),(3,1,.t 58),(4,1,.t 60)]),.o (.Eg 5 [sX] [(0,.t 61)]),.o (.app 5 48 (.t 50) (.t 62)),.F 0 3,.S 1 64 63]))
(Rc 47 [.C 8,.P .add 47 1,.M 8 48]))))) (Sq (Ra 66 [.q 31 3 65]
(Cn 65 .skip (Rc 67 [.q 31 4 65])))
(Cn 65 (Rc 68 [.m 3 1 3,.f 2 7,.f 0 7,.Q 73 4,.o (.Dc [Ao ⟨#[]⟩,sb false] [(0,1,.t 71),(1,1,.t 74)]),.o (.Eg 2 [[Ao ⟨#[]⟩,sb false]] [(0,.t 75)]),.o (.app 2 24 (.t 69) (.t 76)),.F 1 3,.S 1 78 77]) (Ra 80 [.q 31 5 79]
(Cn 79 (Rc 81 [.m 3 2 3,.f 2 7,.m 3 1 3,.f 5 7,.c 106 [86,88] 0,.o (.Dc [Ao ⟨#[]⟩,si 0] [(0,1,.t 84),(1,1,.t 89)]),.o (.Eg 2 [[Ao ⟨#[]⟩,si 0]] [(0,.t 90)]),.o (.app 2 24 (.t 82) (.t 91)),.F 2 3,.S 1 93 92]) (Rc 32 [.m 3 3 3,.f 2 7,.o (.Eg 1 [[Ao ⟨#[]⟩]] [(0,.t 35)]),.o (.app 1 16 (.t 33) (.t 36)),.F 3 3,.S 1 38 37])))))))))))
(Rc 23 [.C 6,.P .add 23 1,.M 6 24])))))
(Sq (Ra 0 [.K 9 0]
(Bl 5 (Sq (Ra 94 [.C 9,.f 1 1,.Z 96,.O .lss 94 97]
(cX 98 5))
(Sq (Bk 6 (Ra 101 [.m 3 4 3,.f 1 1,.C 9,.I 4 104 105,.U 0 106,.o (.Eg 1 [[Ao ⟨#[]⟩]] [(0,.t 108)]),.o (.app 1 16 (.t 102) (.t 109)),.F 4 3,.S 1 111 110]
(.Vt [(122,10,11,112)] [LQ 113 3 5 3,VD 114 3 113,iC 115 9,LQ 116 1 1 1,iL 117 116,iC 118 9,iI 119 4 117 118,iF 120 3 119,iL 121 120,⟨some ⟨122,[123],[]⟩,.call 107 [.t 114,.t 115,.c (si 0),.t 121] 3,none⟩,i0 112 (.jA (.t 122) 1),i1 123 122 (.ext (.t 122) 0),i0 124 .fl,LQ 125 3 5 3,iS 1 125 123])))
(Rc 99 [.C 9,.P .add 99 1,.M 9 100])))))
(Rb 126 [.y 3 (.ld true 6 (.t 3)),.S 6 2 126]))))))
def AAd:Gi:=⟨[(17,[3]),(19,[1]),(25,[1]),(30,[7]),(32,[3]),(33,[3]),(34,[7]),(38,[3]),(43,[7]),(49,[3]),(50,[3]),(51,[7]),(54,[7]),(56,[7]),(59,[7]),(64,[3]),(68,[3]),(69,[3]),(70,[7]),(72,[7]),(78,[3]),(81,[3]),(82,[3]),(83,[7]),(85,[3]),(86,[3]),(87,[7]),(93,[3]),(95,[1]),(101,[3]),(102,[3]),(103,[1]),(111,[3]),(113,[3]),(114,[3]),(116,[1]),(123,[122]),(125,[3]),(126,[3])]⟩
def AAe:List RV:=[.cell 2 true 6]
namespace CI
def J5 (w:AB):Option AB:=
some w
def L3 (d:AL) (L3:AB->Int->Option AB) (f:AB) (i:Int):Option AB:=
if decide (i<(d.AA.length:Int))then
(gt d.AA i).bind λo=>
if Aq (f.AA.length+1) 16=true then
(FY Bo f.BA i 0 o.Body).bind λt=>
L3 (AB.mk f.Cells f.AG f.Au f.AH (f.AA++[o.Name]) t.1) (BE (i+1))
else none
else
J5 f
def Gx (d:AL):Nat->AB->Int->Option AB
|0,_,_=>none
|n+1,f,i=>L3 d (Gx d n) f i
def J4 (d:AL) (v:AB):Option AB:=
Gx d Bo v 0
def J3 (L1:AB->Int->Option AB) (c:Int) (u:AB):Option AB:=
L1 u (BE (c+1))
def L2 (L1:AB->Int->Option AB) (c:Int) (b:DK) (L2:AB->Int->Option AB) (e:AB) (j:Int):Option AB:=
if decide (j<(if 1>b.Bn then 1 else b.Bn))then
if Aq (e.Cells.length+1) 48=true then
L2 (AB.mk (e.Cells++[(DJ.mk b.Name j b.Bn (b.Kind==2) b.Init)]) e.AG e.Au e.AH e.AA e.BA) (BE (j+1))
else none
else
J3 L1 c e
def Da (L1:AB->Int->Option AB) (c:Int) (b:DK):Nat->AB->Int->Option AB
|0,_,_=>none
|n+1,e,j=>L2 L1 c b (Da L1 c b n) e j
def J2 (L1:AB->Int->Option AB) (c:Int) (a:AB) (b:DK) (p:Bool):Option AB:=
if p then
if Aq (a.AG.length+1) 24=true then
J3 L1 c (AB.mk a.Cells (a.AG++[(Iy.mk b.Name (b.Kind==4))]) a.Au a.AH a.AA a.BA)
else none
else
if b.Kind==5 then
(Cr a.AG b.On).bind λs=>
if Aq (a.Au.length+1) 24=true then
J3 L1 c (AB.mk a.Cells a.AG (a.Au++[(QC.mk b.Name s)]) a.AH a.AA a.BA)
else none
else
if Aq (a.AH.length+1) 16=true then
J3 L1 c (AB.mk a.Cells a.AG a.Au (a.AH++[b.Name]) a.AA a.BA)
else none
def J1 (L1:AB->Int->Option AB) (c:Int) (a:AB) (b:DK) (l:Bool):Option AB:=
if l then
Da L1 c b Bo a 0
else
if b.Kind==3 then
J2 L1 c a b (b.Kind==3)
else
J2 L1 c a b (b.Kind==4)
def L1 (d:AL) (L1:AB->Int->Option AB) (a:AB) (c:Int):Option AB:=
if decide (c<(d.Decls.length:Int))then
(gt d.Decls c).bind λb=>
if b.Kind==1 then
J1 L1 c a b (b.Kind==1)
else
J1 L1 c a b (b.Kind==2)
else
J4 d a
def Ac (d:AL):Nat->AB->Int->Option AB
|0,_,_=>none
|n+1,a,c=>L1 d (Ac d n) a c
end CI
section
open CI
def CI (d:AL):Option AB:=
(BH d).bind λq=>
if q.1 != 0 then
some (AB.mk [] [] [] [] [] [])
else
Ac d Bo (AB.mk [] [] [] [] [] []) 0
theorem RF {d:AL} {r:AB} (h:CI d=some r):Says Tryz.prog 67 [.agg (Bb d)] (.agg (K8 r)):=by
 refine wO mix Tryz.func67 (I:=⟨AAc,AAd,AAe⟩) ?_
 simp only[AAc,AAd,AAe]
 have a1:= @HS
 have a2:= @Pg
 have a3:= @Jl
 have l3:=λn1 n2 n3 n4:Nat=>BM λn τ=>∃(f:AB) (i:Int),(τ 1=bA 2 (Bb d)/\τ 2=bA 6 kL/\τ 3=bA 6 (K8 f)/\τ 9=si i)/\Gx d n f i=some r
 have l1:=λn1 n2 n3 n4:Nat=>BM λn τ=>∃(a:AB) (c:Int),(τ 1=bA 2 (Bb d)/\τ 2=bA 6 kL/\τ 3=bA 6 (K8 a)/\τ 6=si c)/\Ac d n a c=some r
 have l2:=λn1 n2 n3 n4:Nat=>BM λn τ=>∃(c:Int) (b:DK) (e:AB) (j:Int),(τ 1=bA 2 (Bb d)/\τ 2=bA 6 kL/\τ 3=bA 6 (K8 e)/\τ 6=si c/\τ 7=bA 6 (G2 b)/\τ 8=si j)/\Da (Ac d n1) c b n e j=some r
 have c1:=λn1 n2 n3 n4:Nat=>B7 1 λτ=>∃(c:Int) (a:AB) (b:DK) (l:Bool),(τ 1=bA 2 (Bb d)/\τ 2=bA 6 kL/\τ 3=bA 6 (K8 a)/\τ 6=si c/\τ 7=bA 6 (G2 b)/\τ 31=si b.Kind/\τ 39=sb l)/\J1 (Ac d n1) c a b l=some r
 unfold CI at h
 exact walk
end
def AAi:IC:=(Ra 0 [.b 3 [8] (.bx 6 (.t 1))]
(Ra 4 [.p 0 8,.F 5 3,.S 1 8 7]
(.Vt [(0,0,8,9)] [i0 9 .fl,i1 10 0 (.cp (.t 0)),i1 11 0 (.FF (.t 10)),LQ 12 0 7 11,VD 13 0 12,iA 14 6 3,i0 15 (.Eg 6 [z9] [(0,.t 14)]),i0 16 (.app 6 48 (.t 13) (.t 15)),i1 17 0 (.FF (.t 0)),LQ 18 0 7 17,iS 1 18 16])))
def AAj:Gi:=⟨[(4,[0]),(5,[0]),(6,[0]),(8,[3]),(10,[0]),(11,[0]),(12,[0]),(13,[0]),(17,[0]),(18,[0])]⟩
def AAk:List RV:=[]
def Az (a:Aw) (b:AW):Option Aw:=
if Aq (a.out.length+1) 48=true then
some (Aw.mk a.w a.locals (a.out++[(AW.mk b.Op b.A b.B b.C b.N a.site)]) a.site a.next)
else none
theorem EZ {a:Aw} {b:AW} {r:Aw} (h:Az a b=some r):A5 Tryz.prog 69 [bA 10 (DC a),.agg (C7 b)] (.A9 []) [bA 10 (DC r),.dead]:=by
 refine wL mix Tryz.func69 (I:=⟨AAi,AAj,AAk⟩) ?_
 simp only[AAi,AAj,AAk]
 unfold Az at h
 exact walk
def qA:IC:=(Ra 0 [.b 2 [7,13] (.bx 6 (.t 0)),.K 4 0]
(Sq (Ra 0 [.K 5 0]
(Bl 0 (Sq (Ra 6 [.C 5,.f 0 2,.Z 8,.O .lss 6 9]
(cX 10 0))
(Sq (Bk 1 (Ra 13 [.f 0 2,.C 5,.I 5 14 15,.U 0 16,.C 1,.O .eql 18 19]
(Ci 20 (Rb 21 [.C 5,.M 4 21]))))
(Rc 11 [.C 5,.P .add 11 1,.M 5 12])))))
(Rb 0 [.K 4 (-1)])))
def qB:Gi:=⟨[(7,[2]),(13,[2])]⟩
def qC:List RV:=[.tmp 4]
namespace Bp
def J1:Option Int:=
some (-1)
def L1 (b:ByteArray) (a:AB) (L1:Int->Option Int) (c:Int):Option Int:=
if decide (c<(a.Cells.length:Int))then
(gt a.Cells c).bind λd=>
if d.Name.toList==b.toList then
some c
else
L1 (BE (c+1))
else
J1
def Ac (b:ByteArray) (a:AB):Nat->Int->Option Int
|0,_=>none
|n+1,c=>L1 b a (Ac b a n) c
end Bp
section
open Bp
def Bp (a:AB) (b:ByteArray):Option Int:=
Ac b a Bo 0
theorem Ji {a:AB} {b:ByteArray} {r:Int} (h:Bp a b=some r):Says Tryz.prog 163 [.agg (Ap a),Ao b] (si r):=by
 refine wO mix Tryz.func163 (I:=⟨qA,qB,qC⟩) ?_
 simp only[qA,qB,qC]
 have l1:=λn1 n2 n3 n4:Nat=>BM λn τ=>∃(c:Int),(τ 1=Ao b/\τ 2=bA 6 (Ap a)/\τ 5=si c)/\Ac b a n c=some r
 unfold Bp at h
 exact walk
end
def oF:IC:=(Ra 0 [.b 4 [9,16,28,33,38,43,50,66,72,76,86,105,110,119] (.bx 4 (.t 1))]
(Bk 0 (Ra 33 [.f 0 4,.q 34 1 32]
(Cn 32 (Rc 36 [.y 0 (.cp (.t 0)),.C 2,.f 1 4,.o (.Dc z9 [(0,1,.c (si 1)),(1,1,.t 37),(4,1,.t 39)]),.o (.EK 69 [] (.t 36) none [.t 40])]) (Ra 43 [.f 0 4,.q 44 2 42]
(Cn 42 (Ra 46 [.r 0 6,.f 2 4,.c 43 [49,51] 0,.M 6 52]
(Ra 53 [.C 6,.P .geq 53 0]
(Cn 54 (Rc 55 [.y 0 (.cp (.t 0)),.C 2,.C 6,.o (.Dc z9 [(0,1,.c (si 2)),(1,1,.t 56),(2,1,.t 57)]),.o (.EK 69 [] (.t 55) none [.t 58])]) (Rc 60 [.y 0 (.cp (.t 0)),.C 2,.D 0,.H 0 0 63,.y 0 (.ld true 6 (.t 64)),.f 2 4,.c 163 [65,67] 0,.o (.Dc z9 [(0,1,.c (si 6)),(1,1,.t 61),(2,1,.t 68)]),.o (.EK 69 [] (.t 60) none [.t 69])])))) (Ra 72 [.f 0 4,.q 73 3 71]
(Cn 71 (Ra 75 [.y 0 (.cp (.t 0)),.f 3 4,.o (.Lr 4 (.t 77) (.c (si 0))),.A 4 78,.C 2,.o (.EK 141 [] (.t 75) none [.t 79,.t 80])]
(Ra 82 [.D 0,.H 0 0 83,.y 0 (.ld true 6 (.t 84)),.f 2 4,.c 163 [85,87] 0,.M 7 88]
(Rc 89 [.y 0 (.cp (.t 0)),.C 2,.C 7,.C 2,.D 0,.H 0 0 94,.m 0 0 95,.C 7,.J 0 5 97 98,.h 0 2 99,.o (.Dc z9 [(0,1,.c (si 7)),(1,1,.t 90),(2,1,.t 91),(3,1,.t 92),(4,1,.t 101)]),.o (.EK 69 [] (.t 89) none [.t 102])]))) (Ra 105 [.f 3 4,.Z 106,.q 107 1 104]
(Cn 104 (Ra 109 [.y 0 (.cp (.t 0)),.f 3 4,.o (.Lr 4 (.t 111) (.c (si 0))),.A 4 112,.C 2,.o (.EK 141 [] (.t 109) none [.t 113,.t 114])]
(Rc 116 [.y 0 (.cp (.t 0)),.C 2,.C 2,.f 0 4,.o (.Dc z9 [(0,1,.c (si 3)),(1,1,.t 117),(2,1,.t 118),(4,1,.t 120)]),.o (.EK 69 [] (.t 116) none [.t 121])])) (Ra 8 [.y 0 (.cp (.t 0)),.f 3 4,.o (.Lr 4 (.t 10) (.c (si 0))),.A 4 11,.C 2,.o (.EK 141 [] (.t 8) none [.t 12,.t 13])]
(Ra 15 [.y 0 (.cp (.t 0)),.f 3 4,.o (.Lr 4 (.t 17) (.c (si 1))),.A 4 18,.C 2,.P .add 20 1,.o (.EK 141 [] (.t 15) none [.t 19,.t 21])]
(Rc 23 [.y 0 (.cp (.t 0)),.C 2,.C 2,.C 2,.P .add 26 1,.f 0 4,.o (.Dc z9 [(0,1,.c (si 4)),(1,1,.t 24),(2,1,.t 25),(3,1,.t 27),(4,1,.t 29)]),.o (.EK 69 [] (.t 23) none [.t 30])])))))))))))))
def oG:Gi:=⟨[(8,[0]),(9,[4]),(15,[0]),(16,[4]),(23,[0]),(28,[4]),(33,[4]),(36,[0]),(38,[4]),(43,[4]),(46,[0]),(47,[0]),(48,[0]),(49,[0]),(50,[4]),(55,[0]),(60,[0]),(62,[0]),(63,[0]),(64,[0]),(65,[0]),(66,[4]),(72,[4]),(75,[0]),(76,[4]),(82,[0]),(83,[0]),(84,[0]),(85,[0]),(86,[4]),(89,[0]),(93,[0]),(94,[0]),(95,[0]),(96,[0]),(97,[0]),(99,[0]),(100,[0]),(105,[4]),(109,[0]),(110,[4]),(116,[0]),(119,[4])]⟩
def oH:List RV:=[]
def Ez (R141:Aw->As->Int->Option Aw) (c:Aw) (a:As) (b:Int):Option Aw:=
if a.Op==1 then
(Az c (AW.mk 1 b 0 0 a.N 0)).bind λi=>
some i
else
if a.Op==2 then
(CF c.locals a.Name).bind λe=>
if decide (e≥0)then
(Az c (AW.mk 2 b e 0 0 0)).bind λo=>
some o
else
(Bp c.w a.Name).bind λp=>
(Az c (AW.mk 6 b p 0 0 0)).bind λq=>
some q
else
if a.Op==3 then
(gt a.L 0).bind λv=>
(R141 c v b).bind λd=>
(Bp d.w a.Name).bind λf=>
(gt d.w.Cells f).bind λw=>
(Az d (AW.mk 7 b f b w.Bn 0)).bind λs=>
some s
else
if(a.L.length:Int)==1 then
(gt a.L 0).bind λx=>
(R141 c x b).bind λt=>
(Az t (AW.mk 3 b b 0 a.Op 0)).bind λu=>
some u
else
(gt a.L 0).bind λy=>
(R141 c y b).bind λj=>
(gt a.L 1).bind λz=>
(R141 j z (BE (b+1))).bind λl=>
(Az l (AW.mk 4 b b (BE (b+1)) a.Op 0)).bind λaa=>
some aa
theorem Mh {R141:Aw->As->Int->Option Aw} (H141:∀{x0 x1 x2 r},R141 x0 x1 x2=some r->A5 Tryz.prog 141 [bA 10 (DC x0),.agg [si x1.Op,si x1.N,Ao x1.Name,vS 4 Av x1.L],si x2] (.A9 []) [bA 10 (DC r),.dead,.dead]) {c:Aw} {a:As} {b:Int} {r:Aw} (h:Ez R141 c a b=some r):A5 Tryz.prog 141 [bA 10 (DC c),.agg [si a.Op,si a.N,Ao a.Name,vS 4 Av a.L],si b] (.A9 []) [bA 10 (DC r),.dead,.dead]:=by
 refine wL mix Tryz.func141 (I:=⟨oF,oG,oH⟩) ?_
 simp only[oF,oG,oH]
 have a1:= @EZ
 have a2:= @FB
 have a3:= @Ji
 have a4:= @H141
 unfold Ez at h
 exact walk
def I8:Nat->(Aw->As->Int->Option Aw)
|0=>(λ_ _ _=>none)
|n+1=>Ez ((I8 n))
def CX (n:Nat):Aw->As->Int->Option Aw:=(I8 n)
theorem Li (n:Nat):(∀{x0 x1 x2 r},(CX n) x0 x1 x2=some r->A5 Tryz.prog 141 [bA 10 (DC x0),.agg [si x1.Op,si x1.N,Ao x1.Name,.sl false 4 (x1.L.map Av)],si x2] (.A9 []) [bA 10 (DC r),.dead,.dead]):=by
  induction n with
  |zero=>exactλh=>B9 h
  |succ n ih=>exactλh=>Mh ih h
theorem GU {n:Nat}:∀{x0 x1 x2 r},(CX n) x0 x1 x2=some r->A5 Tryz.prog 141 [bA 10 (DC x0),.agg [si x1.Op,si x1.N,Ao x1.Name,.sl false 4 (x1.L.map Av)],si x2] (.A9 []) [bA 10 (DC r),.dead,.dead]:=(Li n)
end Go.Abs
