/- Typed programs of Go functions, and that the functions do what these say. -/
import Derived.Test.YtkpdblcoclbgbaaGreatDoorBaseA
import Derived.Test.YtkpdblcoclbgbaaGreatDoorWalkH
import Derived.Test.YtkpdblcoclbgbaaGreatDoorWalkB
import Derived.Test.YtkpdblcoclbgbaaGreatDoorWalkA
import Derived.Shelf.Slices.SearchI
set_option linter.unusedSimpArgs false
set_option linter.unusedVariables false
namespace Go.Abs
open Go.Proofs
set_option maxRecDepth 100000
set_option maxHeartbeats 4000000
def wA:IC:=(Ra 0 [.b 1 [7,12,18,24,30,35,40,46,59] (.bx 6 (.t 0)),.B 2 false]
(Sq (Bw 1 (Rc 7 [.f 0 1,.Z 8,.P .gtr 9 12,.C 10,.G 11 false,.f 1 1,.Z 13,.P .gtr 14 4,.e,.V 11 15,.C 16,.G 17 false,.f 2 1,.Z 19,.P .gtr 20 2,.e,.V 17 21,.C 22,.G 23 false,.f 3 1,.Z 25,.P .gtr 26 2,.e,.V 23 27,.C 28,.G 29 false,.f 5 1,.Z 31,.P .gtr 32 60,.e,.V 29 33])
(Ci 34 (Rb 0 [.B 2 false])))
(Sq (Bw 2 (Rc 35 [.f 4 1,.Z 36,.P .lss 37 1,.C 38,.G 39 false,.f 4 1,.Z 41,.P .gtr 42 4,.e,.V 39 43])
(Ci 44 (Rb 0 [.B 2 false])))
(Ra 46 [.f 0 1,.b 48 [45,49,50] (.call 23 [.t 47] 2),.w 45,.y 48 (.cp (.t 48)),.w 49,.y 48 (.ext (.t 45) 0),.y 48 (.ext (.t 45) 1),.b 3 [55] (.mv (.t 49)),.b 4 [51] (.mv (.t 50))]
(Sq (Bw 3 (Rc 51 [.y 4 (.cp (.t 4)),.N 51,.C 52,.G 53 false,.o (.ld true 6 (.t 1)),.y 3 (.cp (.t 3)),.c 24 [54,55] 0,.N 56,.e,.V 53 57])
(Ci 58 (Rb 0 [.B 2 false])))
(Sq (Ra 59 [.f 2 1,.Z 60,.Y 0]
(Bl 0 (Ra 63 [.O .lss 62 61]
(Sq (cX 63 0)
(Sq (Bk 1 (Ra 64 [.I 2 60 62,.A 2 64,.b 6 [67] (.bx 2 (.c (.agg [Ao ⟨#[]⟩,si 0]))),.S 2 6 65]
(Ra 66 [.A 6 1,.f 1 6,.o (.call 25 [.t 66,.t 68,.c (sb false)] 0),.N 69]
(Ci 70 (Rb 0 [.B 2 false])))))
(Rc 71 [.P .add 62 1,.w 62,.C 71]))))))
(Rb 72 [.A 6 1,.c 26 [72] 0,.M 2 73])))))))
def wB:Gi:=⟨[(7,[1]),(12,[1]),(18,[1]),(24,[1]),(30,[1]),(35,[1]),(40,[1]),(45,[48]),(46,[1]),(49,[48]),(50,[48]),(51,[4]),(55,[3]),(59,[1]),(67,[6])]⟩
def wC:List RV:=[.tmp 2]
namespace BJ
def J4 (a:AB):Option Bool:=
(Bm a).bind λl=>
some l
def L1 (a:AB) (L1:Int->Option Bool) (b:Int):Option Bool:=
if decide (b<(a.Au.length:Int))then
(gt a.Au b).bind λo=>
(EG a o.Mutex false).bind λj=>
if !j then
some false
else
L1 (BE (b+1))
else
J4 a
def Ac (a:AB):Nat->Int->Option Bool
|0,_=>none
|n+1,b=>L1 a (Ac a n) b
def J3 (a:AB) (e:Bool):Option Bool:=
if e then
some false
else
Ac a Bo 0
def J2 (a:AB) (d:Bool):Option Bool:=
if d then
some false
else
(AP a.Cells).bind λf=>
if !f.2 then
J3 a true
else
(Ax a f.1).bind λi=>
J3 a (!i)
def J1 (a:AB) (c:Bool):Option Bool:=
if c then
some false
else
if decide ((a.AA.length:Int)<1)then
J2 a true
else
J2 a (decide ((a.AA.length:Int)>4))
end BJ
section
open BJ
def BJ (a:AB):Option Bool:=
if decide ((a.Cells.length:Int)>12)then
J1 a true
else
if decide ((a.AG.length:Int)>4)then
J1 a true
else
if decide ((a.Au.length:Int)>2)then
J1 a true
else
if decide ((a.AH.length:Int)>2)then
J1 a true
else
J1 a (decide ((a.BA.length:Int)>60))
theorem Js {a:AB} {r:Bool} (h:BJ a=some r):Says Tryz.prog 12 [.agg (Ap a)] (sb r):=by
 refine wO mix Tryz.func12 (I:=⟨wA,wB,wC⟩) ?_
 simp only[wA,wB,wC]
 have a1:= @Jt
 have a2:= @Jv
 have a3:= @NB
 have a4:= @Ju
 have l1:=λn1 n2 n3 n4:Nat=>BM λn τ=>∃(b:Int),(τ 1=bA 6 (Ap a)/\τ 60=vS 2 HH a.Au/\τ 61=si (a.Au.length:Int)/\τ 62=si b)/\Ac a n b=some r
 have c3:=λn1 n2 n3 n4:Nat=>B7 3 λτ=>∃(e:Bool),(τ 1=bA 6 (Ap a)/\τ 58=sb e)/\J3 a e=some r
 have c2:=λn1 n2 n3 n4:Nat=>B7 2 λτ=>∃(d:Bool),(τ 1=bA 6 (Ap a)/\τ 44=sb d)/\J2 a d=some r
 have c1:=λn1 n2 n3 n4:Nat=>B7 1 λτ=>∃(c:Bool),(τ 1=bA 6 (Ap a)/\τ 34=sb c)/\J1 a c=some r
 unfold BJ at h
 exact walk
end
def xN:IC:=(Ra 2 [.b 1 [5,9,13] (.bx 6 (.t 0)),.o (.bx 4 (.c (.agg z4)))]
(Ra 5 [.f 1 1,.Z 6,.o (.mk 2 32 kN (.t 7) (.t 7)),.f 3 1,.Z 10,.o (.mk 1 1 [sb false] (.t 11) (.t 11)),.f 4 1,.Z 14,.o (.mk 3 24 fD (.t 15) (.t 15)),.o (.Dc z4 [(0,1,.t 8),(1,1,.c (si (-1))),(2,1,.t 12),(3,1,.t 16)]),.b 3 [18,19,24,25,27,28,30,31,34,35,36,37,38] (.bx 4 (.c (.agg z4))),.S 4 3 17]
(Sq (Ra 18 [.m 3 0 3,.Z 19,.Y 0]
(Bl 0 (Ra 22 [.O .lss 21 20]
(Sq (cX 22 0)
(Sq (Bk 1 (Ra 23 [.C 21,.M 4 23]
(Rc 24 [.m 3 0 3,.C 4,.J 3 2 25 26,.H 3 0 27,.T 28 (-1)])))
(Rc 29 [.P .add 21 1,.w 21,.C 29]))))))
(Sq (Ra 30 [.m 3 3 3,.Z 31,.P .gtr 32 0]
(Ci 33 (Rc 34 [.m 3 3 3,.y 3 (.Lr 3 (.t 35) (.c (si 0))),.H 3 0 36,.T 37 1])))
(Rb 38 [.y 3 (.ld true 4 (.t 3)),.S 4 2 38])))))
def xO:Gi:=⟨[(5,[1]),(9,[1]),(13,[1]),(18,[3]),(19,[3]),(24,[3]),(25,[3]),(27,[3]),(28,[3]),(30,[3]),(31,[3]),(34,[3]),(35,[3]),(36,[3]),(37,[3]),(38,[3])]⟩
def xP:List RV:=[.cell 2 true 4]
namespace Cq
def J2 (f:AO):Option AO:=
some f
def J1 (d:AO):Option AO:=
if decide ((d.AA.length:Int)>0)then
(gt d.AA 0).bind λe=>
J2 (AO.mk d.AG d.Tx d.Ce (d.AA.set 0 (AD.mk 1 e.Ef e.Atomic)))
else
J2 d
def L1 (a:AB) (L1:AO->Int->Option AO) (b:AO) (c:Int):Option AO:=
if decide (c<((List.replicate a.AG.length (AY.mk 0 [])).length:Int))then
(gt b.AG c).bind λi=>
L1 (AO.mk (b.AG.set c.toNat (AY.mk (-1) i.BW)) b.Tx b.Ce b.AA) (BE (c+1))
else
J1 b
def Ac (a:AB):Nat->AO->Int->Option AO
|0,_,_=>none
|n+1,b,c=>L1 a (Ac a n) b c
end Cq
section
open Cq
def Cq (a:AB):Option AO:=
if 0≤(a.AG.length:Int)/\(a.AG.length:Int)≤(a.AG.length:Int)/\Aq a.AG.length 32=true then
if 0≤(a.AH.length:Int)/\(a.AH.length:Int)≤(a.AH.length:Int)/\Aq a.AH.length 1=true then
if 0≤(a.AA.length:Int)/\(a.AA.length:Int)≤(a.AA.length:Int)/\Aq a.AA.length 24=true then
Ac a Bo (AO.mk (List.replicate a.AG.length (AY.mk 0 [])) (-1) (List.replicate a.AH.length false) (List.replicate a.AA.length (AD.mk 0 0 false))) 0
else none
else none
else none
theorem PS {a:AB} {r:AO} (h:Cq a=some r):Says Tryz.prog 27 [.agg (Ap a)] (.agg (FK r)):=by
 refine wO mix Tryz.func27 (I:=⟨xN,xO,xP⟩) ?_
 simp only[xN,xO,xP]
 have l1:=λn1 n2 n3 n4:Nat=>BM λn τ=>∃(b:AO) (c:Int),(τ 2=bA 4 z4/\τ 3=bA 4 (FK b)/\τ 20=si ((List.replicate a.AG.length (AY.mk 0 [])).length:Int)/\τ 21=si c)/\Ac a n b c=some r
 unfold Cq at h
 exact walk
end
def wD:IC:=(Ra 2 [.b 1 [8,12,16,21] (.bx 6 (.t 0)),.o (.bx 7 (.c (.agg z1)))]
(Ra 6 [.A 6 1,.c 27 [6] 2,.f 0 1,.Z 9,.o (.mk 1 8 [si 0] (.c (si 0)) (.t 10)),.f 3 1,.Z 13,.o (.mk 1 8 [si 0] (.t 14) (.t 14)),.f 4 1,.Z 17,.o (.mk 1 8 [si 0] (.t 18) (.t 18)),.o (.Dc z1 [(0,4,.t 7),(4,1,.t 11),(5,1,.t 15),(6,1,.t 19)]),.b 3 [28,29,34,36] (.bx 7 (.c (.agg z1))),.S 7 3 20]
(Sq (Ra 21 [.f 0 1,.Z 22,.Y 0]
(Bl 0 (Ra 25 [.O .lss 24 23]
(Sq (cX 25 0)
(Sq (Bk 1 (Ra 26 [.I 5 22 24,.A 5 26,.b 5 [30] (.bx 5 (.c (.agg sX))),.S 5 5 27]
(Rc 28 [.m 3 4 3,.f 4 5,.o (.Eg 1 [[si 0]] [(0,.t 31)]),.o (.app 1 8 (.t 29) (.t 32)),.F 4 3,.S 1 34 33])))
(Rc 35 [.P .add 24 1,.w 24,.C 35]))))))
(Rb 36 [.y 3 (.ld true 7 (.t 3)),.S 7 2 36]))))
def wE:Gi:=⟨[(8,[1]),(12,[1]),(16,[1]),(21,[1]),(28,[3]),(29,[3]),(30,[5]),(34,[3]),(36,[3])]⟩
def wG:List RV:=[.cell 2 true 7]
namespace CT
def J1 (d:AM):Option AM:=
some d
def L1 (a:AB) (L1:AM->Int->Option AM) (b:AM) (c:Int):Option AM:=
if decide (c<(a.Cells.length:Int))then
(gt a.Cells c).bind λf=>
if Aq (b.Cells.length+1) 8=true then
L1 (AM.mk b.Sync (b.Cells++[f.Init]) b.AH b.Count) (BE (c+1))
else none
else
J1 b
def Ac (a:AB):Nat->AM->Int->Option AM
|0,_,_=>none
|n+1,b,c=>L1 a (Ac a n) b c
end CT
section
open CT
def CT (a:AB):Option AM:=
(Cq a).bind λe=>
if 0≤0/\0≤(a.Cells.length:Int)/\Aq a.Cells.length 8=true then
if 0≤(a.AH.length:Int)/\(a.AH.length:Int)≤(a.AH.length:Int)/\Aq a.AH.length 8=true then
if 0≤(a.AA.length:Int)/\(a.AA.length:Int)≤(a.AA.length:Int)/\Aq a.AA.length 8=true then
Ac a Bo (AM.mk e [] (List.replicate a.AH.length 0) (List.replicate a.AA.length 0)) 0
else none
else none
else none
theorem Ll {a:AB} {r:AM} (h:CT a=some r):Says Tryz.prog 13 [.agg (Ap a)] (.agg (HL r)):=by
 refine wO mix Tryz.func13 (I:=⟨wD,wE,wG⟩) ?_
 simp only[wD,wE,wG]
 have a1:= @PS
 have l1:=λn1 n2 n3 n4:Nat=>BM λn τ=>∃(b:AM) (c:Int),(τ 2=bA 7 z1/\τ 3=bA 7 (HL b)/\τ 22=vS 5 Fg a.Cells/\τ 23=si (a.Cells.length:Int)/\τ 24=si c)/\Ac a n b c=some r
 unfold CT at h
 exact walk
end
def AAB:IC:=(Ra 0 [.B 4 false]
(Rb 5 [.C 0,.P .geq 5 0,.C 6,.G 7 true,.C 0,.C 1,.O .lss 8 9,.e,.W 7 10,.M 4 11]))
def AAC:Gi:=⟨[]⟩
def AAD:List RV:=[.tmp 4]
namespace CV
def J1 (c:Bool):Option Bool:=
some c
end CV
section
open CV
def CV (a b:Int):Option Bool:=
if decide (a≥0)then
J1 (decide (a<b))
else
J1 false
theorem HR {a b:Int} {r:Bool} (h:CV a b=some r):Says Tryz.prog 54 [si a,si b] (sb r):=by
 refine wO mix Tryz.func54 (I:=⟨AAB,AAC,AAD⟩) ?_
 simp only[AAB,AAC,AAD]
 unfold CV at h
 exact walk
end
def zY:IC:=(Ra 0 [.b 2 [10,18,27,32,41] (.bx 6 (.t 0)),.b 3 [7,15,24] (.bx 4 (.t 1)),.B 4 false]
(Sq (Bw 1 (Rc 7 [.f 0 3,.Z 8,.f 1 2,.Z 11,.O .neq 9 12,.C 13,.G 14 false,.f 2 3,.Z 16,.f 3 2,.Z 19,.O .neq 17 20,.e,.V 14 21,.C 22,.G 23 false,.f 3 3,.Z 25,.f 4 2,.Z 28,.O .neq 26 29,.e,.V 23 30])
(Ci 31 (Rb 0 [.B 4 false])))
(Sq (Ra 32 [.f 2 2,.Z 33,.Y 0]
(Bl 0 (Ra 36 [.O .lss 35 34]
(Sq (cX 36 0)
(Sq (Bk 1 (Ra 37 [.I 2 33 35,.A 2 37,.b 6 [39] (.bx 2 (.c (.agg [Ao ⟨#[]⟩,si 0]))),.S 2 6 38]
(Ra 39 [.f 1 6,.f 1 2,.Z 42,.c 54 [40,43] 0,.N 44]
(Ci 45 (Rb 0 [.B 4 false])))))
(Rc 46 [.P .add 35 1,.w 35,.C 46]))))))
(Rb 0 [.B 4 true]))))
def zZ:Gi:=⟨[(7,[3]),(10,[2]),(15,[3]),(18,[2]),(24,[3]),(27,[2]),(32,[2]),(39,[6]),(41,[2])]⟩
def AAA:List RV:=[.tmp 4]
namespace DY
def J2:Option Bool:=
some true
def L1 (a:AB) (L1:Int->Option Bool) (b:Int):Option Bool:=
if decide (b<(a.Au.length:Int))then
(gt a.Au b).bind λf=>
(CV f.Mutex (a.AG.length:Int)).bind λe=>
if !e then
some false
else
L1 (BE (b+1))
else
J2
def Ac (a:AB):Nat->Int->Option Bool
|0,_=>none
|n+1,b=>L1 a (Ac a n) b
def J1 (a:AB) (d:Bool):Option Bool:=
if d then
some false
else
Ac a Bo 0
end DY
section
open DY
def DY (a:AB) (c:AO):Option Bool:=
if(c.AG.length:Int) != (a.AG.length:Int)then
J1 a true
else
if(c.Ce.length:Int) != (a.AH.length:Int)then
J1 a true
else
J1 a ((c.AA.length:Int) != (a.AA.length:Int))
theorem Kb {a:AB} {c:AO} {r:Bool} (h:DY a c=some r):Says Tryz.prog 53 [.agg (Ap a),.agg (GZ c)] (sb r):=by
 refine wO mix Tryz.func53 (I:=⟨zY,zZ,AAA⟩) ?_
 simp only[zY,zZ,AAA]
 have a1:= @HR
 have l1:=λn1 n2 n3 n4:Nat=>BM λn τ=>∃(b:Int),(τ 2=bA 6 (Ap a)/\τ 33=vS 2 HH a.Au/\τ 34=si (a.Au.length:Int)/\τ 35=si b)/\Ac a n b=some r
 have c1:=λn1 n2 n3 n4:Nat=>B7 1 λτ=>∃(d:Bool),(τ 2=bA 6 (Ap a)/\τ 31=sb d)/\J1 a d=some r
 unfold DY at h
 exact walk
end
def xQ:IC:=(Ra 0 [.b 2 [13,22,31] (.bx 6 (.t 0)),.b 3 [6,10,19,28] (.bx 7 (.t 1)),.B 4 false]
(Rb 5 [.A 6 2,.F 0 3,.A 4 6,.c 53 [5,7] 0,.C 8,.G 9 true,.f 4 3,.Z 11,.f 0 2,.Z 14,.O .eql 12 15,.e,.W 9 16,.C 17,.G 18 true,.f 5 3,.Z 20,.f 3 2,.Z 23,.O .eql 21 24,.e,.W 18 25,.C 26,.G 27 true,.f 6 3,.Z 29,.f 4 2,.Z 32,.O .eql 30 33,.e,.W 27 34,.M 4 35]))
def xR:Gi:=⟨[(6,[3]),(10,[3]),(13,[2]),(19,[3]),(22,[2]),(28,[3]),(31,[2])]⟩
def xS:List RV:=[.tmp 4]
namespace DS
def J1 (c:Bool):Option Bool:=
some c
end DS
section
open DS
def DS (b:AB) (a:AM):Option Bool:=
(DY b a.Sync).bind λd=>
if d then
if(a.Cells.length:Int)==(b.Cells.length:Int)then
if(a.AH.length:Int)==(b.AH.length:Int)then
J1 ((a.Count.length:Int)==(b.AA.length:Int))
else
J1 false
else
J1 false
else
J1 false
theorem Mq {b:AB} {a:AM} {r:Bool} (h:DS b a=some r):Says Tryz.prog 28 [.agg (Ap b),.agg (Cz a)] (sb r):=by
 refine wO mix Tryz.func28 (I:=⟨xQ,xR,xS⟩) ?_
 simp only[xQ,xR,xS]
 have a1:= @Kb
 unfold DS at h
 exact walk
end
def AAE:IC:=(Ra 0 [.b 3 [22,30,35,49,54,67,75,83] (.bx 6 (.t 0)),.B 6 false]
(Sq (Ra 7 [.C 1]
(Bk 0 (Bw 1 (Ra 9 [.q 7 1 8]
(Cn 8 .skip (Ra 10 [.q 7 2 8]
(Cn 8 .skip (Ra 11 [.q 7 5 8]
(Cn 8 .skip (Ra 12 [.q 7 12 8]
(Cn 8 .skip (Ra 13 [.q 7 13 8]
(Cn 8 .skip (Ra 14 [.q 7 14 8]
(Cn 8 .skip (Rc 15 [.q 7 15 8])))))))))))))
(Cn 8 (Rb 16 [.C 2,.q 16 (-1) 6]) (Bw 2 (Ra 19 [.q 7 3 18]
(Cn 18 .skip (Rc 20 [.q 7 4 18])))
(Cn 18 (Rb 21 [.C 2,.f 0 3,.Z 23,.c 54 [21,24] 0,.M 6 25]) (Bw 3 (Ra 27 [.q 7 6 26]
(Cn 26 .skip (Rc 28 [.q 7 7 26])))
(Cn 26 (Rb 29 [.C 2,.f 1 3,.Z 31,.c 54 [29,32] 0,.C 33,.G 34 true,.f 1 3,.C 2,.I 2 36 37,.U 1 38,.N 40,.e,.W 34 41,.M 6 42]) (Bw 5 (Ra 44 [.q 7 8 43]
(Cn 43 .skip (Ra 45 [.q 7 9 43]
(Cn 43 .skip (Ra 46 [.q 7 10 43]
(Cn 43 .skip (Rc 47 [.q 7 11 43])))))))
(Cn 43 (Rb 48 [.C 2,.f 1 3,.Z 50,.c 54 [48,51] 0,.C 52,.G 53 true,.f 1 3,.C 2,.I 2 55 56,.U 1 57,.e,.W 53 59,.M 6 60]) (Bw 7 (Ra 62 [.q 7 16 61]
(Cn 61 .skip (Ra 63 [.q 7 17 61]
(Cn 61 .skip (Ra 64 [.q 7 18 61]
(Cn 61 .skip (Rc 65 [.q 7 19 61])))))))
(Cn 61 (Rb 66 [.C 2,.f 2 3,.Z 68,.c 54 [66,69] 0,.M 6 70]) (Sq (Ra 72 [.q 7 20 71]
(Cn 71 .skip (Rc 73 [.q 7 21 71])))
(Cn 71 (Rb 74 [.C 2,.f 4 3,.Z 76,.c 54 [74,77] 0,.M 6 78]) (Sq (Ra 80 [.q 7 22 79]
(Cn 79 .skip (Rc 81 [.q 7 23 79])))
(Ci 79 (Rb 82 [.C 2,.f 3 3,.Z 84,.c 54 [82,85] 0,.M 6 86])))))))))))))))))
(Rb 0 [.B 6 false])))
def AAF:Gi:=⟨[(22,[3]),(30,[3]),(35,[3]),(49,[3]),(54,[3]),(67,[3]),(75,[3]),(83,[3])]⟩
def AAG:List RV:=[.tmp 6]
namespace Bc
def J4 (l:Bool):Option Bool:=
some l
def J6 (o:Bool):Option Bool:=
some o
def J9 (b:Int) (c:AB) (q:Bool):Option Bool:=
if q then
(CV b (c.AH.length:Int)).bind λx=>
some x
else
some false
def J8 (a b:Int) (c:AB) (p:Bool):Option Bool:=
if p then
(CV b (c.AA.length:Int)).bind λw=>
some w
else
if a==22 then
J9 b c (a==22)
else
J9 b c (a==23)
def J7 (a b:Int) (c:AB) (i:Bool):Option Bool:=
if i then
(CV b (c.Au.length:Int)).bind λv=>
some v
else
if a==20 then
J8 a b c (a==20)
else
J8 a b c (a==21)
def J5 (a b:Int) (c:AB) (f:Bool):Option Bool:=
if f then
(CV b (c.AG.length:Int)).bind λu=>
if u then
(gt c.AG b).bind λz=>
J6 z.RW
else
J6 false
else
if a==16 then
J7 a b c (a==16)
else
if a==17 then
J7 a b c (a==17)
else
if a==18 then
J7 a b c (a==18)
else
J7 a b c (a==19)
def J3 (a b:Int) (c:AB) (e:Bool):Option Bool:=
if e then
(CV b (c.AG.length:Int)).bind λt=>
if t then
(gt c.AG b).bind λy=>
J4 (!y.RW)
else
J4 false
else
if a==8 then
J5 a b c (a==8)
else
if a==9 then
J5 a b c (a==9)
else
if a==10 then
J5 a b c (a==10)
else
J5 a b c (a==11)
def J2 (a b:Int) (c:AB) (d:Bool):Option Bool:=
if d then
(CV b (c.Cells.length:Int)).bind λs=>
some s
else
if a==6 then
J3 a b c (a==6)
else
J3 a b c (a==7)
def J1 (a b:Int) (c:AB) (j:Bool):Option Bool:=
if j then
some (b==(-1))
else
if a==3 then
J2 a b c (a==3)
else
J2 a b c (a==4)
end Bc
section
open Bc
def Bc (c:AB) (a b:Int):Option Bool:=
if a==1 then
J1 a b c (a==1)
else
if a==2 then
J1 a b c (a==2)
else
if a==5 then
J1 a b c (a==5)
else
if a==12 then
J1 a b c (a==12)
else
if a==13 then
J1 a b c (a==13)
else
if a==14 then
J1 a b c (a==14)
else
J1 a b c (a==15)
theorem NZ {c:AB} {a b:Int} {r:Bool} (h:Bc c a b=some r):Says Tryz.prog 55 [.agg (Ap c),si a,si b] (sb r):=by
 refine wO mix Tryz.func55 (I:=⟨AAE,AAF,AAG⟩) ?_
 simp only[AAE,AAF,AAG]
 have a1:= @HR
 have c7:=λn1 n2 n3 n4:Nat=>B7 7 λτ=>∃(i:Bool),(τ 2=si b/\τ 3=bA 6 (Ap c)/\τ 7=si a/\τ 61=sb i)/\J7 a b c i=some r
 have c5:=λn1 n2 n3 n4:Nat=>B7 5 λτ=>∃(f:Bool),(τ 2=si b/\τ 3=bA 6 (Ap c)/\τ 7=si a/\τ 43=sb f)/\J5 a b c f=some r
 have c3:=λn1 n2 n3 n4:Nat=>B7 3 λτ=>∃(e:Bool),(τ 2=si b/\τ 3=bA 6 (Ap c)/\τ 7=si a/\τ 26=sb e)/\J3 a b c e=some r
 have c2:=λn1 n2 n3 n4:Nat=>B7 2 λτ=>∃(d:Bool),(τ 2=si b/\τ 3=bA 6 (Ap c)/\τ 7=si a/\τ 18=sb d)/\J2 a b c d=some r
 have c1:=λn1 n2 n3 n4:Nat=>B7 1 λτ=>∃(j:Bool),(τ 2=si b/\τ 3=bA 6 (Ap c)/\τ 7=si a/\τ 8=sb j)/\J1 a b c j=some r
 unfold Bc at h
 exact walk
end
def mC:IC:=(Ra 0 [.K 4 0]
(Sq (Ra 6 [.C 0,.Z 6,.Y 0]
(Bl 0 (Ra 9 [.O .lss 8 7]
(Sq (cX 9 0)
(Sq (Bk 1 (Ra 10 [.C 8,.M 5 10]
(Ra 11 [.C 1,.C 0,.C 5,.I 1 12 13,.L 14,.O .eql 11 15]
(Ci 16 (Rb 17 [.C 5,.M 4 17])))))
(Rc 18 [.P .add 8 1,.w 8,.C 18]))))))
(Rb 0 [.K 4 (-1)])))
def mD:Gi:=⟨[]⟩
def mE:List RV:=[.tmp 4]
namespace EE
def J1:Option Int:=
some (-1)
def L1 (a:List Int) (b:Int) (L1:Int->Option Int) (c:Int):Option Int:=
if decide (c<(a.length:Int))then
(gt a c).bind λd=>
if b==d then
some c
else
L1 (BE (c+1))
else
J1
def Ac (a:List Int) (b:Int):Nat->Int->Option Int
|0,_=>none
|n+1,c=>L1 a b (Ac a b n) c
end EE
section
open EE
def EE (a:List Int) (b:Int):Option Int:=
Ac a b Bo 0
theorem Pl {a:List Int} {b r:Int} (h:EE a b=some r):Says Tryz.prog 113 [vS 1 eI a,si b] (si r):=by
 refine wO mix Tryz.func113 (I:=⟨mC,mD,mE⟩) ?_
 simp only[mC,mD,mE]
 have l1:=λn1 n2 n3 n4:Nat=>BM λn τ=>∃(c:Int),(τ 0=vS 1 eI a/\τ 1=si b/\τ 7=si (a.length:Int)/\τ 8=si c)/\Ac a b n c=some r
 unfold EE at h
 exact walk
end
def ABd:IC:=(Ra 0 [.B 4 false]
(Rb 5 [.C 0,.C 1,.c 113 [5,6] 0,.P .geq 7 0,.M 4 8]))
def ABe:Gi:=⟨[]⟩
def ABf:List RV:=[.tmp 4]
def Em (a:List Int) (b:Int):Option Bool:=
(EE a b).bind λc=>
some (decide (c≥0))
theorem Ml {a:List Int} {b:Int} {r:Bool} (h:Em a b=some r):Says Tryz.prog 88 [vS 1 eI a,si b] (sb r):=by
 refine wO mix Tryz.func88 (I:=⟨ABd,ABe,ABf⟩) ?_
 simp only[ABd,ABe,ABf]
 have a1:= @Pl
 unfold Em at h
 exact walk
def AAH:IC:=(Ra 0 [.b 5 [115] (.bx 6 (.t 0)),.b 6 [14,23,31,42,50,63,73,83,88,94,103,113,132,146,156,164] (.bx 4 (.t 1)),.B 10 false]
(Sq (Ra 11 [.C 3]
(Bk 0 (Ra 13 [.q 11 6 12]
(Cn 12 (Rb 14 [.f 0 6,.C 4,.I 2 15 16,.U 0 17,.q 19 (-1) 10]) (Ra 22 [.q 11 10 21]
(Cn 21 (Rb 23 [.f 0 6,.C 4,.I 2 24 25,.U 0 26,.Q 28 (-1),.C 29,.G 30 true,.f 0 6,.C 4,.I 2 32 33,.U 1 34,.Z 36,.P .eql 37 0,.e,.W 30 38,.M 10 39]) (Ra 41 [.q 11 8 40]
(Cn 40 (Rb 42 [.f 0 6,.C 4,.I 2 43 44,.U 0 45,.Q 47 (-1),.C 48,.G 49 true,.f 0 6,.C 4,.I 2 51 52,.U 1 53,.C 2,.c 88 [55,56] 0,.N 57,.e,.W 49 58,.M 10 59]) (Bw 3 (Ra 61 [.q 11 7 60]
(Cn 60 .skip (Rc 62 [.q 11 11 60])))
(Cn 60 (Rb 63 [.f 0 6,.C 4,.I 2 64 65,.U 0 66,.C 2,.O .eql 68 69,.M 10 70]) (Ra 72 [.q 11 9 71]
(Cn 71 (Rb 73 [.f 0 6,.C 4,.I 2 74 75,.U 1 76,.C 2,.c 88 [78,79] 0,.M 10 80]) (Ra 82 [.q 11 12 81]
(Cn 81 (Rb 83 [.f 1 6,.q 84 (-1) 10]) (Ra 87 [.q 11 13 86]
(Cn 86 (Rb 88 [.f 1 6,.C 2,.O .eql 89 90,.M 10 91]) (Ra 93 [.q 11 14 92]
(Cn 92 (Rb 94 [.f 3 6,.C 2,.I 3 95 96,.U 2 97,.N 99,.M 10 100]) (Ra 102 [.q 11 15 101]
(Cn 101 (Rb 103 [.f 3 6,.C 2,.I 3 104 105,.U 2 106,.M 10 108]) (Bw 4 (Ra 110 [.q 11 16 109]
(Cn 109 .skip (Ra 111 [.q 11 18 109]
(Cn 109 .skip (Rc 112 [.q 11 19 109])))))
(Cn 109 (Rb 113 [.f 0 6,.f 2 5,.C 4,.I 2 116 117,.U 1 118,.I 2 114 120,.U 0 121,.C 2,.O .eql 123 124,.M 10 125]) (Ra 127 [.q 11 20 126]
(Cn 126 (Rb 128 [.C 4,.C 2,.O .neq 128 129,.C 130,.G 131 true,.f 3 6,.C 4,.I 3 133 134,.U 0 135,.P .eql 137 0,.e,.W 131 138,.M 10 139]) (Ra 141 [.q 11 21 140]
(Cn 140 (Rb 142 [.C 4,.C 2,.O .neq 142 143,.C 144,.G 145 true,.f 3 6,.C 4,.I 3 147 148,.U 0 149,.P .eql 151 5,.e,.W 145 152,.M 10 153]) (Ra 155 [.q 11 22 154]
(Cn 154 (Rb 156 [.f 2 6,.C 4,.I 1 157 158,.L 159,.N 160,.M 10 161]) (Ra 163 [.q 11 23 162]
(Ci 162 (Rb 164 [.f 2 6,.C 4,.I 1 165 166,.L 167,.M 10 168])))))))))))))))))))))))))))))))
(Rb 0 [.B 10 true])))
def AAI:Gi:=⟨[(14,[6]),(23,[6]),(31,[6]),(42,[6]),(50,[6]),(63,[6]),(73,[6]),(83,[6]),(88,[6]),(94,[6]),(103,[6]),(113,[6]),(115,[5]),(132,[6]),(146,[6]),(156,[6]),(164,[6])]⟩
def AAJ:List RV:=[.tmp 10]
namespace C9
def J1 (o:Bool):Option Bool:=
some o
def J2 (p:Bool):Option Bool:=
some p
def J5 (q:Bool):Option Bool:=
some q
def J6 (s:Bool):Option Bool:=
some s
def J4 (a c:Int) (b:AO) (d:Int) (e:AB) (f:Bool):Option Bool:=
if f then
(gt e.Au c).bind λad=>
(gt b.AG ad.Mutex).bind λae=>
some (ae.En==d)
else
if a==20 then
if c != d then
(gt b.AA c).bind λaf=>
J5 (af.Status==0)
else
J5 false
else
if a==21 then
if c != d then
(gt b.AA c).bind λw=>
J6 (w.Status==5)
else
J6 false
else
if a==22 then
(gt b.Ce c).bind λx=>
some (!x)
else
if a==23 then
(gt b.Ce c).bind λy=>
some y
else
some true
def J3 (a c:Int) (b:AO) (d:Int) (e:AB) (i:Bool):Option Bool:=
if i then
(gt b.AG c).bind λz=>
some (z.En==d)
else
if a==9 then
(gt b.AG c).bind λaa=>
(Em aa.BW d).bind λu=>
some u
else
if a==12 then
some (b.Tx==(-1))
else
if a==13 then
some (b.Tx==d)
else
if a==14 then
(gt b.AA d).bind λab=>
some (!ab.Atomic)
else
if a==15 then
(gt b.AA d).bind λac=>
some ac.Atomic
else
if a==16 then
J4 a c b d e (a==16)
else
if a==18 then
J4 a c b d e (a==18)
else
J4 a c b d e (a==19)
end C9
section
open C9
def C9 (e:AB) (b:AO) (d a c:Int):Option Bool:=
if a==6 then
(gt b.AG c).bind λv=>
some (v.En==(-1))
else
if a==10 then
(gt b.AG c).bind λj=>
if j.En==(-1)then
J1 ((j.BW.length:Int)==0)
else
J1 false
else
if a==8 then
(gt b.AG c).bind λl=>
if l.En==(-1)then
(Em l.BW d).bind λt=>
J2 (!t)
else
J2 false
else
if a==7 then
J3 a c b d e (a==7)
else
J3 a c b d e (a==11)
theorem PU {e:AB} {b:AO} {d a c:Int} {r:Bool} (h:C9 e b d a c=some r):Says Tryz.prog 56 [.agg (Ap e),.agg (GZ b),si d,si a,si c] (sb r):=by
 refine wO mix Tryz.func56 (I:=⟨AAH,AAI,AAJ⟩) ?_
 simp only[AAH,AAI,AAJ]
 have a1:= @Ml
 have c4:=λn1 n2 n3 n4:Nat=>B7 4 λτ=>∃(f:Bool),(τ 2=si d/\τ 4=si c/\τ 5=bA 6 (Ap e)/\τ 6=bA 4 (GZ b)/\τ 11=si a/\τ 109=sb f)/\J4 a c b d e f=some r
 have c3:=λn1 n2 n3 n4:Nat=>B7 3 λτ=>∃(i:Bool),(τ 2=si d/\τ 4=si c/\τ 5=bA 6 (Ap e)/\τ 6=bA 4 (GZ b)/\τ 11=si a/\τ 60=sb i)/\J3 a c b d e i=some r
 unfold C9 at h
 exact walk
end
def xT:IC:=(Ra 0 [.b 5 [18,56] (.bx 6 (.t 0)),.b 6 [31,54] (.bx 4 (.t 1)),.B 10 false]
(Sq (Bw 1 (Rc 12 [.A 6 5,.A 4 6,.c 53 [12,13] 0,.N 14,.C 15,.G 16 false,.C 2,.f 4 5,.Z 19,.c 54 [17,20] 0,.N 21,.e,.V 16 22,.C 23,.G 24 false,.o (.ld true 6 (.t 5)),.C 3,.C 4,.c 55 [25,26,27] 0,.N 28,.e,.V 24 29])
(Ci 30 (Rb 0 [.B 10 false])))
(Ra 31 [.f 3 6,.C 2,.I 3 32 33,.A 3 34,.b 11 [39,44,48,67] (.bx 3 (.c (.agg fD))),.S 3 11 35]
(Sq (Ra 36 [.C 3]
(Bk 0 (Ra 38 [.q 36 1 37]
(Cn 37 (Rb 39 [.f 0 11,.q 40 1 10]) (Ra 43 [.q 36 17 42]
(Ci 42 (Rb 44 [.f 0 11,.Q 45 4,.C 46,.G 47 true,.f 1 11,.C 4,.O .eql 49 50,.e,.W 47 51,.C 52,.G 53 true,.f 0 6,.f 2 5,.C 4,.I 2 57 58,.U 1 59,.I 2 55 61,.U 0 62,.P .eql 64 (-1),.e,.W 53 65,.M 10 66])))))))
(Rb 67 [.f 0 11,.Q 68 2,.C 69,.G 70 true,.o (.ld true 6 (.t 5)),.o (.ld true 4 (.t 6)),.C 2,.C 3,.C 4,.c 56 [71,72,73,74,75] 0,.e,.W 70 76,.M 10 77])))))
def xU:Gi:=⟨[(18,[5]),(31,[6]),(39,[11]),(44,[11]),(48,[11]),(54,[6]),(56,[5]),(67,[11])]⟩
def xV:List RV:=[.tmp 10]
namespace Cg
def J2 (j:Bool):Option Bool:=
some j
def J3 (l:Bool):Option Bool:=
some l
def J1 (b c:Int) (d:AO) (e:Int) (a:AB) (f:Bool):Option Bool:=
if f then
some false
else
(gt d.AA e).bind λi=>
if b==1 then
some (i.Status==1)
else
if b==17 then
if i.Status==4 then
if i.Ef==c then
(gt a.Au c).bind λt=>
(gt d.AG t.Mutex).bind λu=>
J2 (u.En==(-1))
else
J2 false
else
J2 false
else
if i.Status==2 then
(C9 a d e b c).bind λs=>
J3 s
else
J3 false
end Cg
section
open Cg
def Cg (a:AB) (d:AO) (e b c:Int):Option Bool:=
(DY a d).bind λo=>
if !o then
J1 b c d e a true
else
(CV e (a.AA.length:Int)).bind λp=>
if !p then
J1 b c d e a true
else
(Bc a b c).bind λq=>
J1 b c d e a (!q)
theorem Ic {a:AB} {d:AO} {e b c:Int} {r:Bool} (h:Cg a d e b c=some r):Says Tryz.prog 29 [.agg (Ap a),.agg (GZ d),si e,si b,si c] (sb r):=by
 refine wO mix Tryz.func29 (I:=⟨xT,xU,xV⟩) ?_
 simp only[xT,xU,xV]
 have a1:= @PU
 have a2:= @Kb
 have a3:= @HR
 have a4:= @NZ
 have c1:=λn1 n2 n3 n4:Nat=>B7 1 λτ=>∃(f:Bool),(τ 2=si e/\τ 3=si b/\τ 4=si c/\τ 5=bA 6 (Ap a)/\τ 6=bA 4 (GZ d)/\τ 30=sb f)/\J1 b c d e a f=some r
 unfold Cg at h
 exact walk
end
def xW:IC:=(Ra 0 [.b 2 [22,28] (.bx 6 (.t 0)),.b 3 [5,9,13,16,20,30,35] (.bx 7 (.t 1)),.B 4 false]
(Sq (Ra 5 [.f 1 3,.Q 6 1,.C 7,.G 8 false,.f 1 3,.P .eql 10 2,.e,.V 8 11]
(Ci 12 (Rb 13 [.f 4 3,.q 14 (-1) 4])))
(Rb 16 [.f 4 3,.P .geq 17 0,.C 18,.G 19 true,.f 4 3,.f 5 2,.Z 23,.O .lss 21 24,.e,.W 19 25,.C 26,.G 27 true,.f 5 2,.f 4 3,.I 3 29 31,.U 0 32,.f 0 3,.O .eql 34 36,.e,.W 27 37,.M 4 38])))
def xX:Gi:=⟨[(5,[3]),(9,[3]),(13,[3]),(16,[3]),(20,[3]),(22,[2]),(28,[2]),(30,[3]),(35,[3])]⟩
def xY:List RV:=[.tmp 4]
namespace CW
def J2 (d:Bool):Option Bool:=
some d
def J1 (a:AN) (b:AB) (c:Bool):Option Bool:=
if c then
some (a.Site==(-1))
else
if decide (a.Site≥0)then
if decide (a.Site<(b.BA.length:Int))then
(gt b.BA a.Site).bind λe=>
J2 (e.Thread==a.Thread)
else
J2 false
else
J2 false
end CW
section
open CW
def CW (b:AB) (a:AN):Option Bool:=
if a.Kind==1 then
J1 a b true
else
J1 a b (a.Kind==2)
theorem Kx {b:AB} {a:AN} {r:Bool} (h:CW b a=some r):Says Tryz.prog 30 [.agg (Ap b),.agg (C4 a)] (sb r):=by
 refine wO mix Tryz.func30 (I:=⟨xW,xX,xY⟩) ?_
 simp only[xW,xX,xY]
 unfold CW at h
 exact walk
end
def AAQ:IC:=(Sq (.Z1 [.rM ⟨2,[],[0]⟩ 4 0,.o (iK 4 0)])
(Ra 0 [.K 5 0]
(Hl (Ra 8 [.m 0 3 2,.Z 9,.Y 0]
(Bl 0 (Ra 12 [.O .lss 11 10]
(Sq (cX 12 0)
(Hl (Bk 1 (Ra 13 [.C 11,.J 0 3 9 11,.A 3 14,.w 7,.o (.bx 3 (.c (.agg fD))),.M 6 13,.S 3 7 15]
(Ra 16 [.A 3 7,.C 1,.c 94 [16,17] 0]
(Ci 18 (Ra 19 [.m 0 3 2,.C 6,.J 0 3 20 21,.H 0 0 22,.T 23 4]
(Rc 24 [.C 5,.P .add 24 1,.M 5 25]))))))
(Rc 26 [.P .add 11 1,.w 11,.C 26]))))))
(Rb 27 [.C 5,.M 4 27]))))
def AAR:Gi:=⟨[(2,[0]),(8,[0]),(9,[0]),(14,[0]),(19,[0]),(20,[0]),(22,[0]),(23,[0])]⟩
def AAS:List RV:=[.tmp 4]
def f63:FI:=⟨AAQ,AAR,AAS⟩
theorem vQ:I2 Tryz.prog Tryz.f63 f63=true:=by kernel_rfl
namespace CR
def J2 (s_2:List AD) (nv_2:Int):Option (Int×(List AD)):=
some (nv_2,s_2)
def J1 (L1:(List AD)->Int->Int->Option (Int×(List AD))) (t11v:Int) (s_1:List AD) (nv_1:Int):Option (Int×(List AD)):=
L1 s_1 nv_1 (BE (t11v+1))
def L1 (cond:Int) (threads:List AD) (L1:(List AD)->Int->Int->Option (Int×(List AD))) (s:List AD) (nv t11v:Int):Option (Int×(List AD)):=
if decide (t11v<(threads.length:Int))then
(gt s t11v).bind λx=>
(EA x cond).bind λv=>
if v then
J1 L1 t11v (s.set t11v.toNat (AD.mk 4 x.Ef x.Atomic)) (BE (nv+1))
else
J1 L1 t11v s nv
else
J2 s nv
def Ac (cond:Int) (threads:List AD):Nat->(List AD)->Int->Int->Option (Int×(List AD))
|0,_,_,_=>none
|n+1,s,nv,t11v=>L1 cond threads (Ac cond threads n) s nv t11v
end CR
section
open CR
def CR (tx:Int) (threads:List AD) (cond:Int):Option (Int×(List AD)):=
Ac cond threads Bo threads 0 0
theorem LY {tx:Int} {threads:List AD} {cond:Int} {r:Int×(List AD)} (h:CR tx threads cond=some r):A5 Tryz.prog 63 [.agg [.dead,si tx,.dead,vO 3 A2 threads],si cond] (si r.1) [.agg [.dead,si tx,.dead,vO 3 A2 r.2],.dead]:=by
 refine RT mix Tryz.func63 vQ (by kernel_rfl) (of_decide_eq_true (by kernel_rfl)) rfl rfl ?_
 simp only[f63,AAQ,AAR,AAS]
 try simp +decide only[go_sem, *]
 intro us1 _
 try simp +decide only[go_sem, *]
 refine II (λτ=>∃s_2:List AD,∃nv_2:Int,(τ 0= .agg [.dead,si tx,.dead,vO 3 A2 s_2]/\τ 5=si nv_2)/\J2 s_2 nv_2=some r) λM2 hM2=>⟨?_,?_⟩
 . try simp +decide only[go_sem, *]
   refine Jc (λn τ=>∃s:List AD,∃nv:Int,∃t11v:Int,(τ 0= .agg [.dead,si tx,.dead,vO 3 A2 s]/\τ 1=si cond/\τ 2= .vb 0 0 us1/\τ 5=si nv/\τ 9= .al 0 [(0,3,0)]/\τ 10=si (threads.length:Int)/\τ 11=si t11v)/\Ac cond threads n s nv t11v=some r) ⟨_,_,_,?_,h⟩ λn1 τ1 N1=> ?_
   . simp +decide only[go_sem, *]
   rintro⟨s,nv,t11v,s1,h⟩ hN1
   cases n1 with
   |zero=>exact B9 h
   |succ n1=>
    rw[Ac]at h;generalize hL1:Ac cond threads n1=L1 at h
    try simp +decide only[go_sem, *]
    refine cI h (λ_ h=> ?_) λ_ h=> ?_
    . try simp +decide only[go_sem, *]
      refine II (λτ=>∃s_1:List AD,∃nv_1:Int,(τ 0= .agg [.dead,si tx,.dead,vO 3 A2 s_1]/\τ 1=si cond/\τ 2= .vb 0 0 us1/\τ 5=si nv_1/\τ 9= .al 0 [(0,3,0)]/\τ 10=si (threads.length:Int)/\τ 11=si t11v)/\J1 L1 t11v s_1 nv_1=some r) λM1 hM1=>⟨?_,?_⟩
      . obtain⟨x,_,h⟩:=gB h
        obtain⟨v,g2,h⟩:=bS h
        try simp +decide only[go_sem, *]
        refine⟨_,Jd g2,?_⟩
        try simp +decide only[go_sem, *]
        refine cI h (λ_ h=> ?_) λ_ h=> ?_
        . try simp +decide only[go_sem, *]
          refine hM1 _ ⟨_,_,?_,h⟩
          simp +decide only[go_sem, *]
        try simp +decide only[go_sem, *]
        refine hM1 _ ⟨_,_,?_,h⟩
        simp +decide only[go_sem, *]
      rintro τ1 ⟨s_1,nv_1,s1,h⟩
      try simp +decide only[go_sem, *]
      refine hN1 n1 (Nat.lt_succ_self _) _ ⟨_,_,_,?_,hL1.symm▸h⟩
      simp +decide only[go_sem, *]
    try simp +decide only[go_sem, *]
    refine hM2 _ ⟨_,_,?_,h⟩
    simp +decide only[go_sem, *]
 rintro τ2 ⟨s_2,nv_2,s2,h⟩
 obtain rfl:=Option.some.inj h
 simp +decide only[go_sem, *]
end
def yC:IC:=(Ra 12 [.b 6 [119,142] (.bx 6 (.t 0)),.b 7 [18,25,30,31,33,34,37,38,40,41,45,46,49,50,54,55,57,58,61,62,64,65,66,72,73,77,78,84,85,87,88,89,92,93,97,100,103,104,106,107,110,111,113,114,117,118,125,126,127,128,130,131,134,135,136,137,140,141,149,150,151,152,154,155,157,158,159,160,163,169,174,175,177,178,181,182,184,185] (.bx 4 (.t 1)),.b 8 [90] (.bx 1 (.t 2)),.o (.bx 4 (.c (.agg z4))),.K 13 0,.B 14 false]
(Sq (Ra 17 [.A 6 6,.y 7 (.ld true 4 (.t 7)),.L 8,.C 3,.C 4,.c 29 [17,18,19,20,21] 0,.N 22]
(Ci 23 (Rb 24 [.o (.Dc z4 []),.S 4 12 24,.K 13 0,.B 14 false])))
(Ra 25 [.y 7 (.ld true 4 (.t 7)),.c 57 [25] 2,.S 4 7 26]
(Ra 0 [.K 15 0]
(Bw 3 (Ra 27 [.C 3]
(Bk 0 (Ra 29 [.q 27 1 28]
(Cn 28 (Rc 30 [.m 7 3 7,.L 8,.J 7 3 31 32,.H 7 0 33,.T 34 2]) (Ra 36 [.q 27 2 35]
(Cn 35 (Rc 37 [.m 7 3 7,.L 8,.J 7 3 38 39,.H 7 0 40,.T 41 5]) (Bw 1 (Ra 43 [.q 27 6 42]
(Cn 42 .skip (Rc 44 [.q 27 10 42])))
(Cn 42 (Rc 45 [.m 7 0 7,.C 4,.L 8,.J 7 2 46 47,.H 7 0 49,.S 1 50 48]) (Bw 2 (Ra 52 [.q 27 7 51]
(Cn 51 .skip (Rc 53 [.q 27 11 51])))
(Cn 51 (Rc 54 [.m 7 0 7,.C 4,.J 7 2 55 56,.H 7 0 57,.T 58 (-1)]) (Ra 60 [.q 27 8 59]
(Cn 59 (Ra 61 [.m 7 0 7,.C 4,.J 7 2 62 63,.m 7 1 64,.L 8,.o (.Eg 1 [[si 0]] [(0,.t 67)]),.o (.app 1 8 (.t 66) (.t 68)),.b 16 [70,75] (.mv (.t 69))]
(Ra 70 [.y 16 (.cp (.t 16)),.o (.EK 58 [] (.t 70) none [])]
(Rc 72 [.m 7 0 7,.C 4,.y 16 (.cp (.t 16)),.c 59 [75] 3,.J 7 2 73 74,.H 7 1 77,.S 1 78 76]))) (Ra 80 [.q 27 9 79]
(Cn 79 (.tZ ⟨7,0,4,0,1,11,81,82⟩ [i0 81 .fl,i0 82 .fl,iC 83 4,LQ 84 7 0 7,VD 85 7 84,iC 86 4,rV 87 7 2 85 86,LQ 88 7 1 87,VD 89 7 88,i1 90 8 (.fM 61 [.t 8]),i0 91 (.call 60 [.t 89,.t 90] 4),i1 92 7 (.VE 7 0 4 2 (.t 83))]
[LQ 93 7 1 92,iS 1 93 91]) (Ra 95 [.q 27 12 94]
(Cn 94 (Rc 96 [.L 8,.F 1 7,.S 1 97 96]) (Ra 99 [.q 27 13 98]
(Cn 98 (Rc 100 [.F 1 7,.T 100 (-1)]) (Ra 102 [.q 27 14 101]
(Cn 101 (Rc 103 [.m 7 3 7,.L 8,.J 7 3 104 105,.H 7 2 106,.x ⟨none,.st 1 (.t 107) (.c (sb true)),none⟩]) (Ra 109 [.q 27 15 108]
(Cn 108 (Rc 110 [.m 7 3 7,.L 8,.J 7 3 111 112,.H 7 2 113,.x ⟨none,.st 1 (.t 114) (.c (sb false)),none⟩]) (Ra 116 [.q 27 16 115]
(Cn 115 (Ra 117 [.m 7 0 7,.f 2 6,.C 4,.I 2 120 121,.U 1 122,.J 7 2 118 124,.H 7 0 125,.T 126 (-1)]
(Rc 127 [.F 3 7,.y 7 (.Qt (.t 127)),.L 8,.F 3 7,.y 7 (.Qt (.t 130)),.L 8,.C 4,.J 7 3 128 129,.H 7 0 134,.x ⟨none,.P1 (.t 135) (.c (si 3)),none⟩,.J 7 3 131 132,.H 7 1 136,.x ⟨none,.P1 (.t 137) (.t 133),none⟩])) (Ra 139 [.q 27 17 138]
(Cn 138 (Ra 140 [.m 7 0 7,.f 2 6,.C 4,.I 2 143 144,.U 1 145,.L 8,.J 7 2 141 147,.H 7 0 149,.S 1 150 148]
(Rc 151 [.F 3 7,.y 7 (.Qt (.t 151)),.L 8,.F 3 7,.y 7 (.Qt (.t 154)),.L 8,.J 7 3 152 153,.H 7 0 157,.x ⟨none,.P1 (.t 158) (.c (si 2)),none⟩,.J 7 3 155 156,.H 7 1 159,.x ⟨none,.P1 (.t 160) (.c (si 0)),none⟩])) (Ra 162 [.q 27 18 161]
(Cn 161 (Rc 163 [.y 7 (.ld true 4 (.t 7)),.C 4,.C 5,.o (.EK 62 [] (.t 163) (some 3) [.t 164,.t 165]),.M 15 166]) (Ra 168 [.q 27 19 167]
(Cn 167 (Rc 169 [.y 7 (.ld true 4 (.t 7)),.C 4,.o (.EK 63 [] (.t 169) (some 3) [.t 170]),.M 15 171]) (Ra 173 [.q 27 20 172]
(Cn 172 (Rc 174 [.m 7 3 7,.C 4,.J 7 3 175 176,.H 7 0 177,.T 178 1]) (Ra 180 [.q 27 22 179]
(Ci 179 (Rc 181 [.m 7 2 7,.C 4,.J 7 1 182 183,.x ⟨none,.st 1 (.t 184) (.c (sb true)),none⟩])))))))))))))))))))))))))))))))))))
(Rb 185 [.y 7 (.ld true 4 (.t 7)),.C 15,.S 4 12 185,.M 13 186,.B 14 true]))))))
def yD:Gi:=⟨[(18,[7]),(25,[7]),(30,[7]),(31,[7]),(33,[7]),(34,[7]),(37,[7]),(38,[7]),(40,[7]),(41,[7]),(45,[7]),(46,[7]),(49,[7]),(50,[7]),(54,[7]),(55,[7]),(57,[7]),(58,[7]),(61,[7]),(62,[7]),(64,[7]),(65,[7]),(66,[7]),(70,[16]),(72,[7]),(73,[7]),(75,[16]),(77,[7]),(78,[7]),(84,[7]),(85,[7]),(87,[7]),(88,[7]),(89,[7]),(90,[8]),(92,[7]),(93,[7]),(97,[7]),(100,[7]),(103,[7]),(104,[7]),(106,[7]),(107,[7]),(110,[7]),(111,[7]),(113,[7]),(114,[7]),(117,[7]),(118,[7]),(119,[6]),(125,[7]),(126,[7]),(127,[7]),(128,[7]),(130,[7]),(131,[7]),(134,[7]),(135,[7]),(136,[7]),(137,[7]),(140,[7]),(141,[7]),(142,[6]),(149,[7]),(150,[7]),(151,[7]),(152,[7]),(154,[7]),(155,[7]),(157,[7]),(158,[7]),(159,[7]),(160,[7]),(163,[7]),(169,[7]),(174,[7]),(175,[7]),(177,[7]),(178,[7]),(181,[7]),(182,[7]),(184,[7]),(185,[7])]⟩
def yE:List RV:=[.cell 12 true 4,.tmp 13,.tmp 14]
namespace Dm
def J3 (j:AO) (p:Int):Option (AO×Int×Bool):=
some (j,p,true)
def J2 (c d b:Int) (a:AO) (f:Int) (e:AB) (o:Bool):Option (AO×Int×Bool):=
if o then
(gt a.AG d).bind λau=>
J3 (AO.mk (a.AG.set d.toNat (AY.mk (-1) au.BW)) a.Tx a.Ce a.AA) 0
else
if c==8 then
(gt a.AG d).bind λt=>
if Aq (t.BW.length+1) 8=true then
(Il (t.BW++[b])).bind λaj=>
(slices_Compact aj).bind λal=>
J3 (AO.mk (a.AG.set d.toNat (AY.mk t.En al)) a.Tx a.Ce a.AA) 0
else none
else
if c==9 then
(gt a.AG d).bind λac=>
(F6 ac.BW b).bind λao=>
J3 (AO.mk (a.AG.set d.toNat (AY.mk ac.En ao)) a.Tx a.Ce a.AA) 0
else
if c==12 then
J3 (AO.mk a.AG b a.Ce a.AA) 0
else
if c==13 then
J3 (AO.mk a.AG (-1) a.Ce a.AA) 0
else
if c==14 then
(gt a.AA b).bind λad=>
J3 (AO.mk a.AG a.Tx a.Ce (a.AA.set b.toNat (AD.mk ad.Status ad.Ef true))) 0
else
if c==15 then
(gt a.AA b).bind λae=>
J3 (AO.mk a.AG a.Tx a.Ce (a.AA.set b.toNat (AD.mk ae.Status ae.Ef false))) 0
else
if c==16 then
(gt e.Au d).bind λaf=>
(gt a.AG af.Mutex).bind λav=>
(gt a.AA b).bind λq=>
(gt (a.AA.set b.toNat (AD.mk 3 q.Ef q.Atomic)) b).bind λy=>
J3 (AO.mk (a.AG.set af.Mutex.toNat (AY.mk (-1) av.BW)) a.Tx a.Ce ((a.AA.set b.toNat (AD.mk 3 q.Ef q.Atomic)).set b.toNat (AD.mk y.Status d y.Atomic))) 0
else
if c==17 then
(gt e.Au d).bind λz=>
(gt a.AG z.Mutex).bind λap=>
(gt a.AA b).bind λs=>
(gt (a.AA.set b.toNat (AD.mk 2 s.Ef s.Atomic)) b).bind λaa=>
J3 (AO.mk (a.AG.set z.Mutex.toNat (AY.mk b ap.BW)) a.Tx a.Ce ((a.AA.set b.toNat (AD.mk 2 s.Ef s.Atomic)).set b.toNat (AD.mk aa.Status 0 aa.Atomic))) 0
else
if c==18 then
(CU a.Tx a.AA d f).bind λu=>
J3 (AO.mk a.AG a.Tx a.Ce u.2) u.1
else
if c==19 then
(CR a.Tx a.AA d).bind λv=>
J3 (AO.mk a.AG a.Tx a.Ce v.2) v.1
else
if c==20 then
(gt a.AA d).bind λab=>
J3 (AO.mk a.AG a.Tx a.Ce (a.AA.set d.toNat (AD.mk 1 ab.Ef ab.Atomic))) 0
else
if c==22 then
(gt a.Ce d).bind λaw=>
J3 (AO.mk a.AG a.Tx (a.Ce.set d.toNat true) a.AA) 0
else
J3 a 0
def J1 (c d b:Int) (a:AO) (f:Int) (e:AB) (l:Bool):Option (AO×Int×Bool):=
if l then
(gt a.AG d).bind λaq=>
J3 (AO.mk (a.AG.set d.toNat (AY.mk b aq.BW)) a.Tx a.Ce a.AA) 0
else
if c==7 then
J2 c d b a f e (c==7)
else
J2 c d b a f e (c==11)
end Dm
section
open Dm
def Dm (e:AB) (i:AO) (b c:Int) (d f:Int):Option (AO×Int×Bool):=
(Cg e i b c d).bind λai=>
if !ai then
some ((AO.mk [] 0 [] []),0,false)
else
(C8 i).bind λa=>
if c==1 then
(gt a.AA b).bind λw=>
J3 (AO.mk a.AG a.Tx a.Ce (a.AA.set b.toNat (AD.mk 2 w.Ef w.Atomic))) 0
else
if c==2 then
(gt a.AA b).bind λx=>
J3 (AO.mk a.AG a.Tx a.Ce (a.AA.set b.toNat (AD.mk 5 x.Ef x.Atomic))) 0
else
if c==6 then
J1 c d b a f e (c==6)
else
J1 c d b a f e (c==10)
theorem PQ {e:AB} {i:AO} {b c:Int} {d f:Int} {r:AO×Int×Bool} (h:Dm e i b c d f=some r):Says Tryz.prog 33 [.agg (Ap e),.agg (GZ i),si b,si c,si d,si f] (.A9 [.agg (FK r.1),si r.2.1,sb r.2.2]):=by
 refine wO mix Tryz.func33 (I:=⟨yC,yD,yE⟩) ?_
 simp only[yC,yD,yE]
 have a1:= @Ic
 have a2:= @PT
 have a3:= @Rf
 have a4:= @OD
 have a5:= @I9
 have a6:= @OX
 have a7:= @LY
 have c3:=λn1 n2 n3 n4:Nat=>B7 3 λτ=>∃(j:AO) (p:Int),(τ 7=bA 4 (FK j)/\τ 12=bA 4 z4/\τ 15=si p)/\J3 j p=some r
 have c2:=λn1 n2 n3 n4:Nat=>B7 2 λτ=>∃(a:AO) (o:Bool),(τ 4=si d/\τ 5=si f/\τ 6=bA 6 (Ap e)/\τ 7=bA 4 (FK a)/\τ 8=bA 1 [si b]/\τ 12=bA 4 z4/\τ 15=si 0/\τ 27=si c/\τ 51=sb o)/\J2 c d b a f e o=some r
 have c1:=λn1 n2 n3 n4:Nat=>B7 1 λτ=>∃(a:AO) (l:Bool),(τ 4=si d/\τ 5=si f/\τ 6=bA 6 (Ap e)/\τ 7=bA 4 (FK a)/\τ 8=bA 1 [si b]/\τ 12=bA 4 z4/\τ 15=si 0/\τ 27=si c/\τ 42=sb l)/\J1 c d b a f e l=some r
 unfold Dm at h
 exact walk
end
def yF:IC:=(.seq (.TO [⟨some ⟨2,[],[]⟩,.mv (.c (.own false 1 [])),none⟩])
(.seq (.seq (.Z1 [.o ⟨some ⟨3,[],[]⟩,.cp (.t 0),none⟩,
.Ty ⟨4,[],[]⟩ false (.t 3)])
(.cond (.t 4) (.seq (.TO [⟨some ⟨2,[],[]⟩,.mv (.c (.own false 1 [])),none⟩])
.ret) .skip))
(.seq (.TO [⟨some ⟨5,[],[]⟩,.Eg 1 [] [],none⟩,
⟨some ⟨6,[],[]⟩,.cp (.t 0),none⟩,
⟨some ⟨7,[],[]⟩,.app 1 8 (.t 5) (.t 6),none⟩,
⟨some ⟨2,[],[]⟩,.mv (.t 7),none⟩])
.ret)))
def yG:Gi:=⟨[]⟩
def yH:List RV:=[.tmp 2]
def f34:FI:=⟨yF,yG,yH⟩
theorem vI:I2 Tryz.prog Tryz.f34 f34=true:=by kernel_rfl
def FO (l:List Int):Option (List Int):=if Aq l.length 8=true then some l else none
theorem KA {l:List Int} {r:List Int} (h:FO l=some r):Says Tryz.prog 34 [vS 1 eI l] (vO 1 eI r):=by
  obtain⟨g,h⟩:=HZ h
  obtain rfl:=Option.some.inj h
  refine Ij mix Tryz.func34 vI (of_decide_eq_true (by kernel_rfl)) rfl ?_
  simp only[f34,yF,yG,yH]
  simp +decide only[go_sem,g]
  intro b hb
  cases b with
  |true=>
    have hl:l=[]:=by simpa using hb rfl
    subst hl
    simp +decide only[go_sem,g]
  |false=>simp +decide only[go_sem,g]
def wH:IC:=(Ra 6 [.b 3 [25] (.bx 6 (.t 0)),.b 4 [42,79,96,99,102] (.bx 7 (.t 1)),.b 5 [18,23,31,36,44,46,48,72,75,81,83,85,106,112,114,121,123,128] (.bx 7 (.t 2)),.o (.bx 7 (.c (.agg z1))),.B 7 false]
(Sq (Bw 1 (Rc 13 [.A 6 3,.A 7 4,.c 28 [13,14] 0,.N 15,.C 16,.G 17 false,.f 0 5,.P .lss 19 0,.e,.V 17 20,.C 21,.G 22 false,.f 0 5,.f 4 3,.Z 26,.O .geq 24 27,.e,.V 22 28,.C 29,.G 30 false,.f 1 5,.P .lss 32 1,.e,.V 30 33,.C 34,.G 35 false,.f 1 5,.P .gtr 37 23,.e,.V 35 38])
(Ci 39 (Rb 40 [.o (.Dc z1 []),.S 7 6 40,.B 7 false])))
(Sq (Bw 2 (Rc 41 [.A 6 3,.F 0 4,.A 4 42,.f 0 5,.f 1 5,.f 2 5,.c 29 [41,43,45,47,49] 0,.N 50,.C 51,.G 52 false,.o (.ld true 6 (.t 3)),.o (.ld true 7 (.t 5)),.c 30 [53,54] 0,.N 55,.e,.V 52 56,.C 57,.G 58 false,.o (.ld true 6 (.t 3)),.o (.ld true 7 (.t 4)),.o (.ld true 7 (.t 5)),.c 31 [59,60,61] 0,.N 62,.e,.V 58 63,.C 64,.G 65 false,.o (.ld true 7 (.t 4)),.o (.ld true 7 (.t 5)),.c 32 [66,67] 0,.N 68,.e,.V 65 69])
(Ci 70 (Rb 71 [.o (.Dc z1 []),.S 7 6 71,.B 7 false])))
(Ra 0 [.K 8 (-1)]
(Bw 3 (Ra 72 [.f 1 5,.Q 73 18]
(Ci 74 (Rc 75 [.f 3 5,.M 8 76])))
(Ra 78 [.A 6 3,.F 0 4,.A 4 79,.f 0 5,.f 1 5,.f 2 5,.C 8,.b 88 [77,89,90,91] (.call 33 [.t 78,.t 80,.t 82,.t 84,.t 86,.t 87] 2),.w 77,.y 88 (.cp (.t 88)),.w 89,.y 88 (.ext (.t 77) 0),.y 88 (.ext (.t 77) 1),.y 88 (.ext (.t 77) 2),.b 9 [95] (.bx 4 (.c (.agg z4))),.S 4 9 89,.M 10 90,.b 11 [92] (.mv (.t 91))]
(Sq (Ra 92 [.y 11 (.cp (.t 11)),.N 92]
(Ci 93 (Rb 94 [.o (.Dc z1 []),.S 7 6 94,.B 7 false])))
(Ra 95 [.y 9 (.ld true 4 (.t 9)),.f 4 4,.c 34 [97] 2,.f 5 4,.c 34 [100] 2,.f 6 4,.c 35 [103] 2,.o (.Dc z1 [(0,4,.t 95),(4,1,.t 98),(5,1,.t 101),(6,1,.t 104)]),.b 12 [110,111,116,119,120,125,126,127,130,133,134] (.bx 7 (.c (.agg z1))),.S 7 12 105]
(Sq (Ra 106 [.f 1 5]
(Bk 0 (Ra 109 [.q 107 4 108]
(Cn 108 (Rc 110 [.m 12 4 12,.f 2 5,.f 3 5,.J 12 1 111 113,.S 1 116 115]) (Ra 118 [.q 107 22 117]
(Ci 117 (Rc 119 [.m 12 5 12,.f 2 5,.f 3 5,.J 12 1 120 122,.S 1 125 124])))))))
(Ra 126 [.m 12 6 12,.f 0 5,.J 12 1 127 129,.L 130,.P .add 131 1,.J 12 1 127 129,.S 1 133 132]
(Rb 134 [.y 12 (.ld true 7 (.t 12)),.S 7 6 134,.B 7 true])))))))))))
def wI:Gi:=⟨[(18,[5]),(23,[5]),(25,[3]),(31,[5]),(36,[5]),(42,[4]),(44,[5]),(46,[5]),(48,[5]),(72,[5]),(75,[5]),(77,[88]),(79,[4]),(81,[5]),(83,[5]),(85,[5]),(89,[88]),(90,[88]),(91,[88]),(92,[11]),(95,[9]),(96,[4]),(99,[4]),(102,[4]),(106,[5]),(110,[12]),(111,[12]),(112,[5]),(114,[5]),(116,[12]),(119,[12]),(120,[12]),(121,[5]),(123,[5]),(125,[12]),(126,[12]),(127,[12]),(128,[5]),(130,[12]),(133,[12]),(134,[12])]⟩
def wJ:List RV:=[.cell 6 true 7,.tmp 7]
namespace BZ
def J4 (a:AN) (d:AM):Option (AM×Bool):=
(gt d.Count a.Thread).bind λw=>
some ((AM.mk d.Sync d.Cells d.AH (d.Count.set a.Thread.toNat (BE (w+1)))),true)
def J3 (a:AN) (b:AM) (c:AB) (o:Int):Option (AM×Bool):=
(Dm c b.Sync a.Thread a.Kind a.Obj o).bind λi=>
if !i.2.2 then
some ((AM.mk (AO.mk [] 0 [] []) [] [] []),false)
else
(FO b.Cells).bind λj=>
(FO b.AH).bind λl=>
(slices_Clone_int b.Count).bind λp=>
if a.Kind==4 then
(gt j a.Obj).bind λx=>
J4 a (AM.mk i.1 (j.set a.Obj.toNat a.Value) l p)
else
if a.Kind==22 then
(gt l a.Obj).bind λy=>
J4 a (AM.mk i.1 j (l.set a.Obj.toNat a.Value) p)
else
J4 a (AM.mk i.1 j l p)
def J2 (a:AN) (b:AM) (c:AB) (f:Bool):Option (AM×Bool):=
if f then
some ((AM.mk (AO.mk [] 0 [] []) [] [] []),false)
else
if a.Kind==18 then
J3 a b c a.Value
else
J3 a b c (-1)
def J1 (a:AN) (b:AM) (c:AB) (e:Bool):Option (AM×Bool):=
if e then
some ((AM.mk (AO.mk [] 0 [] []) [] [] []),false)
else
(Cg c b.Sync a.Thread a.Kind a.Obj).bind λs=>
if !s then
J2 a b c true
else
(CW c a).bind λt=>
if !t then
J2 a b c true
else
(AR c b a).bind λu=>
if !u then
J2 a b c true
else
(Am b a).bind λv=>
J2 a b c (!v)
end BZ
section
open BZ
def BZ (c:AB) (b:AM) (a:AN):Option (AM×Bool):=
(DS c b).bind λq=>
if !q then
J1 a b c true
else
if decide (a.Thread<0)then
J1 a b c true
else
if decide (a.Thread≥(c.AA.length:Int))then
J1 a b c true
else
if decide (a.Kind<1)then
J1 a b c true
else
J1 a b c (decide (a.Kind>23))
theorem Mo {c:AB} {b:AM} {a:AN} {r:AM×Bool} (h:BZ c b a=some r):Says Tryz.prog 14 [.agg (Ap c),.agg (Cz b),.agg (C4 a)] (.A9 [.agg (HL r.1),sb r.2]):=by
 refine wO mix Tryz.func14 (I:=⟨wH,wI,wJ⟩) ?_
 simp only[wH,wI,wJ]
 have a1:= @PQ
 have a2:= @KA
 have a3:= @Hp
 have a4:= @Ic
 have a5:= @Kx
 have a6:= @Iv
 have a7:= @Ky
 have a8:= @Mq
 have c3:=λn1 n2 n3 n4:Nat=>B7 3 λτ=>∃(o:Int),(τ 3=bA 6 (Ap c)/\τ 4=bA 7 (Cz b)/\τ 5=bA 7 (C4 a)/\τ 6=bA 7 z1/\τ 8=si o)/\J3 a b c o=some r
 have c2:=λn1 n2 n3 n4:Nat=>B7 2 λτ=>∃(f:Bool),(τ 3=bA 6 (Ap c)/\τ 4=bA 7 (Cz b)/\τ 5=bA 7 (C4 a)/\τ 6=bA 7 z1/\τ 70=sb f)/\J2 a b c f=some r
 have c1:=λn1 n2 n3 n4:Nat=>B7 1 λτ=>∃(e:Bool),(τ 3=bA 6 (Ap c)/\τ 4=bA 7 (Cz b)/\τ 5=bA 7 (C4 a)/\τ 6=bA 7 z1/\τ 39=sb e)/\J1 a b c e=some r
 unfold BZ at h
 exact walk
end
end Go.Abs
