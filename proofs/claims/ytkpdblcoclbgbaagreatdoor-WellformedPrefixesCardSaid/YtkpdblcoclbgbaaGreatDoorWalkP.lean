/- Typed programs of Go functions, and that the functions do what these say. -/
import Derived.Test.YtkpdblcoclbgbaaGreatDoorBaseA
import Derived.Test.YtkpdblcoclbgbaaGreatDoorWalkO
import Derived.Shelf.Slices.SearchI
set_option linter.unusedSimpArgs false
set_option linter.unusedVariables false
namespace Go.Abs
open Go.Proofs
set_option maxRecDepth 100000
set_option maxHeartbeats 4000000
def yR:IC:=(Ra 2 [.b 1 [11,16,17,25,26,36,37,49,57,64] (.bx 7 (.t 0)),.o (.bx 7 (.c (.agg z2)))]
(Sq (Ra 7 [.A 7 1,.c 36 [7] 0,.N 8]
(Ci 9 (Rb 10 [.o (.Dc z2 []),.S 7 2 10])))
(Ra 11 [.F 0 1,.A 6 11,.c 44 [12] 2,.o (.Dc z2 [(0,4,.t 13)]),.b 3 [23,24,34,43,44,47,55,56,74,75] (.bx 7 (.c (.agg z2))),.S 7 3 14]
(Sq (Ra 0 [.K 4 0]
(Bl 0 (Sq (Ra 15 [.C 4,.F 0 1,.h 1 0 16,.Z 18,.O .lss 15 19]
(cX 20 0))
(Sq (Bk 1 (Rc 23 [.m 3 4 3,.F 0 1,.h 1 0 25,.C 4,.I 5 27 28,.U 4 29,.o (.Eg 1 [[si 0]] [(0,.t 31)]),.o (.app 1 8 (.t 24) (.t 32)),.F 4 3,.S 1 34 33]))
(Rc 21 [.C 4,.P .add 21 1,.M 4 22])))))
(Sq (Ra 0 [.K 5 0]
(Bl 2 (Sq (Ra 35 [.C 5,.F 0 1,.h 1 3 36,.Z 38,.O .lss 35 39]
(cX 40 2))
(Sq (Bk 3 (Rc 43 [.m 3 5 3,.o (.Eg 1 [[si 0]] [(0,.c (si 0))]),.o (.app 1 8 (.t 44) (.t 45)),.F 5 3,.S 1 47 46]))
(Rc 41 [.C 5,.P .add 41 1,.M 5 42])))))
(Sq (Ra 0 [.K 6 0]
(Bl 4 (Sq (Ra 48 [.C 6,.f 6 1,.Z 50,.O .lss 48 51]
(cX 52 4))
(Sq (Bk 5 (Rc 55 [.m 3 6 3,.f 6 1,.C 6,.I 2 58 59,.U 0 60,.o (.mk 1 8 [si 0] (.t 62) (.t 62)),.f 6 1,.C 6,.I 2 65 66,.U 0 67,.o (.mk 1 24 [.sl false 1 []] (.t 69) (.t 69)),.o (.Dc z6 [(1,1,.t 63),(2,1,.t 70)]),.o (.Eg 4 [z6] [(0,.t 71)]),.o (.app 4 64 (.t 56) (.t 72)),.F 6 3,.S 1 74 73]))
(Rc 53 [.C 6,.P .add 53 1,.M 6 54])))))
(Rb 75 [.y 3 (.ld true 7 (.t 3)),.S 7 2 75])))))))
def yS:Gi:=⟨[(11,[1]),(16,[1]),(17,[1]),(23,[3]),(24,[3]),(25,[1]),(26,[1]),(34,[3]),(36,[1]),(37,[1]),(43,[3]),(44,[3]),(47,[3]),(49,[1]),(55,[3]),(56,[3]),(57,[1]),(64,[1]),(74,[3]),(75,[3])]⟩
def yT:List RV:=[.cell 2 true 7]
namespace B6
def J3 (p:AZ):Option AZ:=
some p
def L3 (a:BB) (L3:AZ->Int->Option AZ) (d:AZ) (i:Int):Option AZ:=
if decide (i<(a.AA.length:Int))then
(gt a.AA i).bind λe=>
if 0≤e.CN/\e.CN≤e.CN/\Aq e.CN.toNat 8=true then
if 0≤e.CN/\e.CN≤e.CN/\Aq e.CN.toNat 24=true then
if Aq (d.AA.length+1) 64=true then
L3 (AZ.mk d.Sync d.Cells d.AH (d.AA++[(AE.mk 0 (List.replicate e.CN.toNat 0) (List.replicate e.CN.toNat []) 0)])) (BE (i+1))
else none
else none
else none
else
J3 d
def Gx (a:BB):Nat->AZ->Int->Option AZ
|0,_,_=>none
|n+1,d,i=>L3 a (Gx a n) d i
def J2 (a:BB) (o:AZ):Option AZ:=
Gx a Bo o 0
def L2 (a:BB) (L2:AZ->Int->Option AZ) (c:AZ) (j:Int):Option AZ:=
if decide (j<(a.World.AH.length:Int))then
if Aq (c.AH.length+1) 8=true then
L2 (AZ.mk c.Sync c.Cells (c.AH++[0]) c.AA) (BE (j+1))
else none
else
J2 a c
def Da (a:BB):Nat->AZ->Int->Option AZ
|0,_,_=>none
|n+1,c,j=>L2 a (Da a n) c j
def J1 (a:BB) (l:AZ):Option AZ:=
Da a Bo l 0
def L1 (a:BB) (L1:AZ->Int->Option AZ) (b:AZ) (f:Int):Option AZ:=
if decide (f<(a.World.Cells.length:Int))then
(gt a.World.Cells f).bind λt=>
if Aq (b.Cells.length+1) 8=true then
L1 (AZ.mk b.Sync (b.Cells++[t.Init]) b.AH b.AA) (BE (f+1))
else none
else
J1 a b
def Ac (a:BB):Nat->AZ->Int->Option AZ
|0,_,_=>none
|n+1,b,f=>L1 a (Ac a n) b f
end B6
section
open B6
def B6 (a:BB):Option AZ:=
(CH a).bind λq=>
if !q then
some (AZ.mk (AO.mk [] 0 [] []) [] [] [])
else
(Bj a.World).bind λs=>
Ac a Bo (AZ.mk s [] [] []) 0
theorem RM {a:BB} {r:AZ} (h:B6 a=some r):Says Tryz.prog 38 [.agg (Gp a)] (.agg (IZ r)):=by
 refine wO mix Tryz.func38 (I:=⟨yR,yS,yT⟩) ?_
 simp only[yR,yS,yT]
 have a1:= @IQ
 have a2:= @O5
 have l3:=λn1 n2 n3 n4:Nat=>BM λn τ=>∃(d:AZ) (i:Int),(τ 1=bA 7 (Gp a)/\τ 2=bA 7 z2/\τ 3=bA 7 (IZ d)/\τ 6=si i)/\Gx a n d i=some r
 have l2:=λn1 n2 n3 n4:Nat=>BM λn τ=>∃(c:AZ) (j:Int),(τ 1=bA 7 (Gp a)/\τ 2=bA 7 z2/\τ 3=bA 7 (IZ c)/\τ 5=si j)/\Da a n c j=some r
 have l1:=λn1 n2 n3 n4:Nat=>BM λn τ=>∃(b:AZ) (f:Int),(τ 1=bA 7 (Gp a)/\τ 2=bA 7 z2/\τ 3=bA 7 (IZ b)/\τ 4=si f)/\Ac a n b f=some r
 unfold B6 at h
 exact walk
end
def ABC:IC:=(Ra 0 [.b 2 [7,13,21,27,35,43,52] (.bx 6 (.t 0)),.b 3 [32,40,49] (.bx 4 (.t 1)),.B 4 false]
(Sq (Ra 0 [.K 5 0]
(Bl 0 (Sq (Ra 6 [.C 5,.f 2 2,.Z 8,.O .lss 6 9]
(cX 10 0))
(Sq (Bk 1 (Ra 13 [.f 2 2,.C 5,.I 2 14 15,.U 1 16,.P .lss 18 0,.C 19,.G 20 false,.f 2 2,.C 5,.I 2 22 23,.U 1 24,.f 1 2,.Z 28,.O .geq 26 29,.e,.V 20 30]
(Ci 31 (Rb 0 [.B 4 false]))))
(Rc 11 [.C 5,.P .add 11 1,.M 5 12])))))
(Rb 32 [.f 0 3,.Z 33,.f 1 2,.Z 36,.O .eql 34 37,.C 38,.G 39 true,.f 2 3,.Z 41,.f 3 2,.Z 44,.O .eql 42 45,.e,.W 39 46,.C 47,.G 48 true,.f 3 3,.Z 50,.f 4 2,.Z 53,.O .eql 51 54,.e,.W 48 55,.M 4 56])))
def ABD:Gi:=⟨[(7,[2]),(13,[2]),(21,[2]),(27,[2]),(32,[3]),(35,[2]),(40,[3]),(43,[2]),(49,[3]),(52,[2])]⟩
def ABE:List RV:=[.tmp 4]
namespace Dd
def J3 (f:Bool):Option Bool:=
some f
def J2 (b:AO) (a:AB):Option Bool:=
if(b.AG.length:Int)==(a.AG.length:Int)then
if(b.Ce.length:Int)==(a.AH.length:Int)then
J3 ((b.AA.length:Int)==(a.AA.length:Int))
else
J3 false
else
J3 false
def J1 (L1:Int->Option Bool) (c:Int) (e:Bool):Option Bool:=
if e then
some false
else
L1 (BE (c+1))
def L1 (b:AO) (a:AB) (L1:Int->Option Bool) (c:Int):Option Bool:=
if decide (c<(a.Au.length:Int))then
(gt a.Au c).bind λd=>
if decide (d.Mutex<0)then
J1 L1 c true
else
J1 L1 c (decide (d.Mutex≥(a.AG.length:Int)))
else
J2 b a
def Ac (b:AO) (a:AB):Nat->Int->Option Bool
|0,_=>none
|n+1,c=>L1 b a (Ac b a n) c
end Dd
section
open Dd
def Dd (a:AB) (b:AO):Option Bool:=
Ac b a Bo 0
theorem K2 {a:AB} {b:AO} {r:Bool} (h:Dd a b=some r):Says Tryz.prog 79 [.agg (Ap a),.agg (GZ b)] (sb r):=by
 refine wO mix Tryz.func79 (I:=⟨ABC,ABD,ABE⟩) ?_
 simp only[ABC,ABD,ABE]
 have l1:=λn1 n2 n3 n4:Nat=>BM λn τ=>∃(c:Int),(τ 2=bA 6 (Ap a)/\τ 3=bA 4 (GZ b)/\τ 5=si c)/\Ac b a n c=some r
 unfold Dd at h
 exact walk
end
def mL:IC:=(Ra 0 [.b 2 [11,22,23,32,33,42,48,65,78,90] (.bx 7 (.t 0)),.b 3 [13,19,29,39,54] (.bx 7 (.t 1)),.B 4 false]
(Sq (Bw 1 (Rc 7 [.A 7 2,.c 36 [7] 0,.N 8,.C 9,.G 10 false,.F 0 2,.o (.ld true 6 (.t 11)),.F 0 3,.o (.ld true 4 (.t 13)),.c 79 [12,14] 0,.N 15,.e,.V 10 16,.C 17,.G 18 false,.f 4 3,.Z 20,.F 0 2,.h 2 0 22,.Z 24,.O .neq 21 25,.e,.V 18 26,.C 27,.G 28 false,.f 5 3,.Z 30,.F 0 2,.h 2 3 32,.Z 34,.O .neq 31 35,.e,.V 28 36,.C 37,.G 38 false,.f 6 3,.Z 40,.f 6 2,.Z 43,.O .neq 41 44,.e,.V 38 45])
(Ci 46 (Rb 0 [.B 4 false])))
(Sq (Ra 0 [.K 5 0]
(Bl 0 (Sq (Ra 47 [.C 5,.f 6 2,.Z 49,.O .lss 47 50]
(cX 51 0))
(Sq (Bk 1 (Ra 54 [.f 6 3,.C 5,.I 4 55 56,.A 4 57,.b 6 [59,63,75,87] (.bx 4 (.c (.agg z6))),.S 4 6 58]
(Ra 59 [.f 0 6,.P .lss 60 0,.C 61,.G 62 false,.f 0 6,.f 6 2,.C 5,.I 2 66 67,.U 1 68,.Z 70,.O .geq 64 71,.e,.V 62 72,.C 73,.G 74 false,.f 1 6,.Z 76,.f 6 2,.C 5,.I 2 79 80,.U 0 81,.O .neq 77 83,.e,.V 74 84,.C 85,.G 86 false,.f 2 6,.Z 88,.f 6 2,.C 5,.I 2 91 92,.U 0 93,.O .neq 89 95,.e,.V 86 96]
(Ci 97 (Rb 0 [.B 4 false])))))
(Rc 52 [.C 5,.P .add 52 1,.M 5 53])))))
(Rb 0 [.B 4 true]))))
def mM:Gi:=⟨[(11,[2]),(13,[3]),(19,[3]),(22,[2]),(23,[2]),(29,[3]),(32,[2]),(33,[2]),(39,[3]),(42,[2]),(48,[2]),(54,[3]),(59,[6]),(63,[6]),(65,[2]),(75,[6]),(78,[2]),(87,[6]),(90,[2])]⟩
def mN:List RV:=[.tmp 4]
namespace DW
def J3:Option Bool:=
some true
def J2 (L1:Int->Option Bool) (c:Int) (i:Bool):Option Bool:=
if i then
some false
else
L1 (BE (c+1))
def L1 (a:BB) (b:AZ) (L1:Int->Option Bool) (c:Int):Option Bool:=
if decide (c<(a.AA.length:Int))then
(gt b.AA c).bind λe=>
if decide (e.PC<0)then
J2 L1 c true
else
(gt a.AA c).bind λf=>
if decide (e.PC≥(f.B3.length:Int))then
J2 L1 c true
else
if(e.CN.length:Int) != f.CN then
J2 L1 c true
else
J2 L1 c ((e.Bt.length:Int) != f.CN)
else
J3
def Ac (a:BB) (b:AZ):Nat->Int->Option Bool
|0,_=>none
|n+1,c=>L1 a b (Ac a b n) c
def J1 (a:BB) (b:AZ) (d:Bool):Option Bool:=
if d then
some false
else
Ac a b Bo 0
end DW
section
open DW
def DW (a:BB) (b:AZ):Option Bool:=
(CH a).bind λj=>
if !j then
J1 a b true
else
(Dd a.World b.Sync).bind λl=>
if !l then
J1 a b true
else
if(b.Cells.length:Int) != (a.World.Cells.length:Int)then
J1 a b true
else
if(b.AH.length:Int) != (a.World.AH.length:Int)then
J1 a b true
else
J1 a b ((b.AA.length:Int) != (a.AA.length:Int))
theorem SP {a:BB} {b:AZ} {r:Bool} (h:DW a b=some r):Says Tryz.prog 127 [.agg (Gp a),.agg (HM b)] (sb r):=by
 refine wO mix Tryz.func127 (I:=⟨mL,mM,mN⟩) ?_
 simp only[mL,mM,mN]
 have a1:= @IQ
 have a2:= @K2
 have l1:=λn1 n2 n3 n4:Nat=>BM λn τ=>∃(c:Int),(τ 2=bA 7 (Gp a)/\τ 3=bA 7 (HM b)/\τ 5=si c)/\Ac a b n c=some r
 have c1:=λn1 n2 n3 n4:Nat=>B7 1 λτ=>∃(d:Bool),(τ 2=bA 7 (Gp a)/\τ 3=bA 7 (HM b)/\τ 46=sb d)/\J1 a b d=some r
 unfold DW at h
 exact walk
end
def mO:IC:=(Ra 0 [.K 2 0]
(Ra 4 [.o (.Eg 1 [[si 0],[si 0],[si 0],[si 0],[si 0],[si 0],[si 0],[si 0],[si 0],[si 0],[si 0],[si 0],[si 0],[si 0],[si 0],[si 0],[si 0],[si 0],[si 0],[si 0],[si 0],[si 0],[si 0]] [(0,.c (si 3)),(1,.c (si 3)),(2,.c (si 4)),(3,.c (si 4)),(4,.c (si 5)),(5,.c (si 6)),(6,.c (si 7)),(7,.c (si 8)),(8,.c (si 9)),(9,.c (si 10)),(10,.c (si 11)),(11,.c (si 12)),(12,.c (si 13)),(13,.c (si 14)),(14,.c (si 15)),(15,.c (si 16)),(16,.c (si 18)),(17,.c (si 19)),(18,.c (si 20)),(19,.c (si 21)),(20,.c (si 22)),(21,.c (si 23)),(22,.c (si 2))]),.b 3 [11,14] (.mv (.t 4))]
(Sq (Ra 5 [.C 0,.P .lss 5 6,.C 6,.G 7 false,.C 0,.P .gtr 8 28,.e,.V 7 9]
(Ci 10 (Rb 0 [.K 2 0])))
(Rb 11 [.y 3 (.cp (.t 3)),.C 0,.P .sub 12 6,.J 3 1 11 13,.L 14,.M 2 15]))))
def mP:Gi:=⟨[(11,[3]),(14,[3])]⟩
def mQ:List RV:=[.tmp 2]
namespace FN
def J1 (a:Int) (b:Bool):Option Int:=
if b then
some 0
else
(gt [3,3,4,4,5,6,7,8,9,10,11,12,13,14,15,16,18,19,20,21,22,23,2] (BE (a-6))).bind λc=>
some c
end FN
section
open FN
def FN (a:Int):Option Int:=
if decide (a<6)then
J1 a true
else
J1 a (decide (a>28))
theorem SS {a r:Int} (h:FN a=some r):Says Tryz.prog 128 [si a] (si r):=by
 refine wO mix Tryz.func128 (I:=⟨mO,mP,mQ⟩) ?_
 simp only[mO,mP,mQ]
 unfold FN at h
 exact walk
end
end Go.Abs
