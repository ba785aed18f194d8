/- Typed programs of Go functions, and that the functions do what these say. -/
import Derived.Test.YtkpdblcoclbgbaaGreatDoorBaseA
import Derived.Test.YtkpdblcoclbgbaaGreatDoorWalkM
import Derived.Test.YtkpdblcoclbgbaaGreatDoorWalkS
import Derived.Test.YtkpdblcoclbgbaaGreatDoorWalkA
import Derived.Shelf.Slices.SearchI
set_option linter.unusedSimpArgs false
set_option linter.unusedVariables false
namespace Go.Abs
open Go.Proofs
set_option maxRecDepth 100000
set_option maxHeartbeats 4000000
def qD:IC:=(Ra 0 [.K 2 0]
(Sq (Ra 3 [.C 0]
(Ci 3 (Rb 0 [.K 2 1])))
(Rb 0 [.K 2 0])))
def qE:Gi:=⟨[]⟩
def qF:List RV:=[.tmp 2]
def Cw (a:Bool):Option Int:=
if a then
some 1
else
some 0
theorem Kk {a:Bool} {r:Int} (h:Cw a=some r):Says Tryz.prog 165 [sb a] (si r):=by
 refine wO mix Tryz.func165 (I:=⟨qD,qE,qF⟩) ?_
 simp only[qD,qE,qF]
 unfold Cw at h
 exact walk
def o4:IC:=(Ra 0 [.K 4 0,.B 5 false]
(Sq (Ra 6 [.C 0]
(Bk 0 (Ra 8 [.q 6 4 7]
(Cn 7 (Rb 9 [.C 1,.o (.un .neg (.t 9)),.M 4 10,.B 5 true]) (Ra 12 [.q 6 5 11]
(Ci 11 (Rb 13 [.C 1,.Q 13 0,.c 165 [14] 0,.M 4 15,.B 5 true])))))))
(Rb 0 [.K 4 0,.B 5 false])))
def o5:Gi:=⟨[]⟩
def o6:List RV:=[.tmp 4,.tmp 5]
def Hg (b a:Int):Option (Int×Bool):=
if b==4 then
some (BE (0-a),true)
else
if b==5 then
(Cw (a==0)).bind λc=>
some (c,true)
else
some (0,false)
theorem RE {b a:Int} {r:Int×Bool} (h:Hg b a=some r):Says Tryz.prog 154 [si b,si a] (.A9 [si r.1,sb r.2]):=by
 refine wO mix Tryz.func154 (I:=⟨o4,o5,o6⟩) ?_
 simp only[o4,o5,o6]
 have a1:= @Kk
 unfold Hg at h
 exact walk
def pF:IC:=(Ra 0 [.K 6 0,.B 7 false]
(Sq (Ra 8 [.C 0]
(Bk 0 (Ra 10 [.q 8 6 9]
(Cn 9 (Rb 11 [.C 1,.C 2,.O .add 11 12,.M 6 13,.B 7 true]) (Ra 15 [.q 8 7 14]
(Cn 14 (Rb 16 [.C 1,.C 2,.O .sub 16 17,.M 6 18,.B 7 true]) (Ra 20 [.q 8 8 19]
(Cn 19 (Rb 21 [.C 1,.C 2,.O .mul 21 22,.M 6 23,.B 7 true]) (Ra 25 [.q 8 9 24]
(Cn 24 (Sq (Ra 26 [.C 2,.Q 26 0]
(Ci 27 (Rb 0 [.K 6 0,.B 7 true])))
(Rb 28 [.C 1,.C 2,.O .quo 28 29,.M 6 30,.B 7 true])) (Ra 32 [.q 8 10 31]
(Cn 31 (Sq (Ra 33 [.C 2,.Q 33 0]
(Ci 34 (Rb 0 [.K 6 0,.B 7 true])))
(Rb 35 [.C 1,.C 2,.O .rem 35 36,.M 6 37,.B 7 true])) (Ra 39 [.q 8 11 38]
(Cn 38 (Rb 40 [.C 1,.C 2,.O .eql 40 41,.c 165 [42] 0,.M 6 43,.B 7 true]) (Ra 45 [.q 8 12 44]
(Cn 44 (Rb 46 [.C 1,.C 2,.O .neq 46 47,.c 165 [48] 0,.M 6 49,.B 7 true]) (Ra 51 [.q 8 13 50]
(Cn 50 (Rb 52 [.C 1,.C 2,.O .lss 52 53,.c 165 [54] 0,.M 6 55,.B 7 true]) (Ra 57 [.q 8 14 56]
(Cn 56 (Rb 58 [.C 1,.C 2,.O .leq 58 59,.c 165 [60] 0,.M 6 61,.B 7 true]) (Ra 63 [.q 8 15 62]
(Cn 62 (Rb 64 [.C 1,.C 2,.O .gtr 64 65,.c 165 [66] 0,.M 6 67,.B 7 true]) (Ra 69 [.q 8 16 68]
(Cn 68 (Rb 70 [.C 1,.C 2,.O .geq 70 71,.c 165 [72] 0,.M 6 73,.B 7 true]) (Ra 75 [.q 8 17 74]
(Cn 74 (Rb 76 [.C 1,.P .neq 76 0,.C 77,.G 78 true,.C 2,.P .neq 79 0,.e,.W 78 80,.c 165 [81] 0,.M 6 82,.B 7 true]) (Ra 84 [.q 8 18 83]
(Ci 83 (Rb 85 [.C 1,.P .neq 85 0,.C 86,.G 87 false,.C 2,.P .neq 88 0,.e,.V 87 89,.c 165 [90] 0,.M 6 91,.B 7 true])))))))))))))))))))))))))))))
(Rb 0 [.K 6 0,.B 7 false])))
def pG:Gi:=⟨[]⟩
def pH:List RV:=[.tmp 6,.tmp 7]
namespace EC
def J1 (d:Int):Option (Int×Bool):=
some (d,true)
def J2 (e:Int):Option (Int×Bool):=
some (e,true)
end EC
section
open EC
def EC (c b a:Int):Option (Int×Bool):=
if c==6 then
some (BE (b+a),true)
else
if c==7 then
some (BE (b-a),true)
else
if c==8 then
some (BE (b*a),true)
else
if c==9 then
if a==0 then
some (0,true)
else
if¬a=0 then
some (BE (b.tdiv a),true)
else none
else
if c==10 then
if a==0 then
some (0,true)
else
if¬a=0 then
some (b.tmod a,true)
else none
else
if c==11 then
(Cw (b==a)).bind λf=>
some (f,true)
else
if c==12 then
(Cw (b != a)).bind λi=>
some (i,true)
else
if c==13 then
(Cw (decide (b<a))).bind λj=>
some (j,true)
else
if c==14 then
(Cw (decide (b≤a))).bind λl=>
some (l,true)
else
if c==15 then
(Cw (decide (b>a))).bind λo=>
some (o,true)
else
if c==16 then
(Cw (decide (b≥a))).bind λp=>
some (p,true)
else
if c==17 then
if b != 0 then
(Cw (a != 0)).bind λq=>
J1 q
else
(Cw false).bind λs=>
J1 s
else
if c==18 then
if b != 0 then
(Cw true).bind λt=>
J2 t
else
(Cw (a != 0)).bind λu=>
J2 u
else
some (0,false)
theorem Pe {c b a:Int} {r:Int×Bool} (h:EC c b a=some r):Says Tryz.prog 156 [si c,si b,si a] (.A9 [si r.1,sb r.2]):=by
 refine wO mix Tryz.func156 (I:=⟨pF,pG,pH⟩) ?_
 simp only[pF,pG,pH]
 have a1:= @Kk
 unfold EC at h
 exact walk
end
def mX:IC:=(Ra 4 [.b 2 [35,38,43,49,58,64,71,77,83,89,96,101,110,116,120] (.bx 6 (.t 0)),.b 3 [29,30,41,42,45,47,48,51,56,57,60,61,62,63,66,67,73,74,81,82,85,87,88,91,92,99,100,103,108,109,112,113,114,115,118,119,126,127,128,131,132] (.bx 4 (.t 1)),.o (.bx 4 (.c (.agg z6))),.B 5 false]
(Ra 11 [.A 6 2,.c 70 [11] 2,.b 6 [14,19,21,25,27] (.mv (.t 12))]
(Sq (Ra 0 [.K 7 0]
(Bl 0 (Sq (Ra 13 [.C 7,.y 6 (.cp (.t 6)),.Z 14,.O .lss 13 15]
(cX 16 0))
(Sq (Bk 1 (Ra 19 [.y 6 (.cp (.t 6)),.C 7,.J 6 1 19 20,.L 21,.P .lss 22 0,.C 23,.G 24 false,.y 6 (.cp (.t 6)),.C 7,.y 6 (.Lr 1 (.t 25) (.t 26)),.L 27,.m 3 1 3,.Z 30,.O .geq 28 31,.e,.V 24 32]
(Ci 33 (Rb 34 [.o (.Dc z6 []),.S 4 4 34,.B 5 false]))))
(Rc 17 [.C 7,.P .add 17 1,.M 7 18])))))
(Ra 0 [.K 8 0,.B 9 true]
(Ra 0 [.b 10 [124] (.mv (.c (.sl false 1 [])))]
(Sq (Ra 35 [.f 0 2]
(Bk 2 (Ra 70 [.q 36 5 69]
(Cn 69 (Ra 71 [.f 1 2,.F 0 3,.S 1 73 72]
(Rb 74 [.y 3 (.ld true 4 (.t 3)),.S 4 4 74,.B 5 true])) (Ra 76 [.q 36 1 75]
(Cn 75 (Rc 77 [.f 4 2,.M 8 78]) (Ra 80 [.q 36 2 79]
(Cn 79 (Rc 81 [.m 3 1 3,.f 2 2,.J 3 1 82 84,.L 85,.m 3 2 3,.f 2 2,.J 3 1 88 90,.l 3 91,.M 8 86,.b 10 [124] (.mv (.t 92))]) (Ra 94 [.q 36 3 93]
(Cn 93 (Ra 96 [.f 4 2,.c 155 [97] 0,.m 3 1 3,.f 2 2,.J 3 1 100 102,.L 103,.c 154 [98,104] 0,.w 95,.C 105,.w 106,.o (.ext (.t 95) 0),.o (.ext (.t 95) 1),.M 8 106,.M 9 107]
(Rc 108 [.m 3 2 3,.f 2 2,.J 3 1 109 111,.l 3 112,.b 10 [124] (.mv (.t 113))])) (Ra 38 [.f 4 2,.c 155 [39] 0,.m 3 1 3,.f 2 2,.J 3 1 42 44,.L 45,.m 3 1 3,.f 3 2,.J 3 1 48 50,.L 51,.c 156 [40,46,52] 0,.w 37,.C 53,.w 54,.o (.ext (.t 37) 0),.o (.ext (.t 37) 1),.M 8 54,.M 9 55]
(Rc 56 [.m 3 2 3,.f 2 2,.J 3 1 57 59,.l 3 60,.m 3 2 3,.f 3 2,.J 3 1 63 65,.l 3 66,.c 85 [61,67] 1,.b 10 [124] (.mv (.t 68))]))))))))))))
(Sq (.pg true 3 [(0,2,0)] (Rc 114 [.F 1 3,.y 3 (.Qt (.t 114)),.f 1 2,.F 2 3,.y 3 (.Qt (.t 118)),.f 1 2,.C 8,.o (.Eg 1 [] []),.y 10 (.cp (.t 10)),.o (.app 1 8 (.t 123) (.t 124)),.J 3 1 115 117,.x ⟨none,.P1 (.t 126) (.t 122),none⟩,.J 3 1 119 121,.S 1 127 125]))
(Ra 128 [.f 0 3,.P .add 129 1,.F 0 3,.S 1 131 130]
(Rb 132 [.y 3 (.ld true 4 (.t 3)),.C 9,.S 4 4 132,.M 5 133])))))))))
def mY:Gi:=⟨[(14,[6]),(19,[6]),(21,[6]),(25,[6]),(27,[6]),(29,[3]),(30,[3]),(35,[2]),(38,[2]),(41,[3]),(42,[3]),(43,[2]),(45,[3]),(47,[3]),(48,[3]),(49,[2]),(51,[3]),(56,[3]),(57,[3]),(58,[2]),(60,[3]),(61,[3]),(62,[3]),(63,[3]),(64,[2]),(66,[3]),(67,[3]),(71,[2]),(73,[3]),(74,[3]),(77,[2]),(81,[3]),(82,[3]),(83,[2]),(85,[3]),(87,[3]),(88,[3]),(89,[2]),(91,[3]),(92,[3]),(96,[2]),(99,[3]),(100,[3]),(101,[2]),(103,[3]),(108,[3]),(109,[3]),(110,[2]),(112,[3]),(113,[3]),(114,[3]),(115,[3]),(116,[2]),(118,[3]),(119,[3]),(120,[2]),(124,[10]),(126,[3]),(127,[3]),(128,[3]),(131,[3]),(132,[3])]⟩
def mZ:List RV:=[.cell 4 true 4,.tmp 5]
namespace DE
def J3 (a:AW) (b:AE) (t:Int) (l:Bool) (e:List Int):Option (AE×Bool):=
if Aq (e.length) 8=true then
(gt b.CN a.A).bind λad=>
(gt b.Bt a.A).bind λac=>
some ((AE.mk (BE (b.PC+1)) (b.CN.set a.A.toNat t) (b.Bt.set a.A.toNat e) b.AX),l)
else none
def J2 (a:AW) (b:AE):Option (AE×Bool):=
if a.Op==5 then
some ((AE.mk a.A b.CN b.Bt b.AX),true)
else
if a.Op==1 then
J3 a b a.N true []
else
if a.Op==2 then
(gt b.CN a.B).bind λu=>
(gt b.Bt a.B).bind λv=>
J3 a b u true v
else
if a.Op==3 then
(DN a.N).bind λp=>
(gt b.CN a.B).bind λw=>
(Hg p w).bind λf=>
(gt b.Bt a.B).bind λx=>
J3 a b f.1 f.2 x
else
(DN a.N).bind λq=>
(gt b.CN a.B).bind λy=>
(gt b.CN a.C).bind λz=>
(EC q y z).bind λi=>
(gt b.Bt a.B).bind λaa=>
(gt b.Bt a.C).bind λab=>
(Cx aa ab).bind λs=>
J3 a b i.1 i.2 s
def J1 (L1:Int->Option (AE×Bool)) (c:Int) (o:Bool):Option (AE×Bool):=
if o then
some ((AE.mk 0 [] [] 0),false)
else
L1 (BE (c+1))
def L1 (a:AW) (b:AE) (d:List Int) (L1:Int->Option (AE×Bool)) (c:Int):Option (AE×Bool):=
if decide (c<(d.length:Int))then
(gt d c).bind λj=>
if decide (j<0)then
J1 L1 c true
else
J1 L1 c (decide (j≥(b.CN.length:Int)))
else
J2 a b
def Ac (a:AW) (b:AE) (d:List Int):Nat->Int->Option (AE×Bool)
|0,_=>none
|n+1,c=>L1 a b d (Ac a b d n) c
end DE
section
open DE
def DE (a:AW) (b:AE):Option (AE×Bool):=
(AQ a).bind λd=>
Ac a b d Bo 0
theorem SL {a:AW} {b:AE} {r:AE×Bool} (h:DE a b=some r):Says Tryz.prog 131 [.agg (C7 a),.agg (BN b)] (.A9 [.agg (BN r.1),sb r.2]):=by
 refine wO mix Tryz.func131 (I:=⟨mX,mY,mZ⟩) ?_
 simp only[mX,mY,mZ]
 have a1:= @Gm
 have a2:= @Nz
 have a3:= @RE
 have a4:= @Pe
 have a5:= @Kn
 have l1:=λn1 n2 n3 n4:Nat=>BM λn τ=>∃(d:List Int) (c:Int),(τ 2=bA 6 (C7 a)/\τ 3=bA 4 (BN b)/\τ 4=bA 4 z6/\τ 6=vO 1 eI d/\τ 7=si c)/\Ac a b d n c=some r
 unfold DE at h
 exact walk
end
end Go.Abs
