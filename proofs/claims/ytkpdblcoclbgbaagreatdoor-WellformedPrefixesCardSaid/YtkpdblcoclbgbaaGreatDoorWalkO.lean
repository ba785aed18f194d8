/- Typed programs of Go functions, and that the functions do what these say. -/
import Derived.Test.YtkpdblcoclbgbaaGreatDoorBaseA
import Derived.Test.YtkpdblcoclbgbaaGreatDoorWalkA
import Derived.Test.YtkpdblcoclbgbaaGreatDoorWalkM
import Derived.Test.YtkpdblcoclbgbaaGreatDoorWalkN
import Derived.Shelf.Slices.SearchI
set_option linter.unusedSimpArgs false
set_option linter.unusedVariables false
namespace Go.Abs
open Go.Proofs
set_option maxRecDepth 100000
set_option maxHeartbeats 4000000
def ABs:IC:=(Ra 0 [.B 4 false]
(Sq (Ra 0 [.K 5 0]
(Bl 0 (Sq (Ra 6 [.C 5,.C 0,.Z 7,.O .leq 6 8]
(cX 9 0))
(Sq (Bk 1 (Sq (Ra 12 [.C 1,.P .lss 12 0,.C 13,.G 14 false,.C 1,.C 0,.Z 16,.O .geq 15 17,.e,.V 14 18]
(Ci 19 (Rb 0 [.B 4 false])))
(Sq (Ra 20 [.C 0,.C 1,.I 6 20 21,.U 0 22,.c 126 [24] 0,.N 25]
(Ci 26 (Rb 0 [.B 4 true])))
(Ra 27 [.C 0,.C 1,.I 6 27 28,.U 0 29,.Q 31 5]
(Cn 32 (Rc 33 [.C 0,.C 1,.I 6 33 34,.U 1 35,.M 1 37]) (Rc 38 [.C 1,.P .add 38 1,.M 1 39]))))))
(Rc 10 [.C 5,.P .add 10 1,.M 5 11])))))
(Rb 0 [.B 4 false])))
def ABt:Gi:=⟨[]⟩
def ABu:List RV:=[.tmp 4]
namespace Ca
def J3:Option Bool:=
some false
def J2 (L1:Int->Int->Option Bool) (b f:Int):Option Bool:=
L1 f (BE (b+1))
def J1 (L1:Int->Int->Option Bool) (c:Int) (a:List AW) (b:Int) (i:Bool):Option Bool:=
if i then
some false
else
(gt a c).bind λe=>
(ED e.Op).bind λj=>
if !j then
some true
else
if e.Op==5 then
J2 L1 b e.A
else
J2 L1 b (BE (c+1))
def L1 (a:List AW) (L1:Int->Int->Option Bool) (c b:Int):Option Bool:=
if decide (b≤(a.length:Int))then
if decide (c<0)then
J1 L1 c a b true
else
J1 L1 c a b (decide (c≥(a.length:Int)))
else
J3
def Ac (a:List AW):Nat->Int->Int->Option Bool
|0,_,_=>none
|n+1,c,b=>L1 a (Ac a n) c b
end Ca
section
open Ca
def Ca (a:List AW) (d:Int):Option Bool:=
Ac a Bo d 0
theorem RH {a:List AW} {d:Int} {r:Bool} (h:Ca a d=some r):Says Tryz.prog 96 [vS 6 C7 a,si d] (sb r):=by
 refine wO mix Tryz.func96 (I:=⟨ABs,ABt,ABu⟩) ?_
 simp only[ABs,ABt,ABu]
 have a1:= @Jj
 have l1:=λn1 n2 n3 n4:Nat=>BM λn τ=>∃(c b:Int),(τ 0=vS 6 C7 a/\τ 1=si c/\τ 5=si b)/\Ac a n c b=some r
 unfold Ca at h
 exact walk
end
def AAT:IC:=(Ra 0 [.b 3 [83,89] (.bx 6 (.t 0)),.b 5 [12,15,19,32,62,135] (.bx 2 (.t 2)),.B 6 false]
(Ra 12 [.f 1 5,.Z 13,.M 7 14]
(Sq (Bw 1 (Rc 15 [.f 0 5,.P .lss 16 0,.C 17,.G 18 false,.f 0 5,.P .gtr 20 32,.e,.V 18 21,.C 22,.G 23 false,.C 7,.P .eql 24 0,.e,.V 23 25])
(Ci 26 (Rb 0 [.B 6 false])))
(Sq (Ra 0 [.K 8 0]
(Bl 0 (Sq (Ra 27 [.C 8,.C 7,.O .lss 27 28]
(cX 29 0))
(Sq (Bk 1 (Ra 32 [.f 1 5,.C 8,.I 6 33 34,.A 6 35,.b 9 [37,41,46,68,72,77,81,91,101,105,112,116] (.bx 6 (.c (.agg z9))),.S 6 9 36]
(Sq (Bw 2 (Rc 37 [.f 0 9,.P .lss 38 1,.C 39,.G 40 false,.f 0 9,.P .gtr 42 28,.e,.V 40 43,.C 44,.G 45 false,.f 0 9,.P .eql 47 28,.C 8,.C 7,.P .sub 50 1,.O .eql 49 51,.o (.beq true (.t 48) (.t 52)),.e,.V 45 53,.C 54,.G 55 false,.o (.ld true 6 (.t 3)),.o (.ld true 6 (.t 9)),.c 95 [56,57] 0,.N 58,.e,.V 55 59,.C 60,.G 61 false,.f 1 5,.C 8,.c 96 [63,64] 0,.N 65,.e,.V 61 66])
(Ci 67 (Rb 0 [.B 6 false])))
(Sq (Bw 3 (Rc 68 [.f 0 9,.Q 69 28,.C 70,.G 71 true,.f 5 9,.P .neq 73 (-1),.e,.W 71 74,.C 75,.G 76 false,.f 0 9,.P .neq 78 28,.C 79,.G 80 true,.f 5 9,.f 5 3,.Z 84,.c 97 [82,85] 0,.N 86,.C 87,.G 88 false,.f 5 3,.f 5 9,.I 3 90 92,.U 0 93,.C 1,.O .neq 95 96,.G 80 true,.o (.pick (.t 88) (.c (sb true)) (.t 97)),.G 76 false,.o (.pick (.t 80) (.t 98) (.c (sb false))),.e,.V 76 99])
(Ci 100 (Rb 0 [.B 6 false])))
(Sq (Bw 4 (Rc 101 [.f 0 9,.Q 102 5,.C 103,.G 104 true,.f 1 9,.C 7,.c 97 [106,107] 0,.N 108,.e,.W 104 109,.C 110,.G 111 false,.f 0 9,.P .eql 113 10,.C 114,.G 115 true,.f 2 9,.C 7,.c 97 [117,118] 0,.N 119,.G 111 false,.o (.pick (.t 115) (.t 120) (.c (sb false))),.e,.V 111 121])
(Ci 122 (Rb 0 [.B 6 false])))
(Ra 123 [.A 6 9,.c 70 [123] 2,.b 10 [126,131,133] (.mv (.t 124))]
(Ra 0 [.K 11 0]
(Bl 2 (Sq (Ra 125 [.C 11,.y 10 (.cp (.t 10)),.Z 126,.O .lss 125 127]
(cX 128 2))
(Sq (Bk 3 (Ra 131 [.y 10 (.cp (.t 10)),.C 11,.J 10 1 131 132,.L 133,.f 0 5,.c 97 [134,136] 0,.N 137]
(Ci 138 (Rb 0 [.B 6 false]))))
(Rc 129 [.C 11,.P .add 129 1,.M 11 130])))))))))))
(Rc 30 [.C 8,.P .add 30 1,.M 8 31])))))
(Rb 0 [.B 6 true])))))
def AAU:Gi:=⟨[(12,[5]),(15,[5]),(19,[5]),(32,[5]),(37,[9]),(41,[9]),(46,[9]),(62,[5]),(68,[9]),(72,[9]),(77,[9]),(81,[9]),(83,[3]),(89,[3]),(91,[9]),(101,[9]),(105,[9]),(112,[9]),(116,[9]),(126,[10]),(131,[10]),(133,[10]),(135,[5])]⟩
def AAV:List RV:=[.tmp 6]
namespace AU
def J6:Option Bool:=
some true
def J5 (L1:Int->Option Bool) (b:Int):Option Bool:=
L1 (BE (b+1))
def L2 (L1:Int->Option Bool) (a:Ak) (b:Int) (f:List Int) (L2:Int->Option Bool) (i:Int):Option Bool:=
if decide (i<(f.length:Int))then
(gt f i).bind λab=>
(Cs ab a.CN).bind λy=>
if !y then
some false
else
L2 (BE (i+1))
else
J5 L1 b
def Da (L1:Int->Option Bool) (a:Ak) (b:Int) (f:List Int):Nat->Int->Option Bool
|0,_=>none
|n+1,i=>L2 L1 a b f (Da L1 a b f n) i
def J4 (L1:Int->Option Bool) (a:Ak) (b:Int) (c:AW) (l:Bool):Option Bool:=
if l then
some false
else
(AQ c).bind λf=>
Da L1 a b f Bo 0
def J3 (L1:Int->Option Bool) (a:Ak) (b:Int) (c:AW) (j:Bool):Option Bool:=
if j then
some false
else
if c.Op==5 then
(Cs c.A (a.B3.length:Int)).bind λv=>
if !v then
J4 L1 a b c true
else
if c.Op==10 then
(Cs c.B (a.B3.length:Int)).bind λw=>
J4 L1 a b c (!w)
else
J4 L1 a b c false
else
if c.Op==10 then
(Cs c.B (a.B3.length:Int)).bind λx=>
J4 L1 a b c (!x)
else
J4 L1 a b c false
def J2 (L1:Int->Option Bool) (a:Ak) (b e:Int) (d:AB) (c:AW) (p:Bool):Option Bool:=
if p then
some false
else
if c.Op==28 then
if c.Site != (-1)then
J3 L1 a b c true
else
if c.Op != 28 then
(Cs c.Site (d.BA.length:Int)).bind λt=>
if !t then
J3 L1 a b c true
else
(gt d.BA c.Site).bind λz=>
J3 L1 a b c (z.Thread != e)
else
J3 L1 a b c false
else
if c.Op != 28 then
(Cs c.Site (d.BA.length:Int)).bind λu=>
if !u then
J3 L1 a b c true
else
(gt d.BA c.Site).bind λaa=>
J3 L1 a b c (aa.Thread != e)
else
J3 L1 a b c false
def L1 (a:Ak) (e:Int) (d:AB) (L1:Int->Option Bool) (b:Int):Option Bool:=
if decide (b<(a.B3.length:Int))then
(gt a.B3 b).bind λc=>
if decide (c.Op<1)then
J2 L1 a b e d c true
else
if decide (c.Op>28)then
J2 L1 a b e d c true
else
if !((c.Op==28)==(b==(BE ((a.B3.length:Int)-1))))then
J2 L1 a b e d c true
else
(Ad d c).bind λq=>
if !q then
J2 L1 a b e d c true
else
(Ca a.B3 b).bind λs=>
J2 L1 a b e d c (!s)
else
J6
def Ac (a:Ak) (e:Int) (d:AB):Nat->Int->Option Bool
|0,_=>none
|n+1,b=>L1 a e d (Ac a e d n) b
def J1 (a:Ak) (e:Int) (d:AB) (o:Bool):Option Bool:=
if o then
some false
else
Ac a e d Bo 0
end AU
section
open AU
def AU (d:AB) (e:Int) (a:Ak):Option Bool:=
if decide (a.CN<0)then
J1 a e d true
else
if decide (a.CN>32)then
J1 a e d true
else
J1 a e d ((a.B3.length:Int)==0)
theorem Km {d:AB} {e:Int} {a:Ak} {r:Bool} (h:AU d e a=some r):Says Tryz.prog 64 [.agg (Ap d),si e,.agg (Bq a)] (sb r):=by
 refine wO mix Tryz.func64 (I:=⟨AAT,AAU,AAV⟩) ?_
 simp only[AAT,AAU,AAV]
 have a1:= @Gm
 have a2:= @Kl
 have a3:= @Of
 have a4:= @RH
 have l1:=λn1 n2 n3 n4:Nat=>BM λn τ=>∃(b:Int),(τ 1=si e/\τ 3=bA 6 (Ap d)/\τ 5=bA 2 (Bq a)/\τ 7=si (a.B3.length:Int)/\τ 8=si b)/\Ac a e d n b=some r
 have l2:=λn1 n2 n3 n4:Nat=>BM λn τ=>∃(b:Int) (f:List Int) (i:Int),(τ 1=si e/\τ 3=bA 6 (Ap d)/\τ 5=bA 2 (Bq a)/\τ 7=si (a.B3.length:Int)/\τ 8=si b/\τ 10=vO 1 eI f/\τ 11=si i)/\Da (Ac a e d n1) a b f n i=some r
 have c4:=λn1 n2 n3 n4:Nat=>B7 4 λτ=>∃(b:Int) (c:AW) (l:Bool),(τ 1=si e/\τ 3=bA 6 (Ap d)/\τ 5=bA 2 (Bq a)/\τ 7=si (a.B3.length:Int)/\τ 8=si b/\τ 9=bA 6 (C7 c)/\τ 122=sb l)/\J4 (Ac a e d n1) a b c l=some r
 have c3:=λn1 n2 n3 n4:Nat=>B7 3 λτ=>∃(b:Int) (c:AW) (j:Bool),(τ 1=si e/\τ 3=bA 6 (Ap d)/\τ 5=bA 2 (Bq a)/\τ 7=si (a.B3.length:Int)/\τ 8=si b/\τ 9=bA 6 (C7 c)/\τ 100=sb j)/\J3 (Ac a e d n1) a b c j=some r
 have c2:=λn1 n2 n3 n4:Nat=>B7 2 λτ=>∃(b:Int) (c:AW) (p:Bool),(τ 1=si e/\τ 3=bA 6 (Ap d)/\τ 5=bA 2 (Bq a)/\τ 7=si (a.B3.length:Int)/\τ 8=si b/\τ 9=bA 6 (C7 c)/\τ 67=sb p)/\J2 (Ac a e d n1) a b e d c p=some r
 have c1:=λn1 n2 n3 n4:Nat=>B7 1 λτ=>∃(o:Bool),(τ 1=si e/\τ 3=bA 6 (Ap d)/\τ 5=bA 2 (Bq a)/\τ 7=si (a.B3.length:Int)/\τ 26=sb o)/\J1 a e d o=some r
 unfold AU at h
 exact walk
end
def yL:IC:=(Ra 0 [.b 1 [4,9,12,13,19,25,28] (.bx 7 (.t 0)),.B 2 false]
(Sq (Ra 4 [.F 0 1,.A 6 4,.c 19 [5] 0,.N 6,.C 7,.G 8 false,.f 6 1,.Z 10,.F 0 1,.h 1 4 12,.Z 14,.O .neq 11 15,.e,.V 8 16]
(Ci 17 (Rb 0 [.B 2 false])))
(Sq (Ra 0 [.K 3 0]
(Bl 0 (Sq (Ra 18 [.C 3,.f 6 1,.Z 20,.O .lss 18 21]
(cX 22 0))
(Sq (Bk 1 (Ra 25 [.F 0 1,.A 6 25,.C 3,.f 6 1,.C 3,.I 2 29 30,.A 2 31,.c 64 [26,27,32] 0,.N 33]
(Ci 34 (Rb 0 [.B 2 false]))))
(Rc 23 [.C 3,.P .add 23 1,.M 3 24])))))
(Rb 0 [.B 2 true]))))
def yM:Gi:=⟨[(4,[1]),(9,[1]),(12,[1]),(13,[1]),(19,[1]),(25,[1]),(28,[1])]⟩
def yN:List RV:=[.tmp 2]
namespace CH
def J2:Option Bool:=
some true
def L1 (a:BB) (L1:Int->Option Bool) (b:Int):Option Bool:=
if decide (b<(a.AA.length:Int))then
(gt a.AA b).bind λf=>
(AU a.World b f).bind λe=>
if !e then
some false
else
L1 (BE (b+1))
else
J2
def Ac (a:BB):Nat->Int->Option Bool
|0,_=>none
|n+1,b=>L1 a (Ac a n) b
def J1 (a:BB) (c:Bool):Option Bool:=
if c then
some false
else
Ac a Bo 0
end CH
section
open CH
def CH (a:BB):Option Bool:=
(Ah a.World).bind λd=>
if !d then
J1 a true
else
J1 a ((a.AA.length:Int) != (a.World.AA.length:Int))
theorem IQ {a:BB} {r:Bool} (h:CH a=some r):Says Tryz.prog 36 [.agg (Gp a)] (sb r):=by
 refine wO mix Tryz.func36 (I:=⟨yL,yM,yN⟩) ?_
 simp only[yL,yM,yN]
 have a1:= @Km
 have a2:= @Jq
 have l1:=λn1 n2 n3 n4:Nat=>BM λn τ=>∃(b:Int),(τ 1=bA 7 (Gp a)/\τ 3=si b)/\Ac a n b=some r
 unfold CH at h
 exact walk
end
def zJ:IC:=(Ra 2 [.b 1 [10,23,35] (.bx 6 (.t 0)),.o (.bx 4 (.c (.agg z4)))]
(Ra 8 [.o (.Dc z4 [(1,1,.c (si (-1)))]),.b 3 [16,17,21,29,30,33,45,46,50,51] (.bx 4 (.c (.agg z4))),.S 4 3 8]
(Sq (Ra 0 [.K 4 0]
(Bl 0 (Sq (Ra 9 [.C 4,.f 1 1,.Z 11,.O .lss 9 12]
(cX 13 0))
(Sq (Bk 1 (Rc 16 [.m 3 0 3,.o (.Dc kN [(0,1,.c (si (-1)))]),.o (.Eg 2 [kN] [(0,.t 18)]),.o (.app 2 32 (.t 17) (.t 19)),.F 0 3,.S 1 21 20]))
(Rc 14 [.C 4,.P .add 14 1,.M 4 15])))))
(Sq (Ra 0 [.K 5 0]
(Bl 2 (Sq (Ra 22 [.C 5,.f 3 1,.Z 24,.O .lss 22 25]
(cX 26 2))
(Sq (Bk 3 (Rc 29 [.m 3 2 3,.o (.Eg 1 [[sb false]] [(0,.c (sb false))]),.o (.app 1 1 (.t 30) (.t 31)),.F 2 3,.S 1 33 32]))
(Rc 27 [.C 5,.P .add 27 1,.M 5 28])))))
(Sq (Ra 0 [.K 6 0]
(Bl 4 (Sq (Ra 34 [.C 6,.f 4 1,.Z 36,.O .lss 34 37]
(cX 38 4))
(Sq (Bk 5 (Ra 41 [.o (.Dc fD [(0,1,.c (si 0))]),.b 7 [44] (.bx 3 (.c (.agg fD))),.S 3 7 41]
(Sq (Ra 42 [.C 6,.Q 42 0]
(Ci 43 (Rc 44 [.F 0 7,.T 44 1])))
(Rc 45 [.m 3 3 3,.A 3 7,.o (.Eg 3 [fD] [(0,.t 47)]),.o (.app 3 24 (.t 46) (.t 48)),.F 3 3,.S 1 50 49]))))
(Rc 39 [.C 6,.P .add 39 1,.M 6 40])))))
(Rb 51 [.y 3 (.ld true 4 (.t 3)),.S 4 2 51]))))))
def zK:Gi:=⟨[(10,[1]),(16,[3]),(17,[3]),(21,[3]),(23,[1]),(29,[3]),(30,[3]),(33,[3]),(35,[1]),(44,[7]),(45,[3]),(46,[3]),(50,[3]),(51,[3])]⟩
def zL:List RV:=[.cell 2 true 4]
namespace Bj
def J4 (o:AO):Option AO:=
some o
def J3 (L3:AO->Int->Option AO) (c:Int) (b:AO) (p:AD):Option AO:=
if Aq (b.AA.length+1) 24=true then
L3 (AO.mk b.AG b.Tx b.Ce (b.AA++[p])) (BE (c+1))
else none
def L3 (a:AB) (L3:AO->Int->Option AO) (b:AO) (c:Int):Option AO:=
if decide (c<(a.AA.length:Int))then
if c==0 then
J3 L3 c b (AD.mk 1 0 false)
else
J3 L3 c b (AD.mk 0 0 false)
else
J4 b
def Gx (a:AB):Nat->AO->Int->Option AO
|0,_,_=>none
|n+1,b,c=>L3 a (Gx a n) b c
def J2 (a:AB) (l:AO):Option AO:=
Gx a Bo l 0
def L2 (a:AB) (L2:AO->Int->Option AO) (e:AO) (i:Int):Option AO:=
if decide (i<(a.AH.length:Int))then
if Aq (e.Ce.length+1) 1=true then
L2 (AO.mk e.AG e.Tx (e.Ce++[false]) e.AA) (BE (i+1))
else none
else
J2 a e
def Da (a:AB):Nat->AO->Int->Option AO
|0,_,_=>none
|n+1,e,i=>L2 a (Da a n) e i
def J1 (a:AB) (j:AO):Option AO:=
Da a Bo j 0
def L1 (a:AB) (L1:AO->Int->Option AO) (d:AO) (f:Int):Option AO:=
if decide (f<(a.AG.length:Int))then
if Aq (d.AG.length+1) 32=true then
L1 (AO.mk (d.AG++[(AY.mk (-1) [])]) d.Tx d.Ce d.AA) (BE (f+1))
else none
else
J1 a d
def Ac (a:AB):Nat->AO->Int->Option AO
|0,_,_=>none
|n+1,d,f=>L1 a (Ac a n) d f
end Bj
section
open Bj
def Bj (a:AB):Option AO:=
Ac a Bo (AO.mk [] (-1) [] []) 0
theorem O5 {a:AB} {r:AO} (h:Bj a=some r):Says Tryz.prog 44 [.agg (Ap a)] (.agg (FK r)):=by
 refine wO mix Tryz.func44 (I:=⟨zJ,zK,zL⟩) ?_
 simp only[zJ,zK,zL]
 have l3:=λn1 n2 n3 n4:Nat=>BM λn τ=>∃(b:AO) (c:Int),(τ 1=bA 6 (Ap a)/\τ 2=bA 4 z4/\τ 3=bA 4 (FK b)/\τ 6=si c)/\Gx a n b c=some r
 have l2:=λn1 n2 n3 n4:Nat=>BM λn τ=>∃(e:AO) (i:Int),(τ 1=bA 6 (Ap a)/\τ 2=bA 4 z4/\τ 3=bA 4 (FK e)/\τ 5=si i)/\Da a n e i=some r
 have l1:=λn1 n2 n3 n4:Nat=>BM λn τ=>∃(d:AO) (f:Int),(τ 1=bA 6 (Ap a)/\τ 2=bA 4 z4/\τ 3=bA 4 (FK d)/\τ 4=si f)/\Ac a n d f=some r
 unfold Bj at h
 exact walk
end
end Go.Abs
