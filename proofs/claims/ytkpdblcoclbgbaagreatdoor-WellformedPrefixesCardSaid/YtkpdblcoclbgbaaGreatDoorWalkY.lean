/- Typed programs of Go functions, and that the functions do what these say. -/
import Derived.Test.YtkpdblcoclbgbaaGreatDoorBaseA
import Derived.Test.YtkpdblcoclbgbaaGreatDoorWalkX
import Derived.Shelf.Slices.SearchI
set_option linter.unusedSimpArgs false
set_option linter.unusedVariables false
namespace Go.Abs
open Go.Proofs
set_option maxRecDepth 100000
set_option maxHeartbeats 4000000
def zY:IC:=(Ra 0 [.b 2 [10,18,27,32,41] (.bx 6 (.t 0)),.b 3 [7,15,24] (.bx 4 (.t 1)),.B 4 false]
(Sq (Bw 1 (Rc 7 [.f 0 3,.Z 8,.f 1 2,.Z 11,.O .neq 9 12,.C 13,.G 14 false,.f 2 3,.Z 16,.f 3 2,.Z 19,.O .neq 17 20,.e,.V 14 21,.C 22,.G 23 false,.f 3 3,.Z 25,.f 4 2,.Z 28,.O .neq 26 29,.e,.V 23 30])
(Ci 31 (Rb 0 [.B 4 false])))
(Sq (Ra 32 [.f 2 2,.Z 33,.Y 0]
(Bl 0 (Ra 36 [.O .lss 35 34]
(Sq (cX 36 0)
(Sq (Bk 1 (Ra 37 [.I 2 33 35,.A 2 37,.b 6 [39] (.bx 2 (.c (.agg [Ao ⟨#[]⟩,si 0]))),.S 2 6 38]
(Ra 39 [.f 1 6,.f 1 2,.Z 42,.c 54 [40,43] 0,.N 44]
(Ci 45 (Rb 0 [.B 4 false])))))
(Rc 46 [.P .add 35 1,.w 35,.C 46]))))))
(Rb 0 [.B 4 true]))))
def zZ:Gi:=⟨[(7,[3]),(10,[2]),(15,[3]),(18,[2]),(24,[3]),(27,[2]),(32,[2]),(39,[6]),(41,[2])]⟩
def AAA:List RV:=[.tmp 4]
namespace DY
def J2:Option Bool:=
some true
def L1 (a:AB) (L1:Int->Option Bool) (b:Int):Option Bool:=
if decide (b<(a.Au.length:Int))then
(gt a.Au b).bind λf=>
(CV f.Mutex (a.AG.length:Int)).bind λe=>
if !e then
some false
else
L1 (BE (b+1))
else
J2
def Ac (a:AB):Nat->Int->Option Bool
|0,_=>none
|n+1,b=>L1 a (Ac a n) b
def J1 (a:AB) (d:Bool):Option Bool:=
if d then
some false
else
Ac a Bo 0
end DY
section
open DY
def DY (a:AB) (c:AO):Option Bool:=
if(c.AG.length:Int) != (a.AG.length:Int)then
J1 a true
else
if(c.Ce.length:Int) != (a.AH.length:Int)then
J1 a true
else
J1 a ((c.AA.length:Int) != (a.AA.length:Int))
theorem Kb {a:AB} {c:AO} {r:Bool} (h:DY a c=some r):Says Tryz.prog 53 [.agg (Ap a),.agg (GZ c)] (sb r):=by
 refine wO mix Tryz.func53 (I:=⟨zY,zZ,AAA⟩) ?_
 simp only[zY,zZ,AAA]
 have a1:= @HR
 have l1:=λn1 n2 n3 n4:Nat=>BM λn τ=>∃(b:Int),(τ 2=bA 6 (Ap a)/\τ 33=vS 2 HH a.Au/\τ 34=si (a.Au.length:Int)/\τ 35=si b)/\Ac a n b=some r
 have c1:=λn1 n2 n3 n4:Nat=>B7 1 λτ=>∃(d:Bool),(τ 2=bA 6 (Ap a)/\τ 31=sb d)/\J1 a d=some r
 unfold DY at h
 exact walk
end
def xQ:IC:=(Ra 0 [.b 2 [13,22,31] (.bx 6 (.t 0)),.b 3 [6,10,19,28] (.bx 7 (.t 1)),.B 4 false]
(Rb 5 [.A 6 2,.F 0 3,.A 4 6,.c 53 [5,7] 0,.C 8,.G 9 true,.f 4 3,.Z 11,.f 0 2,.Z 14,.O .eql 12 15,.e,.W 9 16,.C 17,.G 18 true,.f 5 3,.Z 20,.f 3 2,.Z 23,.O .eql 21 24,.e,.W 18 25,.C 26,.G 27 true,.f 6 3,.Z 29,.f 4 2,.Z 32,.O .eql 30 33,.e,.W 27 34,.M 4 35]))
def xR:Gi:=⟨[(6,[3]),(10,[3]),(13,[2]),(19,[3]),(22,[2]),(28,[3]),(31,[2])]⟩
def xS:List RV:=[.tmp 4]
namespace DS
def J1 (c:Bool):Option Bool:=
some c
end DS
section
open DS
def DS (b:AB) (a:AM):Option Bool:=
(DY b a.Sync).bind λd=>
if d then
if(a.Cells.length:Int)==(b.Cells.length:Int)then
if(a.AH.length:Int)==(b.AH.length:Int)then
J1 ((a.Count.length:Int)==(b.AA.length:Int))
else
J1 false
else
J1 false
else
J1 false
theorem Mq {b:AB} {a:AM} {r:Bool} (h:DS b a=some r):Says Tryz.prog 28 [.agg (Ap b),.agg (Cz a)] (sb r):=by
 refine wO mix Tryz.func28 (I:=⟨xQ,xR,xS⟩) ?_
 simp only[xQ,xR,xS]
 have a1:= @Kb
 unfold DS at h
 exact walk
end
def AAE:IC:=(Ra 0 [.b 3 [22,30,35,49,54,67,75,83] (.bx 6 (.t 0)),.B 6 false]
(Sq (Ra 7 [.C 1]
(Bk 0 (Bw 1 (Ra 9 [.q 7 1 8]
(Cn 8 .skip (Ra 10 [.q 7 2 8]
(Cn 8 .skip (Ra 11 [.q 7 5 8]
(Cn 8 .skip (Ra 12 [.q 7 12 8]
(Cn 8 .skip (Ra 13 [.q 7 13 8]
(Cn 8 .skip (Ra 14 [.q 7 14 8]
(Cn 8 .skip (Rc 15 [.q 7 15 8])))))))))))))
(Cn 8 (Rb 16 [.C 2,.q 16 (-1) 6]) (Bw 2 (Ra 19 [.q 7 3 18]
(Cn 18 .skip (Rc 20 [.q 7 4 18])))
(Cn 18 (Rb 21 [.C 2,.f 0 3,.Z 23,.c 54 [21,24] 0,.M 6 25]) (Bw 3 (Ra 27 [.q 7 6 26]
(Cn 26 .skip (Rc 28 [.q 7 7 26])))
(Cn 26 (Rb 29 [.C 2,.f 1 3,.Z 31,.c 54 [29,32] 0,.C 33,.G 34 true,.f 1 3,.C 2,.I 2 36 37,.U 1 38,.N 40,.e,.W 34 41,.M 6 42]) (Bw 5 (Ra 44 [.q 7 8 43]
(Cn 43 .skip (Ra 45 [.q 7 9 43]
(Cn 43 .skip (Ra 46 [.q 7 10 43]
(Cn 43 .skip (Rc 47 [.q 7 11 43])))))))
(Cn 43 (Rb 48 [.C 2,.f 1 3,.Z 50,.c 54 [48,51] 0,.C 52,.G 53 true,.f 1 3,.C 2,.I 2 55 56,.U 1 57,.e,.W 53 59,.M 6 60]) (Bw 7 (Ra 62 [.q 7 16 61]
(Cn 61 .skip (Ra 63 [.q 7 17 61]
(Cn 61 .skip (Ra 64 [.q 7 18 61]
(Cn 61 .skip (Rc 65 [.q 7 19 61])))))))
(Cn 61 (Rb 66 [.C 2,.f 2 3,.Z 68,.c 54 [66,69] 0,.M 6 70]) (Sq (Ra 72 [.q 7 20 71]
(Cn 71 .skip (Rc 73 [.q 7 21 71])))
(Cn 71 (Rb 74 [.C 2,.f 4 3,.Z 76,.c 54 [74,77] 0,.M 6 78]) (Sq (Ra 80 [.q 7 22 79]
(Cn 79 .skip (Rc 81 [.q 7 23 79])))
(Ci 79 (Rb 82 [.C 2,.f 3 3,.Z 84,.c 54 [82,85] 0,.M 6 86])))))))))))))))))
(Rb 0 [.B 6 false])))
def AAF:Gi:=⟨[(22,[3]),(30,[3]),(35,[3]),(49,[3]),(54,[3]),(67,[3]),(75,[3]),(83,[3])]⟩
def AAG:List RV:=[.tmp 6]
namespace Bc
def J4 (l:Bool):Option Bool:=
some l
def J6 (o:Bool):Option Bool:=
some o
def J9 (b:Int) (c:AB) (q:Bool):Option Bool:=
if q then
(CV b (c.AH.length:Int)).bind λx=>
some x
else
some false
def J8 (a b:Int) (c:AB) (p:Bool):Option Bool:=
if p then
(CV b (c.AA.length:Int)).bind λw=>
some w
else
if a==22 then
J9 b c (a==22)
else
J9 b c (a==23)
def J7 (a b:Int) (c:AB) (i:Bool):Option Bool:=
if i then
(CV b (c.Au.length:Int)).bind λv=>
some v
else
if a==20 then
J8 a b c (a==20)
else
J8 a b c (a==21)
def J5 (a b:Int) (c:AB) (f:Bool):Option Bool:=
if f then
(CV b (c.AG.length:Int)).bind λu=>
if u then
(gt c.AG b).bind λz=>
J6 z.RW
else
J6 false
else
if a==16 then
J7 a b c (a==16)
else
if a==17 then
J7 a b c (a==17)
else
if a==18 then
J7 a b c (a==18)
else
J7 a b c (a==19)
def J3 (a b:Int) (c:AB) (e:Bool):Option Bool:=
if e then
(CV b (c.AG.length:Int)).bind λt=>
if t then
(gt c.AG b).bind λy=>
J4 (!y.RW)
else
J4 false
else
if a==8 then
J5 a b c (a==8)
else
if a==9 then
J5 a b c (a==9)
else
if a==10 then
J5 a b c (a==10)
else
J5 a b c (a==11)
def J2 (a b:Int) (c:AB) (d:Bool):Option Bool:=
if d then
(CV b (c.Cells.length:Int)).bind λs=>
some s
else
if a==6 then
J3 a b c (a==6)
else
J3 a b c (a==7)
def J1 (a b:Int) (c:AB) (j:Bool):Option Bool:=
if j then
some (b==(-1))
else
if a==3 then
J2 a b c (a==3)
else
J2 a b c (a==4)
end Bc
section
open Bc
def Bc (c:AB) (a b:Int):Option Bool:=
if a==1 then
J1 a b c (a==1)
else
if a==2 then
J1 a b c (a==2)
else
if a==5 then
J1 a b c (a==5)
else
if a==12 then
J1 a b c (a==12)
else
if a==13 then
J1 a b c (a==13)
else
if a==14 then
J1 a b c (a==14)
else
J1 a b c (a==15)
theorem NZ {c:AB} {a b:Int} {r:Bool} (h:Bc c a b=some r):Says Tryz.prog 55 [.agg (Ap c),si a,si b] (sb r):=by
 refine wO mix Tryz.func55 (I:=⟨AAE,AAF,AAG⟩) ?_
 simp only[AAE,AAF,AAG]
 have a1:= @HR
 have c7:=λn1 n2 n3 n4:Nat=>B7 7 λτ=>∃(i:Bool),(τ 2=si b/\τ 3=bA 6 (Ap c)/\τ 7=si a/\τ 61=sb i)/\J7 a b c i=some r
 have c5:=λn1 n2 n3 n4:Nat=>B7 5 λτ=>∃(f:Bool),(τ 2=si b/\τ 3=bA 6 (Ap c)/\τ 7=si a/\τ 43=sb f)/\J5 a b c f=some r
 have c3:=λn1 n2 n3 n4:Nat=>B7 3 λτ=>∃(e:Bool),(τ 2=si b/\τ 3=bA 6 (Ap c)/\τ 7=si a/\τ 26=sb e)/\J3 a b c e=some r
 have c2:=λn1 n2 n3 n4:Nat=>B7 2 λτ=>∃(d:Bool),(τ 2=si b/\τ 3=bA 6 (Ap c)/\τ 7=si a/\τ 18=sb d)/\J2 a b c d=some r
 have c1:=λn1 n2 n3 n4:Nat=>B7 1 λτ=>∃(j:Bool),(τ 2=si b/\τ 3=bA 6 (Ap c)/\τ 7=si a/\τ 8=sb j)/\J1 a b c j=some r
 unfold Bc at h
 exact walk
end
def mC:IC:=(Ra 0 [.K 4 0]
(Sq (Ra 6 [.C 0,.Z 6,.Y 0]
(Bl 0 (Ra 9 [.O .lss 8 7]
(Sq (cX 9 0)
(Sq (Bk 1 (Ra 10 [.C 8,.M 5 10]
(Ra 11 [.C 1,.C 0,.C 5,.I 1 12 13,.L 14,.O .eql 11 15]
(Ci 16 (Rb 17 [.C 5,.M 4 17])))))
(Rc 18 [.P .add 8 1,.w 8,.C 18]))))))
(Rb 0 [.K 4 (-1)])))
def mD:Gi:=⟨[]⟩
def mE:List RV:=[.tmp 4]
namespace EE
def J1:Option Int:=
some (-1)
def L1 (a:List Int) (b:Int) (L1:Int->Option Int) (c:Int):Option Int:=
if decide (c<(a.length:Int))then
(gt a c).bind λd=>
if b==d then
some c
else
L1 (BE (c+1))
else
J1
def Ac (a:List Int) (b:Int):Nat->Int->Option Int
|0,_=>none
|n+1,c=>L1 a b (Ac a b n) c
end EE
section
open EE
def EE (a:List Int) (b:Int):Option Int:=
Ac a b Bo 0
theorem Pl {a:List Int} {b r:Int} (h:EE a b=some r):Says Tryz.prog 113 [vS 1 eI a,si b] (si r):=by
 refine wO mix Tryz.func113 (I:=⟨mC,mD,mE⟩) ?_
 simp only[mC,mD,mE]
 have l1:=λn1 n2 n3 n4:Nat=>BM λn τ=>∃(c:Int),(τ 0=vS 1 eI a/\τ 1=si b/\τ 7=si (a.length:Int)/\τ 8=si c)/\Ac a b n c=some r
 unfold EE at h
 exact walk
end
end Go.Abs
