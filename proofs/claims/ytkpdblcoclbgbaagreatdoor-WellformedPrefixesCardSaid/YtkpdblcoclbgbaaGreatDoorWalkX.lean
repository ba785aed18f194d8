/- Typed programs of Go functions, and that the functions do what these say. -/
import Derived.Test.YtkpdblcoclbgbaaGreatDoorBaseA
import Derived.Test.YtkpdblcoclbgbaaGreatDoorWalkV
import Derived.Test.YtkpdblcoclbgbaaGreatDoorWalkW
import Derived.Shelf.Slices.SearchI
set_option linter.unusedSimpArgs false
set_option linter.unusedVariables false
namespace Go.Abs
open Go.Proofs
set_option maxRecDepth 100000
set_option maxHeartbeats 4000000
def wA:IC:=(Ra 0 [.b 1 [7,12,18,24,30,35,40,46,59] (.bx 6 (.t 0)),.B 2 false]
(Sq (Bw 1 (Rc 7 [.f 0 1,.Z 8,.P .gtr 9 12,.C 10,.G 11 false,.f 1 1,.Z 13,.P .gtr 14 4,.e,.V 11 15,.C 16,.G 17 false,.f 2 1,.Z 19,.P .gtr 20 2,.e,.V 17 21,.C 22,.G 23 false,.f 3 1,.Z 25,.P .gtr 26 2,.e,.V 23 27,.C 28,.G 29 false,.f 5 1,.Z 31,.P .gtr 32 60,.e,.V 29 33])
(Ci 34 (Rb 0 [.B 2 false])))
(Sq (Bw 2 (Rc 35 [.f 4 1,.Z 36,.P .lss 37 1,.C 38,.G 39 false,.f 4 1,.Z 41,.P .gtr 42 4,.e,.V 39 43])
(Ci 44 (Rb 0 [.B 2 false])))
(Ra 46 [.f 0 1,.b 48 [45,49,50] (.call 23 [.t 47] 2),.w 45,.y 48 (.cp (.t 48)),.w 49,.y 48 (.ext (.t 45) 0),.y 48 (.ext (.t 45) 1),.b 3 [55] (.mv (.t 49)),.b 4 [51] (.mv (.t 50))]
(Sq (Bw 3 (Rc 51 [.y 4 (.cp (.t 4)),.N 51,.C 52,.G 53 false,.o (.ld true 6 (.t 1)),.y 3 (.cp (.t 3)),.c 24 [54,55] 0,.N 56,.e,.V 53 57])
(Ci 58 (Rb 0 [.B 2 false])))
(Sq (Ra 59 [.f 2 1,.Z 60,.Y 0]
(Bl 0 (Ra 63 [.O .lss 62 61]
(Sq (cX 63 0)
(Sq (Bk 1 (Ra 64 [.I 2 60 62,.A 2 64,.b 6 [67] (.bx 2 (.c (.agg [Ao ⟨#[]⟩,si 0]))),.S 2 6 65]
(Ra 66 [.A 6 1,.f 1 6,.o (.call 25 [.t 66,.t 68,.c (sb false)] 0),.N 69]
(Ci 70 (Rb 0 [.B 2 false])))))
(Rc 71 [.P .add 62 1,.w 62,.C 71]))))))
(Rb 72 [.A 6 1,.c 26 [72] 0,.M 2 73])))))))
def wB:Gi:=⟨[(7,[1]),(12,[1]),(18,[1]),(24,[1]),(30,[1]),(35,[1]),(40,[1]),(45,[48]),(46,[1]),(49,[48]),(50,[48]),(51,[4]),(55,[3]),(59,[1]),(67,[6])]⟩
def wC:List RV:=[.tmp 2]
namespace BJ
def J4 (a:AB):Option Bool:=
(Bm a).bind λl=>
some l
def L1 (a:AB) (L1:Int->Option Bool) (b:Int):Option Bool:=
if decide (b<(a.Au.length:Int))then
(gt a.Au b).bind λo=>
(EG a o.Mutex false).bind λj=>
if !j then
some false
else
L1 (BE (b+1))
else
J4 a
def Ac (a:AB):Nat->Int->Option Bool
|0,_=>none
|n+1,b=>L1 a (Ac a n) b
def J3 (a:AB) (e:Bool):Option Bool:=
if e then
some false
else
Ac a Bo 0
def J2 (a:AB) (d:Bool):Option Bool:=
if d then
some false
else
(AP a.Cells).bind λf=>
if !f.2 then
J3 a true
else
(Ax a f.1).bind λi=>
J3 a (!i)
def J1 (a:AB) (c:Bool):Option Bool:=
if c then
some false
else
if decide ((a.AA.length:Int)<1)then
J2 a true
else
J2 a (decide ((a.AA.length:Int)>4))
end BJ
section
open BJ
def BJ (a:AB):Option Bool:=
if decide ((a.Cells.length:Int)>12)then
J1 a true
else
if decide ((a.AG.length:Int)>4)then
J1 a true
else
if decide ((a.Au.length:Int)>2)then
J1 a true
else
if decide ((a.AH.length:Int)>2)then
J1 a true
else
J1 a (decide ((a.BA.length:Int)>60))
theorem Js {a:AB} {r:Bool} (h:BJ a=some r):Says Tryz.prog 12 [.agg (Ap a)] (sb r):=by
 refine wO mix Tryz.func12 (I:=⟨wA,wB,wC⟩) ?_
 simp only[wA,wB,wC]
 have a1:= @Jt
 have a2:= @Jv
 have a3:= @NB
 have a4:= @Ju
 have l1:=λn1 n2 n3 n4:Nat=>BM λn τ=>∃(b:Int),(τ 1=bA 6 (Ap a)/\τ 60=vS 2 HH a.Au/\τ 61=si (a.Au.length:Int)/\τ 62=si b)/\Ac a n b=some r
 have c3:=λn1 n2 n3 n4:Nat=>B7 3 λτ=>∃(e:Bool),(τ 1=bA 6 (Ap a)/\τ 58=sb e)/\J3 a e=some r
 have c2:=λn1 n2 n3 n4:Nat=>B7 2 λτ=>∃(d:Bool),(τ 1=bA 6 (Ap a)/\τ 44=sb d)/\J2 a d=some r
 have c1:=λn1 n2 n3 n4:Nat=>B7 1 λτ=>∃(c:Bool),(τ 1=bA 6 (Ap a)/\τ 34=sb c)/\J1 a c=some r
 unfold BJ at h
 exact walk
end
def xN:IC:=(Ra 2 [.b 1 [5,9,13] (.bx 6 (.t 0)),.o (.bx 4 (.c (.agg z4)))]
(Ra 5 [.f 1 1,.Z 6,.o (.mk 2 32 kN (.t 7) (.t 7)),.f 3 1,.Z 10,.o (.mk 1 1 [sb false] (.t 11) (.t 11)),.f 4 1,.Z 14,.o (.mk 3 24 fD (.t 15) (.t 15)),.o (.Dc z4 [(0,1,.t 8),(1,1,.c (si (-1))),(2,1,.t 12),(3,1,.t 16)]),.b 3 [18,19,24,25,27,28,30,31,34,35,36,37,38] (.bx 4 (.c (.agg z4))),.S 4 3 17]
(Sq (Ra 18 [.m 3 0 3,.Z 19,.Y 0]
(Bl 0 (Ra 22 [.O .lss 21 20]
(Sq (cX 22 0)
(Sq (Bk 1 (Ra 23 [.C 21,.M 4 23]
(Rc 24 [.m 3 0 3,.C 4,.J 3 2 25 26,.H 3 0 27,.T 28 (-1)])))
(Rc 29 [.P .add 21 1,.w 21,.C 29]))))))
(Sq (Ra 30 [.m 3 3 3,.Z 31,.P .gtr 32 0]
(Ci 33 (Rc 34 [.m 3 3 3,.y 3 (.Lr 3 (.t 35) (.c (si 0))),.H 3 0 36,.T 37 1])))
(Rb 38 [.y 3 (.ld true 4 (.t 3)),.S 4 2 38])))))
def xO:Gi:=⟨[(5,[1]),(9,[1]),(13,[1]),(18,[3]),(19,[3]),(24,[3]),(25,[3]),(27,[3]),(28,[3]),(30,[3]),(31,[3]),(34,[3]),(35,[3]),(36,[3]),(37,[3]),(38,[3])]⟩
def xP:List RV:=[.cell 2 true 4]
namespace Cq
def J2 (f:AO):Option AO:=
some f
def J1 (d:AO):Option AO:=
if decide ((d.AA.length:Int)>0)then
(gt d.AA 0).bind λe=>
J2 (AO.mk d.AG d.Tx d.Ce (d.AA.set 0 (AD.mk 1 e.Ef e.Atomic)))
else
J2 d
def L1 (a:AB) (L1:AO->Int->Option AO) (b:AO) (c:Int):Option AO:=
if decide (c<((List.replicate a.AG.length (AY.mk 0 [])).length:Int))then
(gt b.AG c).bind λi=>
L1 (AO.mk (b.AG.set c.toNat (AY.mk (-1) i.BW)) b.Tx b.Ce b.AA) (BE (c+1))
else
J1 b
def Ac (a:AB):Nat->AO->Int->Option AO
|0,_,_=>none
|n+1,b,c=>L1 a (Ac a n) b c
end Cq
section
open Cq
def Cq (a:AB):Option AO:=
if 0≤(a.AG.length:Int)/\(a.AG.length:Int)≤(a.AG.length:Int)/\Aq a.AG.length 32=true then
if 0≤(a.AH.length:Int)/\(a.AH.length:Int)≤(a.AH.length:Int)/\Aq a.AH.length 1=true then
if 0≤(a.AA.length:Int)/\(a.AA.length:Int)≤(a.AA.length:Int)/\Aq a.AA.length 24=true then
Ac a Bo (AO.mk (List.replicate a.AG.length (AY.mk 0 [])) (-1) (List.replicate a.AH.length false) (List.replicate a.AA.length (AD.mk 0 0 false))) 0
else none
else none
else none
theorem PS {a:AB} {r:AO} (h:Cq a=some r):Says Tryz.prog 27 [.agg (Ap a)] (.agg (FK r)):=by
 refine wO mix Tryz.func27 (I:=⟨xN,xO,xP⟩) ?_
 simp only[xN,xO,xP]
 have l1:=λn1 n2 n3 n4:Nat=>BM λn τ=>∃(b:AO) (c:Int),(τ 2=bA 4 z4/\τ 3=bA 4 (FK b)/\τ 20=si ((List.replicate a.AG.length (AY.mk 0 [])).length:Int)/\τ 21=si c)/\Ac a n b c=some r
 unfold Cq at h
 exact walk
end
def wD:IC:=(Ra 2 [.b 1 [8,12,16,21] (.bx 6 (.t 0)),.o (.bx 7 (.c (.agg z1)))]
(Ra 6 [.A 6 1,.c 27 [6] 2,.f 0 1,.Z 9,.o (.mk 1 8 [si 0] (.c (si 0)) (.t 10)),.f 3 1,.Z 13,.o (.mk 1 8 [si 0] (.t 14) (.t 14)),.f 4 1,.Z 17,.o (.mk 1 8 [si 0] (.t 18) (.t 18)),.o (.Dc z1 [(0,4,.t 7),(4,1,.t 11),(5,1,.t 15),(6,1,.t 19)]),.b 3 [28,29,34,36] (.bx 7 (.c (.agg z1))),.S 7 3 20]
(Sq (Ra 21 [.f 0 1,.Z 22,.Y 0]
(Bl 0 (Ra 25 [.O .lss 24 23]
(Sq (cX 25 0)
(Sq (Bk 1 (Ra 26 [.I 5 22 24,.A 5 26,.b 5 [30] (.bx 5 (.c (.agg sX))),.S 5 5 27]
(Rc 28 [.m 3 4 3,.f 4 5,.o (.Eg 1 [[si 0]] [(0,.t 31)]),.o (.app 1 8 (.t 29) (.t 32)),.F 4 3,.S 1 34 33])))
(Rc 35 [.P .add 24 1,.w 24,.C 35]))))))
(Rb 36 [.y 3 (.ld true 7 (.t 3)),.S 7 2 36]))))
def wE:Gi:=⟨[(8,[1]),(12,[1]),(16,[1]),(21,[1]),(28,[3]),(29,[3]),(30,[5]),(34,[3]),(36,[3])]⟩
def wG:List RV:=[.cell 2 true 7]
namespace CT
def J1 (d:AM):Option AM:=
some d
def L1 (a:AB) (L1:AM->Int->Option AM) (b:AM) (c:Int):Option AM:=
if decide (c<(a.Cells.length:Int))then
(gt a.Cells c).bind λf=>
if Aq (b.Cells.length+1) 8=true then
L1 (AM.mk b.Sync (b.Cells++[f.Init]) b.AH b.Count) (BE (c+1))
else none
else
J1 b
def Ac (a:AB):Nat->AM->Int->Option AM
|0,_,_=>none
|n+1,b,c=>L1 a (Ac a n) b c
end CT
section
open CT
def CT (a:AB):Option AM:=
(Cq a).bind λe=>
if 0≤0/\0≤(a.Cells.length:Int)/\Aq a.Cells.length 8=true then
if 0≤(a.AH.length:Int)/\(a.AH.length:Int)≤(a.AH.length:Int)/\Aq a.AH.length 8=true then
if 0≤(a.AA.length:Int)/\(a.AA.length:Int)≤(a.AA.length:Int)/\Aq a.AA.length 8=true then
Ac a Bo (AM.mk e [] (List.replicate a.AH.length 0) (List.replicate a.AA.length 0)) 0
else none
else none
else none
theorem Ll {a:AB} {r:AM} (h:CT a=some r):Says Tryz.prog 13 [.agg (Ap a)] (.agg (HL r)):=by
 refine wO mix Tryz.func13 (I:=⟨wD,wE,wG⟩) ?_
 simp only[wD,wE,wG]
 have a1:= @PS
 have l1:=λn1 n2 n3 n4:Nat=>BM λn τ=>∃(b:AM) (c:Int),(τ 2=bA 7 z1/\τ 3=bA 7 (HL b)/\τ 22=vS 5 Fg a.Cells/\τ 23=si (a.Cells.length:Int)/\τ 24=si c)/\Ac a n b c=some r
 unfold CT at h
 exact walk
end
def AAB:IC:=(Ra 0 [.B 4 false]
(Rb 5 [.C 0,.P .geq 5 0,.C 6,.G 7 true,.C 0,.C 1,.O .lss 8 9,.e,.W 7 10,.M 4 11]))
def AAC:Gi:=⟨[]⟩
def AAD:List RV:=[.tmp 4]
namespace CV
def J1 (c:Bool):Option Bool:=
some c
end CV
section
open CV
def CV (a b:Int):Option Bool:=
if decide (a≥0)then
J1 (decide (a<b))
else
J1 false
theorem HR {a b:Int} {r:Bool} (h:CV a b=some r):Says Tryz.prog 54 [si a,si b] (sb r):=by
 refine wO mix Tryz.func54 (I:=⟨AAB,AAC,AAD⟩) ?_
 simp only[AAB,AAC,AAD]
 unfold CV at h
 exact walk
end
end Go.Abs
