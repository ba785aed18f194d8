/- Typed programs of Go functions, and that the functions do what these say. -/
import Derived.Test.YtkpdblcoclbgbaaGreatDoorBaseA
import Derived.Test.YtkpdblcoclbgbaaGreatDoorWalkY
import Derived.Test.YtkpdblcoclbgbaaGreatDoorWalkX
import Derived.Shelf.Slices.SearchI
set_option linter.unusedSimpArgs false
set_option linter.unusedVariables false
namespace Go.Abs
open Go.Proofs
set_option maxRecDepth 100000
set_option maxHeartbeats 4000000
def ABd:IC:=(Ra 0 [.B 4 false]
(Rb 5 [.C 0,.C 1,.c 113 [5,6] 0,.P .geq 7 0,.M 4 8]))
def ABe:Gi:=⟨[]⟩
def ABf:List RV:=[.tmp 4]
def Em (a:List Int) (b:Int):Option Bool:=
(EE a b).bind λc=>
some (decide (c≥0))
theorem Ml {a:List Int} {b:Int} {r:Bool} (h:Em a b=some r):Says Tryz.prog 88 [vS 1 eI a,si b] (sb r):=by
 refine wO mix Tryz.func88 (I:=⟨ABd,ABe,ABf⟩) ?_
 simp only[ABd,ABe,ABf]
 have a1:= @Pl
 unfold Em at h
 exact walk
def AAH:IC:=(Ra 0 [.b 5 [115] (.bx 6 (.t 0)),.b 6 [14,23,31,42,50,63,73,83,88,94,103,113,132,146,156,164] (.bx 4 (.t 1)),.B 10 false]
(Sq (Ra 11 [.C 3]
(Bk 0 (Ra 13 [.q 11 6 12]
(Cn 12 (Rb 14 [.f 0 6,.C 4,.I 2 15 16,.U 0 17,.q 19 (-1) 10]) (Ra 22 [.q 11 10 21]
(Cn 21 (Rb 23 [.f 0 6,.C 4,.I 2 24 25,.U 0 26,.Q 28 (-1),.C 29,.G 30 true,.f 0 6,.C 4,.I 2 32 33,.U 1 34,.Z 36,.P .eql 37 0,.e,.W 30 38,.M 10 39]) (Ra 41 [.q 11 8 40]
(Cn 40 (Rb 42 [.f 0 6,.C 4,.I 2 43 44,.U 0 45,.Q 47 (-1),.C 48,.G 49 true,.f 0 6,.C 4,.I 2 51 52,.U 1 53,.C 2,.c 88 [55,56] 0,.N 57,.e,.W 49 58,.M 10 59]) (Bw 3 (Ra 61 [.q 11 7 60]
(Cn 60 .skip (Rc 62 [.q 11 11 60])))
(Cn 60 (Rb 63 [.f 0 6,.C 4,.I 2 64 65,.U 0 66,.C 2,.O .eql 68 69,.M 10 70]) (Ra 72 [.q 11 9 71]
(Cn 71 (Rb 73 [.f 0 6,.C 4,.I 2 74 75,.U 1 76,.C 2,.c 88 [78,79] 0,.M 10 80]) (Ra 82 [.q 11 12 81]
(Cn 81 (Rb 83 [.f 1 6,.q 84 (-1) 10]) (Ra 87 [.q 11 13 86]
(Cn 86 (Rb 88 [.f 1 6,.C 2,.O .eql 89 90,.M 10 91]) (Ra 93 [.q 11 14 92]
(Cn 92 (Rb 94 [.f 3 6,.C 2,.I 3 95 96,.U 2 97,.N 99,.M 10 100]) (Ra 102 [.q 11 15 101]
(Cn 101 (Rb 103 [.f 3 6,.C 2,.I 3 104 105,.U 2 106,.M 10 108]) (Bw 4 (Ra 110 [.q 11 16 109]
(Cn 109 .skip (Ra 111 [.q 11 18 109]
(Cn 109 .skip (Rc 112 [.q 11 19 109])))))
(Cn 109 (Rb 113 [.f 0 6,.f 2 5,.C 4,.I 2 116 117,.U 1 118,.I 2 114 120,.U 0 121,.C 2,.O .eql 123 124,.M 10 125]) (Ra 127 [.q 11 20 126]
(Cn 126 (Rb 128 [.C 4,.C 2,.O .neq 128 129,.C 130,.G 131 true,.f 3 6,.C 4,.I 3 133 134,.U 0 135,.P .eql 137 0,.e,.W 131 138,.M 10 139]) (Ra 141 [.q 11 21 140]
(Cn 140 (Rb 142 [.C 4,.C 2,.O .neq 142 143,.C 144,.G 145 true,.f 3 6,.C 4,.I 3 147 148,.U 0 149,.P .eql 151 5,.e,.W 145 152,.M 10 153]) (Ra 155 [.q 11 22 154]
(Cn 154 (Rb 156 [.f 2 6,.C 4,.I 1 157 158,.L 159,.N 160,.M 10 161]) (Ra 163 [.q 11 23 162]
(Ci 162 (Rb 164 [.f 2 6,.C 4,.I 1 165 166,.L 167,.M 10 168])))))))))))))))))))))))))))))))
(Rb 0 [.B 10 true])))
def AAI:Gi:=⟨[(14,[6]),(23,[6]),(31,[6]),(42,[6]),(50,[6]),(63,[6]),(73,[6]),(83,[6]),(88,[6]),(94,[6]),(103,[6]),(113,[6]),(115,[5]),(132,[6]),(146,[6]),(156,[6]),(164,[6])]⟩
def AAJ:List RV:=[.tmp 10]
namespace C9
def J1 (o:Bool):Option Bool:=
some o
def J2 (p:Bool):Option Bool:=
some p
def J5 (q:Bool):Option Bool:=
some q
def J6 (s:Bool):Option Bool:=
some s
def J4 (a c:Int) (b:AO) (d:Int) (e:AB) (f:Bool):Option Bool:=
if f then
(gt e.Au c).bind λad=>
(gt b.AG ad.Mutex).bind λae=>
some (ae.En==d)
else
if a==20 then
if c != d then
(gt b.AA c).bind λaf=>
J5 (af.Status==0)
else
J5 false
else
if a==21 then
if c != d then
(gt b.AA c).bind λw=>
J6 (w.Status==5)
else
J6 false
else
if a==22 then
(gt b.Ce c).bind λx=>
some (!x)
else
if a==23 then
(gt b.Ce c).bind λy=>
some y
else
some true
def J3 (a c:Int) (b:AO) (d:Int) (e:AB) (i:Bool):Option Bool:=
if i then
(gt b.AG c).bind λz=>
some (z.En==d)
else
if a==9 then
(gt b.AG c).bind λaa=>
(Em aa.BW d).bind λu=>
some u
else
if a==12 then
some (b.Tx==(-1))
else
if a==13 then
some (b.Tx==d)
else
if a==14 then
(gt b.AA d).bind λab=>
some (!ab.Atomic)
else
if a==15 then
(gt b.AA d).bind λac=>
some ac.Atomic
else
if a==16 then
J4 a c b d e (a==16)
else
if a==18 then
J4 a c b d e (a==18)
else
J4 a c b d e (a==19)
end C9
section
open C9
def C9 (e:AB) (b:AO) (d a c:Int):Option Bool:=
if a==6 then
(gt b.AG c).bind λv=>
some (v.En==(-1))
else
if a==10 then
(gt b.AG c).bind λj=>
if j.En==(-1)then
J1 ((j.BW.length:Int)==0)
else
J1 false
else
if a==8 then
(gt b.AG c).bind λl=>
if l.En==(-1)then
(Em l.BW d).bind λt=>
J2 (!t)
else
J2 false
else
if a==7 then
J3 a c b d e (a==7)
else
J3 a c b d e (a==11)
theorem PU {e:AB} {b:AO} {d a c:Int} {r:Bool} (h:C9 e b d a c=some r):Says Tryz.prog 56 [.agg (Ap e),.agg (GZ b),si d,si a,si c] (sb r):=by
 refine wO mix Tryz.func56 (I:=⟨AAH,AAI,AAJ⟩) ?_
 simp only[AAH,AAI,AAJ]
 have a1:= @Ml
 have c4:=λn1 n2 n3 n4:Nat=>B7 4 λτ=>∃(f:Bool),(τ 2=si d/\τ 4=si c/\τ 5=bA 6 (Ap e)/\τ 6=bA 4 (GZ b)/\τ 11=si a/\τ 109=sb f)/\J4 a c b d e f=some r
 have c3:=λn1 n2 n3 n4:Nat=>B7 3 λτ=>∃(i:Bool),(τ 2=si d/\τ 4=si c/\τ 5=bA 6 (Ap e)/\τ 6=bA 4 (GZ b)/\τ 11=si a/\τ 60=sb i)/\J3 a c b d e i=some r
 unfold C9 at h
 exact walk
end
def xT:IC:=(Ra 0 [.b 5 [18,56] (.bx 6 (.t 0)),.b 6 [31,54] (.bx 4 (.t 1)),.B 10 false]
(Sq (Bw 1 (Rc 12 [.A 6 5,.A 4 6,.c 53 [12,13] 0,.N 14,.C 15,.G 16 false,.C 2,.f 4 5,.Z 19,.c 54 [17,20] 0,.N 21,.e,.V 16 22,.C 23,.G 24 false,.o (.ld true 6 (.t 5)),.C 3,.C 4,.c 55 [25,26,27] 0,.N 28,.e,.V 24 29])
(Ci 30 (Rb 0 [.B 10 false])))
(Ra 31 [.f 3 6,.C 2,.I 3 32 33,.A 3 34,.b 11 [39,44,48,67] (.bx 3 (.c (.agg fD))),.S 3 11 35]
(Sq (Ra 36 [.C 3]
(Bk 0 (Ra 38 [.q 36 1 37]
(Cn 37 (Rb 39 [.f 0 11,.q 40 1 10]) (Ra 43 [.q 36 17 42]
(Ci 42 (Rb 44 [.f 0 11,.Q 45 4,.C 46,.G 47 true,.f 1 11,.C 4,.O .eql 49 50,.e,.W 47 51,.C 52,.G 53 true,.f 0 6,.f 2 5,.C 4,.I 2 57 58,.U 1 59,.I 2 55 61,.U 0 62,.P .eql 64 (-1),.e,.W 53 65,.M 10 66])))))))
(Rb 67 [.f 0 11,.Q 68 2,.C 69,.G 70 true,.o (.ld true 6 (.t 5)),.o (.ld true 4 (.t 6)),.C 2,.C 3,.C 4,.c 56 [71,72,73,74,75] 0,.e,.W 70 76,.M 10 77])))))
def xU:Gi:=⟨[(18,[5]),(31,[6]),(39,[11]),(44,[11]),(48,[11]),(54,[6]),(56,[5]),(67,[11])]⟩
def xV:List RV:=[.tmp 10]
namespace Cg
def J2 (j:Bool):Option Bool:=
some j
def J3 (l:Bool):Option Bool:=
some l
def J1 (b c:Int) (d:AO) (e:Int) (a:AB) (f:Bool):Option Bool:=
if f then
some false
else
(gt d.AA e).bind λi=>
if b==1 then
some (i.Status==1)
else
if b==17 then
if i.Status==4 then
if i.Ef==c then
(gt a.Au c).bind λt=>
(gt d.AG t.Mutex).bind λu=>
J2 (u.En==(-1))
else
J2 false
else
J2 false
else
if i.Status==2 then
(C9 a d e b c).bind λs=>
J3 s
else
J3 false
end Cg
section
open Cg
def Cg (a:AB) (d:AO) (e b c:Int):Option Bool:=
(DY a d).bind λo=>
if !o then
J1 b c d e a true
else
(CV e (a.AA.length:Int)).bind λp=>
if !p then
J1 b c d e a true
else
(Bc a b c).bind λq=>
J1 b c d e a (!q)
theorem Ic {a:AB} {d:AO} {e b c:Int} {r:Bool} (h:Cg a d e b c=some r):Says Tryz.prog 29 [.agg (Ap a),.agg (GZ d),si e,si b,si c] (sb r):=by
 refine wO mix Tryz.func29 (I:=⟨xT,xU,xV⟩) ?_
 simp only[xT,xU,xV]
 have a1:= @PU
 have a2:= @Kb
 have a3:= @HR
 have a4:= @NZ
 have c1:=λn1 n2 n3 n4:Nat=>B7 1 λτ=>∃(f:Bool),(τ 2=si e/\τ 3=si b/\τ 4=si c/\τ 5=bA 6 (Ap a)/\τ 6=bA 4 (GZ d)/\τ 30=sb f)/\J1 b c d e a f=some r
 unfold Cg at h
 exact walk
end
def xW:IC:=(Ra 0 [.b 2 [22,28] (.bx 6 (.t 0)),.b 3 [5,9,13,16,20,30,35] (.bx 7 (.t 1)),.B 4 false]
(Sq (Ra 5 [.f 1 3,.Q 6 1,.C 7,.G 8 false,.f 1 3,.P .eql 10 2,.e,.V 8 11]
(Ci 12 (Rb 13 [.f 4 3,.q 14 (-1) 4])))
(Rb 16 [.f 4 3,.P .geq 17 0,.C 18,.G 19 true,.f 4 3,.f 5 2,.Z 23,.O .lss 21 24,.e,.W 19 25,.C 26,.G 27 true,.f 5 2,.f 4 3,.I 3 29 31,.U 0 32,.f 0 3,.O .eql 34 36,.e,.W 27 37,.M 4 38])))
def xX:Gi:=⟨[(5,[3]),(9,[3]),(13,[3]),(16,[3]),(20,[3]),(22,[2]),(28,[2]),(30,[3]),(35,[3])]⟩
def xY:List RV:=[.tmp 4]
namespace CW
def J2 (d:Bool):Option Bool:=
some d
def J1 (a:AN) (b:AB) (c:Bool):Option Bool:=
if c then
some (a.Site==(-1))
else
if decide (a.Site≥0)then
if decide (a.Site<(b.BA.length:Int))then
(gt b.BA a.Site).bind λe=>
J2 (e.Thread==a.Thread)
else
J2 false
else
J2 false
end CW
section
open CW
def CW (b:AB) (a:AN):Option Bool:=
if a.Kind==1 then
J1 a b true
else
J1 a b (a.Kind==2)
theorem Kx {b:AB} {a:AN} {r:Bool} (h:CW b a=some r):Says Tryz.prog 30 [.agg (Ap b),.agg (C4 a)] (sb r):=by
 refine wO mix Tryz.func30 (I:=⟨xW,xX,xY⟩) ?_
 simp only[xW,xX,xY]
 unfold CW at h
 exact walk
end
end Go.Abs
