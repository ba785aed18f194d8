/- Typed programs of Go functions, and that the functions do what these say. -/
import Derived.Test.YtkpdblcoclbgbaaGreatDoorBaseA
import Derived.Test.YtkpdblcoclbgbaaGreatDoorWalkC
import Derived.Shelf.Slices.SearchI
set_option linter.unusedSimpArgs false
set_option linter.unusedVariables false
namespace Go.Abs
open Go.Proofs
set_option maxRecDepth 100000
set_option maxHeartbeats 4000000
def qG:IC:=(Ra 0 [.b 1 [5,9,13,16,22,30,37,42,46,52,58] (.bx 4 (.t 0)),.B 2 false]
(Bw 1 (Rc 5 [.f 0 1,.Q 6 2,.C 7,.G 8 false,.f 0 1,.P .eql 10 3,.e,.V 8 11,.M 3 12])
(Sq (Bw 2 (Rc 13 [.f 0 1,.c 171 [14] 0,.f 3 1,.Z 17,.O .neq 15 18,.C 19,.G 20 false,.C 3,.f 2 1,.o (.bin .neq (.t 23) (.c (Ao ⟨#[]⟩))),.o (.beq true (.t 21) (.t 24)),.e,.V 20 25,.C 26,.G 27 false,.C 3,.C 28,.G 29 true,.f 2 1,.c 42 [31] 0,.N 32,.G 27 false,.o (.pick (.t 29) (.t 33) (.c (sb false))),.e,.V 27 34,.C 35,.G 36 false,.f 1 1,.P .lss 38 0,.e,.V 36 39,.C 40,.G 41 false,.f 0 1,.P .neq 43 1,.C 44,.G 45 true,.f 1 1,.P .neq 47 0,.G 41 false,.o (.pick (.t 45) (.t 48) (.c (sb false))),.e,.V 41 49])
(Ci 50 (Rb 0 [.B 2 false])))
(Sq (Ra 0 [.K 4 0]
(Bl 0 (Sq (Ra 51 [.C 4,.f 3 1,.Z 53,.O .lss 51 54]
(cX 55 0))
(Sq (Bk 1 (Ra 58 [.f 3 1,.C 4,.I 4 59 60,.A 4 61,.c 166 [62] 0,.N 63]
(Ci 64 (Rb 0 [.B 2 false]))))
(Rc 56 [.C 4,.P .add 56 1,.M 4 57])))))
(Rb 0 [.B 2 true])))))
def qH:Gi:=⟨[(5,[1]),(9,[1]),(13,[1]),(16,[1]),(22,[1]),(30,[1]),(37,[1]),(42,[1]),(46,[1]),(52,[1]),(58,[1])]⟩
def qI:List RV:=[.tmp 2]
namespace Bi
def J3:Option Bool:=
some true
def L1 (R166:As->Option Bool) (a:As) (L1:Int->Option Bool) (b:Int):Option Bool:=
if decide (b<(a.L.length:Int))then
(gt a.L b).bind λj=>
(R166 j).bind λi=>
if !i then
some false
else
L1 (BE (b+1))
else
J3
def Ac (R166:As->Option Bool) (a:As):Nat->Int->Option Bool
|0,_=>none
|n+1,b=>L1 R166 a (Ac R166 a n) b
def J2 (R166:As->Option Bool) (a:As) (d:Bool):Option Bool:=
if d then
some false
else
Ac R166 a Bo 0
def J1 (R166:As->Option Bool) (a:As) (c:Bool):Option Bool:=
(Cu a.Op).bind λe=>
if e != (a.L.length:Int)then
J2 R166 a true
else
if !(c==(!(a.Name.toList==(⟨#[]⟩:ByteArray).toList)))then
J2 R166 a true
else
if c then
(BV a.Name).bind λf=>
if !f then
J2 R166 a true
else
if decide (a.N<0)then
J2 R166 a true
else
if a.Op != 1 then
J2 R166 a (a.N != 0)
else
J2 R166 a false
else
if decide (a.N<0)then
J2 R166 a true
else
if a.Op != 1 then
J2 R166 a (a.N != 0)
else
J2 R166 a false
end Bi
section
open Bi
def Bi (R166:As->Option Bool) (a:As):Option Bool:=
if a.Op==2 then
J1 R166 a true
else
J1 R166 a (a.Op==3)
theorem LZ {R166:As->Option Bool} (H166:∀{x0 r},R166 x0=some r->Says Tryz.prog 166 [.agg [si x0.Op,si x0.N,Ao x0.Name,vS 4 Av x0.L]] (sb r)) {a:As} {r:Bool} (h:Bi R166 a=some r):Says Tryz.prog 166 [.agg [si a.Op,si a.N,Ao a.Name,vS 4 Av a.L]] (sb r):=by
 refine wO mix Tryz.func166 (I:=⟨qG,qH,qI⟩) ?_
 simp only[qG,qH,qI]
 have a1:= @H166
 have a2:= @Nn
 have a3:= @FV
 have l1:=λn1 n2 n3 n4:Nat=>BM λn τ=>∃(b:Int),(τ 1=bA 4 [si a.Op,si a.N,Ao a.Name,vS 4 Av a.L]/\τ 4=si b)/\Ac R166 a n b=some r
 have c2:=λn1 n2 n3 n4:Nat=>B7 2 λτ=>∃(d:Bool),(τ 1=bA 4 [si a.Op,si a.N,Ao a.Name,vS 4 Av a.L]/\τ 50=sb d)/\J2 R166 a d=some r
 have c1:=λn1 n2 n3 n4:Nat=>B7 1 λτ=>∃(c:Bool),(τ 1=bA 4 [si a.Op,si a.N,Ao a.Name,vS 4 Av a.L]/\τ 3=sb c)/\J1 R166 a c=some r
 unfold Bi at h
 exact walk
end
def Ih:Nat->(As->Option Bool)
|0=>(λ_=>none)
|n+1=>Bi ((Ih n))
def CE (n:Nat):As->Option Bool:=(Ih n)
theorem Kh (n:Nat):(∀{x0 r},(CE n) x0=some r->Says Tryz.prog 166 [.agg [si x0.Op,si x0.N,Ao x0.Name,.sl false 4 (x0.L.map Av)]] (sb r)):=by
  induction n with
  |zero=>exactλh=>B9 h
  |succ n ih=>exactλh=>LZ ih h
theorem Hf {n:Nat}:∀{x0 r},(CE n) x0=some r->Says Tryz.prog 166 [.agg [si x0.Op,si x0.N,Ao x0.Name,.sl false 4 (x0.L.map Av)]] (sb r):=(Kh n)
def qJ:IC:=(Ra 0 [.b 1 [3,7,12,17] (.bx 4 (.t 0)),.B 2 false]
(Rb 3 [.f 0 1,.Q 4 0,.C 5,.G 6 true,.f 1 1,.P .eql 8 0,.e,.W 6 9,.C 10,.G 11 true,.f 2 1,.o (.bin .eql (.t 13) (.c (Ao ⟨#[]⟩))),.e,.W 11 14,.C 15,.G 16 true,.f 3 1,.Z 18,.P .eql 19 0,.e,.W 16 20,.M 2 21]))
def qK:Gi:=⟨[(3,[1]),(7,[1]),(12,[1]),(17,[1])]⟩
def qL:List RV:=[.tmp 2]
namespace FA
def J1 (b:Bool):Option Bool:=
some b
end FA
section
open FA
def FA (a:As):Option Bool:=
if a.Op==0 then
if a.N==0 then
if a.Name.toList==(⟨#[]⟩:ByteArray).toList then
J1 ((a.L.length:Int)==0)
else
J1 false
else
J1 false
else
J1 false
theorem Q7 {a:As} {r:Bool} (h:FA a=some r):Says Tryz.prog 167 [.agg [si a.Op,si a.N,Ao a.Name,vS 4 Av a.L]] (sb r):=by
 refine wO mix Tryz.func167 (I:=⟨qJ,qK,qL⟩) ?_
 simp only[qJ,qK,qL]
 unfold FA at h
 exact walk
end
def nG:IC:=(Ra 0 [.B 2 false]
(Sq (Ra 0 [.K 3 0]
(Bl 0 (Sq (Ra 4 [.C 3,.C 0,.Z 5,.O .lss 4 6]
(cX 7 0))
(Sq (Bk 1 (Ra 10 [.C 0,.C 3,.I 11 10 11,.A 11 12,.c 157 [13] 0,.N 14]
(Ci 15 (Rb 0 [.B 2 false]))))
(Rc 8 [.C 3,.P .add 8 1,.M 3 9])))))
(Rb 0 [.B 2 true])))
def nH:Gi:=⟨[]⟩
def nI:List RV:=[.tmp 2]
namespace Bu
def J1:Option Bool:=
some true
def L1 (R157:AK->Option Bool) (a:List AK) (L1:Int->Option Bool) (b:Int):Option Bool:=
if decide (b<(a.length:Int))then
(gt a b).bind λd=>
(R157 d).bind λc=>
if !c then
some false
else
L1 (BE (b+1))
else
J1
def Ac (R157:AK->Option Bool) (a:List AK):Nat->Int->Option Bool
|0,_=>none
|n+1,b=>L1 R157 a (Ac R157 a n) b
end Bu
section
open Bu
def Bu (R157:AK->Option Bool) (a:List AK):Option Bool:=
Ac R157 a Bo 0
theorem Ki {R157:AK->Option Bool} (H157:∀{x0 r},R157 x0=some r->Says Tryz.prog 157 [.agg [si x0.Op,si x0.D4,Ao x0.Name,Ao x0.Arg,vS 4 Av x0.Index,si x0.Expr.Op,si x0.Expr.N,Ao x0.Expr.Name,vS 4 Av x0.Expr.L,vS 11 An x0.Body,vS 11 An x0.Else]] (sb r)) {a:List AK} {r:Bool} (h:Bu R157 a=some r):Says Tryz.prog 133 [vS 11 An a] (sb r):=by
 refine wO mix Tryz.func133 (I:=⟨nG,nH,nI⟩) ?_
 simp only[nG,nH,nI]
 have a1:= @H157
 have l1:=λn1 n2 n3 n4:Nat=>BM λn τ=>∃(b:Int),(τ 0=vS 11 An a/\τ 3=si b)/\Ac R157 a n b=some r
 unfold Bu at h
 exact walk
end
def pJ:IC:=(Ra 0 [.b 1 [6,10,14,18,23,28,34,42,48,52,58,62,67,72,76,83,88,96,100,105,110,116,125,131,135,142,148,152,158,162] (.bx 11 (.t 0)),.B 2 false]
(Sq (Bw 1 (Rc 6 [.f 0 1,.P .lss 7 1,.C 8,.G 9 false,.f 0 1,.P .gtr 11 15,.e,.V 9 12])
(Ci 13 (Rb 0 [.B 2 false])))
(Bw 2 (Rc 14 [.f 0 1,.Q 15 2,.C 16,.G 17 false,.f 0 1,.P .eql 19 3,.e,.V 17 20,.C 21,.G 22 false,.f 0 1,.P .eql 24 7,.e,.V 22 25,.C 26,.G 27 false,.f 0 1,.P .eql 29 8,.e,.V 27 30,.M 3 31])
(Sq (Bw 3 (Rc 32 [.C 3,.C 32,.G 33 true,.f 2 1,.o (.bin .neq (.t 35) (.c (Ao ⟨#[]⟩))),.e,.W 33 36,.C 37,.G 38 false,.C 3,.N 39,.C 40,.G 41 true,.f 2 1,.c 42 [43] 0,.N 44,.G 38 false,.o (.pick (.t 41) (.t 45) (.c (sb false))),.e,.V 38 46])
(Ci 47 (Rb 0 [.B 2 false])))
(Sq (Bw 4 (Rc 48 [.f 0 1,.Q 49 15,.C 50,.G 51 true,.f 3 1,.c 42 [53] 0,.N 54,.e,.W 51 55,.C 56,.G 57 false,.f 0 1,.P .neq 59 15,.C 60,.G 61 true,.f 3 1,.o (.bin .neq (.t 63) (.c (Ao ⟨#[]⟩))),.G 57 false,.o (.pick (.t 61) (.t 64) (.c (sb false))),.e,.V 57 65])
(Ci 66 (Rb 0 [.B 2 false])))
(Sq (Bw 5 (Rc 67 [.f 4 1,.Z 68,.P .gtr 69 1,.C 70,.G 71 false,.f 0 1,.P .neq 73 1,.C 74,.G 75 true,.f 4 1,.Z 77,.P .gtr 78 0,.G 71 false,.o (.pick (.t 75) (.t 79) (.c (sb false))),.e,.V 71 80,.C 81,.G 82 false,.f 4 1,.Z 84,.P .eql 85 1,.C 86,.G 87 true,.f 4 1,.o (.Lr 4 (.t 89) (.c (si 0))),.o (.ld true 4 (.t 90)),.c 166 [91] 0,.N 92,.G 82 false,.o (.pick (.t 87) (.t 93) (.c (sb false))),.e,.V 82 94])
(Ci 95 (Rb 0 [.B 2 false])))
(Bw 6 (Rc 96 [.f 0 1,.Q 97 1,.C 98,.G 99 false,.f 0 1,.P .eql 101 2,.e,.V 99 102,.C 103,.G 104 false,.f 0 1,.P .eql 106 3,.e,.V 104 107,.C 108,.G 109 false,.f 0 1,.P .eql 111 14,.e,.V 109 112,.M 4 113])
(Sq (Bw 7 (Rc 114 [.C 4,.C 114,.G 115 true,.F 5 1,.o (.ld true 4 (.t 116)),.c 166 [117] 0,.N 118,.e,.W 115 119,.C 120,.G 121 false,.C 4,.N 122,.C 123,.G 124 true,.F 5 1,.o (.ld true 4 (.t 125)),.c 167 [126] 0,.N 127,.G 121 false,.o (.pick (.t 124) (.t 128) (.c (sb false))),.e,.V 121 129])
(Ci 130 (Rb 0 [.B 2 false])))
(Bw 8 (Rc 131 [.f 0 1,.P .geq 132 2,.C 133,.G 134 true,.f 0 1,.P .leq 136 8,.e,.W 134 137,.M 5 138])
(Sq (Bw 9 (Rc 139 [.C 5,.N 139,.C 140,.G 141 true,.f 9 1,.Z 143,.P .gtr 144 0,.e,.W 141 145,.C 146,.G 147 false,.f 0 1,.P .neq 149 2,.C 150,.G 151 true,.f 10 1,.Z 153,.P .gtr 154 0,.G 147 false,.o (.pick (.t 151) (.t 155) (.c (sb false))),.e,.V 147 156])
(Ci 157 (Rb 0 [.B 2 false])))
(Rb 158 [.f 9 1,.c 133 [159] 0,.C 160,.G 161 true,.f 10 1,.c 133 [163] 0,.e,.W 161 164,.M 2 165])))))))))))
def pK:Gi:=⟨[(6,[1]),(10,[1]),(14,[1]),(18,[1]),(23,[1]),(28,[1]),(34,[1]),(42,[1]),(48,[1]),(52,[1]),(58,[1]),(62,[1]),(67,[1]),(72,[1]),(76,[1]),(83,[1]),(88,[1]),(96,[1]),(100,[1]),(105,[1]),(110,[1]),(116,[1]),(125,[1]),(131,[1]),(135,[1]),(142,[1]),(148,[1]),(152,[1]),(158,[1]),(162,[1])]⟩
def pL:List RV:=[.tmp 2]
namespace Aj
def Oj (p:Bool):Option Bool:=
some p
def J9 (R133:(List AK)->Option Bool) (a:AK) (f:Bool):Option Bool:=
if f then
some false
else
(R133 a.Body).bind λx=>
if x then
(R133 a.Else).bind λy=>
Oj y
else
Oj false
def J8 (R133:(List AK)->Option Bool) (a:AK) (b:Bool):Option Bool:=
if !b then
if decide ((a.Body.length:Int)>0)then
J9 R133 a true
else
if a.Op != 2 then
J9 R133 a (decide ((a.Else.length:Int)>0))
else
J9 R133 a false
else
if a.Op != 2 then
J9 R133 a (decide ((a.Else.length:Int)>0))
else
J9 R133 a false
def J7 (R133:(List AK)->Option Bool) (a:AK) (d:Bool):Option Bool:=
if d then
some false
else
if decide (a.Op≥2)then
J8 R133 a (decide (a.Op≤8))
else
J8 R133 a false
def J6 (R133:(List AK)->Option Bool) (a:AK) (o:Bool):Option Bool:=
if o then
(CE Bo a.Expr).bind λv=>
if !v then
J7 R133 a true
else
J7 R133 a false
else
(FA a.Expr).bind λw=>
J7 R133 a (!w)
def J5 (R133:(List AK)->Option Bool) (a:AK) (l:Bool):Option Bool:=
if l then
some false
else
if a.Op==1 then
J6 R133 a true
else
if a.Op==2 then
J6 R133 a true
else
if a.Op==3 then
J6 R133 a true
else
J6 R133 a (a.Op==14)
def J4 (R133:(List AK)->Option Bool) (a:AK) (j:Bool):Option Bool:=
if j then
some false
else
if decide ((a.Index.length:Int)>1)then
J5 R133 a true
else
if a.Op != 1 then
if decide ((a.Index.length:Int)>0)then
J5 R133 a true
else
if(a.Index.length:Int)==1 then
(gt a.Index 0).bind λz=>
(CE Bo z).bind λt=>
J5 R133 a (!t)
else
J5 R133 a false
else
if(a.Index.length:Int)==1 then
(gt a.Index 0).bind λaa=>
(CE Bo aa).bind λu=>
J5 R133 a (!u)
else
J5 R133 a false
def J3 (R133:(List AK)->Option Bool) (a:AK) (i:Bool):Option Bool:=
if i then
some false
else
if a.Op==15 then
(BV a.Arg).bind λs=>
if !s then
J4 R133 a true
else
if a.Op != 15 then
J4 R133 a (!(a.Arg.toList==(⟨#[]⟩:ByteArray).toList))
else
J4 R133 a false
else
if a.Op != 15 then
J4 R133 a (!(a.Arg.toList==(⟨#[]⟩:ByteArray).toList))
else
J4 R133 a false
def J2 (R133:(List AK)->Option Bool) (a:AK) (c:Bool):Option Bool:=
if c then
if !(a.Name.toList==(⟨#[]⟩:ByteArray).toList)then
J3 R133 a true
else
J3 R133 a false
else
(BV a.Name).bind λq=>
J3 R133 a (!q)
def J1 (R133:(List AK)->Option Bool) (a:AK) (e:Bool):Option Bool:=
if e then
some false
else
if a.Op==2 then
J2 R133 a true
else
if a.Op==3 then
J2 R133 a true
else
if a.Op==7 then
J2 R133 a true
else
J2 R133 a (a.Op==8)
end Aj
section
open Aj
def Aj (R133:(List AK)->Option Bool) (a:AK):Option Bool:=
if decide (a.Op<1)then
J1 R133 a true
else
J1 R133 a (decide (a.Op>15))
theorem La {R133:(List AK)->Option Bool} (H133:∀{x0 r},R133 x0=some r->Says Tryz.prog 133 [vS 11 An x0] (sb r)) {a:AK} {r:Bool} (h:Aj R133 a=some r):Says Tryz.prog 157 [.agg [si a.Op,si a.D4,Ao a.Name,Ao a.Arg,vS 4 Av a.Index,si a.Expr.Op,si a.Expr.N,Ao a.Expr.Name,vS 4 Av a.Expr.L,vS 11 An a.Body,vS 11 An a.Else]] (sb r):=by
 refine wO mix Tryz.func157 (I:=⟨pJ,pK,pL⟩) ?_
 simp only[pJ,pK,pL]
 have a1:= @H133
 have a2:= @Hf
 have a3:= @Q7
 have a4:= @FV
 have c9:=λn1 n2 n3 n4:Nat=>B7 9 λτ=>∃(f:Bool),(τ 1=bA 11 [si a.Op,si a.D4,Ao a.Name,Ao a.Arg,vS 4 Av a.Index,si a.Expr.Op,si a.Expr.N,Ao a.Expr.Name,vS 4 Av a.Expr.L,vS 11 An a.Body,vS 11 An a.Else]/\τ 157=sb f)/\J9 R133 a f=some r
 have c8:=λn1 n2 n3 n4:Nat=>B7 8 λτ=>∃(b:Bool),(τ 1=bA 11 [si a.Op,si a.D4,Ao a.Name,Ao a.Arg,vS 4 Av a.Index,si a.Expr.Op,si a.Expr.N,Ao a.Expr.Name,vS 4 Av a.Expr.L,vS 11 An a.Body,vS 11 An a.Else]/\τ 5=sb b)/\J8 R133 a b=some r
 have c7:=λn1 n2 n3 n4:Nat=>B7 7 λτ=>∃(d:Bool),(τ 1=bA 11 [si a.Op,si a.D4,Ao a.Name,Ao a.Arg,vS 4 Av a.Index,si a.Expr.Op,si a.Expr.N,Ao a.Expr.Name,vS 4 Av a.Expr.L,vS 11 An a.Body,vS 11 An a.Else]/\τ 130=sb d)/\J7 R133 a d=some r
 have c6:=λn1 n2 n3 n4:Nat=>B7 6 λτ=>∃(o:Bool),(τ 1=bA 11 [si a.Op,si a.D4,Ao a.Name,Ao a.Arg,vS 4 Av a.Index,si a.Expr.Op,si a.Expr.N,Ao a.Expr.Name,vS 4 Av a.Expr.L,vS 11 An a.Body,vS 11 An a.Else]/\τ 4=sb o)/\J6 R133 a o=some r
 have c5:=λn1 n2 n3 n4:Nat=>B7 5 λτ=>∃(l:Bool),(τ 1=bA 11 [si a.Op,si a.D4,Ao a.Name,Ao a.Arg,vS 4 Av a.Index,si a.Expr.Op,si a.Expr.N,Ao a.Expr.Name,vS 4 Av a.Expr.L,vS 11 An a.Body,vS 11 An a.Else]/\τ 95=sb l)/\J5 R133 a l=some r
 have c4:=λn1 n2 n3 n4:Nat=>B7 4 λτ=>∃(j:Bool),(τ 1=bA 11 [si a.Op,si a.D4,Ao a.Name,Ao a.Arg,vS 4 Av a.Index,si a.Expr.Op,si a.Expr.N,Ao a.Expr.Name,vS 4 Av a.Expr.L,vS 11 An a.Body,vS 11 An a.Else]/\τ 66=sb j)/\J4 R133 a j=some r
 have c3:=λn1 n2 n3 n4:Nat=>B7 3 λτ=>∃(i:Bool),(τ 1=bA 11 [si a.Op,si a.D4,Ao a.Name,Ao a.Arg,vS 4 Av a.Index,si a.Expr.Op,si a.Expr.N,Ao a.Expr.Name,vS 4 Av a.Expr.L,vS 11 An a.Body,vS 11 An a.Else]/\τ 47=sb i)/\J3 R133 a i=some r
 have c2:=λn1 n2 n3 n4:Nat=>B7 2 λτ=>∃(c:Bool),(τ 1=bA 11 [si a.Op,si a.D4,Ao a.Name,Ao a.Arg,vS 4 Av a.Index,si a.Expr.Op,si a.Expr.N,Ao a.Expr.Name,vS 4 Av a.Expr.L,vS 11 An a.Body,vS 11 An a.Else]/\τ 3=sb c)/\J2 R133 a c=some r
 have c1:=λn1 n2 n3 n4:Nat=>B7 1 λτ=>∃(e:Bool),(τ 1=bA 11 [si a.Op,si a.D4,Ao a.Name,Ao a.Arg,vS 4 Av a.Index,si a.Expr.Op,si a.Expr.N,Ao a.Expr.Name,vS 4 Av a.Expr.L,vS 11 An a.Body,vS 11 An a.Else]/\τ 13=sb e)/\J1 R133 a e=some r
 unfold Aj at h
 exact walk
end
def FM:Nat->((List AK)->Option Bool)×(AK->Option Bool)
|0=>((λ_=>none),(λ_=>none))
|n+1=>(Bu ((FM n).2),Aj ((FM n).1))
def Ed (n:Nat):(List AK)->Option Bool:=(FM n).1
def G7 (n:Nat):AK->Option Bool:=(FM n).2
theorem Jx (n:Nat):(∀{x0 r},(Ed n) x0=some r->Says Tryz.prog 133 [.sl false 11 (x0.map An)] (sb r))/\(∀{x0 r},(G7 n) x0=some r->Says Tryz.prog 157 [.agg [si x0.Op,si x0.D4,Ao x0.Name,Ao x0.Arg,.sl false 4 (x0.Index.map Av),si x0.Expr.Op,si x0.Expr.N,Ao x0.Expr.Name,.sl false 4 (x0.Expr.L.map Av),.sl false 11 (x0.Body.map An),.sl false 11 (x0.Else.map An)]] (sb r)):=by
  induction n with
  |zero=>exact⟨λh=>B9 h,λh=>B9 h⟩
  |succ n ih=>exact⟨λh=>Ki ih.2 h,λh=>La ih.1 h⟩
theorem Jy {n:Nat}:∀{x0 r},(Ed n) x0=some r->Says Tryz.prog 133 [.sl false 11 (x0.map An)] (sb r):=(Jx n).1
end Go.Abs
