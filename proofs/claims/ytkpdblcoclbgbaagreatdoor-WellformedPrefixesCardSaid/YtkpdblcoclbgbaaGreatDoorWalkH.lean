/- Typed programs of Go functions, and that the functions do what these say. -/
import Derived.Test.YtkpdblcoclbgbaaGreatDoorBaseA
import Derived.Test.YtkpdblcoclbgbaaGreatDoorWalkG
import Derived.Test.YtkpdblcoclbgbaaGreatDoorWalkD
import Derived.Shelf.Slices.SearchI
set_option linter.unusedSimpArgs false
set_option linter.unusedVariables false
namespace Go.Abs
open Go.Proofs
set_option maxRecDepth 100000
set_option maxHeartbeats 4000000
def pW:IC:=(Ra 5 [.o (.bx 2 (.t 0)),.K 10 0]
(Ra 12 [.A 2 5,.C 1,.C 2,.c 168 [12,13,14] 0,.M 11 15]
(Sq (Ra 16 [.C 11,.Q 16 0]
(Ci 17 (Rb 0 [.K 10 5])))
(Sq (Ra 18 [.C 11,.C 3,.O .neq 18 19,.C 20,.G 21 true,.C 11,.C 4,.O .neq 22 23,.e,.W 21 24]
(Ci 25 (Rb 0 [.K 10 6])))
(Rb 0 [.K 10 0])))))
def pX:Gi:=⟨[]⟩
def pY:List RV:=[.tmp 10]
namespace CS
def J1 (i:Bool):Option Int:=
if i then
some 6
else
some 0
end CS
section
open CS
def CS (c:AL) (e:Int) (d:ByteArray) (a b:Int):Option Int:=
(DQ c e d).bind λf=>
if f==0 then
some 5
else
if f != a then
J1 (f != b)
else
J1 false
theorem Lu {c:AL} {e:Int} {d:ByteArray} {a b r:Int} (h:CS c e d a b=some r):Says Tryz.prog 160 [.agg (Bb c),si e,Ao d,si a,si b] (si r):=by
 refine wO mix Tryz.func160 (I:=⟨pW,pX,pY⟩) ?_
 simp only[pW,pX,pY]
 have a1:= @PZ
 unfold CS at h
 exact walk
end
def qP:IC:=(Ra 0 [.b 1 [10,17] (.bx 4 (.t 0)),.K 2 0,.K 3 0]
(Ra 0 [.K 4 1,.K 5 0]
(Sq (Ra 0 [.K 6 0]
(Bl 0 (Sq (Ra 9 [.C 6,.f 3 1,.Z 11,.O .lss 9 12]
(cX 13 0))
(Sq (Bk 1 (Ra 17 [.f 3 1,.C 6,.I 4 18 19,.A 4 20,.c 169 [21] 0,.w 16,.C 22,.w 23,.o (.ext (.t 16) 0),.o (.ext (.t 16) 1),.M 7 23,.M 8 24]
(Rc 25 [.C 4,.C 7,.O .add 25 26,.C 5,.C 8,.o (.mm true (.t 28) (.t 29)),.M 4 27,.M 5 30])))
(Rc 14 [.C 6,.P .add 14 1,.M 6 15])))))
(Rb 31 [.C 4,.C 5,.P .add 32 1,.M 2 31,.M 3 33]))))
def qQ:Gi:=⟨[(10,[1]),(17,[1])]⟩
def qR:List RV:=[.tmp 2,.tmp 3]
namespace Dw
def J1 (i f:Int):Option (Int×Int):=
some (i,BE (f+1))
def L1 (R169:As->Option (Int×Int)) (a:As) (L1:Int->Int->Int->Option (Int×Int)) (d b c:Int):Option (Int×Int):=
if decide (c<(a.L.length:Int))then
(gt a.L c).bind λj=>
(R169 j).bind λe=>
L1 (BE (d+e.1)) (if e.2>b then e.2 else b) (BE (c+1))
else
J1 d b
def Ac (R169:As->Option (Int×Int)) (a:As):Nat->Int->Int->Int->Option (Int×Int)
|0,_,_,_=>none
|n+1,d,b,c=>L1 R169 a (Ac R169 a n) d b c
end Dw
section
open Dw
def Dw (R169:As->Option (Int×Int)) (a:As):Option (Int×Int):=
Ac R169 a Bo 1 0 0
theorem Q9 {R169:As->Option (Int×Int)} (H169:∀{x0 r},R169 x0=some r->Says Tryz.prog 169 [.agg [si x0.Op,si x0.N,Ao x0.Name,vS 4 Av x0.L]] (.A9 [si r.1,si r.2])) {a:As} {r:Int×Int} (h:Dw R169 a=some r):Says Tryz.prog 169 [.agg [si a.Op,si a.N,Ao a.Name,vS 4 Av a.L]] (.A9 [si r.1,si r.2]):=by
 refine wO mix Tryz.func169 (I:=⟨qP,qQ,qR⟩) ?_
 simp only[qP,qQ,qR]
 have a1:= @H169
 have l1:=λn1 n2 n3 n4:Nat=>BM λn τ=>∃(d b c:Int),(τ 1=bA 4 [si a.Op,si a.N,Ao a.Name,vS 4 Av a.L]/\τ 4=si d/\τ 5=si b/\τ 6=si c)/\Ac R169 a n d b c=some r
 unfold Dw at h
 exact walk
end
def Nq:Nat->(As->Option (Int×Int))
|0=>(λ_=>none)
|n+1=>Dw ((Nq n))
def G8 (n:Nat):As->Option (Int×Int):=(Nq n)
theorem Pa (n:Nat):(∀{x0 r},(G8 n) x0=some r->Says Tryz.prog 169 [.agg [si x0.Op,si x0.N,Ao x0.Name,.sl false 4 (x0.L.map Av)]] (.A9 [si r.1,si r.2])):=by
  induction n with
  |zero=>exactλh=>B9 h
  |succ n ih=>exactλh=>Q9 ih h
theorem Pb {n:Nat}:∀{x0 r},(G8 n) x0=some r->Says Tryz.prog 169 [.agg [si x0.Op,si x0.N,Ao x0.Name,.sl false 4 (x0.L.map Av)]] (.A9 [si r.1,si r.2]):=(Pa n)
def qT:IC:=(Ra 3 [.o (.bx 2 (.t 0)),.b 5 [9,15,22,26,38] (.bx 4 (.t 2)),.K 6 0]
(Ra 0 [.K 7 0]
(Bw 1 (Ra 9 [.f 0 5]
(Bk 0 (Ra 12 [.q 10 2 11]
(Cn 11 (Rc 13 [.A 2 3,.C 1,.f 2 5,.o (.call 160 [.t 13,.t 14,.t 16,.c (si 8),.c (si 1)] 0),.M 7 17]) (Ra 19 [.q 10 3 18]
(Ci 18 (Rc 20 [.A 2 3,.C 1,.f 2 5,.o (.call 160 [.t 20,.t 21,.t 23,.c (si 2),.c (si 2)] 0),.M 7 24])))))))
(Sq (Ra 0 [.K 8 0]
(Bl 1 (Sq (Ra 25 [.C 8,.f 3 5,.Z 27,.O .lss 25 28,.C 29,.G 30 true,.C 7,.P .eql 31 0,.e,.W 30 32]
(cX 33 1))
(Sq (Bk 2 (Rc 36 [.A 2 3,.C 1,.f 3 5,.C 8,.I 4 39 40,.A 4 41,.c 170 [36,37,42] 0,.M 7 43]))
(Rc 34 [.C 8,.P .add 34 1,.M 8 35])))))
(Rb 44 [.C 7,.M 6 44])))))
def qU:Gi:=⟨[(9,[5]),(15,[5]),(22,[5]),(26,[5]),(38,[5])]⟩
def qV:List RV:=[.tmp 6]
namespace Cv
def J3 (i:Int):Option Int:=
some i
def J2 (L1:Int->Int->Option Int) (R170:AL->Int->As->Option Int) (a:As) (d:Int) (b:AL) (e c:Int) (j:Bool):Option Int:=
if j then
(gt a.L d).bind λq=>
(R170 b c q).bind λp=>
L1 p (BE (d+1))
else
J3 e
def L1 (R170:AL->Int->As->Option Int) (a:As) (b:AL) (c:Int) (L1:Int->Int->Option Int) (e d:Int):Option Int:=
if decide (d<(a.L.length:Int))then
J2 L1 R170 a d b e c (e==0)
else
J2 L1 R170 a d b e c false
def Ac (R170:AL->Int->As->Option Int) (a:As) (b:AL) (c:Int):Nat->Int->Int->Option Int
|0,_,_=>none
|n+1,e,d=>L1 R170 a b c (Ac R170 a b c n) e d
def J1 (R170:AL->Int->As->Option Int) (a:As) (b:AL) (c f:Int):Option Int:=
Ac R170 a b c Bo f 0
end Cv
section
open Cv
def Cv (R170:AL->Int->As->Option Int) (b:AL) (c:Int) (a:As):Option Int:=
if a.Op==2 then
(CS b c a.Name 8 1).bind λl=>
J1 R170 a b c l
else
if a.Op==3 then
(CS b c a.Name 2 2).bind λo=>
J1 R170 a b c o
else
J1 R170 a b c 0
theorem RC {R170:AL->Int->As->Option Int} (H170:∀{x0 x1 x2 r},R170 x0 x1 x2=some r->Says Tryz.prog 170 [.agg (Bb x0),si x1,.agg [si x2.Op,si x2.N,Ao x2.Name,vS 4 Av x2.L]] (si r)) {b:AL} {c:Int} {a:As} {r:Int} (h:Cv R170 b c a=some r):Says Tryz.prog 170 [.agg (Bb b),si c,.agg [si a.Op,si a.N,Ao a.Name,vS 4 Av a.L]] (si r):=by
 refine wO mix Tryz.func170 (I:=⟨qT,qU,qV⟩) ?_
 simp only[qT,qU,qV]
 have a1:= @H170
 have a2:= @Lu
 have l1:=λn1 n2 n3 n4:Nat=>BM λn τ=>∃(e d:Int),(τ 1=si c/\τ 3=bA 2 (Bb b)/\τ 5=bA 4 [si a.Op,si a.N,Ao a.Name,vS 4 Av a.L]/\τ 7=si e/\τ 8=si d)/\Ac R170 a b c n e d=some r
 have c1:=λn1 n2 n3 n4:Nat=>B7 1 λτ=>∃(f:Int),(τ 1=si c/\τ 3=bA 2 (Bb b)/\τ 5=bA 4 [si a.Op,si a.N,Ao a.Name,vS 4 Av a.L]/\τ 7=si f)/\J1 R170 a b c f=some r
 unfold Cv at h
 exact walk
end
def Nr:Nat->(AL->Int->As->Option Int)
|0=>(λ_ _ _=>none)
|n+1=>Cv ((Nr n))
def GL (n:Nat):AL->Int->As->Option Int:=(Nr n)
theorem Pc (n:Nat):(∀{x0 x1 x2 r},(GL n) x0 x1 x2=some r->Says Tryz.prog 170 [.agg (Bb x0),si x1,.agg [si x2.Op,si x2.N,Ao x2.Name,.sl false 4 (x2.L.map Av)]] (si r)):=by
  induction n with
  |zero=>exactλh=>B9 h
  |succ n ih=>exactλh=>RC ih h
theorem Pd {n:Nat}:∀{x0 x1 x2 r},(GL n) x0 x1 x2=some r->Says Tryz.prog 170 [.agg (Bb x0),si x1,.agg [si x2.Op,si x2.N,Ao x2.Name,.sl false 4 (x2.L.map Av)]] (si r):=(Pc n)
def pZ:IC:=(Ra 3 [.o (.bx 2 (.t 0)),.w 5,.o (.bx 4 (.t 2)),.K 6 0]
(Sq (Ra 9 [.A 4 5,.c 166 [9] 0,.N 10]
(Ci 11 (Rb 0 [.K 6 3])))
(Ra 13 [.A 4 5,.c 169 [13] 0,.w 12,.C 14,.w 15,.o (.ext (.t 12) 0),.o (.ext (.t 12) 1),.M 7 15,.M 8 16]
(Sq (Ra 17 [.C 7,.P .gtr 17 24,.C 18,.G 19 false,.C 8,.P .gtr 20 6,.e,.V 19 21]
(Ci 22 (Rb 0 [.K 6 2])))
(Rb 23 [.A 2 3,.C 1,.A 4 5,.c 170 [23,24,25] 0,.M 6 26])))))
def p5:Gi:=⟨[]⟩
def p6:List RV:=[.tmp 6]
namespace Dn
def J1 (a:As) (b:AL) (c:Int) (e:Bool):Option Int:=
if e then
some 2
else
(GL Bo b c a).bind λi=>
some i
end Dn
section
open Dn
def Dn (b:AL) (c:Int) (a:As):Option Int:=
(CE Bo a).bind λf=>
if !f then
some 3
else
(G8 Bo a).bind λd=>
if decide (d.1>24)then
J1 a b c true
else
J1 a b c (decide (d.2>6))
theorem SK {b:AL} {c:Int} {a:As} {r:Int} (h:Dn b c a=some r):Says Tryz.prog 161 [.agg (Bb b),si c,.agg [si a.Op,si a.N,Ao a.Name,vS 4 Av a.L]] (si r):=by
 refine wO mix Tryz.func161 (I:=⟨pZ,p5,p6⟩) ?_
 simp only[pZ,p5,p6]
 have a1:= @Hf
 have a2:= @Pb
 have a3:= @Pd
 unfold Dn at h
 exact walk
end
end Go.Abs
