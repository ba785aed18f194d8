/- Typed programs of Go functions, and that the functions do what these say. -/
import Derived.Test.YtdadohkcmclilaaGreatDoorWalkF
import Derived.Test.YtdadohkcmclilaaGreatDoorWalkG
import Derived.Shelf.Slices.SearchI
set_option linter.unusedSimpArgs false
set_option linter.unusedVariables false
namespace Go.Abs
open Go.Proofs
set_option maxRecDepth 1000000
set_option maxHeartbeats 4000000
namespace Dc
def J3 (d:Bool):ABp Bool:=
some d
def J2 (a:EM) (c:Bool):ABp Bool:=
if c then
some false
else
if decide (a.Init>(-9223372036854775808))then
if a.Init==0 then
J3 true
else
if a.Kind==1 then
J3 true
else
J3 (a.Kind==2)
else
J3 false
def J1 (a:EM) (b:Bool):ABp Bool:=
if b then
some false
else
if a.Kind==5 then
(Bp a.On).bind λf=>
if !f then
J2 a true
else
if a.Kind != 5 then
J2 a (!(a.On.toList==(⟨#[]⟩:ABq).toList))
else
J2 a false
else
if a.Kind != 5 then
J2 a (!(a.On.toList==(⟨#[]⟩:ABq).toList))
else
J2 a false
end Dc
section
open Dc
def Dc (a:EM):ABp Bool:=
if decide (a.Kind<1)then
J1 a true
else
if decide (a.Kind>6)then
J1 a true
else
(Bp a.Name).bind λe=>
if !e then
J1 a true
else
if decide (a.B0<0)then
J1 a true
else
if a.Kind != 1 then
J1 a (a.B0 != 0)
else
J1 a false
theorem Px {a:EM} {r:Bool} (h:Dc a=some r):Says Tryz.prog 144 [.agg (JQ a)] (sb r):=by
 refine kO mix Tryz.func144 (hn [(1,[3,7,12,18,23,27,32,36,42,46,51,55,59,64])] [(2,1),(5,2)]) ?_
 have a1:= @HV
 have c2:=λn1 n2 n3 n4:Nat=>Bh 2 λτ=>∃(c:Bool),(τ 1=bA 6 (JQ a)/\τ 50=sb c)/\J2 a c=some r
 have c1:=λn1 n2 n3 n4:Nat=>Bh 1 λτ=>∃(b:Bool),(τ 1=bA 6 (JQ a)/\τ 31=sb b)/\J1 a b=some r
 unfold Dc at h
 exact walk
end
namespace DN
def J3:ABp Bool:=
some true
def L1 (R100:A4->ABp Bool) (a:A4) (L1:Int->ABp Bool) (b:Int):ABp Bool:=
if decide (b<(a.L.length:Int))then
(gt a.L b).bind λj=>
(R100 j).bind λi=>
if !i then
some false
else
L1 (Ap (b+1))
else
J3
def Aa (R100:A4->ABp Bool) (a:A4):Nat->Int->ABp Bool
|0,_=>none
|n+1,b=>L1 R100 a (Aa R100 a n) b
def J2 (R100:A4->ABp Bool) (a:A4) (d:Bool):ABp Bool:=
if d then
some false
else
Aa R100 a BT 0
def J1 (R100:A4->ABp Bool) (a:A4) (c:Bool):ABp Bool:=
(Ez a.Op).bind λe=>
if e != (a.L.length:Int)then
J2 R100 a true
else
if !(c==(!(a.Name.toList==(⟨#[]⟩:ABq).toList)))then
J2 R100 a true
else
if c then
(Bp a.Name).bind λf=>
if !f then
J2 R100 a true
else
if decide (a.N<0)then
J2 R100 a true
else
if a.Op != 1 then
J2 R100 a (a.N != 0)
else
J2 R100 a false
else
if decide (a.N<0)then
J2 R100 a true
else
if a.Op != 1 then
J2 R100 a (a.N != 0)
else
J2 R100 a false
end DN
section
open DN
def DN (R100:A4->ABp Bool) (a:A4):ABp Bool:=
if a.Op==2 then
J1 R100 a true
else
J1 R100 a (a.Op==3)
theorem Pv {R100:A4->ABp Bool} (H100:∀{x0 r},R100 x0=some r->Says Tryz.prog 198 [.agg [si x0.Op,si x0.N,BM x0.Name,vS 4 A0 x0.L]] (sb r)) {a:A4} {r:Bool} (h:DN R100 a=some r):Says Tryz.prog 198 [.agg [si a.Op,si a.N,BM a.Name,vS 4 A0 a.L]] (sb r):=by
 refine kO mix Tryz.func198 (hn [(1,[5,9,13,16,22,30,37,42,46,52,58])] [(1,1),(3,2)]) ?_
 have a1:= @H100
 have a2:= @SQ
 have a3:= @HV
 have l1:=λn1 n2 n3 n4:Nat=>Ax λn τ=>∃(b:Int),(τ 1=bA 4 [si a.Op,si a.N,BM a.Name,vS 4 A0 a.L]/\τ 4=si b)/\Aa R100 a n b=some r
 have c2:=λn1 n2 n3 n4:Nat=>Bh 2 λτ=>∃(d:Bool),(τ 1=bA 4 [si a.Op,si a.N,BM a.Name,vS 4 A0 a.L]/\τ 50=sb d)/\J2 R100 a d=some r
 have c1:=λn1 n2 n3 n4:Nat=>Bh 1 λτ=>∃(c:Bool),(τ 1=bA 4 [si a.Op,si a.N,BM a.Name,vS 4 A0 a.L]/\τ 3=sb c)/\J1 R100 a c=some r
 unfold DN at h
 exact walk
end
def Lh:Nat->(A4->ABp Bool)
|0=>(λ_=>none)
|n+1=>DN ((Lh n))
def Dm (n:Nat):A4->ABp Bool:=(Lh n)
theorem Ou (n:Nat):(∀{x0 r},(Dm n) x0=some r->Says Tryz.prog 198 [.agg [si x0.Op,si x0.N,BM x0.Name,.sl false 4 (x0.L.map A0)]] (sb r)):=by
  induction n with
  |zero=>exactλh=>Bi h
  |succ n ih=>exactλh=>Pv ih h
theorem KS {n:Nat}:∀{x0 r},(Dm n) x0=some r->Says Tryz.prog 198 [.agg [si x0.Op,si x0.N,BM x0.Name,.sl false 4 (x0.L.map A0)]] (sb r):=(Ou n)
namespace Fi
def J3 (i:Int):ABp Int:=
some i
def J2 (L1:Int->Int->ABp Int) (R100:AQ->Int->A4->ABp Int) (a:A4) (d:Int) (b:AQ) (e c:Int) (j:Bool):ABp Int:=
if j then
(gt a.L d).bind λq=>
(R100 b c q).bind λp=>
L1 p (Ap (d+1))
else
J3 e
def L1 (R100:AQ->Int->A4->ABp Int) (a:A4) (b:AQ) (c:Int) (L1:Int->Int->ABp Int) (e d:Int):ABp Int:=
if decide (d<(a.L.length:Int))then
J2 L1 R100 a d b e c (e==0)
else
J2 L1 R100 a d b e c false
def Aa (R100:AQ->Int->A4->ABp Int) (a:A4) (b:AQ) (c:Int):Nat->Int->Int->ABp Int
|0,_,_=>none
|n+1,e,d=>L1 R100 a b c (Aa R100 a b c n) e d
def J1 (R100:AQ->Int->A4->ABp Int) (a:A4) (b:AQ) (c f:Int):ABp Int:=
Aa R100 a b c BT f 0
end Fi
section
open Fi
def Fi (R100:AQ->Int->A4->ABp Int) (b:AQ) (c:Int) (a:A4):ABp Int:=
if a.Op==2 then
(DH b c a.Name 8 1).bind λl=>
J1 R100 a b c l
else
if a.Op==3 then
(DH b c a.Name 2 2).bind λo=>
J1 R100 a b c o
else
J1 R100 a b c 0
theorem We {R100:AQ->Int->A4->ABp Int} (H100:∀{x0 x1 x2 r},R100 x0 x1 x2=some r->Says Tryz.prog 202 [.agg (Bu x0),si x1,.agg [si x2.Op,si x2.N,BM x2.Name,vS 4 A0 x2.L]] (si r)) {b:AQ} {c:Int} {a:A4} {r:Int} (h:Fi R100 b c a=some r):Says Tryz.prog 202 [.agg (Bu b),si c,.agg [si a.Op,si a.N,BM a.Name,vS 4 A0 a.L]] (si r):=by
 refine kO mix Tryz.func202 (hn [(5,[9,15,22,26,38])] [(2,1)]) ?_
 have a1:= @H100
 have a2:= @QI
 have l1:=λn1 n2 n3 n4:Nat=>Ax λn τ=>∃(e d:Int),(τ 1=si c/\τ 3=bA 2 (Bu b)/\τ 5=bA 4 [si a.Op,si a.N,BM a.Name,vS 4 A0 a.L]/\τ 7=si e/\τ 8=si d)/\Aa R100 a b c n e d=some r
 have c1:=λn1 n2 n3 n4:Nat=>Bh 1 λτ=>∃(f:Int),(τ 1=si c/\τ 3=bA 2 (Bu b)/\τ 5=bA 4 [si a.Op,si a.N,BM a.Name,vS 4 A0 a.L]/\τ 7=si f)/\J1 R100 a b c f=some r
 unfold Fi at h
 exact walk
end
def SV:Nat->(AQ->Int->A4->ABp Int)
|0=>(λ_ _ _=>none)
|n+1=>Fi ((SV n))
def KE (n:Nat):AQ->Int->A4->ABp Int:=(SV n)
theorem Uh (n:Nat):(∀{x0 x1 x2 r},(KE n) x0 x1 x2=some r->Says Tryz.prog 202 [.agg (Bu x0),si x1,.agg [si x2.Op,si x2.N,BM x2.Name,.sl false 4 (x2.L.map A0)]] (si r)):=by
  induction n with
  |zero=>exactλh=>Bi h
  |succ n ih=>exactλh=>We ih h
theorem Ui {n:Nat}:∀{x0 x1 x2 r},(KE n) x0 x1 x2=some r->Says Tryz.prog 202 [.agg (Bu x0),si x1,.agg [si x2.Op,si x2.N,BM x2.Name,.sl false 4 (x2.L.map A0)]] (si r):=(Uh n)
namespace Cr
def L1 (R100:A5->AP->ABp A5) (a:List AP) (L1:A5->Int->ABp A5) (c:A5) (b:Int):ABp A5:=
if decide (b<(a.length:Int))then
(gt a b).bind λf=>
(R100 c f).bind λe=>
L1 e (Ap (b+1))
else
some c
def Aa (R100:A5->AP->ABp A5) (a:List AP):Nat->A5->Int->ABp A5
|0,_,_=>none
|n+1,c,b=>L1 R100 a (Aa R100 a n) c b
end Cr
section
open Cr
def Cr (R100:A5->AP->ABp A5) (d:A5) (a:List AP):ABp A5:=
Aa R100 a BT d 0
theorem Qv {R100:A5->AP->ABp A5} (H100:∀{x0 x1 r},R100 x0 x1=some r->BD Tryz.prog 114 [bA 10 (EA x0),.agg [si x1.Op,si x1.Ep,BM x1.Name,BM x1.Arg,vS 4 A0 x1.Index,si x1.Expr.Op,si x1.Expr.N,BM x1.Expr.Name,vS 4 A0 x1.Expr.L,vS 11 Av x1.Body,vS 11 Av x1.Else]] (.BJ []) [bA 10 (EA r),.dead]) {d:A5} {a:List AP} {r:A5} (h:Cr R100 d a=some r):BD Tryz.prog 59 [bA 10 (EA d),vS 11 Av a] (.BJ []) [bA 10 (EA r),.dead]:=by
 refine kL mix Tryz.func59 (hn [(0,[11])]) ?_
 have a1:= @H100
 have l1:=λn1 n2 n3 n4:Nat=>Ax λn τ=>∃(c:A5) (b:Int),(τ 0=bA 10 (EA c)/\τ 1=vS 11 Av a/\τ 4=si b)/\Aa R100 a n c b=some r
 unfold Cr at h
 exact walk
end
namespace AZ
def J6:ABp Bool:=
some true
def J5 (L1:Int->ABp Bool) (b:Int):ABp Bool:=
L1 (Ap (b+1))
def L2 (L1:Int->ABp Bool) (a:An) (b:Int) (f:List Int) (L2:Int->ABp Bool) (i:Int):ABp Bool:=
if decide (i<(f.length:Int))then
(gt f i).bind λab=>
(DS ab a.Br).bind λy=>
if !y then
some false
else
L2 (Ap (i+1))
else
J5 L1 b
def C2 (L1:Int->ABp Bool) (a:An) (b:Int) (f:List Int):Nat->Int->ABp Bool
|0,_=>none
|n+1,i=>L2 L1 a b f (C2 L1 a b f n) i
def J4 (L1:Int->ABp Bool) (a:An) (b:Int) (c:Ab) (l:Bool):ABp Bool:=
if l then
some false
else
(AU c).bind λf=>
C2 L1 a b f BT 0
def J3 (L1:Int->ABp Bool) (a:An) (b:Int) (c:Ab) (j:Bool):ABp Bool:=
if j then
some false
else
if c.Op==5 then
(DS c.A (a.A1.length:Int)).bind λv=>
if !v then
J4 L1 a b c true
else
if c.Op==10 then
(DS c.B (a.A1.length:Int)).bind λw=>
J4 L1 a b c (!w)
else
J4 L1 a b c false
else
if c.Op==10 then
(DS c.B (a.A1.length:Int)).bind λx=>
J4 L1 a b c (!x)
else
J4 L1 a b c false
def J2 (L1:Int->ABp Bool) (a:An) (b e:Int) (d:AD) (c:Ab) (p:Bool):ABp Bool:=
if p then
some false
else
if c.Op==28 then
if c.Site != (-1)then
J3 L1 a b c true
else
if c.Op != 28 then
(DS c.Site (d.A7.length:Int)).bind λt=>
if !t then
J3 L1 a b c true
else
(gt d.A7 c.Site).bind λz=>
J3 L1 a b c (z.Thread != e)
else
J3 L1 a b c false
else
if c.Op != 28 then
(DS c.Site (d.A7.length:Int)).bind λu=>
if !u then
J3 L1 a b c true
else
(gt d.A7 c.Site).bind λaa=>
J3 L1 a b c (aa.Thread != e)
else
J3 L1 a b c false
def L1 (a:An) (e:Int) (d:AD) (L1:Int->ABp Bool) (b:Int):ABp Bool:=
if decide (b<(a.A1.length:Int))then
(gt a.A1 b).bind λc=>
if decide (c.Op<1)then
J2 L1 a b e d c true
else
if decide (c.Op>28)then
J2 L1 a b e d c true
else
if !((c.Op==28)==(b==(Ap ((a.A1.length:Int)-1))))then
J2 L1 a b e d c true
else
(AY d c).bind λq=>
if !q then
J2 L1 a b e d c true
else
(CP a.A1 b).bind λs=>
J2 L1 a b e d c (!s)
else
J6
def Aa (a:An) (e:Int) (d:AD):Nat->Int->ABp Bool
|0,_=>none
|n+1,b=>L1 a e d (Aa a e d n) b
def J1 (a:An) (e:Int) (d:AD) (o:Bool):ABp Bool:=
if o then
some false
else
Aa a e d BT 0
end AZ
section
open AZ
def AZ (d:AD) (e:Int) (a:An):ABp Bool:=
if decide (a.Br<0)then
J1 a e d true
else
if decide (a.Br>32)then
J1 a e d true
else
J1 a e d ((a.A1.length:Int)==0)
theorem Oz {d:AD} {e:Int} {a:An} {r:Bool} (h:AZ d e a=some r):Says Tryz.prog 84 [.agg (Ai d),si e,.agg (CA a)] (sb r):=by
 refine kO mix Tryz.func84 (hn [(3,[83,89]),(5,[12,15,19,32,62,135]),(9,[37,41,46,68,72,77,81,91,101,105,112,116]),(10,[126,131,133])] [(3,1),(12,2),(15,3),(18,4)]) ?_
 have a1:= @I4
 have a2:= @Oy
 have a3:= @TZ
 have a4:= @Wj
 have l1:=λn1 n2 n3 n4:Nat=>Ax λn τ=>∃(b:Int),(τ 1=si e/\τ 3=bA 6 (Ai d)/\τ 5=bA 2 (CA a)/\τ 7=si (a.A1.length:Int)/\τ 8=si b)/\Aa a e d n b=some r
 have l2:=λn1 n2 n3 n4:Nat=>Ax λn τ=>∃(b:Int) (f:List Int) (i:Int),(τ 1=si e/\τ 3=bA 6 (Ai d)/\τ 5=bA 2 (CA a)/\τ 7=si (a.A1.length:Int)/\τ 8=si b/\τ 10=vO 1 eI f/\τ 11=si i)/\C2 (Aa a e d n1) a b f n i=some r
 have c4:=λn1 n2 n3 n4:Nat=>Bh 4 λτ=>∃(b:Int) (c:Ab) (l:Bool),(τ 1=si e/\τ 3=bA 6 (Ai d)/\τ 5=bA 2 (CA a)/\τ 7=si (a.A1.length:Int)/\τ 8=si b/\τ 9=bA 6 (Du c)/\τ 122=sb l)/\J4 (Aa a e d n1) a b c l=some r
 have c3:=λn1 n2 n3 n4:Nat=>Bh 3 λτ=>∃(b:Int) (c:Ab) (j:Bool),(τ 1=si e/\τ 3=bA 6 (Ai d)/\τ 5=bA 2 (CA a)/\τ 7=si (a.A1.length:Int)/\τ 8=si b/\τ 9=bA 6 (Du c)/\τ 100=sb j)/\J3 (Aa a e d n1) a b c j=some r
 have c2:=λn1 n2 n3 n4:Nat=>Bh 2 λτ=>∃(b:Int) (c:Ab) (p:Bool),(τ 1=si e/\τ 3=bA 6 (Ai d)/\τ 5=bA 2 (CA a)/\τ 7=si (a.A1.length:Int)/\τ 8=si b/\τ 9=bA 6 (Du c)/\τ 67=sb p)/\J2 (Aa a e d n1) a b e d c p=some r
 have c1:=λn1 n2 n3 n4:Nat=>Bh 1 λτ=>∃(o:Bool),(τ 1=si e/\τ 3=bA 6 (Ai d)/\τ 5=bA 2 (CA a)/\τ 7=si (a.A1.length:Int)/\τ 26=sb o)/\J1 a e d o=some r
 unfold AZ at h
 exact walk
end
def f103c:IC:=(Ra 12 [.b 6 [118,141] (.bx 6 (.t 0)),.b 7 [21,28,33,34,36,37,40,41,43,44,48,49,52,53,57,58,60,61,64,65,67,68,70,71,72,76,77,80,81,83,84,86,87,88,91,92,96,99,102,103,105,106,109,110,112,113,116,117,124,125,126,127,129,130,133,134,135,136,139,140,148,149,150,151,153,154,156,157,158,159,162,175,176,178,179,183,192,193,198,199,204,205,207,208,211,212,214,215] (.bx 4 (.t 1)),.o (.bx 4 (.c (.agg [.own false 2 [],si 0,.own false 1 [],.own false 3 []]))),.K 13 0,.B 14 false]
(Sq (Ra 20 [.A 6 6,.y 7 (.ld true 4 (.t 7)),.C 2,.C 3,.C 4,.c 100 [20,21,22,23,24] 0,.N 25]
(Ci 26 (Rb 27 [.o (.RD [.own false 2 [],si 0,.own false 1 [],.own false 3 []] []),.S 4 12 27,.K 13 0,.B 14 false])))
(Ra 28 [.y 7 (.ld true 4 (.t 7)),.c 141 [28] 2,.S 4 7 29]
(Ra 0 [.K 15 0]
(Ny 5 (Ra 30 [.C 3]
(Bk 0 (Ra 32 [.q 30 1 31]
(Cn 31 (Rc 33 [.m 7 3 7,.C 2,.J 7 3 34 35,.H 7 0 36,.T 37 2]) (Ra 39 [.q 30 2 38]
(Cn 38 (Rc 40 [.m 7 3 7,.C 2,.J 7 3 41 42,.H 7 0 43,.T 44 5]) (Ny 1 (Ra 46 [.q 30 6 45]
(Cn 45 .skip (Rc 47 [.q 30 10 45])))
(Cn 45 (Rc 48 [.m 7 0 7,.C 4,.C 2,.J 7 2 49 50,.H 7 0 52,.S 1 53 51]) (Ny 2 (Ra 55 [.q 30 7 54]
(Cn 54 .skip (Rc 56 [.q 30 11 54])))
(Cn 54 (Rc 57 [.m 7 0 7,.C 4,.J 7 2 58 59,.H 7 0 60,.T 61 (-1)]) (Ra 63 [.q 30 8 62]
(Cn 62 (Rc 64 [.m 7 0 7,.C 4,.m 7 0 7,.C 4,.J 7 2 68 69,.m 7 1 70,.C 2,.o (.Mr 1 [[si 0]] [(0,.t 73)]),.c 142 [72,74] 2,.J 7 2 65 66,.H 7 1 76,.S 1 77 75]) (Ra 79 [.q 30 9 78]
(Cn 78 (Rc 80 [.m 7 0 7,.C 4,.m 7 0 7,.C 4,.J 7 2 84 85,.m 7 1 86,.C 2,.c 143 [88,89] 2,.J 7 2 81 82,.H 7 1 91,.S 1 92 90]) (Ra 94 [.q 30 12 93]
(Cn 93 (Rc 95 [.C 2,.F 1 7,.S 1 96 95]) (Ra 98 [.q 30 13 97]
(Cn 97 (Rc 99 [.F 1 7,.T 99 (-1)]) (Ra 101 [.q 30 14 100]
(Cn 100 (Rc 102 [.m 7 3 7,.C 2,.J 7 3 103 104,.H 7 2 105,.x ⟨none,.st 1 (.t 106) (.c (sb true)),none⟩]) (Ra 108 [.q 30 15 107]
(Cn 107 (Rc 109 [.m 7 3 7,.C 2,.J 7 3 110 111,.H 7 2 112,.x ⟨none,.st 1 (.t 113) (.c (sb false)),none⟩]) (Ra 115 [.q 30 16 114]
(Cn 114 (Ra 116 [.m 7 0 7,.f 2 6,.C 4,.I 2 119 120,.U 1 121,.J 7 2 117 123,.H 7 0 124,.T 125 (-1)]
(Rc 126 [.F 3 7,.y 7 (.WM (.t 126)),.C 2,.F 3 7,.y 7 (.WM (.t 129)),.C 2,.C 4,.J 7 3 127 128,.H 7 0 133,.x ⟨none,.VG (.t 134) (.c (si 3)),none⟩,.J 7 3 130 131,.H 7 1 135,.x ⟨none,.VG (.t 136) (.t 132),none⟩])) (Ra 138 [.q 30 17 137]
(Cn 137 (Ra 139 [.m 7 0 7,.f 2 6,.C 4,.I 2 142 143,.U 1 144,.C 2,.J 7 2 140 146,.H 7 0 148,.S 1 149 147]
(Rc 150 [.F 3 7,.y 7 (.WM (.t 150)),.C 2,.F 3 7,.y 7 (.WM (.t 153)),.C 2,.J 7 3 151 152,.H 7 0 156,.x ⟨none,.VG (.t 157) (.c (si 2)),none⟩,.J 7 3 154 155,.H 7 1 158,.x ⟨none,.VG (.t 159) (.c (si 0)),none⟩])) (Ra 161 [.q 30 18 160]
(Cn 160 (Ra 162 [.y 7 (.ld true 4 (.t 7)),.C 4,.c 140 [162,163] 2,.b 16 [165,168,169,171] (.mv (.t 164))]
(Ra 0 [.K 15 (-1)]
(Ra 165 [.y 16 (.cp (.t 16)),.Z 165,.P .gtr 166 0]
(Ci 167 (Ra 168 [.y 16 (.cp (.t 16)),.y 16 (.VA 1 (.t 168) (.c (si 0))),.L 169,.M 17 170]
(Sq (Ra 171 [.y 16 (.cp (.t 16)),.C 5,.c 139 [171,172] 0]
(Ci 173 (Rc 174 [.C 5,.M 17 174])))
(Ra 175 [.m 7 3 7,.C 17,.J 7 3 176 177,.H 7 0 178,.T 179 4]
(Rc 180 [.C 17,.M 15 180])))))))) (Ra 182 [.q 30 19 181]
(Cn 181 (Ra 183 [.y 7 (.ld true 4 (.t 7)),.C 4,.c 140 [183,184] 2,.b 18 [187,194,196,200] (.mv (.t 185))]
(Sq (Ra 0 [.K 19 0]
(Bl 1 (Sq (Ra 186 [.C 19,.y 18 (.cp (.t 18)),.Z 187,.O .lss 186 188]
(cX 189 1))
(Sq (Bk 2 (Rc 192 [.m 7 3 7,.y 18 (.cp (.t 18)),.C 19,.J 18 1 194 195,.L 196,.J 7 3 193 197,.H 7 0 198,.T 199 4]))
(Rc 190 [.C 19,.P .add 190 1,.M 19 191])))))
(Rc 200 [.y 18 (.cp (.t 18)),.Z 200,.M 15 201]))) (Ra 203 [.q 30 20 202]
(Cn 202 (Rc 204 [.m 7 3 7,.C 4,.J 7 3 205 206,.H 7 0 207,.T 208 1]) (Ra 210 [.q 30 22 209]
(Ci 209 (Rc 211 [.m 7 2 7,.C 4,.J 7 1 212 213,.x ⟨none,.st 1 (.t 214) (.c (sb true)),none⟩])))))))))))))))))))))))))))))))))))
(Rb 215 [.y 7 (.ld true 4 (.t 7)),.C 15,.S 4 12 215,.M 13 216,.B 14 true]))))))
def f103g:Gi:=⟨[(21,[7]),(28,[7]),(33,[7]),(34,[7]),(36,[7]),(37,[7]),(40,[7]),(41,[7]),(43,[7]),(44,[7]),(48,[7]),(49,[7]),(52,[7]),(53,[7]),(57,[7]),(58,[7]),(60,[7]),(61,[7]),(64,[7]),(65,[7]),(67,[7]),(68,[7]),(70,[7]),(71,[7]),(72,[7]),(76,[7]),(77,[7]),(80,[7]),(81,[7]),(83,[7]),(84,[7]),(86,[7]),(87,[7]),(88,[7]),(91,[7]),(92,[7]),(96,[7]),(99,[7]),(102,[7]),(103,[7]),(105,[7]),(106,[7]),(109,[7]),(110,[7]),(112,[7]),(113,[7]),(116,[7]),(117,[7]),(118,[6]),(124,[7]),(125,[7]),(126,[7]),(127,[7]),(129,[7]),(130,[7]),(133,[7]),(134,[7]),(135,[7]),(136,[7]),(139,[7]),(140,[7]),(141,[6]),(148,[7]),(149,[7]),(150,[7]),(151,[7]),(153,[7]),(154,[7]),(156,[7]),(157,[7]),(158,[7]),(159,[7]),(162,[7]),(165,[16]),(168,[16]),(169,[16]),(171,[16]),(175,[7]),(176,[7]),(178,[7]),(179,[7]),(183,[7]),(187,[18]),(192,[7]),(193,[7]),(194,[18]),(196,[18]),(198,[7]),(199,[7]),(200,[18]),(204,[7]),(205,[7]),(207,[7]),(208,[7]),(211,[7]),(212,[7]),(214,[7]),(215,[7])]⟩
def f103r:List RV:=[.cell 12 true 4,.tmp 13,.tmp 14]
namespace Cx
def J5 (p:AN) (t:Int):ABp (AN×Int×Bool):=
some (p,t,true)
def J3 (a:AN) (w:Int):ABp (AN×Int×Bool):=
(gt a.AA w).bind λad=>
J5 (AN.mk a.AG a.Tx a.Bq (a.AA.set w.toNat (AE.mk 4 ad.D8 ad.Atomic))) w
def J4 (i:List Int) (au:AN):ABp (AN×Int×Bool):=
J5 au (i.length:Int)
def L1 (i:List Int) (L1:AN->Int->ABp (AN×Int×Bool)) (j:AN) (l:Int):ABp (AN×Int×Bool):=
if decide (l<(i.length:Int))then
(gt i l).bind λae=>
(gt j.AA ae).bind λaf=>
L1 (AN.mk j.AG j.Tx j.Bq (j.AA.set ae.toNat (AE.mk 4 af.D8 af.Atomic))) (Ap (l+1))
else
J4 i j
def Aa (i:List Int):Nat->AN->Int->ABp (AN×Int×Bool)
|0,_,_=>none
|n+1,j,l=>L1 i (Aa i n) j l
def J2 (c d b:Int) (a:AN) (f:Int) (e:AD) (s:Bool):ABp (AN×Int×Bool):=
if s then
(gt a.AG d).bind λbc=>
J5 (AN.mk (a.AG.set d.toNat (AW.mk (-1) bc.As)) a.Tx a.Bq a.AA) 0
else
if c==8 then
(gt a.AG d).bind λaj=>
(Dk aj.As [b]).bind λaw=>
J5 (AN.mk (a.AG.set d.toNat (AW.mk aj.CW aw)) a.Tx a.Bq a.AA) 0
else
if c==9 then
(gt a.AG d).bind λal=>
(Dl al.As b).bind λax=>
J5 (AN.mk (a.AG.set d.toNat (AW.mk al.CW ax)) a.Tx a.Bq a.AA) 0
else
if c==12 then
J5 (AN.mk a.AG b a.Bq a.AA) 0
else
if c==13 then
J5 (AN.mk a.AG (-1) a.Bq a.AA) 0
else
if c==14 then
(gt a.AA b).bind λao=>
J5 (AN.mk a.AG a.Tx a.Bq (a.AA.set b.toNat (AE.mk ao.Status ao.D8 true))) 0
else
if c==15 then
(gt a.AA b).bind λap=>
J5 (AN.mk a.AG a.Tx a.Bq (a.AA.set b.toNat (AE.mk ap.Status ap.D8 false))) 0
else
if c==16 then
(gt e.Af d).bind λaq=>
(gt a.AG aq.Mutex).bind λbd=>
(gt a.AA b).bind λu=>
(gt (a.AA.set b.toNat (AE.mk 3 u.D8 u.Atomic)) b).bind λaa=>
J5 (AN.mk (a.AG.set aq.Mutex.toNat (AW.mk (-1) bd.As)) a.Tx a.Bq ((a.AA.set b.toNat (AE.mk 3 u.D8 u.Atomic)).set b.toNat (AE.mk aa.Status d aa.Atomic))) 0
else
if c==17 then
(gt e.Af d).bind λab=>
(gt a.AG ab.Mutex).bind λaz=>
(gt a.AA b).bind λv=>
(gt (a.AA.set b.toNat (AE.mk 2 v.D8 v.Atomic)) b).bind λac=>
J5 (AN.mk (a.AG.set ab.Mutex.toNat (AW.mk b az.As)) a.Tx a.Bq ((a.AA.set b.toNat (AE.mk 2 v.D8 v.Atomic)).set b.toNat (AE.mk ac.Status 0 ac.Atomic))) 0
else
if c==18 then
(CO a d).bind λx=>
if decide ((x.length:Int)>0)then
(gt x 0).bind λba=>
(GA x f).bind λay=>
if ay then
J3 a f
else
J3 a ba
else
J5 a (-1)
else
if c==19 then
(CO a d).bind λi=>
Aa i BT a 0
else
if c==20 then
(gt a.AA d).bind λai=>
J5 (AN.mk a.AG a.Tx a.Bq (a.AA.set d.toNat (AE.mk 1 ai.D8 ai.Atomic))) 0
else
if c==22 then
(gt a.Bq d).bind λbe=>
J5 (AN.mk a.AG a.Tx (a.Bq.set d.toNat true) a.AA) 0
else
J5 a 0
def J1 (c d b:Int) (a:AN) (f:Int) (e:AD) (q:Bool):ABp (AN×Int×Bool):=
if q then
(gt a.AG d).bind λbb=>
J5 (AN.mk (a.AG.set d.toNat (AW.mk b bb.As)) a.Tx a.Bq a.AA) 0
else
if c==7 then
J2 c d b a f e (c==7)
else
J2 c d b a f e (c==11)
end Cx
section
open Cx
def Cx (e:AD) (o:AN) (b c:Int) (d f:Int):ABp (AN×Int×Bool):=
(CC e o b c d).bind λav=>
if !av then
some ((AN.mk [] 0 [] []),0,false)
else
(Fe o).bind λa=>
if c==1 then
(gt a.AA b).bind λy=>
J5 (AN.mk a.AG a.Tx a.Bq (a.AA.set b.toNat (AE.mk 2 y.D8 y.Atomic))) 0
else
if c==2 then
(gt a.AA b).bind λz=>
J5 (AN.mk a.AG a.Tx a.Bq (a.AA.set b.toNat (AE.mk 5 z.D8 z.Atomic))) 0
else
if c==6 then
J1 c d b a f e (c==6)
else
J1 c d b a f e (c==10)
theorem O1 {e:AD} {o:AN} {b c:Int} {d f:Int} {r:AN×Int×Bool} (h:Cx e o b c d f=some r):Says Tryz.prog 103 [.agg (Ai e),.agg (E1 o),si b,si c,si d,si f] (.BJ [.agg (HM r.1),si r.2.1,sb r.2.2]):=by
 refine wO mix Tryz.func103 (I:=⟨f103c,f103g,f103r⟩) ?_
 simp only[f103c,f103g,f103r]
 have a1:= @Mg
 have a2:= @QK
 have a3:= @O0
 have a4:= @Ta
 have a5:= @Mh
 have a6:= @NG
 have l1:=λn1 n2 n3 n4:Nat=>Ax λn τ=>∃(i:List Int) (j:AN) (l:Int),(τ 7=bA 4 (HM j)/\τ 12=bA 4 [.own false 2 [],si 0,.own false 1 [],.own false 3 []]/\τ 18=vO 1 eI i/\τ 19=si l)/\Aa i n j l=some r
 have c5:=λn1 n2 n3 n4:Nat=>Bh 5 λτ=>∃(p:AN) (t:Int),(τ 7=bA 4 (HM p)/\τ 12=bA 4 [.own false 2 [],si 0,.own false 1 [],.own false 3 []]/\τ 15=si t)/\J5 p t=some r
 have c2:=λn1 n2 n3 n4:Nat=>Bh 2 λτ=>∃(a:AN) (s:Bool),(τ 2=si b/\τ 4=si d/\τ 5=si f/\τ 6=bA 6 (Ai e)/\τ 7=bA 4 (HM a)/\τ 12=bA 4 [.own false 2 [],si 0,.own false 1 [],.own false 3 []]/\τ 15=si 0/\τ 30=si c/\τ 54=sb s)/\J2 c d b a f e s=some r
 have c1:=λn1 n2 n3 n4:Nat=>Bh 1 λτ=>∃(a:AN) (q:Bool),(τ 2=si b/\τ 4=si d/\τ 5=si f/\τ 6=bA 6 (Ai e)/\τ 7=bA 4 (HM a)/\τ 12=bA 4 [.own false 2 [],si 0,.own false 1 [],.own false 3 []]/\τ 15=si 0/\τ 30=si c/\τ 45=sb q)/\J1 c d b a f e q=some r
 unfold Cx at h
 exact walk
end
namespace Bf
def J3:ABp (AL×Bool):=
some ((AL.mk 0 [] [] 0),false)
def J2 (L1:AL->Int->ABp (AL×Bool)) (a:An) (c:Int) (b:AL) (f:Bool):ABp (AL×Bool):=
if f then
some ((AL.mk 0 [] [] 0),false)
else
(gt a.A1 b.PC).bind λj=>
(FE j.Op).bind λo=>
if !o then
some (b,true)
else
if c==(a.A1.length:Int)then
some ((AL.mk 0 [] [] 0),false)
else
(B4 j b).bind λi=>
if !i.2 then
some ((AL.mk 0 [] [] 0),false)
else
L1 i.1 (Ap (c+1))
def L1 (a:An) (L1:AL->Int->ABp (AL×Bool)) (b:AL) (c:Int):ABp (AL×Bool):=
if decide (c≤(a.A1.length:Int))then
if decide (b.PC<0)then
J2 L1 a c b true
else
J2 L1 a c b (decide (b.PC≥(a.A1.length:Int)))
else
J3
def Aa (a:An):Nat->AL->Int->ABp (AL×Bool)
|0,_,_=>none
|n+1,b,c=>L1 a (Aa a n) b c
def J1 (a:An) (d:AL) (e:Bool):ABp (AL×Bool):=
if e then
some ((AL.mk 0 [] [] 0),false)
else
(Ch d).bind λl=>
Aa a BT l 0
end Bf
section
open Bf
def Bf (a:An) (d:AL):ABp (AL×Bool):=
if(d.Br.length:Int) != a.Br then
J1 a d true
else
J1 a d ((d.Bn.length:Int) != a.Br)
theorem Um {a:An} {d:AL} {r:AL×Bool} (h:Bf a d=some r):Says Tryz.prog 131 [.agg (CA a),.agg (Ej d)] (.BJ [.agg (Bc r.1),sb r.2]):=by
 refine kO mix Tryz.func131 (hn [(2,[13,20,28,40,46,58]),(3,[10,11,17,18,25,34,38,48,56,65]),(7,[52]),(8,[72]),(9,[69]),(66,[63,67,68])] [(2,1),(11,2)]) ?_
 have a1:= @QJ
 have a2:= @Nh
 have a3:= @Xu
 have l1:=λn1 n2 n3 n4:Nat=>Ax λn τ=>∃(b:AL) (c:Int),(τ 2=bA 2 (CA a)/\τ 3=bA 4 (Bc b)/\τ 4=bA 4 z9/\τ 6=si c)/\Aa a n b c=some r
 have c2:=λn1 n2 n3 n4:Nat=>Bh 2 λτ=>∃(c:Int) (b:AL) (f:Bool),(τ 2=bA 2 (CA a)/\τ 3=bA 4 (Bc b)/\τ 4=bA 4 z9/\τ 6=si c/\τ 44=sb f)/\J2 (Aa a n1) a c b f=some r
 have c1:=λn1 n2 n3 n4:Nat=>Bh 1 λτ=>∃(e:Bool),(τ 2=bA 2 (CA a)/\τ 3=bA 4 (Ej d)/\τ 4=bA 4 z9/\τ 23=sb e)/\J1 a d e=some r
 unfold Bf at h
 exact walk
end
namespace BO
def J4 (a:AD):ABp Bool:=
(B3 a).bind λl=>
some l
def L1 (a:AD) (L1:Int->ABp Bool) (b:Int):ABp Bool:=
if decide (b<(a.Af.length:Int))then
(gt a.Af b).bind λo=>
(FH a o.Mutex false).bind λj=>
if !j then
some false
else
L1 (Ap (b+1))
else
J4 a
def Aa (a:AD):Nat->Int->ABp Bool
|0,_=>none
|n+1,b=>L1 a (Aa a n) b
def J3 (a:AD) (e:Bool):ABp Bool:=
if e then
some false
else
Aa a BT 0
def J2 (a:AD) (d:Bool):ABp Bool:=
if d then
some false
else
(AR a.Cells).bind λf=>
if !f.2 then
J3 a true
else
(A3 a f.1).bind λi=>
J3 a (!i)
def J1 (a:AD) (c:Bool):ABp Bool:=
if c then
some false
else
if decide ((a.AA.length:Int)<1)then
J2 a true
else
J2 a (decide ((a.AA.length:Int)>4))
end BO
section
open BO
def BO (a:AD):ABp Bool:=
if decide ((a.Cells.length:Int)>12)then
J1 a true
else
if decide ((a.AG.length:Int)>4)then
J1 a true
else
if decide ((a.Af.length:Int)>2)then
J1 a true
else
if decide ((a.AK.length:Int)>2)then
J1 a true
else
J1 a (decide ((a.A7.length:Int)>60))
theorem Jj {a:AD} {r:Bool} (h:BO a=some r):Says Tryz.prog 39 [.agg (Ai a)] (sb r):=by
 refine kO mix Tryz.func39 (hn [(1,[7,12,18,24,30,35,40,46,59]),(3,[55]),(4,[51]),(6,[67]),(48,[45,49,50])] [(2,1),(5,2),(9,3)]) ?_
 have a1:= @Nu
 have a2:= @Nw
 have a3:= @RO
 have a4:= @Nv
 have l1:=λn1 n2 n3 n4:Nat=>Ax λn τ=>∃(b:Int),(τ 1=bA 6 (Ai a)/\τ 60=vS 2 HF a.Af/\τ 61=si (a.Af.length:Int)/\τ 62=si b)/\Aa a n b=some r
 have c3:=λn1 n2 n3 n4:Nat=>Bh 3 λτ=>∃(e:Bool),(τ 1=bA 6 (Ai a)/\τ 58=sb e)/\J3 a e=some r
 have c2:=λn1 n2 n3 n4:Nat=>Bh 2 λτ=>∃(d:Bool),(τ 1=bA 6 (Ai a)/\τ 44=sb d)/\J2 a d=some r
 have c1:=λn1 n2 n3 n4:Nat=>Bh 1 λτ=>∃(c:Bool),(τ 1=bA 6 (Ai a)/\τ 34=sb c)/\J1 a c=some r
 unfold BO at h
 exact walk
end
namespace DG
def J2 (j:Bool):ABp Bool:=
some j
def J3 (l:Bool):ABp Bool:=
some l
def J1 (b c:Int) (d:AN) (e:Int) (a:AD) (f:Bool):ABp Bool:=
if f then
some false
else
(gt d.AA e).bind λi=>
if b==1 then
some (i.Status==1)
else
if b==17 then
if i.Status==4 then
if i.D8==c then
(gt a.Af c).bind λt=>
(gt d.AG t.Mutex).bind λu=>
J2 (u.CW==(-1))
else
J2 false
else
J2 false
else
if i.Status==2 then
(D1 a d e b c).bind λs=>
J3 s
else
J3 false
end DG
section
open DG
def DG (a:AD) (d:AN) (e b c:Int):ABp Bool:=
(EI a d).bind λo=>
if !o then
J1 b c d e a true
else
(Co e (a.AA.length:Int)).bind λp=>
if !p then
J1 b c d e a true
else
(Bv a b c).bind λq=>
J1 b c d e a (!q)
theorem Lc {a:AD} {d:AN} {e b c:Int} {r:Bool} (h:DG a d e b c=some r):Says Tryz.prog 79 [.agg (Ai a),.agg (E1 d),si e,si b,si c] (sb r):=by
 refine kO mix Tryz.func79 (hn [(5,[18,56]),(6,[31,54]),(11,[39,44,48,67])] [(2,1)]) ?_
 have a1:= @UZ
 have a2:= @K7
 have a3:= @Jx
 have a4:= @Rz
 have c1:=λn1 n2 n3 n4:Nat=>Bh 1 λτ=>∃(f:Bool),(τ 2=si e/\τ 3=si b/\τ 4=si c/\τ 5=bA 6 (Ai a)/\τ 6=bA 4 (E1 d)/\τ 30=sb f)/\J1 b c d e a f=some r
 unfold DG at h
 exact walk
end
namespace JJ
def J1 (c:Bool):ABp Bool:=
some c
end JJ
section
open JJ
def JJ (a b:AO):ABp Bool:=
(Bx a.World b.World).bind λd=>
if d then
if a.Start==b.Start then
(C6 a.Init b.Init).bind λe=>
if e then
(Cq a.AF b.AF).bind λf=>
J1 f
else
J1 false
else
J1 false
else
J1 false
theorem X1 {a b:AO} {r:Bool} (h:JJ a b=some r):Says Tryz.prog 25 [.agg (BB a),.agg (BB b)] (sb r):=by
 refine kO mix Tryz.func25 (hn [(2,[5,11,18,25]),(3,[7,13,20,27])]) ?_
 have a1:= @Qu
 have a2:= @Hc
 have a3:= @Ki
 unfold JJ at h
 exact walk
end
end Go.Abs
