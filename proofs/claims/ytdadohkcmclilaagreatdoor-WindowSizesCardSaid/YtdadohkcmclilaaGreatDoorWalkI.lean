/- Typed programs of Go functions, and that the functions do what these say. -/
import Derived.Test.YtdadohkcmclilaaGreatDoorWalkH
import Derived.Shelf.Slices.SearchI
set_option linter.unusedSimpArgs false
set_option linter.unusedVariables false
namespace Go.Abs
open Go.Proofs
set_option maxRecDepth 1000000
set_option maxHeartbeats 4000000
namespace Dj
def J1 (R101:A5->AP->ABp A5) (R102:A5->AP->Int->Int->Int->ABp A5) (a:A5) (b:AP) (c:Bool):ABp A5:=
if c then
(R101 (A5.mk a.w a.locals a.out a.next (Ap (a.next+1))) b).bind λl=>
some l
else
if b.Op==4 then
(EY a.w.AG b.Name).bind λw=>
(R102 (A5.mk a.w a.locals a.out a.next (Ap (a.next+1))) b 11 12 w).bind λac=>
some ac
else
if b.Op==5 then
(EY a.w.AG b.Name).bind λad=>
(R102 (A5.mk a.w a.locals a.out a.next (Ap (a.next+1))) b 13 14 ad).bind λae=>
some ae
else
if b.Op==6 then
(EY a.w.AG b.Name).bind λaf=>
(R102 (A5.mk a.w a.locals a.out a.next (Ap (a.next+1))) b 15 16 af).bind λai=>
some ai
else
if b.Op==7 then
(R102 (A5.mk a.w a.locals a.out a.next (Ap (a.next+1))) b 17 18 0).bind λaj=>
some aj
else
if b.Op==8 then
(R102 (A5.mk a.w a.locals a.out a.next (Ap (a.next+1))) b 19 20 0).bind λal=>
some al
else
if b.Op==9 then
(Cw (A5.mk a.w a.locals a.out a.next (Ap (a.next+1))) b.Name).bind λd=>
(A8 d.2 (Ab.mk 21 d.1 0 0 0 0)).bind λo=>
some o
else
if b.Op==10 then
(Cw (A5.mk a.w a.locals a.out a.next (Ap (a.next+1))) b.Name).bind λe=>
(A8 e.2 (Ab.mk 22 e.1 0 0 0 0)).bind λp=>
some p
else
if b.Op==11 then
(Cw (A5.mk a.w a.locals a.out a.next (Ap (a.next+1))) b.Name).bind λf=>
(A8 f.2 (Ab.mk 23 f.1 0 0 0 0)).bind λq=>
some q
else
if b.Op==12 then
(Ca a.w.AA b.Name).bind λs=>
(A8 (A5.mk a.w a.locals a.out a.next (Ap (a.next+1))) (Ab.mk 24 s 0 0 0 0)).bind λt=>
some t
else
if b.Op==13 then
(Ca a.w.AA b.Name).bind λu=>
(A8 (A5.mk a.w a.locals a.out a.next (Ap (a.next+1))) (Ab.mk 25 u 0 0 0 0)).bind λv=>
some v
else
if b.Op==14 then
(DP BT (A5.mk a.w a.locals a.out a.next (Ap (a.next+1))) b.Expr (a.locals.length:Int)).bind λi=>
(Ca i.w.AK b.Name).bind λx=>
(A8 i (Ab.mk 26 x (a.locals.length:Int) 0 0 0)).bind λy=>
some y
else
if b.Op==15 then
(Ca a.locals b.Name).bind λz=>
(Ca a.w.AK b.Arg).bind λaa=>
(A8 (A5.mk a.w a.locals a.out a.next (Ap (a.next+1))) (Ab.mk 27 z aa 0 0 0)).bind λab=>
some ab
else
some (A5.mk a.w a.locals a.out a.next (Ap (a.next+1)))
end Dj
section
open Dj
def Dj (R101:A5->AP->ABp A5) (R102:A5->AP->Int->Int->Int->ABp A5) (a:A5) (b:AP):ABp A5:=
if b.Op==1 then
(G3 (A5.mk a.w a.locals a.out a.next (Ap (a.next+1))) b).bind λj=>
some j
else
if b.Op==2 then
J1 R101 R102 a b (b.Op==2)
else
J1 R101 R102 a b (b.Op==3)
theorem Sa {R101:A5->AP->ABp A5} (H101:∀{x0 x1 r},R101 x0 x1=some r->BD Tryz.prog 150 [bA 10 (EA x0),.agg [si x1.Op,si x1.Ep,BM x1.Name,BM x1.Arg,vS 4 A0 x1.Index,si x1.Expr.Op,si x1.Expr.N,BM x1.Expr.Name,vS 4 A0 x1.Expr.L,vS 11 Av x1.Body,vS 11 Av x1.Else]] (.BJ []) [bA 10 (EA r),.dead]) {R102:A5->AP->Int->Int->Int->ABp A5} (H102:∀{x0 x1 x2 x3 x4 r},R102 x0 x1 x2 x3 x4=some r->BD Tryz.prog 151 [bA 10 (EA x0),.agg [si x1.Op,si x1.Ep,BM x1.Name,BM x1.Arg,vS 4 A0 x1.Index,si x1.Expr.Op,si x1.Expr.N,BM x1.Expr.Name,vS 4 A0 x1.Expr.L,vS 11 Av x1.Body,vS 11 Av x1.Else],si x2,si x3,si x4] (.BJ []) [bA 10 (EA r),.dead,.dead,.dead,.dead]) {a:A5} {b:AP} {r:A5} (h:Dj R101 R102 a b=some r):BD Tryz.prog 114 [bA 10 (EA a),.agg [si b.Op,si b.Ep,BM b.Name,BM b.Arg,vS 4 A0 b.Index,si b.Expr.Op,si b.Expr.N,BM b.Expr.Name,vS 4 A0 b.Expr.L,vS 11 Av b.Body,vS 11 Av b.Else]] (.BJ []) [bA 10 (EA r),.dead]:=by
 refine kL mix Tryz.func114 (hn [(0,[5,6,7,8,10,11,12,13,14,17,18,19,20,21,22,28,34,39,41,42,43,44,45,52,54,55,56,57,58,65,67,68,69,70,71,78,83,88,89,97,98,106,107,115,116,117,118,119,120,128,129,130,131,132,133,141,146,147,148,149,150,151,160,161,162,163,164,168,169,170,171,172]),(3,[24,46,59,72,90,99,108,121,134,142,152,165,173])] [(6,1)]) ?_
 have a1:= @Pz
 have a2:= @H101
 have a3:= @Ni
 have a4:= @H102
 have a5:= @SZ
 have a6:= @F9
 have a7:= @HJ
 have a8:= @IZ
 have c1:=λn1 n2 n3 n4:Nat=>Bh 1 λτ=>∃(c:Bool),(τ 0=bA 10 [vS 5 Fw a.w.Cells,vS 2 HG a.w.AG,vS 2 HF a.w.Af,vS 1 eS a.w.AK,vS 1 eS a.w.AA,vS 3 FO a.w.A7,vS 1 eS a.locals,vO 6 Du a.out,si a.next,si (Ap (a.next+1))]/\τ 3=bA 11 [si b.Op,si b.Ep,BM b.Name,BM b.Arg,vS 4 A0 b.Index,si b.Expr.Op,si b.Expr.N,BM b.Expr.Name,vS 4 A0 b.Expr.L,vS 11 Av b.Body,vS 11 Av b.Else]/\τ 4=si (a.locals.length:Int)/\τ 25=si b.Op/\τ 31=sb c)/\J1 R101 R102 a b c=some r
 unfold Dj at h
 exact walk
end
def EP (R103:A5->(List AP)->ABp A5) (c:A5) (a:AP):ABp A5:=
(DP BT c a.Expr (c.locals.length:Int)).bind λd=>
(A8 d (Ab.mk 10 (d.locals.length:Int) 0 0 0 0)).bind λq=>
(R103 q a.Body).bind λb=>
if a.Op==3 then
(A8 (A5.mk b.w b.locals b.out c.site b.next) (Ab.mk 5 (c.out.length:Int) 0 0 0 0)).bind λe=>
(gt e.out (d.out.length:Int)).bind λj=>
some (A5.mk e.w e.locals (e.out.set d.out.length (Ab.mk j.Op j.A (e.out.length:Int) j.C j.N j.Site)) e.site e.next)
else
if(a.Else.length:Int)==0 then
(gt b.out (d.out.length:Int)).bind λl=>
some (A5.mk b.w b.locals (b.out.set d.out.length (Ab.mk l.Op l.A (b.out.length:Int) l.C l.N l.Site)) c.site b.next)
else
(A8 (A5.mk b.w b.locals b.out c.site b.next) (Ab.mk 5 0 0 0 0 0)).bind λf=>
(gt f.out (d.out.length:Int)).bind λo=>
(R103 (A5.mk f.w f.locals (f.out.set d.out.length (Ab.mk o.Op o.A (f.out.length:Int) o.C o.N o.Site)) f.site f.next) a.Else).bind λi=>
(gt i.out (b.out.length:Int)).bind λp=>
some (A5.mk i.w i.locals (i.out.set b.out.length (Ab.mk p.Op (i.out.length:Int) p.B p.C p.N p.Site)) i.site i.next)
theorem N8 {R103:A5->(List AP)->ABp A5} (H103:∀{x0 x1 r},R103 x0 x1=some r->BD Tryz.prog 59 [bA 10 (EA x0),vS 11 Av x1] (.BJ []) [bA 10 (EA r),.dead]) {c:A5} {a:AP} {r:A5} (h:EP R103 c a=some r):BD Tryz.prog 150 [bA 10 (EA c),.agg [si a.Op,si a.Ep,BM a.Name,BM a.Arg,vS 4 A0 a.Index,si a.Expr.Op,si a.Expr.N,BM a.Expr.Name,vS 4 A0 a.Expr.L,vS 11 Av a.Body,vS 11 Av a.Else]] (.BJ []) [bA 10 (EA r),.dead]:=by
 refine kL mix Tryz.func150 (hn [(0,[8,9,10,12,13,14,15,17,20,21,22,23,26,27,28,29,31,32,33,34,35,39,43,45,46,50,54,55,56,57,59,60,61,62,64,65,70,71,72,73,75,76,77,78,80,81,82,83,84,85,87,90,91,92,93,95,96,97,98,100,101,102,106,107,108,109,111,112,113,114,116,117]),(3,[18,40,47,66,103])]) ?_
 have a1:= @IZ
 have a2:= @F9
 have a3:= @H103
 unfold EP at h
 exact walk
def Es (R103:A5->(List AP)->ABp A5) (b:A5) (a:AP) (d e c:Int):ABp A5:=
(A8 b (Ab.mk d c 0 0 0 0)).bind λi=>
(R103 i a.Body).bind λf=>
(A8 (A5.mk f.w f.locals f.out b.site f.next) (Ab.mk e c 0 0 0 0)).bind λj=>
some j
theorem Py {R103:A5->(List AP)->ABp A5} (H103:∀{x0 x1 r},R103 x0 x1=some r->BD Tryz.prog 59 [bA 10 (EA x0),vS 11 Av x1] (.BJ []) [bA 10 (EA r),.dead]) {b:A5} {a:AP} {d e c:Int} {r:A5} (h:Es R103 b a d e c=some r):BD Tryz.prog 151 [bA 10 (EA b),.agg [si a.Op,si a.Ep,BM a.Name,BM a.Arg,vS 4 A0 a.Index,si a.Expr.Op,si a.Expr.N,BM a.Expr.Name,vS 4 A0 a.Expr.L,vS 11 Av a.Body,vS 11 Av a.Else],si d,si e,si c] (.BJ []) [bA 10 (EA r),.dead,.dead,.dead,.dead]:=by
 refine kL mix Tryz.func151 (hn [(0,[11,12,13,15,20,24,26,27,28]),(6,[21])]) ?_
 have a1:= @F9
 have a2:= @H103
 unfold Es at h
 exact walk
def D4:Nat->(A5->(List AP)->ABp A5)×(A5->AP->ABp A5)×(A5->AP->ABp A5)×(A5->AP->Int->Int->Int->ABp A5)
|0=>((λ_ _=>none),(λ_ _=>none),(λ_ _=>none),(λ_ _ _ _ _=>none))
|n+1=>(Cr ((D4 n).2.1),Dj ((D4 n).2.2.1) ((D4 n).2.2.2),EP ((D4 n).1),Es ((D4 n).1))
def E4 (n:Nat):A5->(List AP)->ABp A5:=(D4 n).1
def QQ (n:Nat):A5->AP->ABp A5:=(D4 n).2.1
def P0 (n:Nat):A5->AP->ABp A5:=(D4 n).2.2.1
def SY (n:Nat):A5->AP->Int->Int->Int->ABp A5:=(D4 n).2.2.2
theorem P1 (n:Nat):(∀{x0 x1 r},(E4 n) x0 x1=some r->BD Tryz.prog 59 [bA 10 (EA x0),.sl false 11 (x1.map Av)] (.BJ []) [bA 10 (EA r),.dead])/\(∀{x0 x1 r},(QQ n) x0 x1=some r->BD Tryz.prog 114 [bA 10 (EA x0),.agg [si x1.Op,si x1.Ep,BM x1.Name,BM x1.Arg,.sl false 4 (x1.Index.map A0),si x1.Expr.Op,si x1.Expr.N,BM x1.Expr.Name,.sl false 4 (x1.Expr.L.map A0),.sl false 11 (x1.Body.map Av),.sl false 11 (x1.Else.map Av)]] (.BJ []) [bA 10 (EA r),.dead])/\(∀{x0 x1 r},(P0 n) x0 x1=some r->BD Tryz.prog 150 [bA 10 (EA x0),.agg [si x1.Op,si x1.Ep,BM x1.Name,BM x1.Arg,.sl false 4 (x1.Index.map A0),si x1.Expr.Op,si x1.Expr.N,BM x1.Expr.Name,.sl false 4 (x1.Expr.L.map A0),.sl false 11 (x1.Body.map Av),.sl false 11 (x1.Else.map Av)]] (.BJ []) [bA 10 (EA r),.dead])/\(∀{x0 x1 x2 x3 x4 r},(SY n) x0 x1 x2 x3 x4=some r->BD Tryz.prog 151 [bA 10 (EA x0),.agg [si x1.Op,si x1.Ep,BM x1.Name,BM x1.Arg,.sl false 4 (x1.Index.map A0),si x1.Expr.Op,si x1.Expr.N,BM x1.Expr.Name,.sl false 4 (x1.Expr.L.map A0),.sl false 11 (x1.Body.map Av),.sl false 11 (x1.Else.map Av)],si x2,si x3,si x4] (.BJ []) [bA 10 (EA r),.dead,.dead,.dead,.dead]):=by
  induction n with
  |zero=>exact⟨λh=>Bi h,λh=>Bi h,λh=>Bi h,λh=>Bi h⟩
  |succ n ih=>exact⟨λh=>Qv ih.2.1 h,λh=>Sa ih.2.2.1 ih.2.2.2 h,λh=>N8 ih.1 h,λh=>Py ih.1 h⟩
theorem P2 {n:Nat}:∀{x0 x1 r},(E4 n) x0 x1=some r->BD Tryz.prog 59 [bA 10 (EA x0),.sl false 11 (x1.map Av)] (.BJ []) [bA 10 (EA r),.dead]:=(P1 n).1
namespace Ak
def Th:ABp Bool:=
some true
def J9 (L3:Int->ABp Bool) (b:Int):ABp Bool:=
L3 (Ap (b+1))
def J8 (L3:Int->ABp Bool) (b:Int) (s:Bool):ABp Bool:=
if s then
some false
else
J9 L3 b
def J7 (L3:Int->ABp Bool) (b:Int) (a:AD) (c:DL) (q:Bool):ABp Bool:=
if q then
if c.Stmt != 0 then
J8 L3 b true
else
if decide (b>0)then
(gt a.A7 (Ap (b-1))).bind λy=>
J8 L3 b (decide (y.Thread>c.Thread))
else
J8 L3 b false
else
(gt a.A7 (Ap (b-1))).bind λz=>
if c.Stmt != (Ap (z.Stmt+1))then
some false
else
J9 L3 b
def J6 (L3:Int->ABp Bool) (b:Int) (a:AD) (c:DL) (i:Bool):ABp Bool:=
if i then
some false
else
if b==0 then
J7 L3 b a c true
else
(gt a.A7 (Ap (b-1))).bind λx=>
J7 L3 b a c (x.Thread != c.Thread)
def L3 (a:AD) (L3:Int->ABp Bool) (b:Int):ABp Bool:=
if decide (b<(a.A7.length:Int))then
(gt a.A7 b).bind λc=>
if decide (c.Thread<0)then
J6 L3 b a c true
else
J6 L3 b a c (decide (c.Thread≥(a.AA.length:Int)))
else
Th
def Gm (a:AD):Nat->Int->ABp Bool
|0,_=>none
|n+1,b=>L3 a (Gm a n) b
def J5 (a:AD):ABp Bool:=
Gm a BT 0
def J4 (L2:Int->ABp Bool) (f:Int) (p:Bool):ABp Bool:=
if p then
some false
else
L2 (Ap (f+1))
def L2 (a:AD) (L2:Int->ABp Bool) (f:Int):ABp Bool:=
if decide (f<(a.Af.length:Int))then
(gt a.Af f).bind λl=>
if decide (l.Mutex<0)then
J4 L2 f true
else
if decide (l.Mutex≥(a.AG.length:Int))then
J4 L2 f true
else
(gt a.AG l.Mutex).bind λw=>
J4 L2 f w.RW
else
J5 a
def C2 (a:AD):Nat->Int->ABp Bool
|0,_=>none
|n+1,f=>L2 a (C2 a n) f
def J3 (a:AD):ABp Bool:=
C2 a BT 0
def J2 (L1:Int->ABp Bool) (d:Int) (t:Bool):ABp Bool:=
if t then
some false
else
L1 (Ap (d+1))
def L1 (e:(List ABq)×Bool) (a:AD) (L1:Int->ABp Bool) (d:Int):ABp Bool:=
if decide (d<(e.1.length:Int))then
(gt e.1 d).bind λo=>
(Bp o).bind λu=>
if !u then
J2 L1 d true
else
if 0≤d/\d.toNat≤e.1.length then
(Ca (e.1.take d.toNat) o).bind λv=>
J2 L1 d (decide (v≥0))
else none
else
J3 a
def Aa (e:(List ABq)×Bool) (a:AD):Nat->Int->ABp Bool
|0,_=>none
|n+1,d=>L1 e a (Aa e a n) d
def J1 (a:AD) (j:Bool):ABp Bool:=
if j then
some false
else
(BI a).bind λe=>
if !e.2 then
some false
else
Aa e a BT 0
end Ak
section
open Ak
def Ak (a:AD):ABp Bool:=
if decide ((a.Cells.length:Int)>12)then
J1 a true
else
if decide ((a.AG.length:Int)>4)then
J1 a true
else
if decide ((a.Af.length:Int)>2)then
J1 a true
else
if decide ((a.AK.length:Int)>2)then
J1 a true
else
if decide ((a.AA.length:Int)<1)then
J1 a true
else
if decide ((a.AA.length:Int)>4)then
J1 a true
else
J1 a (decide ((a.A7.length:Int)>60))
theorem IY {a:AD} {r:Bool} (h:Ak a=some r):Says Tryz.prog 47 [.agg (Ai a)] (sb r):=by
 refine kO mix Tryz.func47 (hn [(1,[10,15,21,27,33,39,45,81,87,97,103,111,117,128,136,154,168]),(9,[122,126,143,147,161,166])] [(2,1),(30,6)]) ?_
 have a1:= @Wk
 have a2:= @HV
 have a3:= @HJ
 have l3:=λn1 n2 n3 n4:Nat=>Ax λn τ=>∃(b:Int),(τ 1=bA 6 (Ai a)/\τ 8=si b)/\Gm a n b=some r
 have l2:=λn1 n2 n3 n4:Nat=>Ax λn τ=>∃(f:Int),(τ 1=bA 6 (Ai a)/\τ 6=si f)/\C2 a n f=some r
 have l1:=λn1 n2 n3 n4:Nat=>Ax λn τ=>∃(e:(List ABq)×Bool) (d:Int),(τ 1=bA 6 (Ai a)/\τ 3=vS 1 eS e.1/\τ 5=si d)/\Aa e a n d=some r
 have c6:=λn1 n2 n3 n4:Nat=>Bh 6 λτ=>∃(b:Int) (c:DL) (i:Bool),(τ 1=bA 6 (Ai a)/\τ 8=si b/\τ 9=bA 3 (FO c)/\τ 132=sb i)/\J6 (Gm a n3) b a c i=some r
 have c1:=λn1 n2 n3 n4:Nat=>Bh 1 λτ=>∃(j:Bool),(τ 1=bA 6 (Ai a)/\τ 49=sb j)/\J1 a j=some r
 unfold Ak at h
 exact walk
end
def f83c:IC:=(Ra 12 [.b 6 [119,142] (.bx 6 (.t 0)),.b 7 [18,25,30,31,33,34,37,38,40,41,45,46,49,50,54,55,57,58,61,62,64,65,66,72,73,77,78,84,85,87,88,89,92,93,97,100,103,104,106,107,110,111,113,114,117,118,125,126,127,128,130,131,134,135,136,137,140,141,149,150,151,152,154,155,157,158,159,160,163,169,174,175,177,178,181,182,184,185] (.bx 4 (.t 1)),.b 8 [90] (.bx 1 (.t 2)),.o (.bx 4 (.c (.agg z3))),.K 13 0,.B 14 false]
(Sq (Ra 17 [.A 6 6,.y 7 (.ld true 4 (.t 7)),.L 8,.C 3,.C 4,.c 79 [17,18,19,20,21] 0,.N 22]
(Ci 23 (Rb 24 [.o (.RD z3 []),.S 4 12 24,.K 13 0,.B 14 false])))
(Ra 25 [.y 7 (.ld true 4 (.t 7)),.c 119 [25] 2,.S 4 7 26]
(Ra 0 [.K 15 0]
(Ny 3 (Ra 27 [.C 3]
(Bk 0 (Ra 29 [.q 27 1 28]
(Cn 28 (Rc 30 [.m 7 3 7,.L 8,.J 7 3 31 32,.H 7 0 33,.T 34 2]) (Ra 36 [.q 27 2 35]
(Cn 35 (Rc 37 [.m 7 3 7,.L 8,.J 7 3 38 39,.H 7 0 40,.T 41 5]) (Ny 1 (Ra 43 [.q 27 6 42]
(Cn 42 .skip (Rc 44 [.q 27 10 42])))
(Cn 42 (Rc 45 [.m 7 0 7,.C 4,.L 8,.J 7 2 46 47,.H 7 0 49,.S 1 50 48]) (Ny 2 (Ra 52 [.q 27 7 51]
(Cn 51 .skip (Rc 53 [.q 27 11 51])))
(Cn 51 (Rc 54 [.m 7 0 7,.C 4,.J 7 2 55 56,.H 7 0 57,.T 58 (-1)]) (Ra 60 [.q 27 8 59]
(Cn 59 (Ra 61 [.m 7 0 7,.C 4,.J 7 2 62 63,.m 7 1 64,.L 8,.o (.Mr 1 [[si 0]] [(0,.t 67)]),.o (.app 1 8 (.t 66) (.t 68)),.b 16 [70,75] (.mv (.t 69))]
(Ra 70 [.y 16 (.cp (.t 16)),.o (.WN 120 [] (.t 70) none [])]
(Rc 72 [.m 7 0 7,.C 4,.y 16 (.cp (.t 16)),.c 121 [75] 3,.J 7 2 73 74,.H 7 1 77,.S 1 78 76]))) (Ra 80 [.q 27 9 79]
(Cn 79 (.flo ⟨7,0,4,0,1,11,81,82⟩ [i0 81 .fl,i0 82 .fl,iC 83 4,Lt 84 7 0 7,Zu 85 7 84,iC 86 4,iIr 87 7 2 85 86,Lt 88 7 1 87,Zu 89 7 88,i1 90 8 (.yI 123 [.t 8]),i0 91 (.call 122 [.t 89,.t 90] 4),i1 92 7 (.bL 7 0 4 2 (.t 83))]
[Lt 93 7 1 92,iS 1 93 91]) (Ra 95 [.q 27 12 94]
(Cn 94 (Rc 96 [.L 8,.F 1 7,.S 1 97 96]) (Ra 99 [.q 27 13 98]
(Cn 98 (Rc 100 [.F 1 7,.T 100 (-1)]) (Ra 102 [.q 27 14 101]
(Cn 101 (Rc 103 [.m 7 3 7,.L 8,.J 7 3 104 105,.H 7 2 106,.x ⟨none,.st 1 (.t 107) (.c (sb true)),none⟩]) (Ra 109 [.q 27 15 108]
(Cn 108 (Rc 110 [.m 7 3 7,.L 8,.J 7 3 111 112,.H 7 2 113,.x ⟨none,.st 1 (.t 114) (.c (sb false)),none⟩]) (Ra 116 [.q 27 16 115]
(Cn 115 (Ra 117 [.m 7 0 7,.f 2 6,.C 4,.I 2 120 121,.U 1 122,.J 7 2 118 124,.H 7 0 125,.T 126 (-1)]
(Rc 127 [.F 3 7,.y 7 (.WM (.t 127)),.L 8,.F 3 7,.y 7 (.WM (.t 130)),.L 8,.C 4,.J 7 3 128 129,.H 7 0 134,.x ⟨none,.VG (.t 135) (.c (si 3)),none⟩,.J 7 3 131 132,.H 7 1 136,.x ⟨none,.VG (.t 137) (.t 133),none⟩])) (Ra 139 [.q 27 17 138]
(Cn 138 (Ra 140 [.m 7 0 7,.f 2 6,.C 4,.I 2 143 144,.U 1 145,.L 8,.J 7 2 141 147,.H 7 0 149,.S 1 150 148]
(Rc 151 [.F 3 7,.y 7 (.WM (.t 151)),.L 8,.F 3 7,.y 7 (.WM (.t 154)),.L 8,.J 7 3 152 153,.H 7 0 157,.x ⟨none,.VG (.t 158) (.c (si 2)),none⟩,.J 7 3 155 156,.H 7 1 159,.x ⟨none,.VG (.t 160) (.c (si 0)),none⟩])) (Ra 162 [.q 27 18 161]
(Cn 161 (Rc 163 [.y 7 (.ld true 4 (.t 7)),.C 4,.C 5,.o (.WN 124 [] (.t 163) (some 3) [.t 164,.t 165]),.M 15 166]) (Ra 168 [.q 27 19 167]
(Cn 167 (Rc 169 [.y 7 (.ld true 4 (.t 7)),.C 4,.o (.WN 125 [] (.t 169) (some 3) [.t 170]),.M 15 171]) (Ra 173 [.q 27 20 172]
(Cn 172 (Rc 174 [.m 7 3 7,.C 4,.J 7 3 175 176,.H 7 0 177,.T 178 1]) (Ra 180 [.q 27 22 179]
(Ci 179 (Rc 181 [.m 7 2 7,.C 4,.J 7 1 182 183,.x ⟨none,.st 1 (.t 184) (.c (sb true)),none⟩])))))))))))))))))))))))))))))))))))
(Rb 185 [.y 7 (.ld true 4 (.t 7)),.C 15,.S 4 12 185,.M 13 186,.B 14 true]))))))
def f83g:Gi:=⟨[(18,[7]),(25,[7]),(30,[7]),(31,[7]),(33,[7]),(34,[7]),(37,[7]),(38,[7]),(40,[7]),(41,[7]),(45,[7]),(46,[7]),(49,[7]),(50,[7]),(54,[7]),(55,[7]),(57,[7]),(58,[7]),(61,[7]),(62,[7]),(64,[7]),(65,[7]),(66,[7]),(70,[16]),(72,[7]),(73,[7]),(75,[16]),(77,[7]),(78,[7]),(84,[7]),(85,[7]),(87,[7]),(88,[7]),(89,[7]),(90,[8]),(92,[7]),(93,[7]),(97,[7]),(100,[7]),(103,[7]),(104,[7]),(106,[7]),(107,[7]),(110,[7]),(111,[7]),(113,[7]),(114,[7]),(117,[7]),(118,[7]),(119,[6]),(125,[7]),(126,[7]),(127,[7]),(128,[7]),(130,[7]),(131,[7]),(134,[7]),(135,[7]),(136,[7]),(137,[7]),(140,[7]),(141,[7]),(142,[6]),(149,[7]),(150,[7]),(151,[7]),(152,[7]),(154,[7]),(155,[7]),(157,[7]),(158,[7]),(159,[7]),(160,[7]),(163,[7]),(169,[7]),(174,[7]),(175,[7]),(177,[7]),(178,[7]),(181,[7]),(182,[7]),(184,[7]),(185,[7])]⟩
def f83r:List RV:=[.cell 12 true 4,.tmp 13,.tmp 14]
namespace Em
def J3 (j:AN) (p:Int):ABp (AN×Int×Bool):=
some (j,p,true)
def J2 (c d b:Int) (a:AN) (f:Int) (e:AD) (o:Bool):ABp (AN×Int×Bool):=
if o then
(gt a.AG d).bind λau=>
J3 (AN.mk (a.AG.set d.toNat (AW.mk (-1) au.As)) a.Tx a.Bq a.AA) 0
else
if c==8 then
(gt a.AG d).bind λt=>
if Al (t.As.length+1) 8=true then
(Lm (t.As++[b])).bind λaj=>
(slices_Compact aj).bind λal=>
J3 (AN.mk (a.AG.set d.toNat (AW.mk t.CW al)) a.Tx a.Bq a.AA) 0
else none
else
if c==9 then
(gt a.AG d).bind λac=>
(Ht ac.As b).bind λao=>
J3 (AN.mk (a.AG.set d.toNat (AW.mk ac.CW ao)) a.Tx a.Bq a.AA) 0
else
if c==12 then
J3 (AN.mk a.AG b a.Bq a.AA) 0
else
if c==13 then
J3 (AN.mk a.AG (-1) a.Bq a.AA) 0
else
if c==14 then
(gt a.AA b).bind λad=>
J3 (AN.mk a.AG a.Tx a.Bq (a.AA.set b.toNat (AE.mk ad.Status ad.D8 true))) 0
else
if c==15 then
(gt a.AA b).bind λae=>
J3 (AN.mk a.AG a.Tx a.Bq (a.AA.set b.toNat (AE.mk ae.Status ae.D8 false))) 0
else
if c==16 then
(gt e.Af d).bind λaf=>
(gt a.AG af.Mutex).bind λav=>
(gt a.AA b).bind λq=>
(gt (a.AA.set b.toNat (AE.mk 3 q.D8 q.Atomic)) b).bind λy=>
J3 (AN.mk (a.AG.set af.Mutex.toNat (AW.mk (-1) av.As)) a.Tx a.Bq ((a.AA.set b.toNat (AE.mk 3 q.D8 q.Atomic)).set b.toNat (AE.mk y.Status d y.Atomic))) 0
else
if c==17 then
(gt e.Af d).bind λz=>
(gt a.AG z.Mutex).bind λap=>
(gt a.AA b).bind λs=>
(gt (a.AA.set b.toNat (AE.mk 2 s.D8 s.Atomic)) b).bind λaa=>
J3 (AN.mk (a.AG.set z.Mutex.toNat (AW.mk b ap.As)) a.Tx a.Bq ((a.AA.set b.toNat (AE.mk 2 s.D8 s.Atomic)).set b.toNat (AE.mk aa.Status 0 aa.Atomic))) 0
else
if c==18 then
(Cm a.Tx a.AA d f).bind λu=>
J3 (AN.mk a.AG a.Tx a.Bq u.2) u.1
else
if c==19 then
(Cg a.Tx a.AA d).bind λv=>
J3 (AN.mk a.AG a.Tx a.Bq v.2) v.1
else
if c==20 then
(gt a.AA d).bind λab=>
J3 (AN.mk a.AG a.Tx a.Bq (a.AA.set d.toNat (AE.mk 1 ab.D8 ab.Atomic))) 0
else
if c==22 then
(gt a.Bq d).bind λaw=>
J3 (AN.mk a.AG a.Tx (a.Bq.set d.toNat true) a.AA) 0
else
J3 a 0
def J1 (c d b:Int) (a:AN) (f:Int) (e:AD) (l:Bool):ABp (AN×Int×Bool):=
if l then
(gt a.AG d).bind λaq=>
J3 (AN.mk (a.AG.set d.toNat (AW.mk b aq.As)) a.Tx a.Bq a.AA) 0
else
if c==7 then
J2 c d b a f e (c==7)
else
J2 c d b a f e (c==11)
end Em
section
open Em
def Em (e:AD) (i:AN) (b c:Int) (d f:Int):ABp (AN×Int×Bool):=
(DG e i b c d).bind λai=>
if !ai then
some ((AN.mk [] 0 [] []),0,false)
else
(Dz i).bind λa=>
if c==1 then
(gt a.AA b).bind λw=>
J3 (AN.mk a.AG a.Tx a.Bq (a.AA.set b.toNat (AE.mk 2 w.D8 w.Atomic))) 0
else
if c==2 then
(gt a.AA b).bind λx=>
J3 (AN.mk a.AG a.Tx a.Bq (a.AA.set b.toNat (AE.mk 5 x.D8 x.Atomic))) 0
else
if c==6 then
J1 c d b a f e (c==6)
else
J1 c d b a f e (c==10)
theorem UW {e:AD} {i:AN} {b c:Int} {d f:Int} {r:AN×Int×Bool} (h:Em e i b c d f=some r):Says Tryz.prog 83 [.agg (Ai e),.agg (E1 i),si b,si c,si d,si f] (.BJ [.agg (HM r.1),si r.2.1,sb r.2.2]):=by
 refine wO mix Tryz.func83 (I:=⟨f83c,f83g,f83r⟩) ?_
 simp only[f83c,f83g,f83r]
 have a1:= @Lc
 have a2:= @UY
 have a3:= @W7
 have a4:= @Su
 have a5:= @Mi
 have a6:= @TQ
 have a7:= @Pu
 have c3:=λn1 n2 n3 n4:Nat=>Bh 3 λτ=>∃(j:AN) (p:Int),(τ 7=bA 4 (HM j)/\τ 12=bA 4 z3/\τ 15=si p)/\J3 j p=some r
 have c2:=λn1 n2 n3 n4:Nat=>Bh 2 λτ=>∃(a:AN) (o:Bool),(τ 4=si d/\τ 5=si f/\τ 6=bA 6 (Ai e)/\τ 7=bA 4 (HM a)/\τ 8=bA 1 [si b]/\τ 12=bA 4 z3/\τ 15=si 0/\τ 27=si c/\τ 51=sb o)/\J2 c d b a f e o=some r
 have c1:=λn1 n2 n3 n4:Nat=>Bh 1 λτ=>∃(a:AN) (l:Bool),(τ 4=si d/\τ 5=si f/\τ 6=bA 6 (Ai e)/\τ 7=bA 4 (HM a)/\τ 8=bA 1 [si b]/\τ 12=bA 4 z3/\τ 15=si 0/\τ 27=si c/\τ 42=sb l)/\J1 c d b a f e l=some r
 unfold Em at h
 exact walk
end
namespace DQ
def jJ (a:AH) (e:AB):ABp (AB×Bool):=
(gt e.Count a.Thread).bind λae=>
some ((AB.mk e.Sync e.Cells e.AK (e.Count.set a.Thread.toNat (Ap (ae+1)))),true)
def Th (a:AH) (d:AB):ABp (AB×Bool):=
if a.Kind==22 then
(gt d.AK a.Obj).bind λai=>
jJ a (AB.mk d.Sync d.Cells (d.AK.set a.Obj.toNat a.Value) d.Count)
else
jJ a d
def J9 (a:AH) (b:AB) (c:AD) (ab:Int):ABp (AB×Bool):=
(Cx c b.Sync a.Thread a.Kind a.Obj ab).bind λp=>
if a.Kind==4 then
(gt b.Cells a.Obj).bind λaf=>
Th a (AB.mk p.1 (b.Cells.set a.Obj.toNat a.Value) b.AK b.Count)
else
Th a (AB.mk p.1 b.Cells b.AK b.Count)
def J8 (a:AH) (b:AB) (c:AD) (l:Bool):ABp (AB×Bool):=
if l then
some ((AB.mk (AN.mk [] 0 [] []) [] [] []),false)
else
if Al (b.Cells.length) 8=true then
if Al (b.AK.length) 8=true then
if Al (b.Count.length) 8=true then
if a.Kind==18 then
J9 a b c a.Value
else
J9 a b c (-1)
else none
else none
else none
def J7 (a:AH) (b:AB) (c:AD) (j:Bool):ABp (AB×Bool):=
if j then
some ((AB.mk (AN.mk [] 0 [] []) [] [] []),false)
else
(gt b.Count a.Thread).bind λq=>
(Ef a.D9 q).bind λy=>
if !y then
J8 a b c true
else
(Ef a.Db q).bind λz=>
if !z then
J8 a b c true
else
(Gs b a).bind λaa=>
J8 a b c (!aa)
def J6 (a:AH) (b:AB) (c:AD) (i:Bool):ABp (AB×Bool):=
if i then
some ((AB.mk (AN.mk [] 0 [] []) [] [] []),false)
else
if decide ((a.Db.length:Int)>0)then
if a.Kind != 4 then
J7 a b c (a.Kind != 22)
else
J7 a b c false
else
J7 a b c false
def J5 (a:AH) (b:AB) (c:AD) (f:Bool):ABp (AB×Bool):=
if decide ((a.D9.length:Int)>0)then
if a.Kind != 5 then
if f then
(gt c.Cells a.Obj).bind λad=>
J6 a b c (!(ad.B0 != 0))
else
J6 a b c true
else
J6 a b c false
else
J6 a b c false
def J4 (a:AH) (b:AB) (c:AD):ABp (AB×Bool):=
if a.Kind==3 then
J5 a b c true
else
J5 a b c (a.Kind==4)
def J3 (a:AH) (b:AB) (c:AD) (t:Bool):ABp (AB×Bool):=
if t then
some ((AB.mk (AN.mk [] 0 [] []) [] [] []),false)
else
J4 a b c
def J2 (a:AH) (b:AB) (c:AD) (s:Bool):ABp (AB×Bool):=
if s then
if a.Site != (-1)then
some ((AB.mk (AN.mk [] 0 [] []) [] [] []),false)
else
J4 a b c
else
(Kj a.Site (c.A7.length:Int)).bind λx=>
if !x then
J3 a b c true
else
(gt c.A7 a.Site).bind λac=>
J3 a b c (ac.Thread != a.Thread)
def J1 (a:AH) (b:AB) (c:AD) (o:Bool):ABp (AB×Bool):=
if o then
some ((AB.mk (AN.mk [] 0 [] []) [] [] []),false)
else
if a.Kind==1 then
J2 a b c true
else
J2 a b c (a.Kind==2)
end DQ
section
open DQ
def DQ (c:AD) (b:AB) (a:AH):ABp (AB×Bool):=
(Hb c b).bind λu=>
if !u then
J1 a b c true
else
(Kj a.Thread (c.AA.length:Int)).bind λv=>
if !v then
J1 a b c true
else
if decide (a.Kind<1)then
J1 a b c true
else
if decide (a.Kind>23)then
J1 a b c true
else
(CC c b.Sync a.Thread a.Kind a.Obj).bind λw=>
J1 a b c (!w)
theorem MA {c:AD} {b:AB} {a:AH} {r:AB×Bool} (h:DQ c b a=some r):Says Tryz.prog 52 [.agg (Ai c),.agg (Aw b),.agg (BG a)] (.BJ [.agg (CG r.1),sb r.2]):=by
 refine kO mix Tryz.func52 (hn [(3,[18,62,68,100]),(4,[36,129,140,157,161,165,176]),(5,[16,25,30,38,40,42,48,52,56,60,70,75,80,84,88,93,102,112,117,122,127,131,138,142,169,172,178,180,182,190,195,197,200,205,207,212]),(9,[189,193,194,199,203,204,209,210,211,214,217,218]),(185,[174,186,187,188])] [(2,1),(4,4),(10,5),(12,6),(15,7),(18,8)]) ?_
 have a1:= @O1
 have a2:= @Tc
 have a3:= @Wq
 have a4:= @cG
 have a5:= @QL
 have a6:= @Mg
 have c8:=λn1 n2 n3 n4:Nat=>Bh 8 λτ=>∃(l:Bool),(τ 3=bA 6 (Ai c)/\τ 4=bA 7 (Aw b)/\τ 5=bA 7 (BG a)/\τ 6=bA 7 z0/\τ 154=sb l)/\J8 a b c l=some r
 have c7:=λn1 n2 n3 n4:Nat=>Bh 7 λτ=>∃(j:Bool),(τ 3=bA 6 (Ai c)/\τ 4=bA 7 (Aw b)/\τ 5=bA 7 (BG a)/\τ 6=bA 7 z0/\τ 125=sb j)/\J7 a b c j=some r
 have c6:=λn1 n2 n3 n4:Nat=>Bh 6 λτ=>∃(i:Bool),(τ 3=bA 6 (Ai c)/\τ 4=bA 7 (Aw b)/\τ 5=bA 7 (BG a)/\τ 6=bA 7 z0/\τ 110=sb i)/\J6 a b c i=some r
 have c5:=λn1 n2 n3 n4:Nat=>Bh 5 λτ=>∃(f:Bool),(τ 3=bA 6 (Ai c)/\τ 4=bA 7 (Aw b)/\τ 5=bA 7 (BG a)/\τ 6=bA 7 z0/\τ 8=sb f)/\J5 a b c f=some r
 have c4:=λn1 n2 n3 n4:Nat=>Bh 4 λτ=>(τ 3=bA 6 (Ai c)/\τ 4=bA 7 (Aw b)/\τ 5=bA 7 (BG a)/\τ 6=bA 7 z0)/\J4 a b c=some r
 have c1:=λn1 n2 n3 n4:Nat=>Bh 1 λτ=>∃(o:Bool),(τ 3=bA 6 (Ai c)/\τ 4=bA 7 (Aw b)/\τ 5=bA 7 (BG a)/\τ 6=bA 7 z0/\τ 46=sb o)/\J1 a b c o=some r
 unfold DQ at h
 exact walk
end
end Go.Abs
