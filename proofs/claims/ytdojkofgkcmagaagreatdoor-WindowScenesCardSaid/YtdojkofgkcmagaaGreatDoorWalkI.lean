/- Typed programs of Go functions, and that the functions do what these say. -/
import Derived.Test.YtdojkofgkcmagaaGreatDoorWalkF
set_option linter.unusedSimpArgs false
set_option linter.unusedVariables false
namespace Go.Abs
open Go.Proofs
set_option maxRecDepth 1000000
set_option maxHeartbeats 4000000
namespace CH
def L1 (R100:BB->AQ->ABd BB) (a:List AQ) (L1:BB->Int->ABd BB) (c:BB) (b:Int):ABd BB:=
if decide (b<(a.length:Int))then
(gt a b).bind λf=>
(R100 c f).bind λe=>
L1 e (BA (b+1))
else
some c
def Aa (R100:BB->AQ->ABd BB) (a:List AQ):Nat->BB->Int->ABd BB
|0,_,_=>none
|n+1,c,b=>L1 R100 a (Aa R100 a n) c b
end CH
section
open CH
def CH (R100:BB->AQ->ABd BB) (d:BB) (a:List AQ):ABd BB:=
Aa R100 a BW d 0
theorem Ro {R100:BB->AQ->ABd BB} (H100:∀{x0 x1 r},R100 x0 x1=some r->BD Tryz.prog 222 [bA 10 (EN x0),.agg [si x1.Op,si x1.FK,BZ x1.Name,BZ x1.Arg,vS 4 BH x1.Index,si x1.Expr.Op,si x1.Expr.N,BZ x1.Expr.Name,vS 4 BH x1.Expr.L,vS 11 A7 x1.Body,vS 11 A7 x1.Else]] (.BQ []) [bA 10 (EN r),.dead]) {d:BB} {a:List AQ} {r:BB} (h:CH R100 d a=some r):BD Tryz.prog 183 [bA 10 (EN d),vS 11 A7 a] (.BQ []) [bA 10 (EN r),.dead]:=by refine kL mix Tryz.func183 (hn [(0,[11])]) ?_;have a1:= @H100;have l1:=λn1 n2 n3 n4:Nat=>A3 λn τ=>∃(c:BB) (b:Int),(τ 0=bA 10 (EN c)/\τ 1=vS 11 A7 a/\τ 4=si b)/\Aa R100 a n c b=some r;unfold CH at h;exact walk
end
namespace Cc
def J1 (R101:BB->AQ->ABd BB) (R102:BB->AQ->Int->Int->Int->ABd BB) (a:BB) (b:AQ) (c:Bool):ABd BB:=
if c then
(R101 (BB.mk a.w a.locals a.out a.next (BA (a.next+1))) b).bind λl=>
some l
else
if b.Op==4 then
(Dv a.w.AF b.Name).bind λw=>
(R102 (BB.mk a.w a.locals a.out a.next (BA (a.next+1))) b 11 12 w).bind λac=>
some ac
else
if b.Op==5 then
(Dv a.w.AF b.Name).bind λad=>
(R102 (BB.mk a.w a.locals a.out a.next (BA (a.next+1))) b 13 14 ad).bind λae=>
some ae
else
if b.Op==6 then
(Dv a.w.AF b.Name).bind λaf=>
(R102 (BB.mk a.w a.locals a.out a.next (BA (a.next+1))) b 15 16 af).bind λai=>
some ai
else
if b.Op==7 then
(R102 (BB.mk a.w a.locals a.out a.next (BA (a.next+1))) b 17 18 0).bind λaj=>
some aj
else
if b.Op==8 then
(R102 (BB.mk a.w a.locals a.out a.next (BA (a.next+1))) b 19 20 0).bind λal=>
some al
else
if b.Op==9 then
(CV (BB.mk a.w a.locals a.out a.next (BA (a.next+1))) b.Name).bind λd=>
(A6 d.2 (Ad.mk 21 d.1 0 0 0 0)).bind λo=>
some o
else
if b.Op==10 then
(CV (BB.mk a.w a.locals a.out a.next (BA (a.next+1))) b.Name).bind λe=>
(A6 e.2 (Ad.mk 22 e.1 0 0 0 0)).bind λp=>
some p
else
if b.Op==11 then
(CV (BB.mk a.w a.locals a.out a.next (BA (a.next+1))) b.Name).bind λf=>
(A6 f.2 (Ad.mk 23 f.1 0 0 0 0)).bind λq=>
some q
else
if b.Op==12 then
(CU a.w.AA b.Name).bind λs=>
(A6 (BB.mk a.w a.locals a.out a.next (BA (a.next+1))) (Ad.mk 24 s 0 0 0 0)).bind λt=>
some t
else
if b.Op==13 then
(CU a.w.AA b.Name).bind λu=>
(A6 (BB.mk a.w a.locals a.out a.next (BA (a.next+1))) (Ad.mk 25 u 0 0 0 0)).bind λv=>
some v
else
if b.Op==14 then
(Cp BW (BB.mk a.w a.locals a.out a.next (BA (a.next+1))) b.Expr (a.locals.length:Int)).bind λi=>
(CU i.w.AK b.Name).bind λx=>
(A6 i (Ad.mk 26 x (a.locals.length:Int) 0 0 0)).bind λy=>
some y
else
if b.Op==15 then
(CU a.locals b.Name).bind λz=>
(CU a.w.AK b.Arg).bind λaa=>
(A6 (BB.mk a.w a.locals a.out a.next (BA (a.next+1))) (Ad.mk 27 z aa 0 0 0)).bind λab=>
some ab
else
some (BB.mk a.w a.locals a.out a.next (BA (a.next+1)))
end Cc
section
open Cc
def Cc (R101:BB->AQ->ABd BB) (R102:BB->AQ->Int->Int->Int->ABd BB) (a:BB) (b:AQ):ABd BB:=
if b.Op==1 then
(Fe (BB.mk a.w a.locals a.out a.next (BA (a.next+1))) b).bind λj=>
some j
else
if b.Op==2 then
J1 R101 R102 a b (b.Op==2)
else
J1 R101 R102 a b (b.Op==3)
theorem TZ {R101:BB->AQ->ABd BB} (H101:∀{x0 x1 r},R101 x0 x1=some r->BD Tryz.prog 250 [bA 10 (EN x0),.agg [si x1.Op,si x1.FK,BZ x1.Name,BZ x1.Arg,vS 4 BH x1.Index,si x1.Expr.Op,si x1.Expr.N,BZ x1.Expr.Name,vS 4 BH x1.Expr.L,vS 11 A7 x1.Body,vS 11 A7 x1.Else]] (.BQ []) [bA 10 (EN r),.dead]) {R102:BB->AQ->Int->Int->Int->ABd BB} (H102:∀{x0 x1 x2 x3 x4 r},R102 x0 x1 x2 x3 x4=some r->BD Tryz.prog 251 [bA 10 (EN x0),.agg [si x1.Op,si x1.FK,BZ x1.Name,BZ x1.Arg,vS 4 BH x1.Index,si x1.Expr.Op,si x1.Expr.N,BZ x1.Expr.Name,vS 4 BH x1.Expr.L,vS 11 A7 x1.Body,vS 11 A7 x1.Else],si x2,si x3,si x4] (.BQ []) [bA 10 (EN r),.dead,.dead,.dead,.dead]) {a:BB} {b:AQ} {r:BB} (h:Cc R101 R102 a b=some r):BD Tryz.prog 222 [bA 10 (EN a),.agg [si b.Op,si b.FK,BZ b.Name,BZ b.Arg,vS 4 BH b.Index,si b.Expr.Op,si b.Expr.N,BZ b.Expr.Name,vS 4 BH b.Expr.L,vS 11 A7 b.Body,vS 11 A7 b.Else]] (.BQ []) [bA 10 (EN r),.dead]:=by refine kL mix Tryz.func222 (hn [(0,[5,6,7,8,10,11,12,13,14,17,18,19,20,21,22,28,34,39,41,42,43,44,45,52,54,55,56,57,58,65,67,68,69,70,71,78,83,88,89,97,98,106,107,115,116,117,118,119,120,128,129,130,131,132,133,141,146,147,148,149,150,151,160,161,162,163,164,168,169,170,171,172]),(3,[24,46,59,72,90,99,108,121,134,142,152,165,173])] [(6,1)]) ?_;have a1:= @Qh;have a2:= @H101;have a3:= @Oa;have a4:= @H102;have a5:= @TY;have a6:= @Gl;have a7:= @HY;have a8:= @I2;have c1:=λn1 n2 n3 n4:Nat=>Bs 1 λτ=>∃(c:Bool),(τ 0=bA 10 [vS 5 Gy a.w.Cells,vS 2 Hy a.w.AF,vS 2 Hx a.w.Ai,vS 1 eS a.w.AK,vS 1 eS a.w.AA,vS 3 Gb a.w.BU,vS 1 eS a.locals,vO 6 EF a.out,si a.next,si (BA (a.next+1))]/\τ 3=bA 11 [si b.Op,si b.FK,BZ b.Name,BZ b.Arg,vS 4 BH b.Index,si b.Expr.Op,si b.Expr.N,BZ b.Expr.Name,vS 4 BH b.Expr.L,vS 11 A7 b.Body,vS 11 A7 b.Else]/\τ 4=si (a.locals.length:Int)/\τ 25=si b.Op/\τ 31=sb c)/\J1 R101 R102 a b c=some r;unfold Cc at h;exact walk
end
def Ct (R103:BB->(List AQ)->ABd BB) (c:BB) (a:AQ):ABd BB:=
(Cp BW c a.Expr (c.locals.length:Int)).bind λd=>
(A6 d (Ad.mk 10 (d.locals.length:Int) 0 0 0 0)).bind λq=>
(R103 q a.Body).bind λb=>
if a.Op==3 then
(A6 (BB.mk b.w b.locals b.out c.site b.next) (Ad.mk 5 (c.out.length:Int) 0 0 0 0)).bind λe=>
(gt e.out (d.out.length:Int)).bind λj=>
some (BB.mk e.w e.locals (e.out.set d.out.length (Ad.mk j.Op j.A (e.out.length:Int) j.C j.N j.Site)) e.site e.next)
else
if(a.Else.length:Int)==0 then
(gt b.out (d.out.length:Int)).bind λl=>
some (BB.mk b.w b.locals (b.out.set d.out.length (Ad.mk l.Op l.A (b.out.length:Int) l.C l.N l.Site)) c.site b.next)
else
(A6 (BB.mk b.w b.locals b.out c.site b.next) (Ad.mk 5 0 0 0 0 0)).bind λf=>
(gt f.out (d.out.length:Int)).bind λo=>
(R103 (BB.mk f.w f.locals (f.out.set d.out.length (Ad.mk o.Op o.A (f.out.length:Int) o.C o.N o.Site)) f.site f.next) a.Else).bind λi=>
(gt i.out (b.out.length:Int)).bind λp=>
some (BB.mk i.w i.locals (i.out.set b.out.length (Ad.mk p.Op (i.out.length:Int) p.B p.C p.N p.Site)) i.site i.next)
theorem Ot {R103:BB->(List AQ)->ABd BB} (H103:∀{x0 x1 r},R103 x0 x1=some r->BD Tryz.prog 183 [bA 10 (EN x0),vS 11 A7 x1] (.BQ []) [bA 10 (EN r),.dead]) {c:BB} {a:AQ} {r:BB} (h:Ct R103 c a=some r):BD Tryz.prog 250 [bA 10 (EN c),.agg [si a.Op,si a.FK,BZ a.Name,BZ a.Arg,vS 4 BH a.Index,si a.Expr.Op,si a.Expr.N,BZ a.Expr.Name,vS 4 BH a.Expr.L,vS 11 A7 a.Body,vS 11 A7 a.Else]] (.BQ []) [bA 10 (EN r),.dead]:=by refine kL mix Tryz.func250 (hn [(0,[8,9,10,12,13,14,15,17,20,21,22,23,26,27,28,29,31,32,33,34,35,39,43,45,46,50,54,55,56,57,59,60,61,62,64,65,70,71,72,73,75,76,77,78,80,81,82,83,84,85,87,90,91,92,93,95,96,97,98,100,101,102,106,107,108,109,111,112,113,114,116,117]),(3,[18,40,47,66,103])]) ?_;have a1:= @I2;have a2:= @Gl;have a3:= @H103;unfold Ct at h;exact walk
def DC (R103:BB->(List AQ)->ABd BB) (b:BB) (a:AQ) (d e c:Int):ABd BB:=
(A6 b (Ad.mk d c 0 0 0 0)).bind λi=>
(R103 i a.Body).bind λf=>
(A6 (BB.mk f.w f.locals f.out b.site f.next) (Ad.mk e c 0 0 0 0)).bind λj=>
some j
theorem Qg {R103:BB->(List AQ)->ABd BB} (H103:∀{x0 x1 r},R103 x0 x1=some r->BD Tryz.prog 183 [bA 10 (EN x0),vS 11 A7 x1] (.BQ []) [bA 10 (EN r),.dead]) {b:BB} {a:AQ} {d e c:Int} {r:BB} (h:DC R103 b a d e c=some r):BD Tryz.prog 251 [bA 10 (EN b),.agg [si a.Op,si a.FK,BZ a.Name,BZ a.Arg,vS 4 BH a.Index,si a.Expr.Op,si a.Expr.N,BZ a.Expr.Name,vS 4 BH a.Expr.L,vS 11 A7 a.Body,vS 11 A7 a.Else],si d,si e,si c] (.BQ []) [bA 10 (EN r),.dead,.dead,.dead,.dead]:=by refine kL mix Tryz.func251 (hn [(0,[11,12,13,15,20,24,26,27,28]),(6,[21])]) ?_;have a1:= @Gl;have a2:= @H103;unfold DC at h;exact walk
def EL:Nat->(BB->(List AQ)->ABd BB)×(BB->AQ->ABd BB)×(BB->AQ->ABd BB)×(BB->AQ->Int->Int->Int->ABd BB)
|0=>((λ_ _=>none),(λ_ _=>none),(λ_ _=>none),(λ_ _ _ _ _=>none))
|n+1=>(CH ((EL n).2.1),Cc ((EL n).2.2.1) ((EL n).2.2.2),Ct ((EL n).1),DC ((EL n).1))
def DU (n:Nat):BB->(List AQ)->ABd BB:=(EL n).1
def OZ (n:Nat):BB->AQ->ABd BB:=(EL n).2.1
def Qi (n:Nat):BB->AQ->ABd BB:=(EL n).2.2.1
def TW (n:Nat):BB->AQ->Int->Int->Int->ABd BB:=(EL n).2.2.2
theorem Qj (n:Nat):(∀{x0 x1 r},(DU n) x0 x1=some r->BD Tryz.prog 183 [bA 10 (EN x0),.sl false 11 (x1.map A7)] (.BQ []) [bA 10 (EN r),.dead])/\(∀{x0 x1 r},(OZ n) x0 x1=some r->BD Tryz.prog 222 [bA 10 (EN x0),.agg [si x1.Op,si x1.FK,BZ x1.Name,BZ x1.Arg,.sl false 4 (x1.Index.map BH),si x1.Expr.Op,si x1.Expr.N,BZ x1.Expr.Name,.sl false 4 (x1.Expr.L.map BH),.sl false 11 (x1.Body.map A7),.sl false 11 (x1.Else.map A7)]] (.BQ []) [bA 10 (EN r),.dead])/\(∀{x0 x1 r},(Qi n) x0 x1=some r->BD Tryz.prog 250 [bA 10 (EN x0),.agg [si x1.Op,si x1.FK,BZ x1.Name,BZ x1.Arg,.sl false 4 (x1.Index.map BH),si x1.Expr.Op,si x1.Expr.N,BZ x1.Expr.Name,.sl false 4 (x1.Expr.L.map BH),.sl false 11 (x1.Body.map A7),.sl false 11 (x1.Else.map A7)]] (.BQ []) [bA 10 (EN r),.dead])/\(∀{x0 x1 x2 x3 x4 r},(TW n) x0 x1 x2 x3 x4=some r->BD Tryz.prog 251 [bA 10 (EN x0),.agg [si x1.Op,si x1.FK,BZ x1.Name,BZ x1.Arg,.sl false 4 (x1.Index.map BH),si x1.Expr.Op,si x1.Expr.N,BZ x1.Expr.Name,.sl false 4 (x1.Expr.L.map BH),.sl false 11 (x1.Body.map A7),.sl false 11 (x1.Else.map A7)],si x2,si x3,si x4] (.BQ []) [bA 10 (EN r),.dead,.dead,.dead,.dead]):=by
  induction n with
  |zero=>exact⟨λh=>ET h,λh=>ET h,λh=>ET h,λh=>ET h⟩
  |succ n ih=>exact⟨λh=>Ro ih.2.1 h,λh=>TZ ih.2.2.1 ih.2.2.2 h,λh=>Ot ih.1 h,λh=>Qg ih.1 h⟩
theorem Qk {n:Nat}:∀{x0 x1 r},(DU n) x0 x1=some r->BD Tryz.prog 183 [bA 10 (EN x0),.sl false 11 (x1.map A7)] (.BQ []) [bA 10 (EN r),.dead]:=(Qj n).1
end Go.Abs
