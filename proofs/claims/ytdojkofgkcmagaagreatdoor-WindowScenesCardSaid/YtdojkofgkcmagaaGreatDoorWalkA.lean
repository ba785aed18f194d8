/- Typed programs of Go functions, and that the functions do what these say. -/
import Derived.Test.YtdojkofgkcmagaaGreatDoorBaseA
set_option linter.unusedSimpArgs false
set_option linter.unusedVariables false
namespace Go.Abs
open Go.Proofs
set_option maxRecDepth 1000000
set_option maxHeartbeats 4000000
namespace Cv
def J1:ABd Int:=
some (-1)
def L1 (a:List EX) (b:ABe) (L1:Int->ABd Int) (c:Int):ABd Int:=
if decide (c<(a.length:Int))then
(gt a c).bind λd=>
if d.Name.toList==b.toList then
some c
else
L1 (BA (c+1))
else
J1
def Aa (a:List EX) (b:ABe):Nat->Int->ABd Int
|0,_=>none
|n+1,c=>L1 a b (Aa a b n) c
end Cv
section
open Cv
def Cv (a:List EX) (b:ABe):ABd Int:=
Aa a b BW 0
theorem JF {a:List EX} {b:ABe} {r:Int} (h:Cv a b=some r):Says Tryz.prog 246 [vS 6 Jj a,BZ b] (si r):=by refine kO mix Tryz.func246 hn ?_;have l1:=λn1 n2 n3 n4:Nat=>A3 λn τ=>∃(c:Int),(τ 0=vS 6 Jj a/\τ 1=BZ b/\τ 5=si c)/\Aa a b n c=some r;unfold Cv at h;exact walk
end
namespace Dv
def J1:ABd Int:=
some (-1)
def L1 (a:List I7) (b:ABe) (L1:Int->ABd Int) (c:Int):ABd Int:=
if decide (c<(a.length:Int))then
(gt a c).bind λd=>
if d.Name.toList==b.toList then
some c
else
L1 (BA (c+1))
else
J1
def Aa (a:List I7) (b:ABe):Nat->Int->ABd Int
|0,_=>none
|n+1,c=>L1 a b (Aa a b n) c
end Dv
section
open Dv
def Dv (a:List I7) (b:ABe):ABd Int:=
Aa a b BW 0
theorem Oa {a:List I7} {b:ABe} {r:Int} (h:Dv a b=some r):Says Tryz.prog 220 [vS 2 Hy a,BZ b] (si r):=by refine kO mix Tryz.func220 hn ?_;have l1:=λn1 n2 n3 n4:Nat=>A3 λn τ=>∃(c:Int),(τ 0=vS 2 Hy a/\τ 1=BZ b/\τ 5=si c)/\Aa a b n c=some r;unfold Dv at h;exact walk
end
namespace CU
def J1:ABd Int:=
some (-1)
def L1 (a:List ABe) (b:ABe) (L1:Int->ABd Int) (c:Int):ABd Int:=
if decide (c<(a.length:Int))then
(gt a c).bind λd=>
if d.toList==b.toList then
some c
else
L1 (BA (c+1))
else
J1
def Aa (a:List ABe) (b:ABe):Nat->Int->ABd Int
|0,_=>none
|n+1,c=>L1 a b (Aa a b n) c
end CU
section
open CU
def CU (a:List ABe) (b:ABe):ABd Int:=
Aa a b BW 0
theorem HY {a:List ABe} {b:ABe} {r:Int} (h:CU a b=some r):Says Tryz.prog 99 [vS 1 eS a,BZ b] (si r):=by refine kO mix Tryz.func99 hn ?_;have l1:=λn1 n2 n3 n4:Nat=>A3 λn τ=>∃(c:Int),(τ 0=vS 1 eS a/\τ 1=BZ b/\τ 5=si c)/\Aa a b n c=some r;unfold CU at h;exact walk
end
namespace Fq
def J1:ABd Int:=
some (-1)
def L1 (a:List Int) (b:Int) (L1:Int->ABd Int) (c:Int):ABd Int:=
if decide (c<(a.length:Int))then
(gt a c).bind λd=>
if b==d then
some c
else
L1 (BA (c+1))
else
J1
def Aa (a:List Int) (b:Int):Nat->Int->ABd Int
|0,_=>none
|n+1,c=>L1 a b (Aa a b n) c
end Fq
section
open Fq
def Fq (a:List Int) (b:Int):ABd Int:=
Aa a b BW 0
theorem V0 {a:List Int} {b r:Int} (h:Fq a b=some r):Says Tryz.prog 201 [vS 1 eI a,si b] (si r):=by refine kO mix Tryz.func201 hn ?_;have l1:=λn1 n2 n3 n4:Nat=>A3 λn τ=>∃(c:Int),(τ 0=vS 1 eI a/\τ 1=si b/\τ 7=si (a.length:Int)/\τ 8=si c)/\Aa a b n c=some r;unfold Fq at h;exact walk
end
namespace DW
def J2 (d:Bool):ABd Bool:=
some d
def J1 (a:AG) (b:AD) (c:Bool):ABd Bool:=
if c then
some (a.Site==(-1))
else
if decide (a.Site≥0)then
if decide (a.Site<(b.BU.length:Int))then
(gt b.BU a.Site).bind λe=>
J2 (e.Thread==a.Thread)
else
J2 false
else
J2 false
end DW
section
open DW
def DW (b:AD) (a:AG):ABd Bool:=
if a.Kind==1 then
J1 a b true
else
J1 a b (a.Kind==2)
theorem P0 {b:AD} {a:AG} {r:Bool} (h:DW b a=some r):Says Tryz.prog 147 [.agg (Aq b),.agg (B1 a)] (sb r):=by refine kO mix Tryz.func147 (hn [(2,[22,28]),(3,[5,9,13,16,20,30,35])]) ?_;unfold DW at h;exact walk
end
namespace D5
def J3 (d:Bool):ABd Int:=
if d then
some 2
else
some (-1)
def J2 (a:Int) (c:Bool):ABd Int:=
if c then
some 1
else
if decide (a≥6)then
J3 (decide (a≤18))
else
J3 false
def J1 (a:Int) (b:Bool):ABd Int:=
if b then
some 0
else
if decide (a≥3)then
J2 a (decide (a≤5))
else
J2 a false
end D5
section
open D5
def D5 (a:Int):ABd Int:=
if a==1 then
J1 a true
else
J1 a (a==2)
theorem TP {a r:Int} (h:D5 a=some r):Says Tryz.prog 282 [si a] (si r):=by refine kO mix Tryz.func282 (hn (Q:=[(2,1)])) ?_;have c1:=λn1 n2 n3 n4:Nat=>Bs 1 λτ=>∃(b:Bool),(τ 0=si a/\τ 3=sb b)/\J1 a b=some r;unfold D5 at h;exact walk
end
namespace GP
def J1:ABd Bool:=
some false
def L1 (a:List Int) (b:Int) (L1:Int->ABd Bool) (c:Int):ABd Bool:=
if decide (c<(a.length:Int))then
(gt a c).bind λd=>
if d==b then
some true
else
L1 (BA (c+1))
else
J1
def Aa (a:List Int) (b:Int):Nat->Int->ABd Bool
|0,_=>none
|n+1,c=>L1 a b (Aa a b n) c
end GP
section
open GP
def GP (a:List Int) (b:Int):ABd Bool:=
Aa a b BW 0
theorem Mc {a:List Int} {b:Int} {r:Bool} (h:GP a b=some r):Says Tryz.prog 65 [vS 1 eI a,si b] (sb r):=by refine kO mix Tryz.func65 hn ?_;have l1:=λn1 n2 n3 n4:Nat=>A3 λn τ=>∃(c:Int),(τ 0=vS 1 eI a/\τ 1=si b/\τ 5=si c)/\Aa a b n c=some r;unfold GP at h;exact walk
end
namespace Ah
def J1 (b:Int) (a:AU) (c:Bool):ABd (Int×AU):=
if c then
some (0,a)
else
(gt a.L (BA ((BA (a.At+1))-1))).bind λd=>
if¬b=0 then
some ((BA d).tmod b,(AU.mk a.L (BA (a.At+1))))
else none
end Ah
section
open Ah
def Ah (a:AU) (b:Int):ABd (Int×AU):=
if decide (a.At≥(a.L.length:Int))then
J1 b a true
else
J1 b a (decide (b<1))
theorem DD {a:AU} {b:Int} {r:Int×AU} (h:Ah a b=some r):BD Tryz.prog 132 [bA 2 (FO a),si b] (si r.1) [bA 2 (FO r.2),.dead]:=by refine kL mix Tryz.func132 (hn [(0,[5,6,7,9,10,11,12,19,20,21,24,25,26,27,28,29,30,31,32,35])]) ?_;unfold Ah at h;exact walk
end
def Ei:ABd (List EX):=
some [(EX.mk 1 0 (⟨#[120]⟩:ABe) 0 0 (⟨#[]⟩:ABe)),(EX.mk 1 0 (⟨#[121]⟩:ABe) 0 1 (⟨#[]⟩:ABe)),(EX.mk 2 0 (⟨#[118]⟩:ABe) 0 0 (⟨#[]⟩:ABe)),(EX.mk 1 0 (⟨#[113]⟩:ABe) 2 0 (⟨#[]⟩:ABe)),(EX.mk 3 0 (⟨#[109]⟩:ABe) 0 0 (⟨#[]⟩:ABe)),(EX.mk 3 0 (⟨#[110]⟩:ABe) 0 0 (⟨#[]⟩:ABe)),(EX.mk 4 0 (⟨#[114]⟩:ABe) 0 0 (⟨#[]⟩:ABe)),(EX.mk 5 0 (⟨#[99]⟩:ABe) 0 0 (⟨#[109]⟩:ABe)),(EX.mk 6 0 (⟨#[102]⟩:ABe) 0 0 (⟨#[]⟩:ABe))]
theorem Qy {r:List EX} (h:Ei=some r):Says Tryz.prog 186 [] (vO 6 Jj r):=by refine kO mix Tryz.func186 hn ?_;unfold Ei at h;exact walk
def A6 (a:BB) (b:Ad):ABd BB:=
if Ap (a.out.length+1) 48=true then
some (BB.mk a.w a.locals (a.out++[(Ad.mk b.Op b.A b.B b.C b.N a.site)]) a.site a.next)
else none
theorem Gl {a:BB} {b:Ad} {r:BB} (h:A6 a b=some r):BD Tryz.prog 184 [bA 10 (EN a),.agg (EF b)] (.BQ []) [bA 10 (EN r),.dead]:=by refine kL mix Tryz.func184 (hn [(0,[4,5,6,10,11,12,13,17,18]),(3,[8])] (E:=[(2,(.bY [(0,0,8,9)] [i0 9 .fl,i1 10 0 (.cp (.t 0)),i1 11 0 (.Jp (.t 10)),LU 12 0 7 11,Zk 13 0 12,iA 14 6 3,i0 15 (.Nk 6 [z17] [(0,.t 14)]),i0 16 (.app 6 48 (.t 13) (.t 15)),i1 17 0 (.Jp (.t 0)),LU 18 0 7 17,iS 1 18 16]))])) ?_;unfold A6 at h;exact walk
namespace HX
def J1 (b:Bool):ABd Bool:=
some b
end HX
section
open HX
def HX (a:BE):ABd Bool:=
if a.Op==0 then
if a.N==0 then
if a.Name.toList==(⟨#[]⟩:ABe).toList then
J1 ((a.L.length:Int)==0)
else
J1 false
else
J1 false
else
J1 false
theorem X5 {a:BE} {r:Bool} (h:HX a=some r):Says Tryz.prog 278 [.agg [si a.Op,si a.N,BZ a.Name,vS 4 BH a.L]] (sb r):=by refine kO mix Tryz.func278 (hn [(1,[3,7,12,17])]) ?_;unfold HX at h;exact walk
end
namespace Fl
def J1 (b:Bool):ABd Bool:=
some b
end Fl
section
open Fl
def Fl (a:Int):ABd Bool:=
if decide (a≥97)then
if decide (a≤122)then
J1 true
else
if decide (a≥65)then
J1 (decide (a≤90))
else
J1 false
else
if decide (a≥65)then
J1 (decide (a≤90))
else
J1 false
theorem OV {a:Int} {r:Bool} (h:Fl a=some r):Says Tryz.prog 153 [.sc (.int .u8 a)] (sb r):=by refine kO mix Tryz.func153 hn ?_;unfold Fl at h;exact walk
end
namespace Hk
def J1 (a:Int) (b:Bool):ABd Int:=
if b then
some 0
else
(gt [3,3,4,4,5,6,7,8,9,10,11,12,13,14,15,16,18,19,20,21,22,23,2] (BA (a-6))).bind λc=>
some c
end Hk
section
open Hk
def Hk (a:Int):ABd Int:=
if decide (a<6)then
J1 a true
else
J1 a (decide (a>28))
theorem ZY {a r:Int} (h:Hk a=some r):Says Tryz.prog 240 [si a] (si r):=by refine kO mix Tryz.func240 (hn [(3,[11,14])]) ?_;unfold Hk at h;exact walk
end
def En (b:ABe) (a:BE):ABd AQ:=
some (AQ.mk 1 0 b (⟨#[]⟩:ABe) [] a [] [])
theorem PY {b:ABe} {a:BE} {r:AQ} (h:En b a=some r):Says Tryz.prog 188 [BZ b,.agg [si a.Op,si a.N,BZ a.Name,vS 4 BH a.L]] (.agg [si r.Op,si r.FK,BZ r.Name,BZ r.Arg,vS 4 BH r.Index,si r.Expr.Op,si r.Expr.N,BZ r.Expr.Name,vS 4 BH r.Expr.L,vS 11 A7 r.Body,vS 11 A7 r.Else]):=by refine kF mix Tryz.func188 hn ?_;unfold En at h;exact walk
namespace Gc
def J1 (c:Int):ABd Int:=
some c
end Gc
section
open Gc
def Gc (b a:Int):ABd Int:=
if decide (a<1)then
some 0
else
if¬a=0 then
if decide ((b.tmod a)<0)then
J1 (BA ((b.tmod a)+a))
else
J1 (b.tmod a)
else none
theorem YA {b a r:Int} (h:Gc b a=some r):Says Tryz.prog 264 [si b,si a] (si r):=by refine kO mix Tryz.func264 hn ?_;unfold Gc at h;exact walk
end
namespace Fk
def J1 (c:Bool):ABd Bool:=
some c
end Fk
section
open Fk
def Fk (a:AH) (b:Int):ABd Bool:=
if a.Status==3 then
J1 (a.Dg==b)
else
J1 false
theorem OS {a:AH} {b:Int} {r:Bool} (h:Fk a b=some r):Says Tryz.prog 225 [.agg (An a),si b] (sb r):=by refine kO mix Tryz.func225 (hn [(2,[5,9])]) ?_;unfold Fk at h;exact walk
end
namespace EZ
def J1 (a:Int) (b:Bool):ABd Int:=
if b then
some 0
else
some a
end EZ
section
open EZ
def EZ (a:Int):ABd Int:=
if decide (a<1)then
J1 a true
else
J1 a (decide (a>100))
theorem Tb {a r:Int} (h:EZ a=some r):Says Tryz.prog 266 [si a] (si r):=by refine kO mix Tryz.func266 hn ?_;unfold EZ at h;exact walk
end
def IJ (c:Int) (a b:BE):ABd BE:=
some (BE.mk c 0 (⟨#[]⟩:ABe) [a,b])
theorem PZ {c:Int} {a b r:BE} (h:IJ c a b=some r):Says Tryz.prog 255 [si c,.agg [si a.Op,si a.N,BZ a.Name,vS 4 BH a.L],.agg [si b.Op,si b.N,BZ b.Name,vS 4 BH b.L]] (.agg [si r.Op,si r.N,BZ r.Name,vS 4 BH r.L]):=by refine kF mix Tryz.func255 hn ?_;unfold IJ at h;exact walk
namespace Da
def J1 (c:Bool):ABd Bool:=
some c
end Da
section
open Da
def Da (a b:Int):ABd Bool:=
if decide (a≥0)then
J1 (decide (a<b))
else
J1 false
theorem Pm {a b:Int} {r:Bool} (h:Da a b=some r):Says Tryz.prog 211 [si a,si b] (sb r):=by refine kO mix Tryz.func211 hn ?_;unfold Da at h;exact walk
end
def Me:ABd (List Int):=
some [3,3,3,3,3,4,4,4,4,4,5,5,5,6,6,6,7,7,7,8,9,10,11,12,13,14,14,15,16,16,17,17,18,18,19,20,1,1,2,21,22,23,23]
theorem Yd {r:List Int} (h:Me=some r):Says Tryz.prog 175 [] (vO 1 eI r):=by refine kO mix Tryz.func175 hn ?_;unfold Me at h;exact walk
def Jo (a:Int):ABd BE:=
some (BE.mk 1 a (⟨#[]⟩:ABe) [])
theorem Pc {a:Int} {r:BE} (h:Jo a=some r):Says Tryz.prog 189 [si a] (.agg [si r.Op,si r.N,BZ r.Name,vS 4 BH r.L]):=by refine kF mix Tryz.func189 hn ?_;unfold Jo at h;exact walk
def Ii (a:ABe):ABd BE:=
some (BE.mk 2 0 a [])
theorem Sw {a:ABe} {r:BE} (h:Ii a=some r):Says Tryz.prog 256 [BZ a] (.agg [si r.Op,si r.N,BZ r.Name,vS 4 BH r.L]):=by refine kF mix Tryz.func256 hn ?_;unfold Ii at h;exact walk
def B3 (a:Bool):ABd Int:=
if a then
some 7
else
some 0
theorem UR {a:Bool} {r:Int} (h:B3 a=some r):Says Tryz.prog 273 [sb a] (si r):=by refine kO mix Tryz.func273 hn ?_;unfold B3 at h;exact walk
def D7 (a:Bool):ABd Int:=
if a then
some 1
else
some 0
theorem Pl {a:Bool} {r:Int} (h:D7 a=some r):Says Tryz.prog 276 [sb a] (si r):=by refine kO mix Tryz.func276 hn ?_;unfold D7 at h;exact walk
def E5 (a b:Int):ABd Int:=
if a != 0 then
some a
else
some b
theorem kT {a b r:Int} (h:E5 a b=some r):Says Tryz.prog 270 [si a,si b] (si r):=by refine kO mix Tryz.func270 hn ?_;unfold E5 at h;exact walk
namespace Cy
def J1 (e:Int):ABd Int:=
some e
def L1 (R100:(List AQ)->ABd Int) (a:List AQ) (L1:Int->Int->ABd Int) (c b:Int):ABd Int:=
if decide (b<(a.length:Int))then
(gt a b).bind λd=>
(R100 d.Body).bind λf=>
(R100 d.Else).bind λi=>
L1 (BA ((BA (c+f))+i)) (BA (b+1))
else
J1 c
def Aa (R100:(List AQ)->ABd Int) (a:List AQ):Nat->Int->Int->ABd Int
|0,_,_=>none
|n+1,c,b=>L1 R100 a (Aa R100 a n) c b
end Cy
section
open Cy
def Cy (R100:(List AQ)->ABd Int) (a:List AQ):ABd Int:=
Aa R100 a BW (a.length:Int) 0
theorem X6 {R100:(List AQ)->ABd Int} (H100:∀{x0 r},R100 x0=some r->Says Tryz.prog 218 [vS 11 A7 x0] (si r)) {a:List AQ} {r:Int} (h:Cy R100 a=some r):Says Tryz.prog 218 [vS 11 A7 a] (si r):=by refine kO mix Tryz.func218 hn ?_;have a1:= @H100;have l1:=λn1 n2 n3 n4:Nat=>A3 λn τ=>∃(c b:Int),(τ 0=vS 11 A7 a/\τ 3=si c/\τ 4=si b)/\Aa R100 a n c b=some r;unfold Cy at h;exact walk
end
def TQ:Nat->((List AQ)->ABd Int)
|0=>(λ_=>none)
|n+1=>Cy ((TQ n))
def GY (n:Nat):(List AQ)->ABd Int:=(TQ n)
theorem Vl (n:Nat):(∀{x0 r},(GY n) x0=some r->Says Tryz.prog 218 [.sl false 11 (x0.map A7)] (si r)):=by
  induction n with
  |zero=>exactλh=>ET h
  |succ n ih=>exactλh=>X6 ih h
theorem Vm {n:Nat}:∀{x0 r},(GY n) x0=some r->Says Tryz.prog 218 [.sl false 11 (x0.map A7)] (si r):=(Vl n)
namespace EW
def J3 (c:Int) (a:List Int) (b:Int) (f:Bool):ABd (List Int):=
if f then
some a
else
if 0≤c/\c.toNat≤a.length then
if Ap ((a.take c.toNat).length) 8=true then
if Ap ((a.take c.toNat).length+1) 8=true then
if 0≤c/\c.toNat≤a.length then
if Ap (((a.take c.toNat)++[b]).length+((a.drop c.toNat).take (a.length-c.toNat)).length) 8=true then
some (((a.take c.toNat)++[b])++((a.drop c.toNat).take (a.length-c.toNat)))
else none
else none
else none
else none
else none
def J2 (a:List Int) (b c:Int):ABd (List Int):=
if decide (c<(a.length:Int))then
(gt a c).bind λj=>
J3 c a b (j==b)
else
J3 c a b false
def J1 (L1:Int->ABd (List Int)) (d:Int) (a:List Int) (b:Int) (e:Bool):ABd (List Int):=
if e then
L1 (BA (d+1))
else
J2 a b d
def L1 (a:List Int) (b:Int) (L1:Int->ABd (List Int)) (d:Int):ABd (List Int):=
if decide (d<(a.length:Int))then
(gt a d).bind λi=>
J1 L1 d a b (decide (i<b))
else
J1 L1 d a b false
def Aa (a:List Int) (b:Int):Nat->Int->ABd (List Int)
|0,_=>none
|n+1,d=>L1 a b (Aa a b n) d
end EW
section
open EW
def EW (a:List Int) (b:Int):ABd (List Int):=
Aa a b BW 0
theorem eC {a:List Int} {b:Int} {r:List Int} (h:EW a b=some r):Says Tryz.prog 200 [vO 1 eI a,si b] (vO 1 eI r):=by refine kO mix Tryz.func200 (hn [(0,[8,12,14,22,26,28,33,35,44]),(6,[39,43])]) ?_;have l1:=λn1 n2 n3 n4:Nat=>A3 λn τ=>∃(d:Int),(τ 0=vO 1 eI a/\τ 1=si b/\τ 5=si d)/\Aa a b n d=some r;unfold EW at h;exact walk
end
namespace BX
def J2 (a:BN):ABd (Bool×BN):=
some (false,a)
def J1 (L1:Int->ABd (Bool×BN)) (b:Int) (a:BN) (i:Bool):ABd (Bool×BN):=
if i then
some (true,a)
else
L1 (BA (b+1))
def L1 (d e:Int) (c:ABe) (a:BN) (L1:Int->ABd (Bool×BN)) (b:Int):ABd (Bool×BN):=
if decide (b<(a.GD.length:Int))then
(gt a.GD b).bind λf=>
if f.Op==d then
if c.toList==(⟨#[]⟩:ABe).toList then
J1 L1 b a true
else
J1 L1 b a (f.Name.toList==c.toList)
else
if f.Op==e then
if c.toList==(⟨#[]⟩:ABe).toList then
J1 L1 b a true
else
J1 L1 b a (f.Name.toList==c.toList)
else
J1 L1 b a false
else
J2 a
def Aa (d e:Int) (c:ABe) (a:BN):Nat->Int->ABd (Bool×BN)
|0,_=>none
|n+1,b=>L1 d e c a (Aa d e c a n) b
end BX
section
open BX
def BX (a:BN) (d e:Int) (c:ABe):ABd (Bool×BN):=
Aa d e c a BW 0
theorem Pk {a:BN} {d e:Int} {c:ABe} {r:Bool×BN} (h:BX a d e c=some r):BD Tryz.prog 269 [bA 6 (HA a),si d,si e,BZ c] (sb r.1) [bA 6 (HA r.2),.dead,.dead,.dead]:=by refine kL mix Tryz.func269 (hn [(0,[12,13,14,15,20,21,22,23,25,26]),(10,[27,32,41])]) ?_;have l1:=λn1 n2 n3 n4:Nat=>A3 λn τ=>∃(b:Int),(τ 0=bA 6 (HA a)/\τ 1=si d/\τ 2=si e/\τ 3=BZ c/\τ 9=si b)/\Aa d e c a n b=some r;unfold BX at h;exact walk
end
namespace Cb
def J3:ABd Bool:=
some true
def J2 (L1:Int->Int->Int->ABd Bool) (b:Int) (d:Dk) (j f:Int):ABd Bool:=
if d.Stmt != f then
some false
else
L1 j (BA (f+1)) (BA (b+1))
def J1 (L1:Int->Int->Int->ABd Bool) (e b c:Int) (d:Dk) (i:Bool):ABd Bool:=
if i then
some false
else
if decide (d.Thread>c)then
J2 L1 b d d.Thread 0
else
J2 L1 b d c e
def L1 (a:AD) (L1:Int->Int->Int->ABd Bool) (c e b:Int):ABd Bool:=
if decide (b<(a.BU.length:Int))then
(gt a.BU b).bind λd=>
if decide (d.Thread<c)then
J1 L1 e b c d true
else
J1 L1 e b c d (decide (d.Thread≥(a.AA.length:Int)))
else
J3
def Aa (a:AD):Nat->Int->Int->Int->ABd Bool
|0,_,_,_=>none
|n+1,c,e,b=>L1 a (Aa a n) c e b
end Cb
section
open Cb
def Cb (a:AD):ABd Bool:=
Aa a BW 0 0 0
theorem Oj {a:AD} {r:Bool} (h:Cb a=some r):Says Tryz.prog 93 [.agg (Aq a)] (sb r):=by refine kO mix Tryz.func93 (hn [(1,[7,21]),(6,[14,19,26,30,32])]) ?_;have l1:=λn1 n2 n3 n4:Nat=>A3 λn τ=>∃(c e b:Int),(τ 1=bA 6 (Aq a)/\τ 3=si c/\τ 4=si e/\τ 8=vS 3 Gb a.BU/\τ 9=si (a.BU.length:Int)/\τ 10=si b)/\Aa a n c e b=some r;unfold Cb at h;exact walk
end
namespace Ey
def J1 (c:Bool):ABd Bool:=
some c
end Ey
section
open Ey
def Ey (a b:Int):ABd Bool:=
if decide (a≥0)then
J1 (decide (a<b))
else
J1 false
theorem SV {a b:Int} {r:Bool} (h:Ey a b=some r):Says Tryz.prog 143 [si a,si b] (sb r):=by refine kO mix Tryz.func143 hn ?_;unfold Ey at h;exact walk
end
namespace DP
def J1 (c:Bool):ABd Bool:=
some c
end DP
section
open DP
def DP (a b:Int):ABd Bool:=
if decide (a≥0)then
J1 (decide (a<b))
else
J1 false
theorem JY {a b:Int} {r:Bool} (h:DP a b=some r):Says Tryz.prog 144 [si a,si b] (sb r):=by refine kO mix Tryz.func144 hn ?_;unfold DP at h;exact walk
end
namespace HW
def J1 (b:Bool):ABd Bool:=
some b
end HW
section
open HW
def HW (a:Int):ABd Bool:=
if decide (a≥48)then
J1 (decide (a≤57))
else
J1 false
theorem X2 {a:Int} {r:Bool} (h:HW a=some r):Says Tryz.prog 199 [.sc (.int .u8 a)] (sb r):=by refine kO mix Tryz.func199 hn ?_;unfold HW at h;exact walk
end
namespace Fp
def J1 (b:Bool):ABd Bool:=
some b
end Fp
section
open Fp
def Fp (a:Int):ABd Bool:=
if decide (a≥1)then
J1 (decide (a≤5))
else
J1 false
theorem OY {a:Int} {r:Bool} (h:Fp a=some r):Says Tryz.prog 238 [si a] (sb r):=by refine kO mix Tryz.func238 hn ?_;unfold Fp at h;exact walk
end
namespace Ky
def J1 (c:Bool):ABd Bool:=
some c
end Ky
section
open Ky
def Ky (a b:Int):ABd Bool:=
if decide (a≥0)then
J1 (decide (a<b))
else
J1 false
theorem kU {a b:Int} {r:Bool} (h:Ky a b=some r):Says Tryz.prog 103 [si a,si b] (sb r):=by refine kO mix Tryz.func103 hn ?_;unfold Ky at h;exact walk
end
namespace HH
def J1 (c:Bool):ABd Bool:=
some c
end HH
section
open HH
def HH (a b:Int):ABd Bool:=
if decide (a≥0)then
J1 (decide (a<b))
else
J1 false
theorem SD {a b:Int} {r:Bool} (h:HH a b=some r):Says Tryz.prog 114 [si a,si b] (sb r):=by refine kO mix Tryz.func114 hn ?_;unfold HH at h;exact walk
end
namespace Kz
def J1 (c:Bool):ABd Bool:=
some c
end Kz
section
open Kz
def Kz (a b:Int):ABd Bool:=
if decide (a≥0)then
J1 (decide (a<b))
else
J1 false
theorem U9 {a b:Int} {r:Bool} (h:Kz a b=some r):Says Tryz.prog 101 [si a,si b] (sb r):=by refine kO mix Tryz.func101 hn ?_;unfold Kz at h;exact walk
end
def f163c:IC:=(.seq (.T1 [⟨some ⟨2,[],[]⟩,.mv (.c (.own false 1 [])),none⟩])
(.seq (.seq (.Yu [.o ⟨some ⟨3,[],[]⟩,.cp (.t 0),none⟩,
.WL ⟨4,[],[]⟩ false (.t 3)])
(.cond (.t 4) (.seq (.T1 [⟨some ⟨2,[],[]⟩,.mv (.c (.own false 1 [])),none⟩])
.ret) .skip))
(.seq (.T1 [⟨some ⟨5,[],[]⟩,.Nk 1 [] [],none⟩,
⟨some ⟨6,[],[]⟩,.cp (.t 0),none⟩,
⟨some ⟨7,[],[]⟩,.app 1 16 (.t 5) (.t 6),none⟩,
⟨some ⟨2,[],[]⟩,.mv (.t 7),none⟩])
.ret)))
def f163g:Gi:=⟨[]⟩
def f163r:List RV:=[.tmp 2]
def f163:FI:=⟨f163c,f163g,f163r⟩
theorem chk163:M6 Tryz.prog Tryz.f163 f163=true:=by kernel_rfl
def slices_Clone_string (l:List ABe):ABd (List ABe):=if Ap l.length 16=true then some l else none
theorem eP {l:List ABe} {r:List ABe} (h:slices_Clone_string l=some r):Says Tryz.prog 163 [vS 1 eS l] (vO 1 eS r):=by
  obtain⟨g,h⟩:=HU h;obtain rfl:=AAG h;refine Lr mix Tryz.func163 chk163 (AAO (by kernel_rfl)) rfl ?_;simp only[f163,f163c,f163g,f163r];simp +decide only[go_sem,g];intro b hb;cases b with
  |true=>have hl:l=[]:=(by simpa using hb rfl);subst hl;simp +decide only[go_sem,g]
  |false=>simp +decide only[go_sem,g]
namespace EB
def J2 (e:List Int):ABd (List Int):=
some e
def J1 (L1:(List Int)->Int->ABd (List Int)) (b:Int) (d:List Int):ABd (List Int):=
L1 d (BA (b+1))
def L1 (a:AB) (L1:(List Int)->Int->ABd (List Int)) (c:List Int) (b:Int):ABd (List Int):=
if decide (b<(a.Sync.AA.length:Int))then
(gt a.Sync.AA b).bind λf=>
if f.Status==3 then
if Ap (c.length+1) 8=true then
J1 L1 b (c++[b])
else none
else
J1 L1 b c
else
J2 c
def Aa (a:AB):Nat->(List Int)->Int->ABd (List Int)
|0,_,_=>none
|n+1,c,b=>L1 a (Aa a n) c b
end EB
section
open EB
def EB (a:AB):ABd (List Int):=
Aa a BW [] 0
theorem Ua {a:AB} {r:List Int} (h:EB a=some r):Says Tryz.prog 208 [.agg (BI a)] (vO 1 eI r):=by refine kO mix Tryz.func208 (hn [(1,[6,7]),(3,[18,23]),(5,[15])]) ?_;have l1:=λn1 n2 n3 n4:Nat=>A3 λn τ=>∃(c:List Int) (b:Int),(τ 3=vO 1 eI c/\τ 8=vS 3 An a.Sync.AA/\τ 9=si (a.Sync.AA.length:Int)/\τ 10=si b)/\Aa a n c b=some r;unfold EB at h;exact walk
end
def f151c:IC:=(.seq (.T1 [⟨some ⟨2,[],[]⟩,.mv (.c (.own false 1 [])),none⟩])
(.seq (.seq (.Yu [.o ⟨some ⟨3,[],[]⟩,.cp (.t 0),none⟩,
.WL ⟨4,[],[]⟩ false (.t 3)])
(.cond (.t 4) (.seq (.T1 [⟨some ⟨2,[],[]⟩,.mv (.c (.own false 1 [])),none⟩])
.ret) .skip))
(.seq (.T1 [⟨some ⟨5,[],[]⟩,.Nk 1 [] [],none⟩,
⟨some ⟨6,[],[]⟩,.cp (.t 0),none⟩,
⟨some ⟨7,[],[]⟩,.app 1 8 (.t 5) (.t 6),none⟩,
⟨some ⟨2,[],[]⟩,.mv (.t 7),none⟩])
.ret)))
def f151g:Gi:=⟨[]⟩
def f151r:List RV:=[.tmp 2]
def f151:FI:=⟨f151c,f151g,f151r⟩
theorem chk151:M6 Tryz.prog Tryz.f151 f151=true:=by kernel_rfl
def Gs (l:List Int):ABd (List Int):=if Ap l.length 8=true then some l else none
theorem Ls {l:List Int} {r:List Int} (h:Gs l=some r):Says Tryz.prog 151 [vS 1 eI l] (vO 1 eI r):=by
  obtain⟨g,h⟩:=HU h;obtain rfl:=AAG h;refine Lr mix Tryz.func151 chk151 (AAO (by kernel_rfl)) rfl ?_;simp only[f151,f151c,f151g,f151r];simp +decide only[go_sem,g];intro b hb;cases b with
  |true=>have hl:l=[]:=(by simpa using hb rfl);subst hl;simp +decide only[go_sem,g]
  |false=>simp +decide only[go_sem,g]
def f165c:IC:=(.seq (.T1 [⟨some ⟨2,[],[]⟩,.mv (.c (.own false 1 [])),none⟩])
(.seq (.seq (.Yu [.o ⟨some ⟨3,[],[]⟩,.cp (.t 0),none⟩,
.WL ⟨4,[],[]⟩ false (.t 3)])
(.cond (.t 4) (.seq (.T1 [⟨some ⟨2,[],[]⟩,.mv (.c (.own false 1 [])),none⟩])
.ret) .skip))
(.seq (.T1 [⟨some ⟨5,[],[]⟩,.Nk 1 [] [],none⟩,
⟨some ⟨6,[],[]⟩,.cp (.t 0),none⟩,
⟨some ⟨7,[],[]⟩,.app 1 1 (.t 5) (.t 6),none⟩,
⟨some ⟨2,[],[]⟩,.mv (.t 7),none⟩])
.ret)))
def f165g:Gi:=⟨[]⟩
def f165r:List RV:=[.tmp 2]
def f165:FI:=⟨f165c,f165g,f165r⟩
theorem chk165:M6 Tryz.prog Tryz.f165 f165=true:=by kernel_rfl
def I4 (l:List Bool):ABd (List Bool):=if Ap l.length 1=true then some l else none
theorem Mg {l:List Bool} {r:List Bool} (h:I4 l=some r):Says Tryz.prog 165 [vS 1 eB l] (vO 1 eB r):=by
  obtain⟨g,h⟩:=HU h;obtain rfl:=AAG h;refine Lr mix Tryz.func165 chk165 (AAO (by kernel_rfl)) rfl ?_;simp only[f165,f165c,f165g,f165r];simp +decide only[go_sem,g];intro b hb;cases b with
  |true=>have hl:l=[]:=(by simpa using hb rfl);subst hl;simp +decide only[go_sem,g]
  |false=>simp +decide only[go_sem,g]
def f152c:IC:=(.seq (.T1 [⟨some ⟨2,[],[]⟩,.mv (.c (.own false 1 [])),none⟩])
(.seq (.seq (.Yu [.o ⟨some ⟨3,[],[]⟩,.cp (.t 0),none⟩,
.WL ⟨4,[],[]⟩ false (.t 3)])
(.cond (.t 4) (.seq (.T1 [⟨some ⟨2,[],[]⟩,.mv (.c (.own false 1 [])),none⟩])
.ret) .skip))
(.seq (.T1 [⟨some ⟨5,[],[]⟩,.Nk 1 [] [],none⟩,
⟨some ⟨6,[],[]⟩,.cp (.t 0),none⟩,
⟨some ⟨7,[],[]⟩,.app 1 8 (.t 5) (.t 6),none⟩,
⟨some ⟨2,[],[]⟩,.mv (.t 7),none⟩])
.ret)))
def f152g:Gi:=⟨[]⟩
def f152r:List RV:=[.tmp 2]
def f152:FI:=⟨f152c,f152g,f152r⟩
theorem chk152:M6 Tryz.prog Tryz.f152 f152=true:=by kernel_rfl
def slices_Clone_int (l:List Int):ABd (List Int):=if Ap l.length 8=true then some l else none
theorem Hs {l:List Int} {r:List Int} (h:slices_Clone_int l=some r):Says Tryz.prog 152 [vS 1 eI l] (vO 1 eI r):=by
  obtain⟨g,h⟩:=HU h;obtain rfl:=AAG h;refine Lr mix Tryz.func152 chk152 (AAO (by kernel_rfl)) rfl ?_;simp only[f152,f152c,f152g,f152r];simp +decide only[go_sem,g];intro b hb;cases b with
  |true=>have hl:l=[]:=(by simpa using hb rfl);subst hl;simp +decide only[go_sem,g]
  |false=>simp +decide only[go_sem,g]
namespace GM
def J1 (e:AP):ABd AP:=
some e
def L1 (a:AP) (L1:AP->Int->ABd AP) (b:AP) (c:Int):ABd AP:=
if decide (c<(a.AF.length:Int))then
(gt a.AF c).bind λd=>
if Ap (d.Ak.length) 8=true then
if Ap (b.AF.length+1) 32=true then
L1 (AP.mk (b.AF++[d]) b.Tx b.Bn b.AA) (BA (c+1))
else none
else none
else
J1 b
def Aa (a:AP):Nat->AP->Int->ABd AP
|0,_,_=>none
|n+1,b,c=>L1 a (Aa a n) b c
end GM
section
open GM
def GM (a:AP):ABd AP:=
if Ap (a.Bn.length) 1=true then
if Ap (a.AA.length) 24=true then
Aa a BW (AP.mk [] a.Tx a.Bn a.AA) 0
else none
else none
theorem Q4 {a r:AP} (h:GM a=some r):Says Tryz.prog 118 [.agg (F8 a)] (.agg (Ht r)):=by refine kO mix Tryz.func118 (hn [(1,[5,8,12,17,25,32]),(3,[23,24,42,43])]) ?_;have l1:=λn1 n2 n3 n4:Nat=>A3 λn τ=>∃(b:AP) (c:Int),(τ 1=bA 4 (F8 a)/\τ 2=bA 4 z5/\τ 3=bA 4 (Ht b)/\τ 4=si c)/\Aa a n b c=some r;unfold GM at h;exact walk
end
namespace CW
def J4 (o:AP):ABd AP:=
some o
def J3 (L3:AP->Int->ABd AP) (c:Int) (b:AP) (p:AH):ABd AP:=
if Ap (b.AA.length+1) 24=true then
L3 (AP.mk b.AF b.Tx b.Bn (b.AA++[p])) (BA (c+1))
else none
def L3 (a:AD) (L3:AP->Int->ABd AP) (b:AP) (c:Int):ABd AP:=
if decide (c<(a.AA.length:Int))then
if c==0 then
J3 L3 c b (AH.mk 1 0 false)
else
J3 L3 c b (AH.mk 0 0 false)
else
J4 b
def Gg (a:AD):Nat->AP->Int->ABd AP
|0,_,_=>none
|n+1,b,c=>L3 a (Gg a n) b c
def J2 (a:AD) (l:AP):ABd AP:=
Gg a BW l 0
def L2 (a:AD) (L2:AP->Int->ABd AP) (e:AP) (i:Int):ABd AP:=
if decide (i<(a.AK.length:Int))then
if Ap (e.Bn.length+1) 1=true then
L2 (AP.mk e.AF e.Tx (e.Bn++[false]) e.AA) (BA (i+1))
else none
else
J2 a e
def DF (a:AD):Nat->AP->Int->ABd AP
|0,_,_=>none
|n+1,e,i=>L2 a (DF a n) e i
def J1 (a:AD) (j:AP):ABd AP:=
DF a BW j 0
def L1 (a:AD) (L1:AP->Int->ABd AP) (d:AP) (f:Int):ABd AP:=
if decide (f<(a.AF.length:Int))then
if Ap (d.AF.length+1) 32=true then
L1 (AP.mk (d.AF++[(AW.mk (-1) [])]) d.Tx d.Bn d.AA) (BA (f+1))
else none
else
J1 a d
def Aa (a:AD):Nat->AP->Int->ABd AP
|0,_,_=>none
|n+1,d,f=>L1 a (Aa a n) d f
end CW
section
open CW
def CW (a:AD):ABd AP:=
Aa a BW (AP.mk [] (-1) [] []) 0
theorem Pq {a:AD} {r:AP} (h:CW a=some r):Says Tryz.prog 135 [.agg (Aq a)] (.agg (Ht r)):=by refine kO mix Tryz.func135 (hn [(1,[10,23,35]),(3,[16,17,21,29,30,33,45,46,50,51]),(7,[44])]) ?_;have l3:=λn1 n2 n3 n4:Nat=>A3 λn τ=>∃(b:AP) (c:Int),(τ 1=bA 6 (Aq a)/\τ 2=bA 4 z5/\τ 3=bA 4 (Ht b)/\τ 6=si c)/\Gg a n b c=some r;have l2:=λn1 n2 n3 n4:Nat=>A3 λn τ=>∃(e:AP) (i:Int),(τ 1=bA 6 (Aq a)/\τ 2=bA 4 z5/\τ 3=bA 4 (Ht e)/\τ 5=si i)/\DF a n e i=some r;have l1:=λn1 n2 n3 n4:Nat=>A3 λn τ=>∃(d:AP) (f:Int),(τ 1=bA 6 (Aq a)/\τ 2=bA 4 z5/\τ 3=bA 4 (Ht d)/\τ 4=si f)/\Aa a n d f=some r;unfold CW at h;exact walk
end
namespace C1
def J5:ABd Bool:=
some true
def J4 (L1:Int->ABd Bool) (a:Int):ABd Bool:=
L1 (BA (a+1))
def J3 (L1:Int->ABd Bool) (a:Int) (s:Bool):ABd Bool:=
if !s then
some false
else
J4 L1 a
def J2 (L2:Int->Bool->Int->ABd Bool) (f o:Int) (q:Bool):ABd Bool:=
L2 o q (BA (f+1))
def J1 (L2:Int->Bool->Int->ABd Bool) (f i:Int) (p:Bool):ABd Bool:=
J2 L2 f (BA (i+1)) p
def L2 (L1:Int->ABd Bool) (c a:Int) (d:List AG) (b:List Int) (e:Int) (L2:Int->Bool->Int->ABd Bool) (i:Int) (j:Bool) (f:Int):ABd Bool:=
if decide (f<c)then
(gt d f).bind λl=>
if l.Thread != e then
J2 L2 f i j
else
if j then
J1 L2 f i true
else
(gt b a).bind λt=>
if i==t then
if l.Kind==3 then
J1 L2 f i true
else
J1 L2 f i (l.Kind==23)
else
J1 L2 f i false
else
J3 L1 a j
def DF (L1:Int->ABd Bool) (c a:Int) (d:List AG) (b:List Int) (e:Int):Nat->Int->Bool->Int->ABd Bool
|0,_,_,_=>none
|n+1,i,j,f=>L2 L1 c a d b e (DF L1 c a d b e n) i j f
def L1 (c:Int) (d:List AG) (b:List Int) (e:Int) (L1:Int->ABd Bool) (a:Int):ABd Bool:=
if decide (a<(b.length:Int))then
DF L1 c a d b e BW 0 false 0
else
J5
def Aa (c:Int) (d:List AG) (b:List Int) (e:Int):Nat->Int->ABd Bool
|0,_=>none
|n+1,a=>L1 c d b e (Aa c d b e n) a
end C1
section
open C1
def C1 (d:List AG) (c e:Int) (b:List Int):ABd Bool:=
Aa c d b e BW 0
theorem YM {d:List AG} {c e:Int} {b:List Int} {r:Bool} (h:C1 d c e b=some r):Says Tryz.prog 141 [vS 7 B1 d,si c,si e,vS 1 eI b] (sb r):=by refine kO mix Tryz.func141 hn ?_;have l1:=λn1 n2 n3 n4:Nat=>A3 λn τ=>∃(a:Int),(τ 0=vS 7 B1 d/\τ 1=si c/\τ 2=si e/\τ 3=vS 1 eI b/\τ 9=si a)/\Aa c d b e n a=some r;have l2:=λn1 n2 n3 n4:Nat=>A3 λn τ=>∃(a i:Int) (j:Bool) (f:Int),(τ 0=vS 7 B1 d/\τ 1=si c/\τ 2=si e/\τ 3=vS 1 eI b/\τ 9=si a/\τ 10=si i/\τ 11=sb j/\τ 12=si f)/\DF (Aa c d b e n1) c a d b e n i j f=some r;unfold C1 at h;exact walk
end
namespace Aw
def J4:ABd Bool:=
some true
def J3 (L1:Int->ABd Bool) (b:Int):ABd Bool:=
L1 (BA (b+1))
def J2 (L2:Int->ABd Bool) (e:Int) (i:Bool):ABd Bool:=
if i then
some false
else
L2 (BA (e+1))
def L2 (L1:Int->ABd Bool) (d:List Int) (a:List Bool) (b:Int) (L2:Int->ABd Bool) (e:Int):ABd Bool:=
if decide (e<(d.length:Int))then
(gt d e).bind λf=>
if decide (f<0)then
J2 L2 e true
else
if decide (f≥(a.length:Int))then
J2 L2 e true
else
(gt a f).bind λj=>
J2 L2 e (!j)
else
J3 L1 b
def DF (L1:Int->ABd Bool) (d:List Int) (a:List Bool) (b:Int):Nat->Int->ABd Bool
|0,_=>none
|n+1,e=>L2 L1 d a b (DF L1 d a b n) e
def J1 (L1:Int->ABd Bool) (a:List Bool) (b:Int) (d:List Int):ABd Bool:=
DF L1 d a b BW 0
def L1 (c:AG) (a:List Bool) (L1:Int->ABd Bool) (b:Int):ABd Bool:=
if decide (b<2)then
if b==0 then
J1 L1 a b c.Dw
else
if b==1 then
J1 L1 a b c.DM
else
none
else
J4
def Aa (c:AG) (a:List Bool):Nat->Int->ABd Bool
|0,_=>none
|n+1,b=>L1 c a (Aa c a n) b
end Aw
section
open Aw
def Aw (a:List Bool) (c:AG):ABd Bool:=
Aa c a BW 0
theorem fD {a:List Bool} {c:AG} {r:Bool} (h:Aw a c=some r):Says Tryz.prog 158 [vS 1 eB a,.agg (B1 c)] (sb r):=by refine kO mix Tryz.func158 (hn [(3,[9,11])] [(6,1)]) ?_;have l1:=λn1 n2 n3 n4:Nat=>A3 λn τ=>∃(b:Int),(τ 0=vS 1 eB a/\τ 13= .agg [vS 1 eI c.Dw,vS 1 eI c.DM]/\τ 14=si b)/\Aa c a n b=some r;have l2:=λn1 n2 n3 n4:Nat=>A3 λn τ=>∃(d:List Int) (b e:Int),(τ 0=vS 1 eB a/\τ 13= .agg [vS 1 eI c.Dw,vS 1 eI c.DM]/\τ 14=si b/\τ 17=vS 1 eI d/\τ 18=si (d.length:Int)/\τ 19=si e)/\DF (Aa c a n1) d a b n e=some r;have c1:=λn1 n2 n3 n4:Nat=>Bs 1 λτ=>∃(b:Int) (d:List Int),(τ 0=vS 1 eB a/\τ 6=vS 1 eI d/\τ 13= .agg [vS 1 eI c.Dw,vS 1 eI c.DM]/\τ 14=si b)/\J1 (Aa c a n1) a b d=some r;unfold Aw at h;exact walk
end
end Go.Abs
