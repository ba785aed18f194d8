/- Typed programs of Go functions, and that the functions do what these say. -/
import Derived.Test.YtdojkofgkcmagaaGreatDoorBaseA
set_option linter.defProp false
set_option linter.unusedSimpArgs false
set_option linter.unusedVariables false
namespace Go.Abs
open Go.Proofs Tryz
set_option maxRecDepth 1000000
set_option maxHeartbeats 4000000
namespace Cv
def J1:i6:=
some (-1)
def L1(a:gq)(b:ABe)(L1:ig)(c:Int):=
if decide (c<(a.length:Int))then
(gt a c).bind λd=>
if d.Name.toList==b.toList then
some c
else
L1 (BA (c+1))
else
J1
def Aa(a:gq)(b:ABe):Nat->Int->ABd Int
|0,_=>none
|n+1,c=>L1 a b (Aa a b n) c
end Cv
section
open Cv
def Cv(a:gq)(b:ABe):=
Aa a b BW 0
def JF{a:gq}{b:ABe}{r:Int}(h:Cv a b=some r):Says prog 246 [vS 6 Jj a,BZ b] (si r):=by refine kO mix func246 hn ?_;have l1:=da λ_ _ _ _ n d=>∃c,(d 0=vS 6 Jj a/\d 1=BZ b/\d 5=si c)/\Aa a b n c=some r;unfold Cv at h;exact walk
end
namespace Dv
def J1:i6:=
some (-1)
def L1(a:List I7)(b:ABe)(L1:ig)(c:Int):=
if decide (c<(a.length:Int))then
(gt a c).bind λd=>
if d.Name.toList==b.toList then
some c
else
L1 (BA (c+1))
else
J1
def Aa(a:List I7)(b:ABe):Nat->Int->ABd Int
|0,_=>none
|n+1,c=>L1 a b (Aa a b n) c
end Dv
section
open Dv
def Dv(a:List I7)(b:ABe):=
Aa a b BW 0
def Oa{a:List I7}{b:ABe}{r:Int}(h:Dv a b=some r):Says prog 220 [vS 2 Hy a,BZ b] (si r):=by refine kO mix func220 hn ?_;have l1:=da λ_ _ _ _ n d=>∃c,(d 0=vS 2 Hy a/\d 1=BZ b/\d 5=si c)/\Aa a b n c=some r;unfold Dv at h;exact walk
end
namespace CU
def J1:i6:=
some (-1)
def L1(a:dv)(b:ABe)(L1:ig)(c:Int):=
if decide (c<(a.length:Int))then
(gt a c).bind λd=>
if d.toList==b.toList then
some c
else
L1 (BA (c+1))
else
J1
def Aa(a:dv)(b:ABe):Nat->Int->ABd Int
|0,_=>none
|n+1,c=>L1 a b (Aa a b n) c
end CU
section
open CU
def CU(a:dv)(b:ABe):=
Aa a b BW 0
def HY{a:dv}{b:ABe}{r:Int}(h:CU a b=some r):Says prog 99 [vS 1 eS a,BZ b] (si r):=by refine kO mix func99 hn ?_;have l1:=da λ_ _ _ _ n d=>∃c,(d 0=vS 1 eS a/\d 1=BZ b/\d 5=si c)/\Aa a b n c=some r;unfold CU at h;exact walk
end
namespace Fq
def J1:i6:=
some (-1)
def L1(a:dc)(b:Int)(L1:ig)(c:Int):=
if decide (c<(a.length:Int))then
(gt a c).bind λd=>
if b==d then
some c
else
L1 (BA (c+1))
else
J1
def Aa(a:dc)(b:Int):Nat->Int->ABd Int
|0,_=>none
|n+1,c=>L1 a b (Aa a b n) c
end Fq
section
open Fq
def Fq(a:dc)(b:Int):=
Aa a b BW 0
def V0{a:dc}{b r:Int}(h:Fq a b=some r):Says prog 201 [vS 1 eI a,si b] (si r):=by refine kO mix func201 hn ?_;have l1:=da λ_ _ _ _ n d=>∃c,(d 0=vS 1 eI a/\d 1=si b/\d 7=si (a.length:Int)/\d 8=si c)/\Aa a b n c=some r;unfold Fq at h;exact walk
end
namespace DW
def J2(d:Bool):ABd Bool:=
some d
def J1(a:AG)(b:AD)(c:Bool):=
if c then
some (a.Site==(-1))
else
if decide (a.Site>=0)then
if decide (a.Site<(b.BU.length:Int))then
(gt b.BU a.Site).bind λe=>
J2 (e.Thread==a.Thread)
else
J2 false
else
J2 false
end DW
section
open DW
def DW(b:AD)(a:AG):=
if a.Kind==1 then
J1 a b true
else
J1 a b (a.Kind==2)
def P0{b:AD}{a:AG}{r:Bool}(h:DW b a=some r):Says prog 147 [.agg (Aq b),.agg (B1 a)] (sb r):=by refine kO mix func147 (hn [(2,[22,28]),(3,[5,9,13,16,20,30,35])]) ?_;unfold DW at h;exact walk
end
namespace D5
def J3(d:Bool):ABd Int:=
if d then
some 2
else
some (-1)
def J2(a:Int)(c:Bool):=
if c then
some 1
else
if decide (a>=6)then
J3 (decide (a<=18))
else
J3 false
def J1(a:Int)(b:Bool):=
if b then
some 0
else
if decide (a>=3)then
J2 a (decide (a<=5))
else
J2 a false
end D5
section
open D5
def D5(a:Int):=
if a==1 then
J1 a true
else
J1 a (a==2)
def TP{a r:Int}(h:D5 a=some r):Says prog 282 [si a] (si r):=by refine kO mix func282 (hn (Q:=[(2,1)])) ?_;have c1:=db 1 λ_ _ _ _ c=>∃b,(c 0=si a/\c 3=sb b)/\J1 a b=some r;unfold D5 at h;exact walk
end
namespace GP
def J1:=
some false
def L1(a:dc)(b:Int)(L1:df)(c:Int):=
if decide (c<(a.length:Int))then
(gt a c).bind λd=>
if d==b then
some true
else
L1 (BA (c+1))
else
J1
def Aa(a:dc)(b:Int):Nat->Int->ABd Bool
|0,_=>none
|n+1,c=>L1 a b (Aa a b n) c
end GP
section
open GP
def GP(a:dc)(b:Int):=
Aa a b BW 0
def Mc{a:dc}{b:Int}{r:Bool}(h:GP a b=some r):Says prog 65 [vS 1 eI a,si b] (sb r):=by refine kO mix func65 hn ?_;have l1:=da λ_ _ _ _ n d=>∃c,(d 0=vS 1 eI a/\d 1=si b/\d 5=si c)/\Aa a b n c=some r;unfold GP at h;exact walk
end
namespace Ah
def J1(b:Int)(a:AU)(c:Bool):ABd (Int×AU):=
if c then
some (0,a)
else
(gt a.L (BA ((BA (a.At+1))-1))).bind λd=>
if¬b=0 then
some ((BA d).tmod b,(AU.mk a.L (BA (a.At+1))))
else none
end Ah
section
open Ah
def Ah(a:AU)(b:Int):=
if decide (a.At>=(a.L.length:Int))then
J1 b a true
else
J1 b a (decide (b<1))
def DD{a:AU}{b:Int}{r:d4}(h:Ah a b=some r):BD prog 132 [bA 2 (FO a),si b] (si r.1) [bA 2 (FO r.2),.dead]:=by refine kL mix func132 (hn [(0,[5,6,7,9,10,11,12,19,20,21,24,25,26,27,28,29,30,31,32,35])]) ?_;unfold Ah at h;exact walk
end
def Ei:ABd (List EX):=
some [(EX.mk 1 0 (⟨#[120]⟩:ABe) 0 0 (⟨#[]⟩:ABe)),(EX.mk 1 0 (⟨#[121]⟩:ABe) 0 1 (⟨#[]⟩:ABe)),(EX.mk 2 0 (⟨#[118]⟩:ABe) 0 0 (⟨#[]⟩:ABe)),(EX.mk 1 0 (⟨#[113]⟩:ABe) 2 0 (⟨#[]⟩:ABe)),(EX.mk 3 0 (⟨#[109]⟩:ABe) 0 0 (⟨#[]⟩:ABe)),(EX.mk 3 0 (⟨#[110]⟩:ABe) 0 0 (⟨#[]⟩:ABe)),(EX.mk 4 0 (⟨#[114]⟩:ABe) 0 0 (⟨#[]⟩:ABe)),(EX.mk 5 0 (⟨#[99]⟩:ABe) 0 0 (⟨#[109]⟩:ABe)),(EX.mk 6 0 (⟨#[102]⟩:ABe) 0 0 (⟨#[]⟩:ABe))]
variable{a:gq}
theorem Qy(h:Ei=some a):Says prog 186 [] (vO 6 Jj a):=by refine kO mix func186 hn ?_;unfold Ei at h;exact walk
def A6(a:BB)(b:Ad):ABd BB:=
if Ap (a.out.length+1) 48=true then
some (BB.mk a.w a.locals (a.out++[(Ad.mk b.Op b.A b.B b.C b.N a.site)]) a.site a.next)
else none
theorem Gl{a:BB}{b:Ad}{r:BB}(h:A6 a b=some r):BD prog 184 [bA 10 (EN a),.agg (EF b)] (.BQ []) [bA 10 (EN r),.dead]:=by refine kL mix func184 (hn [(0,[4,5,6,10,11,12,13,17,18]),(3,[8])] (E:=[(2,(.bY [(0,0,8,9)] [i0 9 .fl,i1 10 0 (.cp (.t 0)),i1 11 0 (.Jp (.t 10)),LU 12 0 7 11,Zk 13 0 12,iA 14 6 3,i0 15 (.Nk 6 [z17] [(0,.t 14)]),i0 16 (.app 6 48 (.t 13) (.t 15)),i1 17 0 (.Jp (.t 0)),LU 18 0 7 17,iS 1 18 16]))])) ?_;unfold A6 at h;exact walk
namespace HX
def J1(b:Bool):ABd Bool:=
some b
end HX
section
open HX
def HX(a:BE):=
if a.Op==0 then
if a.N==0 then
if a.Name.toList==(⟨#[]⟩:ABe).toList then
J1 ((a.L.length:Int)==0)
else
J1 false
else
J1 false
else
J1 false
theorem X5{a:BE}{r:Bool}(h:HX a=some r):Says prog 278 [.agg [si a.Op,si a.N,BZ a.Name,vS 4 BH a.L]] (sb r):=by refine kO mix func278 (hn [(1,[3,7,12,17])]) ?_;unfold HX at h;exact walk
end
namespace Fl
def J1(b:Bool):ABd Bool:=
some b
end Fl
section
open Fl
def Fl(a:Int):=
if decide (a>=97)then
if decide (a<=122)then
J1 true
else
if decide (a>=65)then
J1 (decide (a<=90))
else
J1 false
else
if decide (a>=65)then
J1 (decide (a<=90))
else
J1 false
theorem OV{a:Int}{r:Bool}(h:Fl a=some r):Says prog 153 [.sc (.int .u8 a)] (sb r):=by refine kO mix func153 hn ?_;unfold Fl at h;exact walk
end
namespace Hk
def J1(a:Int)(b:Bool):ABd Int:=
if b then
some 0
else
(gt [3,3,4,4,5,6,7,8,9,10,11,12,13,14,15,16,18,19,20,21,22,23,2] (BA (a-6))).bind λc=>
some c
end Hk
section
open Hk
def Hk(a:Int):=
if decide (a<6)then
J1 a true
else
J1 a (decide (a>28))
theorem ZY{a r:Int}(h:Hk a=some r):Says prog 240 [si a] (si r):=by refine kO mix func240 (hn [(3,[11,14])]) ?_;unfold Hk at h;exact walk
end
def En(b:ABe)(a:BE):ABd AQ:=
some (AQ.mk 1 0 b (⟨#[]⟩:ABe) [] a [] [])
theorem PY{b:ABe}{a:BE}{r:AQ}(h:En b a=some r):Says prog 188 [BZ b,.agg [si a.Op,si a.N,BZ a.Name,vS 4 BH a.L]] (.agg [si r.Op,si r.FK,BZ r.Name,BZ r.Arg,vS 4 BH r.Index,si r.Expr.Op,si r.Expr.N,BZ r.Expr.Name,vS 4 BH r.Expr.L,vS 11 A7 r.Body,vS 11 A7 r.Else]):=by refine kF mix func188 hn ?_;unfold En at h;exact walk
namespace Gc
def J1(c:Int):ABd Int:=
some c
end Gc
section
open Gc
def Gc(b a:Int):=
if decide (a<1)then
some 0
else
if¬a=0 then
if decide ((b.tmod a)<0)then
J1 (BA ((b.tmod a)+a))
else
J1 (b.tmod a)
else none
theorem YA{b a r:Int}(h:Gc b a=some r):Says prog 264 [si b,si a] (si r):=by refine kO mix func264 hn ?_;unfold Gc at h;exact walk
end
namespace Fk
def J1(c:Bool):ABd Bool:=
some c
end Fk
section
open Fk
def Fk(a:AH)(b:Int):=
if a.Status==3 then
J1 (a.Dg==b)
else
J1 false
theorem OS{a:AH}{b:Int}{r:Bool}(h:Fk a b=some r):Says prog 225 [.agg (An a),si b] (sb r):=by refine kO mix func225 (hn [(2,[5,9])]) ?_;unfold Fk at h;exact walk
end
namespace EZ
def J1(a:Int)(b:Bool):ABd Int:=
if b then
some 0
else
some a
end EZ
section
open EZ
def EZ(a:Int):=
if decide (a<1)then
J1 a true
else
J1 a (decide (a>100))
theorem Tb{a r:Int}(h:EZ a=some r):Says prog 266 [si a] (si r):=by refine kO mix func266 hn ?_;unfold EZ at h;exact walk
end
def IJ(c:Int)(a b:BE):ABd BE:=
some (BE.mk c 0 (⟨#[]⟩:ABe) [a,b])
theorem PZ{c:Int}{a b r:BE}(h:IJ c a b=some r):Says prog 255 [si c,.agg [si a.Op,si a.N,BZ a.Name,vS 4 BH a.L],.agg [si b.Op,si b.N,BZ b.Name,vS 4 BH b.L]] (.agg [si r.Op,si r.N,BZ r.Name,vS 4 BH r.L]):=by refine kF mix func255 hn ?_;unfold IJ at h;exact walk
namespace Da
def J1(c:Bool):ABd Bool:=
some c
end Da
section
open Da
def Da(a b:Int):=
if decide (a>=0)then
J1 (decide (a<b))
else
J1 false
theorem Pm{a b:Int}{r:Bool}(h:Da a b=some r):Says prog 211 [si a,si b] (sb r):=by refine kO mix func211 hn ?_;unfold Da at h;exact walk
end
def Me:ABd (List Int):=
some [3,3,3,3,3,4,4,4,4,4,5,5,5,6,6,6,7,7,7,8,9,10,11,12,13,14,14,15,16,16,17,17,18,18,19,20,1,1,2,21,22,23,23]
theorem Yd{r:dc}(h:Me=some r):Says prog 175 [] (vO 1 eI r):=by refine kO mix func175 hn ?_;unfold Me at h;exact walk
def Jo(a:Int):ABd BE:=
some (BE.mk 1 a (⟨#[]⟩:ABe) [])
theorem Pc{a:Int}{r:BE}(h:Jo a=some r):Says prog 189 [si a] (.agg [si r.Op,si r.N,BZ r.Name,vS 4 BH r.L]):=by refine kF mix func189 hn ?_;unfold Jo at h;exact walk
def Ii(a:ABe):ABd BE:=
some (BE.mk 2 0 a [])
theorem Sw{a:ABe}{r:BE}(h:Ii a=some r):Says prog 256 [BZ a] (.agg [si r.Op,si r.N,BZ r.Name,vS 4 BH r.L]):=by refine kF mix func256 hn ?_;unfold Ii at h;exact walk
def B3(a:Bool):ABd Int:=
if a then
some 7
else
some 0
theorem UR{a:Bool}{r:Int}(h:B3 a=some r):Says prog 273 [sb a] (si r):=by refine kO mix func273 hn ?_;unfold B3 at h;exact walk
def D7(a:Bool):ABd Int:=
if a then
some 1
else
some 0
theorem Pl{a:Bool}{r:Int}(h:D7 a=some r):Says prog 276 [sb a] (si r):=by refine kO mix func276 hn ?_;unfold D7 at h;exact walk
def E5(a b:Int):ABd Int:=
if a != 0 then
some a
else
some b
theorem kT{a b r:Int}(h:E5 a b=some r):Says prog 270 [si a,si b] (si r):=by refine kO mix func270 hn ?_;unfold E5 at h;exact walk
namespace Cy
def J1(e:Int):ABd Int:=
some e
def L1(R100:gT)(a:d5)(L1:gm)(c b:Int):=
if decide (b<(a.length:Int))then
(gt a b).bind λd=>
(R100 d.Body).bind λf=>
(R100 d.Else).bind λi=>
L1 (BA ((BA (c+f))+i)) (BA (b+1))
else
J1 c
def Aa(R100:gT)(a:d5):Nat->Int->Int->ABd Int
|0,_,_=>none
|n+1,c,b=>L1 R100 a (Aa R100 a n) c b
end Cy
variable{j:gT}{e:d5}{c:Int}
section
open Cy
def Cy(R100:gT)(a:d5):=
Aa R100 a BW (a.length:Int) 0
theorem X6(H100:∀{x0 c},j x0=some c->Says prog 218 [vS 11 A7 x0] (si c))(h:Cy j e=some c):Says prog 218 [vS 11 A7 e] (si c):=by refine kO mix func218 hn ?_;have a1:= @H100;have l1:=da λ_ _ _ _ n d=>∃r b,(d 0=vS 11 A7 e/\d 3=si r/\d 4=si b)/\Aa j e n r b=some c;unfold Cy at h;exact walk
end
def TQ:Nat->((List AQ)->ABd Int)
|0=>(λ_=>none)
|n+1=>Cy ((TQ n))
def GY(n:Nat):(List AQ)->ABd Int:=(TQ n)
theorem Vl(n:Nat):(∀{x0 r},(GY n) x0=some r->Says prog 218 [.sl false 11 (x0.map A7)] (si r)):=by
  induction n with
  |zero=>exactλh=>ET h
  |succ n ih=>exactλh=>X6 ih h
def Vm{n:Nat}:∀{x0 r},(GY n) x0=some r->Says prog 218 [.sl false 11 (x0.map A7)] (si r):=(Vl n)
namespace EW
def J3(c:Int)(a:dc)(b:Int)(f:Bool):ABd (List Int):=
if f then
some a
else
if 0<=c/\c.toNat<=a.length then
if Ap ((a.take c.toNat).length) 8=true then
if Ap ((a.take c.toNat).length+1) 8=true then
if 0<=c/\c.toNat<=a.length then
if Ap (((a.take c.toNat)++[b]).length+((a.drop c.toNat).take (a.length-c.toNat)).length) 8=true then
some (((a.take c.toNat)++[b])++((a.drop c.toNat).take (a.length-c.toNat)))
else none
else none
else none
else none
else none
def J2(a:dc)(b c:Int):=
if decide (c<(a.length:Int))then
(gt a c).bind λj=>
J3 c a b (j==b)
else
J3 c a b false
def J1(L1:Int->ABd (List Int))(d:Int)(a:dc)(b:Int)(e:Bool):=
if e then
L1 (BA (d+1))
else
J2 a b d
def L1(a:dc)(b:Int)(L1:Int->ABd (List Int))(d:Int):=
if decide (d<(a.length:Int))then
(gt a d).bind λi=>
J1 L1 d a b (decide (i<b))
else
J1 L1 d a b false
def Aa(a:dc)(b:Int):Nat->Int->ABd (List Int)
|0,_=>none
|n+1,d=>L1 a b (Aa a b n) d
end EW
section
open EW
def EW(a:dc)(b:Int):=
Aa a b BW 0
theorem eC{a:dc}{b:Int}{r:dc}(h:EW a b=some r):Says prog 200 [vO 1 eI a,si b] (vO 1 eI r):=by refine kO mix func200 (hn [(0,[8,12,14,22,26,28,33,35,44]),(6,[39,43])]) ?_;have l1:=da λ_ _ _ _ n c=>∃d,(c 0=vO 1 eI a/\c 1=si b/\c 5=si d)/\Aa a b n d=some r;unfold EW at h;exact walk
end
namespace BX
def J2(a:BN):ABd (Bool×BN):=
some (false,a)
def J1(L1:ir)(b:Int)(a:BN)(i:Bool):=
if i then
some (true,a)
else
L1 (BA (b+1))
def L1(d e:Int)(c:ABe)(a:BN)(L1:ir)(b:Int):=
if decide (b<(a.GD.length:Int))then
(gt a.GD b).bind λf=>
if f.Op==d then
if c.toList==(⟨#[]⟩:ABe).toList then
J1 L1 b a true
else
J1 L1 b a (f.Name.toList==c.toList)
else
if f.Op==e then
if c.toList==(⟨#[]⟩:ABe).toList then
J1 L1 b a true
else
J1 L1 b a (f.Name.toList==c.toList)
else
J1 L1 b a false
else
J2 a
def Aa(d e:Int)(c:ABe)(a:BN):Nat->Int->ABd (Bool×BN)
|0,_=>none
|n+1,b=>L1 d e c a (Aa d e c a n) b
end BX
section
open BX
def BX(a:BN)(d e:Int)(c:ABe):=
Aa d e c a BW 0
theorem Pk{a:BN}{d e:Int}{c:ABe}{r:fM}(h:BX a d e c=some r):BD prog 269 [bA 6 (HA a),si d,si e,BZ c] (sb r.1) [bA 6 (HA r.2),.dead,.dead,.dead]:=by refine kL mix func269 (hn [(0,[12,13,14,15,20,21,22,23,25,26]),(10,[27,32,41])]) ?_;have l1:=da λ_ _ _ _ n f=>∃b,(f 0=bA 6 (HA a)/\f 1=si d/\f 2=si e/\f 3=BZ c/\f 9=si b)/\Aa d e c a n b=some r;unfold BX at h;exact walk
end
namespace Cb
def J3:=
some true
def J2(L1:ib)(b:Int)(d:Dk)(j f:Int):=
if d.Stmt != f then
some false
else
L1 j (BA (f+1)) (BA (b+1))
def J1(L1:ib)(e b c:Int)(d:Dk)(i:Bool):=
if i then
some false
else
if decide (d.Thread>c)then
J2 L1 b d d.Thread 0
else
J2 L1 b d c e
def L1(a:AD)(L1:ib)(c e b:Int):=
if decide (b<(a.BU.length:Int))then
(gt a.BU b).bind λd=>
if decide (d.Thread<c)then
J1 L1 e b c d true
else
J1 L1 e b c d (decide (d.Thread>=(a.AA.length:Int)))
else
J3
def Aa(a:AD):Nat->Int->Int->Int->ABd Bool
|0,_,_,_=>none
|n+1,c,e,b=>L1 a (Aa a n) c e b
end Cb
section
open Cb
def Cb(a:AD):=
Aa a BW 0 0 0
theorem Oj{a:AD}{r:Bool}(h:Cb a=some r):Says prog 93 [.agg (Aq a)] (sb r):=by refine kO mix func93 (hn [(1,[7,21]),(6,[14,19,26,30,32])]) ?_;have l1:=da λ_ _ _ _ n d=>∃c e b,(d 1=bA 6 (Aq a)/\d 3=si c/\d 4=si e/\d 8=vS 3 Gb a.BU/\d 9=si (a.BU.length:Int)/\d 10=si b)/\Aa a n c e b=some r;unfold Cb at h;exact walk
end
namespace Ey
def J1(c:Bool):ABd Bool:=
some c
end Ey
section
open Ey
def Ey(a b:Int):=
if decide (a>=0)then
J1 (decide (a<b))
else
J1 false
theorem SV{a b:Int}{r:Bool}(h:Ey a b=some r):Says prog 143 [si a,si b] (sb r):=by refine kO mix func143 hn ?_;unfold Ey at h;exact walk
end
namespace DP
def J1(c:Bool):ABd Bool:=
some c
end DP
section
open DP
def DP(a b:Int):=
if decide (a>=0)then
J1 (decide (a<b))
else
J1 false
theorem JY{a b:Int}{r:Bool}(h:DP a b=some r):Says prog 144 [si a,si b] (sb r):=by refine kO mix func144 hn ?_;unfold DP at h;exact walk
end
namespace HW
def J1(b:Bool):ABd Bool:=
some b
end HW
section
open HW
def HW(a:Int):=
if decide (a>=48)then
J1 (decide (a<=57))
else
J1 false
theorem X2{a:Int}{r:Bool}(h:HW a=some r):Says prog 199 [.sc (.int .u8 a)] (sb r):=by refine kO mix func199 hn ?_;unfold HW at h;exact walk
end
namespace Fp
def J1(b:Bool):ABd Bool:=
some b
end Fp
section
open Fp
def Fp(a:Int):=
if decide (a>=1)then
J1 (decide (a<=5))
else
J1 false
theorem OY{a:Int}{r:Bool}(h:Fp a=some r):Says prog 238 [si a] (sb r):=by refine kO mix func238 hn ?_;unfold Fp at h;exact walk
end
namespace Ky
def J1(c:Bool):ABd Bool:=
some c
end Ky
section
open Ky
def Ky(a b:Int):=
if decide (a>=0)then
J1 (decide (a<b))
else
J1 false
theorem kU{a b:Int}{r:Bool}(h:Ky a b=some r):Says prog 103 [si a,si b] (sb r):=by refine kO mix func103 hn ?_;unfold Ky at h;exact walk
end
namespace HH
def J1(c:Bool):ABd Bool:=
some c
end HH
section
open HH
def HH(a b:Int):=
if decide (a>=0)then
J1 (decide (a<b))
else
J1 false
theorem SD{a b:Int}{r:Bool}(h:HH a b=some r):Says prog 114 [si a,si b] (sb r):=by refine kO mix func114 hn ?_;unfold HH at h;exact walk
end
namespace Kz
def J1(c:Bool):ABd Bool:=
some c
end Kz
section
open Kz
def Kz(a b:Int):=
if decide (a>=0)then
J1 (decide (a<b))
else
J1 false
theorem U9{a b:Int}{r:Bool}(h:Kz a b=some r):Says prog 101 [si a,si b] (sb r):=by refine kO mix func101 hn ?_;unfold Kz at h;exact walk
end
namespace EB
def J2(e:dc):ABd (List Int):=
some e
def J1(L1:dz)(b:Int)(d:dc):=
L1 d (BA (b+1))
def L1(a:AB)(L1:dz)(c:dc)(b:Int):=
if decide (b<(a.Sync.AA.length:Int))then
(gt a.Sync.AA b).bind λf=>
if f.Status==3 then
if Ap (c.length+1) 8=true then
J1 L1 b (c++[b])
else none
else
J1 L1 b c
else
J2 c
def Aa(a:AB):Nat->(List Int)->Int->ABd (List Int)
|0,_,_=>none
|n+1,c,b=>L1 a (Aa a n) c b
end EB
section
open EB
def EB(a:AB):=
Aa a BW [] 0
theorem Ua{a:AB}{r:dc}(h:EB a=some r):Says prog 208 [.agg (BI a)] (vO 1 eI r):=by refine kO mix func208 (hn [(1,[6,7]),(3,[18,23]),(5,[15])]) ?_;have l1:=da λ_ _ _ _ n d=>∃c b,(d 3=vO 1 eI c/\d 8=vS 3 An a.Sync.AA/\d 9=si (a.Sync.AA.length:Int)/\d 10=si b)/\Aa a n c b=some r;unfold EB at h;exact walk
end
def f151c:IC:=(.seq (.T1 [⟨some ⟨2,[],[]⟩,.mv (.c (.own false 1 [])),none⟩])
(.seq (.seq (.Yu [.o ⟨some ⟨3,[],[]⟩,.cp (.t 0),none⟩,
.WL ⟨4,[],[]⟩ false (.t 3)])
(.cond (.t 4) (.seq (.T1 [⟨some ⟨2,[],[]⟩,.mv (.c (.own false 1 [])),none⟩])
.ret) .skip))
(.seq (.T1 [⟨some ⟨5,[],[]⟩,.Nk 1 [] [],none⟩,
⟨some ⟨6,[],[]⟩,.cp (.t 0),none⟩,
⟨some ⟨7,[],[]⟩,.app 1 8 (.t 5) (.t 6),none⟩,
⟨some ⟨2,[],[]⟩,.mv (.t 7),none⟩])
.ret)))
def f151g:Gi:=⟨[]⟩
def f151r:List RV:=[.tmp 2]
def f151:FI:=⟨f151c,f151g,f151r⟩
theorem chk151:M6 prog Tryz.f151 f151=true:=by kernel_rfl
def Gs(l:dc):ABd (List Int):=if Ap l.length 8=true then some l else none
theorem Ls{l:dc}{r:dc}(h:Gs l=some r):Says prog 151 [vS 1 eI l] (vO 1 eI r):=by
  obtain⟨g,h⟩:=HU h;obtain rfl:=AAG h;refine Lr mix func151 chk151 (AAO (by kernel_rfl)) rfl ?_;simp only[f151,f151c,f151g,f151r];simp +decide only[go_sem,g];intro b hb;cases b with
  |true=>have hl:l=[]:=(by simpa using hb rfl);subst hl;simp +decide only[go_sem,g]
  |false=>simp +decide only[go_sem,g]
def f165c:IC:=(.seq (.T1 [⟨some ⟨2,[],[]⟩,.mv (.c (.own false 1 [])),none⟩])
(.seq (.seq (.Yu [.o ⟨some ⟨3,[],[]⟩,.cp (.t 0),none⟩,
.WL ⟨4,[],[]⟩ false (.t 3)])
(.cond (.t 4) (.seq (.T1 [⟨some ⟨2,[],[]⟩,.mv (.c (.own false 1 [])),none⟩])
.ret) .skip))
(.seq (.T1 [⟨some ⟨5,[],[]⟩,.Nk 1 [] [],none⟩,
⟨some ⟨6,[],[]⟩,.cp (.t 0),none⟩,
⟨some ⟨7,[],[]⟩,.app 1 1 (.t 5) (.t 6),none⟩,
⟨some ⟨2,[],[]⟩,.mv (.t 7),none⟩])
.ret)))
def f165g:Gi:=⟨[]⟩
def f165r:List RV:=[.tmp 2]
def f165:FI:=⟨f165c,f165g,f165r⟩
theorem chk165:M6 prog Tryz.f165 f165=true:=by kernel_rfl
def I4(l:eb):ABd (List Bool):=if Ap l.length 1=true then some l else none
theorem Mg{l:eb}{r:eb}(h:I4 l=some r):Says prog 165 [vS 1 eB l] (vO 1 eB r):=by
  obtain⟨g,h⟩:=HU h;obtain rfl:=AAG h;refine Lr mix func165 chk165 (AAO (by kernel_rfl)) rfl ?_;simp only[f165,f165c,f165g,f165r];simp +decide only[go_sem,g];intro b hb;cases b with
  |true=>have hl:l=[]:=(by simpa using hb rfl);subst hl;simp +decide only[go_sem,g]
  |false=>simp +decide only[go_sem,g]
def f152c:IC:=(.seq (.T1 [⟨some ⟨2,[],[]⟩,.mv (.c (.own false 1 [])),none⟩])
(.seq (.seq (.Yu [.o ⟨some ⟨3,[],[]⟩,.cp (.t 0),none⟩,
.WL ⟨4,[],[]⟩ false (.t 3)])
(.cond (.t 4) (.seq (.T1 [⟨some ⟨2,[],[]⟩,.mv (.c (.own false 1 [])),none⟩])
.ret) .skip))
(.seq (.T1 [⟨some ⟨5,[],[]⟩,.Nk 1 [] [],none⟩,
⟨some ⟨6,[],[]⟩,.cp (.t 0),none⟩,
⟨some ⟨7,[],[]⟩,.app 1 8 (.t 5) (.t 6),none⟩,
⟨some ⟨2,[],[]⟩,.mv (.t 7),none⟩])
.ret)))
def f152g:Gi:=⟨[]⟩
def f152r:List RV:=[.tmp 2]
def f152:FI:=⟨f152c,f152g,f152r⟩
theorem chk152:M6 prog Tryz.f152 f152=true:=by kernel_rfl
def slices_Clone_int(l:dc):ABd (List Int):=if Ap l.length 8=true then some l else none
theorem Hs{l:dc}{r:dc}(h:slices_Clone_int l=some r):Says prog 152 [vS 1 eI l] (vO 1 eI r):=by
  obtain⟨g,h⟩:=HU h;obtain rfl:=AAG h;refine Lr mix func152 chk152 (AAO (by kernel_rfl)) rfl ?_;simp only[f152,f152c,f152g,f152r];simp +decide only[go_sem,g];intro b hb;cases b with
  |true=>have hl:l=[]:=(by simpa using hb rfl);subst hl;simp +decide only[go_sem,g]
  |false=>simp +decide only[go_sem,g]
namespace GM
def J1(e:AP):ABd AP:=
some e
def L1(a:AP)(L1:gf)(b:AP)(c:Int):=
if decide (c<(a.AF.length:Int))then
(gt a.AF c).bind λd=>
if Ap (d.Ak.length) 8=true then
if Ap (b.AF.length+1) 32=true then
L1 (AP.mk (b.AF++[d]) b.Tx b.Bn b.AA) (BA (c+1))
else none
else none
else
J1 b
def Aa(a:AP):Nat->AP->Int->ABd AP
|0,_,_=>none
|n+1,b,c=>L1 a (Aa a n) b c
end GM
section
open GM
def GM(a:AP):=
if Ap (a.Bn.length) 1=true then
if Ap (a.AA.length) 24=true then
Aa a BW (AP.mk [] a.Tx a.Bn a.AA) 0
else none
else none
theorem Q4{a r:AP}(h:GM a=some r):Says prog 118 [.agg (F8 a)] (.agg (Ht r)):=by refine kO mix func118 (hn [(1,[5,8,12,17,25,32]),(3,[23,24,42,43])]) ?_;have l1:=da λ_ _ _ _ n d=>∃b c,(d 1=bA 4 (F8 a)/\d 2=bA 4 z5/\d 3=bA 4 (Ht b)/\d 4=si c)/\Aa a n b c=some r;unfold GM at h;exact walk
end
namespace CW
def J4(o:AP):ABd AP:=
some o
def J3(L3:gf)(c:Int)(b:AP)(p:AH):=
if Ap (b.AA.length+1) 24=true then
L3 (AP.mk b.AF b.Tx b.Bn (b.AA++[p])) (BA (c+1))
else none
def L3(a:AD)(L3:gf)(b:AP)(c:Int):=
if decide (c<(a.AA.length:Int))then
if c==0 then
J3 L3 c b (AH.mk 1 0 false)
else
J3 L3 c b (AH.mk 0 0 false)
else
J4 b
def Gg(a:AD):Nat->AP->Int->ABd AP
|0,_,_=>none
|n+1,b,c=>L3 a (Gg a n) b c
def J2(a:AD)(l:AP):=
Gg a BW l 0
def L2(a:AD)(L2:gf)(e:AP)(i:Int):=
if decide (i<(a.AK.length:Int))then
if Ap (e.Bn.length+1) 1=true then
L2 (AP.mk e.AF e.Tx (e.Bn++[false]) e.AA) (BA (i+1))
else none
else
J2 a e
def DF(a:AD):Nat->AP->Int->ABd AP
|0,_,_=>none
|n+1,e,i=>L2 a (DF a n) e i
def J1(a:AD)(j:AP):=
DF a BW j 0
def L1(a:AD)(L1:gf)(d:AP)(f:Int):=
if decide (f<(a.AF.length:Int))then
if Ap (d.AF.length+1) 32=true then
L1 (AP.mk (d.AF++[(AW.mk (-1) [])]) d.Tx d.Bn d.AA) (BA (f+1))
else none
else
J1 a d
def Aa(a:AD):Nat->AP->Int->ABd AP
|0,_,_=>none
|n+1,d,f=>L1 a (Aa a n) d f
end CW
section
open CW
def CW(a:AD):=
Aa a BW (AP.mk [] (-1) [] []) 0
theorem Pq{a:AD}{r:AP}(h:CW a=some r):Says prog 135 [.agg (Aq a)] (.agg (Ht r)):=by refine kO mix func135 (hn [(1,[10,23,35]),(3,[16,17,21,29,30,33,45,46,50,51]),(7,[44])]) ?_;have l3:=da λ_ _ _ _ n d=>∃b c,(d 1=bA 6 (Aq a)/\d 2=bA 4 z5/\d 3=bA 4 (Ht b)/\d 6=si c)/\Gg a n b c=some r;have l2:=da λ_ _ _ _ n b=>∃e i,(b 1=bA 6 (Aq a)/\b 2=bA 4 z5/\b 3=bA 4 (Ht e)/\b 5=si i)/\DF a n e i=some r;have l1:=da λ_ _ _ _ n b=>∃d f,(b 1=bA 6 (Aq a)/\b 2=bA 4 z5/\b 3=bA 4 (Ht d)/\b 4=si f)/\Aa a n d f=some r;unfold CW at h;exact walk
end
namespace C1
def J5:=
some true
def J4(L1:df)(a:Int):=
L1 (BA (a+1))
def J3(L1:df)(a:Int)(s:Bool):=
if !s then
some false
else
J4 L1 a
def J2(L2:fc)(f o:Int)(q:Bool):=
L2 o q (BA (f+1))
def J1(L2:fc)(f i:Int)(p:Bool):=
J2 L2 f (BA (i+1)) p
def L2(L1:df)(c a:Int)(d:dx)(b:dc)(e:Int)(L2:fc)(i:Int)(j:Bool)(f:Int):=
if decide (f<c)then
(gt d f).bind λl=>
if l.Thread != e then
J2 L2 f i j
else
if j then
J1 L2 f i true
else
(gt b a).bind λt=>
if i==t then
if l.Kind==3 then
J1 L2 f i true
else
J1 L2 f i (l.Kind==23)
else
J1 L2 f i false
else
J3 L1 a j
def DF(L1:df)(c a:Int)(d:dx)(b:dc)(e:Int):Nat->Int->Bool->Int->ABd Bool
|0,_,_,_=>none
|n+1,i,j,f=>L2 L1 c a d b e (DF L1 c a d b e n) i j f
def L1(c:Int)(d:dx)(b:dc)(e:Int)(L1:df)(a:Int):=
if decide (a<(b.length:Int))then
DF L1 c a d b e BW 0 false 0
else
J5
def Aa(c:Int)(d:dx)(b:dc)(e:Int):Nat->Int->ABd Bool
|0,_=>none
|n+1,a=>L1 c d b e (Aa c d b e n) a
end C1
section
open C1
def C1(d:dx)(c e:Int)(b:dc):=
Aa c d b e BW 0
theorem YM{d:dx}{c e:Int}{b:dc}{r:Bool}(h:C1 d c e b=some r):Says prog 141 [vS 7 B1 d,si c,si e,vS 1 eI b] (sb r):=by refine kO mix func141 hn ?_;have l1:=da λ_ _ _ _ n f=>∃a,(f 0=vS 7 B1 d/\f 1=si c/\f 2=si e/\f 3=vS 1 eI b/\f 9=si a)/\Aa c d b e n a=some r;have l2:=da λg _ _ _ n h=>∃a i j f,(h 0=vS 7 B1 d/\h 1=si c/\h 2=si e/\h 3=vS 1 eI b/\h 9=si a/\h 10=si i/\h 11=sb j/\h 12=si f)/\DF (Aa c d b e g) c a d b e n i j f=some r;unfold C1 at h;exact walk
end
namespace Aw
def J4:=
some true
def J3(L1:df)(b:Int):=
L1 (BA (b+1))
def J2(L2:df)(e:Int)(i:Bool):=
if i then
some false
else
L2 (BA (e+1))
def L2(L1:df)(d:dc)(a:eb)(b:Int)(L2:df)(e:Int):=
if decide (e<(d.length:Int))then
(gt d e).bind λf=>
if decide (f<0)then
J2 L2 e true
else
if decide (f>=(a.length:Int))then
J2 L2 e true
else
(gt a f).bind λj=>
J2 L2 e (!j)
else
J3 L1 b
def DF(L1:df)(d:dc)(a:eb)(b:Int):Nat->Int->ABd Bool
|0,_=>none
|n+1,e=>L2 L1 d a b (DF L1 d a b n) e
def J1(L1:df)(a:eb)(b:Int)(d:dc):=
DF L1 d a b BW 0
def L1(c:AG)(a:eb)(L1:df)(b:Int):=
if decide (b<2)then
if b==0 then
J1 L1 a b c.Dw
else
if b==1 then
J1 L1 a b c.DM
else
none
else
J4
def Aa(c:AG)(a:eb):Nat->Int->ABd Bool
|0,_=>none
|n+1,b=>L1 c a (Aa c a n) b
end Aw
section
open Aw
def Aw(a:eb)(c:AG):=
Aa c a BW 0
end
namespace EA
def J2(i:dc):ABd (List Int):=
some i
def J1(L1:dz)(b:Int)(f:dc):=
L1 f (BA (b+1))
def L1(a:dc)(c:Int)(L1:dz)(d:dc)(b:Int):=
if decide (b<(a.length:Int))then
(gt a b).bind λe=>
if e != c then
if Ap (d.length+1) 8=true then
J1 L1 b (d++[e])
else none
else
J1 L1 b d
else
J2 d
def Aa(a:dc)(c:Int):Nat->(List Int)->Int->ABd (List Int)
|0,_,_=>none
|n+1,d,b=>L1 a c (Aa a c n) d b
end EA
section
open EA
def EA(a:dc)(c:Int):=
Aa a c BW [] 0
theorem UW{a:dc}{c:Int}{r:dc}(h:EA a c=some r):Says prog 157 [vS 1 eI a,si c] (vO 1 eI r):=by refine kO mix func157 (hn [(5,[19,26])]) ?_;have l1:=da λ_ _ _ _ n e=>∃d b,(e 0=vS 1 eI a/\e 1=si c/\e 5=vO 1 eI d/\e 6=si b)/\Aa a c n d b=some r;unfold EA at h;exact walk
end
def Ju:ABd (List ABe):=
some [(⟨#[118,97,114]⟩:ABe),(⟨#[118,111,108,97,116,105,108,101]⟩:ABe),(⟨#[109,117,116,101,120]⟩:ABe),(⟨#[114,119,108,111,99,107]⟩:ABe),(⟨#[99,111,110,100]⟩:ABe),(⟨#[102,117,116,117,114,101]⟩:ABe),(⟨#[116,104,114,101,97,100]⟩:ABe),(⟨#[105,102]⟩:ABe),(⟨#[101,108,115,101]⟩:ABe),(⟨#[119,104,105,108,101]⟩:ABe),(⟨#[108,111,99,107]⟩:ABe),(⟨#[114,101,97,100]⟩:ABe),(⟨#[119,114,105,116,101]⟩:ABe),(⟨#[116,114,97,110,115,97,99,116,105,111,110]⟩:ABe),(⟨#[97,116,111,109,105,99]⟩:ABe),(⟨#[119,97,105,116]⟩:ABe),(⟨#[110,111,116,105,102,121]⟩:ABe),(⟨#[110,111,116,105,102,121,97,108,108]⟩:ABe),(⟨#[115,112,97,119,110]⟩:ABe),(⟨#[106,111,105,110]⟩:ABe),(⟨#[115,101,116]⟩:ABe),(⟨#[103,101,116]⟩:ABe)]
theorem TO{r:dv}(h:Ju=some r):Says prog 198 [] (vO 1 eS r):=by refine kO mix func198 hn ?_;unfold Ju at h;exact walk
namespace Dr
def J2:=
some true
def J1(L1:df)(a:Int)(e:Bool):=
if e then
some false
else
L1 (BA (a+1))
def L1(c:Int)(b:dc)(L1:df)(a:Int):=
if decide (a<(b.length:Int))then
(gt b a).bind λd=>
if decide (d<1)then
J1 L1 a true
else
if decide (d>=c)then
J1 L1 a true
else
if decide (a>0)then
(gt b (BA (a-1))).bind λf=>
J1 L1 a (decide (d<=f))
else
J1 L1 a false
else
J2
def Aa(c:Int)(b:dc):Nat->Int->ABd Bool
|0,_=>none
|n+1,a=>L1 c b (Aa c b n) a
end Dr
section
open Dr
def Dr(b:dc)(c:Int):=
Aa c b BW 0
theorem UY{b:dc}{c:Int}{r:Bool}(h:Dr b c=some r):Says prog 104 [vS 1 eI b,si c] (sb r):=by refine kO mix func104 hn ?_;have l1:=da λ_ _ _ _ n d=>∃a,(d 0=vS 1 eI b/\d 1=si c/\d 5=si a)/\Aa c b n a=some r;unfold Dr at h;exact walk
end
namespace Bf
def J2:=
some true
def J1(L1:df)(b:Int)(c:Bool):=
if c then
some false
else
L1 (BA (b+1))
def L1(a:AB)(L1:df)(b:Int):=
if decide (b<(a.Sync.Bn.length:Int))then
(gt a.Sync.Bn b).bind λd=>
if !d then
(gt a.AK b).bind λe=>
J1 L1 b (e != 0)
else
J1 L1 b false
else
J2
def Aa(a:AB):Nat->Int->ABd Bool
|0,_=>none
|n+1,b=>L1 a (Aa a n) b
end Bf
section
open Bf
def Bf(a:AB):=
Aa a BW 0
theorem OG{a:AB}{r:Bool}(h:Bf a=some r):Says prog 48 [.agg (BI a)] (sb r):=by refine kO mix func48 (hn [(1,[5,6,17])]) ?_;have l1:=da λ_ _ _ _ n c=>∃b,(c 1=bA 7 (BI a)/\c 7=vS 1 eB a.Sync.Bn/\c 8=si (a.Sync.Bn.length:Int)/\c 9=si b)/\Aa a n b=some r;unfold Bf at h;exact walk
end
namespace Eb
def J1(e:List C5):ABd (List C5):=
some e
def L1(a:dc)(L1:(List C5)->Int->ABd (List C5))(c:List C5)(b:Int):=
if decide (b<(a.length:Int))then
(gt a b).bind λd=>
if Ap (c.length+1) 16=true then
L1 (c++[(C5.mk ((BA d).tmod 4) (BA (((BA ((BA d).tdiv 4)).tmod 5)-1)))]) (BA (b+1))
else none
else
J1 c
def Aa(a:dc):Nat->(List C5)->Int->ABd (List C5)
|0,_,_=>none
|n+1,c,b=>L1 a (Aa a n) c b
end Eb
section
open Eb
def Eb(a:dc):=
Aa a BW [] 0
theorem Va{a:dc}{r:List C5}(h:Eb a=some r):Says prog 87 [vS 1 cZ a] (vO 2 JC r):=by refine kO mix func87 (hn [(3,[11,29])]) ?_;have l1:=da λ_ _ _ _ n d=>∃c b,(d 0=vS 1 cZ a/\d 3=vO 2 JC c/\d 4=si b)/\Aa a n c b=some r;unfold Eb at h;exact walk
end
namespace CV
def J1(a:BB):ABd (Int×BB):=
some ((-1),a)
def L1(a:BB)(b:ABe)(L1:Int->ABd (Int×BB))(c:Int):=
if decide (c<(a.w.Ai.length:Int))then
(gt a.w.Ai c).bind λd=>
if d.Name.toList==b.toList then
some (c,a)
else
L1 (BA (c+1))
else
J1 a
def Aa(a:BB)(b:ABe):Nat->Int->ABd (Int×BB)
|0,_=>none
|n+1,c=>L1 a b (Aa a b n) c
end CV
section
open CV
def CV(a:BB)(b:ABe):=
Aa a b BW 0
theorem TY{a:BB}{b:ABe}{r:Int×BB}(h:CV a b=some r):BD prog 252 [bA 10 (EN a),BZ b] (si r.1) [bA 10 (EN r.2),.dead]:=by refine kL mix func252 (hn [(0,[7,8,9,10,11,16,17,18,19,20,22,23])]) ?_;have l1:=da λ_ _ _ _ n d=>∃c,(d 0=bA 10 (EN a)/\d 1=BZ b/\d 5=si c)/\Aa a b n c=some r;unfold CV at h;exact walk
end
namespace HQ
def J2:i6:=
some (-1)
def J1(L1:gm)(a f:Int):=
L1 f (BA (a+1))
def L1(c:Int)(b:AL)(L1:gm)(d a:Int):=
if decide (a<(b.AE.length:Int))then
(gt b.AE a).bind λi=>
if i.Thread==c then
if d==0 then
some a
else
J1 L1 a (BA (d-1))
else
J1 L1 a d
else
J2
def Aa(c:Int)(b:AL):Nat->Int->Int->ABd Int
|0,_,_=>none
|n+1,d,a=>L1 c b (Aa c b n) d a
end HQ
section
open HQ
def HQ(b:AL)(c e:Int):=
Aa c b BW e 0
theorem eE{b:AL}{c e r:Int}(h:HQ b c e=some r):Says prog 107 [.agg (B0 b),si c,si e] (si r):=by refine kO mix func107 (hn [(3,[9,15])]) ?_;have l1:=da λ_ _ _ _ n e=>∃d a,(e 1=si c/\e 2=si d/\e 3=bA 15 (B0 b)/\e 7=si a)/\Aa c b n d a=some r;unfold HQ at h;exact walk
end
namespace AZ
def J3(a:Ad)(d:Bool):ABd (List Int):=
if d then
some [a.B]
else
if a.Op==9 then
some [a.B,a.C]
else
some []
def J2(a:Ad)(b:Bool):=
if b then
some [a.A,a.B]
else
if a.Op==4 then
some [a.A,a.B,a.C]
else
if a.Op==7 then
some [a.A,a.C]
else
if a.Op==8 then
J3 a (a.Op==8)
else
J3 a (a.Op==26)
def J1(a:Ad)(c:Bool):=
if c then
some [a.A]
else
if a.Op==2 then
J2 a (a.Op==2)
else
J2 a (a.Op==3)
end AZ
section
open AZ
def AZ(a:Ad):=
if a.Op==1 then
J1 a (a.Op==1)
else
if a.Op==6 then
J1 a (a.Op==6)
else
if a.Op==10 then
J1 a (a.Op==10)
else
J1 a (a.Op==27)
theorem JO{a:Ad}{r:dc}(h:AZ a=some r):Says prog 185 [.agg (EF a)] (vO 1 eI r):=by refine kO mix func185 (hn [(1,[3,10,16,18,23,25,27,32,34,40,45,47])] [(3,1),(8,2)]) ?_;have c2:=db 2 λ_ _ _ _ c=>∃b,(c 1=bA 6 (EF a)/\c 4=si a.Op/\c 13=sb b)/\J2 a b=some r;have c1:=db 1 λ_ _ _ _ b=>∃c,(b 1=bA 6 (EF a)/\b 4=si a.Op/\b 5=sb c)/\J1 a c=some r;unfold AZ at h;exact walk
end
namespace C4
def J3(i:dc):ABd (List Int):=
some i
def J2(L1:dz)(a:Int)(f:dc):=
L1 f (BA (a+1))
def J1(L1:dz)(a:Int)(b:dc)(j:Bool):=
if j then
if Ap (b.length+1) 8=true then
J2 L1 a (b++[a])
else none
else
J2 L1 a b
def L1(d:Int)(c:AP)(L1:dz)(b:dc)(a:Int):=
if decide (a<(c.AA.length:Int))then
(gt c.AA a).bind λe=>
if e.Status==3 then
J1 L1 a b (e.Dg==d)
else
J1 L1 a b false
else
J3 b
def Aa(d:Int)(c:AP):Nat->(List Int)->Int->ABd (List Int)
|0,_,_=>none
|n+1,b,a=>L1 d c (Aa d c n) b a
end C4
section
open C4
def C4(c:AP)(d:Int):=
Aa d c BW [] 0
theorem NX{c:AP}{d:Int}{r:dc}(h:C4 c d=some r):Says prog 119 [.agg (F8 c),si d] (vO 1 eI r):=by refine kO mix func119 (hn [(2,[8,14,22]),(5,[31,35])]) ?_;have l1:=da λ_ _ _ _ n e=>∃b a,(e 1=si d/\e 2=bA 4 (F8 c)/\e 5=vO 1 eI b/\e 6=si a)/\Aa d c n b a=some r;unfold C4 at h;exact walk
end
namespace Ea
def J3(f:Bool):ABd Bool:=
some f
def J2(b:AP)(a:AD):=
if(b.AF.length:Int)==(a.AF.length:Int)then
if(b.Bn.length:Int)==(a.AK.length:Int)then
J3 ((b.AA.length:Int)==(a.AA.length:Int))
else
J3 false
else
J3 false
def J1(L1:df)(c:Int)(e:Bool):=
if e then
some false
else
L1 (BA (c+1))
def L1(b:AP)(a:AD)(L1:df)(c:Int):=
if decide (c<(a.Ai.length:Int))then
(gt a.Ai c).bind λd=>
if decide (d.Mutex<0)then
J1 L1 c true
else
J1 L1 c (decide (d.Mutex>=(a.AF.length:Int)))
else
J2 b a
def Aa(b:AP)(a:AD):Nat->Int->ABd Bool
|0,_=>none
|n+1,c=>L1 b a (Aa b a n) c
end Ea
section
open Ea
def Ea(a:AD)(b:AP):=
Aa b a BW 0
theorem LO{a:AD}{b:AP}{r:Bool}(h:Ea a b=some r):Says prog 100 [.agg (Aq a),.agg (F8 b)] (sb r):=by refine kO mix func100 (hn [(2,[7,13,21,27,35,43,52]),(3,[32,40,49])]) ?_;have l1:=da λ_ _ _ _ n d=>∃c,(d 2=bA 6 (Aq a)/\d 3=bA 4 (F8 b)/\d 5=si c)/\Aa b a n c=some r;unfold Ea at h;exact walk
end
namespace E6
def J1(e:AM):ABd AM:=
some e
def L1(a:AM)(L1:AM->Int->ABd AM)(b:AM)(c:Int):=
if decide (c<(a.Cd.length:Int))then
(gt a.Cd c).bind λd=>
if Ap (d.length) 8=true then
if Ap (b.Cd.length+1) 24=true then
L1 (AM.mk b.PC b.Ck (b.Cd++[d]) b.AE) (BA (c+1))
else none
else none
else
J1 b
def Aa(a:AM):Nat->AM->Int->ABd AM
|0,_,_=>none
|n+1,b,c=>L1 a (Aa a n) b c
end E6
section
open E6
def E6(a:AM):=
if Ap (a.Ck.length) 8=true then
Aa a BW (AM.mk a.PC a.Ck [] a.AE) 0
else none
theorem Q3{a r:AM}(h:E6 a=some r):Says prog 242 [.agg (E0 a)] (.agg (B2 r)):=by refine kO mix func242 (hn [(1,[5,7,10,15,24]),(3,[21,22,32,33])] (Z:=[(6,true,3,[(0,2,0)])])) ?_;have l1:=da λ_ _ _ _ n d=>∃(b:AM)(c:Int),(d 1=bA 4 (E0 a)/\d 2=bA 4 z9/\d 3=bA 4 [si b.PC,vO 1 eI b.Ck,vO 1 NC b.Cd,si b.AE]/\d 4=si c)/\Aa a n b c=some r;unfold E6 at h;exact walk
end
def f166c:IC:=(.seq (.T1 [⟨some ⟨2,[],[]⟩,.mv (.c (.own false 3 [])),none⟩])
(.seq (.seq (.Yu [.o ⟨some ⟨3,[],[]⟩,.cp (.t 0),none⟩,
.WL ⟨4,[],[]⟩ false (.t 3)])
(.cond (.t 4) (.seq (.T1 [⟨some ⟨2,[],[]⟩,.mv (.c (.own false 3 [])),none⟩])
.ret) .skip))
(.seq (.T1 [⟨some ⟨5,[],[]⟩,.Nk 3 [] [],none⟩,
⟨some ⟨6,[],[]⟩,.cp (.t 0),none⟩,
⟨some ⟨7,[],[]⟩,.app 3 24 (.t 5) (.t 6),none⟩,
⟨some ⟨2,[],[]⟩,.mv (.t 7),none⟩])
.ret)))
def f166g:Gi:=⟨[]⟩
def f166r:List RV:=[.tmp 2]
def f166:FI:=⟨f166c,f166g,f166r⟩
theorem chk166:M6 prog Tryz.f166 f166=true:=by kernel_rfl
def FV(l:ep):ABd (List AH):=if Ap l.length 24=true then some l else none
theorem Ip{l:ep}{r:ep}(h:FV l=some r):Says prog 166 [vS 3 An l] (vO 3 An r):=by
  obtain⟨g,h⟩:=HU h;obtain rfl:=AAG h;refine Lr mix func166 chk166 (AAO (by kernel_rfl)) rfl ?_;simp only[f166,f166c,f166g,f166r];simp +decide only[go_sem,g];intro b hb;cases b with
  |true=>have hl:l=[]:=(by simpa using hb rfl);subst hl;simp +decide only[go_sem,g]
  |false=>simp +decide only[go_sem,g]
namespace CA
def J3(i:Bool):ABd Bool:=
some i
def J2(a:AL)(e:Int):=
if a.Start==e then
J3 (decide ((BA (e+(a.AE.length:Int)))<=400))
else
J3 false
def J1(L1:d7)(c b d:Int)(f:Bool):=
if f then
some false
else
L1 (BA (c+d)) (BA (b+1))
def L1(a:AL)(L1:d7)(c b:Int):=
if decide (b<(a.Init.Count.length:Int))then
(gt a.Init.Count b).bind λd=>
if decide (d<0)then
J1 L1 c b d true
else
J1 L1 c b d (decide (d>400))
else
J2 a c
def Aa(a:AL):Nat->Int->Int->ABd Bool
|0,_,_=>none
|n+1,c,b=>L1 a (Aa a n) c b
end CA
section
open CA
def CA(a:AL):=
Aa a BW 0 0
theorem T0{a:AL}{r:Bool}(h:CA a=some r):Says prog 45 [.agg (B0 a)] (sb r):=by refine kO mix func45 (hn [(1,[6,7,24,30])]) ?_;have l1:=da λ_ _ _ _ n d=>∃c b,(d 1=bA 15 (B0 a)/\d 3=si c/\d 8=vS 1 eI a.Init.Count/\d 9=si (a.Init.Count.length:Int)/\d 10=si b)/\Aa a n c b=some r;unfold CA at h;exact walk
end
namespace E9
def J3(i:Bool):ABd Bool:=
some i
def J2(a:AL)(d:Int):=
if a.Start==d then
J3 (decide ((BA (d+(a.AE.length:Int)))<=400))
else
J3 false
def J1(L1:d7)(b c:Int)(a:AL)(f:Bool):=
if f then
some false
else
(gt a.Init.Count b).bind λj=>
L1 (BA (c+j)) (BA (b+1))
def L1(a:AL)(L1:d7)(c b:Int):=
if decide (b<(a.Init.Count.length:Int))then
(gt a.Init.Count b).bind λe=>
if decide (e<0)then
J1 L1 b c a true
else
J1 L1 b c a (decide (e>400))
else
J2 a c
def Aa(a:AL):Nat->Int->Int->ABd Bool
|0,_,_=>none
|n+1,c,b=>L1 a (Aa a n) c b
end E9
section
open E9
def E9(a:AL):=
Aa a BW 0 0
theorem Vx{a:AL}{r:Bool}(h:E9 a=some r):Says prog 52 [.agg (B0 a)] (sb r):=by refine kO mix func52 (hn [(1,[6,7,13,14,21,22,30,31,37,43])]) ?_;have l1:=da λ_ _ _ _ n d=>∃c b,(d 1=bA 15 (B0 a)/\d 3=si c/\d 4=si b)/\Aa a n c b=some r;unfold E9 at h;exact walk
end
namespace Gd
def J2(f:AD):ABd AD:=
some f
def J1(L1:ez)(a:Int)(e:AD):=
L1 e (BA (a+1))
def L2(L1:ez)(a:Int)(L2:ez)(b:AD)(c:Int):=
if decide (c<6)then
if Ap (b.BU.length+1) 24=true then
L2 (AD.mk b.Cells b.AF b.Ai b.AK b.AA (b.BU++[(Dk.mk a c (BA ((BA ((BA (10*a))+c))+1)))])) (BA (c+1))
else none
else
J1 L1 a b
def DF(L1:ez)(a:Int):Nat->AD->Int->ABd AD
|0,_,_=>none
|n+1,b,c=>L2 L1 a (DF L1 a n) b c
def L1(L1:ez)(d:AD)(a:Int):=
if decide (a<4)then
DF L1 a BW d 0
else
J2 d
def Aa:Nat->AD->Int->ABd AD
|0,_,_=>none
|n+1,d,a=>L1 (Aa n) d a
end Gd
section
open Gd
def Gd:=
Aa BW (AD.mk [(DR.mk (⟨#[120]⟩:ABe) 0 0 false 0),(DR.mk (⟨#[121]⟩:ABe) 0 0 false 1),(DR.mk (⟨#[118]⟩:ABe) 0 0 true 0),(DR.mk (⟨#[113]⟩:ABe) 0 2 false 0),(DR.mk (⟨#[113]⟩:ABe) 1 2 false 0)] [(I7.mk (⟨#[109]⟩:ABe) false),(I7.mk (⟨#[110]⟩:ABe) false),(I7.mk (⟨#[114]⟩:ABe) true)] [(O3.mk (⟨#[99]⟩:ABe) 0)] [(⟨#[102]⟩:ABe)] [(⟨#[109,97,105,110]⟩:ABe),(⟨#[116,49]⟩:ABe),(⟨#[116,50]⟩:ABe),(⟨#[116,51]⟩:ABe)] []) 0
theorem Ya{r:AD}(h:Gd=some r):Says prog 81 [] (.agg (K5 r)):=by refine kO mix func81 (hn [(1,[19,20,29,30,41,43])]) ?_;have l1:=da λ_ _ _ _ n b=>∃d a,(b 0=bA 6 z8/\b 1=bA 6 (K5 d)/\b 21=si 4/\b 22=si a)/\Aa n d a=some r;have l2:=da λd _ _ _ n e=>∃a b c,(e 0=bA 6 z8/\e 1=bA 6 (K5 b)/\e 2=si a/\e 3=si c/\e 21=si 4/\e 22=si a)/\DF (Aa d) a n b c=some r;unfold Gd at h;exact walk
end
namespace FF
def J1(i f:Int):ABd (Int×Int):=
some (i,BA (f+1))
def L1(R100:ia)(a:BE)(L1:Int->Int->Int->ABd (Int×Int))(d b c:Int):=
if decide (c<(a.L.length:Int))then
(gt a.L c).bind λj=>
(R100 j).bind λe=>
L1 (BA (d+e.1)) (if e.2>b then e.2 else b) (BA (c+1))
else
J1 d b
def Aa(R100:ia)(a:BE):Nat->Int->Int->Int->ABd (Int×Int)
|0,_,_,_=>none
|n+1,d,b,c=>L1 R100 a (Aa R100 a n) d b c
end FF
variable{i:ia}{f:BE}{b:Int×Int}
section
open FF
def FF(R100:ia)(a:BE):=
Aa R100 a BW 1 0 0
theorem X7(H100:∀{x0 b},i x0=some b->Says prog 280 [.agg [si x0.Op,si x0.N,BZ x0.Name,vS 4 BH x0.L]] (.BQ [si b.1,si b.2]))(h:FF i f=some b):Says prog 280 [.agg [si f.Op,si f.N,BZ f.Name,vS 4 BH f.L]] (.BQ [si b.1,si b.2]):=by refine kO mix func280 (hn [(1,[10,17])]) ?_;have a1:= @H100;have l1:=da λ_ _ _ _ n e=>∃d r c,(e 1=bA 4 [si f.Op,si f.N,BZ f.Name,vS 4 BH f.L]/\e 4=si d/\e 5=si r/\e 6=si c)/\Aa i f n d r c=some b;unfold FF at h;exact walk
end
def TR:Nat->(BE->ABd (Int×Int))
|0=>(λ_=>none)
|n+1=>FF ((TR n))
def Jw(n:Nat):BE->ABd (Int×Int):=(TR n)
theorem Vo(n:Nat):(∀{x0 r},(Jw n) x0=some r->Says prog 280 [.agg [si x0.Op,si x0.N,BZ x0.Name,.sl false 4 (x0.L.map BH)]] (.BQ [si r.1,si r.2])):=by
  induction n with
  |zero=>exactλh=>ET h
  |succ n ih=>exactλh=>X7 ih h
def Vp{n:Nat}:∀{x0 r},(Jw n) x0=some r->Says prog 280 [.agg [si x0.Op,si x0.N,BZ x0.Name,.sl false 4 (x0.L.map BH)]] (.BQ [si r.1,si r.2]):=(Vo n)
namespace EH
def J2(f:AP):ABd AP:=
some f
def J1(d:AP):=
if decide ((d.AA.length:Int)>0)then
(gt d.AA 0).bind λe=>
J2 (AP.mk d.AF d.Tx d.Bn (d.AA.set 0 (AH.mk 1 e.Dg e.Atomic)))
else
J2 d
def L1(a:AD)(L1:gf)(b:AP)(c:Int):=
if decide (c<(a.AF.length:Int))then
(gt b.AF c).bind λi=>
L1 (AP.mk (b.AF.set c.toNat (AW.mk (-1) i.Ak)) b.Tx b.Bn b.AA) (BA (c+1))
else
J1 b
def Aa(a:AD):Nat->AP->Int->ABd AP
|0,_,_=>none
|n+1,b,c=>L1 a (Aa a n) b c
end EH
section
open EH
def EH(a:AD):=
if 0<=(a.AF.length:Int)/\(a.AF.length:Int)<=(a.AF.length:Int)/\Ap a.AF.length 32=true then
if 0<=(a.AK.length:Int)/\(a.AK.length:Int)<=(a.AK.length:Int)/\Ap a.AK.length 1=true then
if 0<=(a.AA.length:Int)/\(a.AA.length:Int)<=(a.AA.length:Int)/\Ap a.AA.length 24=true then
Aa a BW (AP.mk (List.replicate a.AF.length (AW.mk 0 [])) (-1) (List.replicate a.AK.length false) (List.replicate a.AA.length (AH.mk 0 0 false))) 0
else none
else none
else none
end
namespace Bv
def J1(c:Bool):ABd Bool:=
some c
end Bv
section
open Bv
def Bv(b:Int)(a:AL):=
if decide (b>=0)then
if decide (b<(a.Init.Count.length:Int))then
(gt a.Init.Count b).bind λd=>
J1 (decide (d>=1))
else
J1 false
else
J1 false
theorem Mz{b:Int}{a:AL}{r:Bool}(h:Bv b a=some r):Says prog 95 [si b,.fp [vS 5 Gy a.World.Cells,vS 2 Hy a.World.AF,vS 2 Hx a.World.Ai,vS 1 eS a.World.AK,vS 1 eS a.World.AA,vS 3 Gb a.World.BU,si a.Start,vS 2 DS a.Init.Sync.AF,si a.Init.Sync.Tx,vS 1 eB a.Init.Sync.Bn,vS 3 An a.Init.Sync.AA,vS 1 eI a.Init.Cells,vS 1 eI a.Init.AK,vS 1 eI a.Init.Count,vS 7 B1 a.AE]] (sb r):=by refine kO mix func95 hn ?_;unfold Bv at h;exact walk
end
namespace Ha
def J1:=
some true
def L1(a b:dc)(L1:df)(c:Int):=
if decide (c<(a.length:Int))then
(gt a c).bind λd=>
(gt b c).bind λe=>
if d != e then
some false
else
L1 (BA (c+1))
else
J1
def Aa(a b:dc):Nat->Int->ABd Bool
|0,_=>none
|n+1,c=>L1 a b (Aa a b n) c
end Ha
section
open Ha
def Ha(a b:dc):=
if(a.length:Int) != (b.length:Int)then
some false
else
Aa a b BW 0
theorem kV{a b:dc}{r:Bool}(h:Ha a b=some r):Says prog 30 [vS 1 eI a,vS 1 eI b] (sb r):=by refine kO mix func30 hn ?_;have l1:=da λ_ _ _ _ n d=>∃c,(d 0=vS 1 eI a/\d 1=vS 1 eI b/\d 12=si (a.length:Int)/\d 13=si c)/\Aa a b n c=some r;unfold Ha at h;exact walk
end
namespace Cs
def J1:i6:=
some (-1)
def L1(a:List Cq)(b:ABe)(L1:ig)(c:Int):=
if decide (c<(a.length:Int))then
(gt a c).bind λd=>
if d.Name.toList==b.toList then
some c
else
L1 (BA (c+1))
else
J1
def Aa(a:List Cq)(b:ABe):Nat->Int->ABd Int
|0,_=>none
|n+1,c=>L1 a b (Aa a b n) c
end Cs
section
open Cs
def Cs(a:List Cq)(b:ABe):=
Aa a b BW 0
theorem Jx{a:List Cq}{b:ABe}{r:Int}(h:Cs a b=some r):Says prog 247 [vS 4 Ie a,BZ b] (si r):=by refine kO mix func247 hn ?_;have l1:=da λ_ _ _ _ n d=>∃c,(d 0=vS 4 Ie a/\d 1=BZ b/\d 5=si c)/\Aa a b n c=some r;unfold Cs at h;exact walk
end
namespace Bh
def J1:i6:=
some (-1)
def L1(b:ABe)(a:AD)(L1:ig)(c:Int):=
if decide (c<(a.Cells.length:Int))then
(gt a.Cells c).bind λd=>
if d.Name.toList==b.toList then
some c
else
L1 (BA (c+1))
else
J1
def Aa(b:ABe)(a:AD):Nat->Int->ABd Int
|0,_=>none
|n+1,c=>L1 b a (Aa b a n) c
end Bh
section
open Bh
def Bh(a:AD)(b:ABe):=
Aa b a BW 0
theorem OX{a:AD}{b:ABe}{r:Int}(h:Bh a b=some r):Says prog 274 [.agg (Aq a),BZ b] (si r):=by refine kO mix func274 (hn [(2,[7,13])]) ?_;have l1:=da λ_ _ _ _ n d=>∃c,(d 1=BZ b/\d 2=bA 6 (Aq a)/\d 5=si c)/\Aa b a n c=some r;unfold Bh at h;exact walk
end
namespace Dn
def J1:=
some false
def L1(a:ABe)(L1:df)(b:Int):=
if decide (b<22)then
if b<22 then
(gt Ld b).bind λc=>
if a.toList==c.toList then
some true
else
L1 (BA (b+1))
else none
else
J1
def Aa(a:ABe):Nat->Int->ABd Bool
|0,_=>none
|n+1,b=>L1 a (Aa a n) b
end Dn
variable{g:ABe}{d:Bool}
section
open Dn
def Dn(a:ABe):=
Aa a BW 0
theorem Rx(h:Dn g=some d):Says prog 190 [BZ g] (sb d):=by refine kO mix func190 (hn (E:=[(1,(.Yu [.gld ⟨5,[],[]⟩ 0 22,.o (iU 6 0)]))])) ?_;have l1:=da λ_ _ _ _ n c=>∃b,(c 0=BZ g/\c 5= .agg (Ld.map BZ)/\c 6=si b)/\Aa g n b=some d;unfold Dn at h;exact walk
end
namespace BR
def J6(a:AD)(q:dv):ABd ((List ABe)×Bool):=
if Ap (q.length+a.AK.length) 16=true then
if Ap ((q++a.AK).length+a.AA.length) 16=true then
some ((q++a.AK)++a.AA,true)
else none
else none
def L4(a:AD)(L4:dt)(l:dv)(i:Int):=
if decide (i<(a.Ai.length:Int))then
(gt a.Ai i).bind λw=>
if Ap (l.length+1) 16=true then
L4 (l++[w.Name]) (BA (i+1))
else none
else
J6 a l
def L4r(a:AD):Nat->(List ABe)->Int->ABd ((List ABe)×Bool)
|0,_,_=>none
|n+1,l,i=>L4 a (L4r a n) l i
def J5(a:AD)(t:dv):=
L4r a BW t 0
def L3(a:AD)(L3:dt)(j:dv)(f:Int):=
if decide (f<(a.AF.length:Int))then
(gt a.AF f).bind λv=>
if Ap (j.length+1) 16=true then
L3 (j++[v.Name]) (BA (f+1))
else none
else
J5 a j
def Gg(a:AD):Nat->(List ABe)->Int->ABd ((List ABe)×Bool)
|0,_,_=>none
|n+1,j,f=>L3 a (Gg a n) j f
def J4(a:AD)(s:dv):=
Gg a BW s 0
def J3(L1:dt)(c:Int)(d:dv)(b:DR):=
L1 (d++[b.Name]) (BA (c+b.Bq))
def J2(L2:Int->ABd ((List ABe)×Bool))(e:Int)(u:Bool):=
if u then
some ([],false)
else
L2 (BA (e+1))
def L2(L1:dt)(c:Int)(d:dv)(a:AD)(b:DR)(L2:Int->ABd ((List ABe)×Bool))(e:Int):=
if decide (e<b.Bq)then
(gt a.Cells (BA (c+e))).bind λo=>
if o.Index != e then
J2 L2 e true
else
if !(o.Name.toList==b.Name.toList)then
J2 L2 e true
else
if o.Bq != b.Bq then
J2 L2 e true
else
if o.Init != b.Init then
J2 L2 e true
else
J2 L2 e o.Gz
else
J3 L1 c d b
def DF(L1:dt)(c:Int)(d:dv)(a:AD)(b:DR):Nat->Int->ABd ((List ABe)×Bool)
|0,_=>none
|n+1,e=>L2 L1 c d a b (DF L1 c d a b n) e
def J1(L1:dt)(c:Int)(d:dv)(a:AD)(b:DR)(p:Bool):=
if p then
some ([],false)
else
DF L1 c d a b BW 0
def L1(a:AD)(L1:dt)(d:dv)(c:Int):=
if decide (c<(a.Cells.length:Int))then
(gt a.Cells c).bind λb=>
if Ap (d.length+1) 16=true then
if b.Bq==0 then
if b.Index != 0 then
some ([],false)
else
L1 (d++[b.Name]) (BA (c+1))
else
if decide (b.Bq<1)then
J1 L1 c d a b true
else
if decide (b.Bq>4)then
J1 L1 c d a b true
else
J1 L1 c d a b (decide (b.Bq>(BA ((a.Cells.length:Int)-c))))
else none
else
J4 a d
def Aa(a:AD):Nat->(List ABe)->Int->ABd ((List ABe)×Bool)
|0,_,_=>none
|n+1,d,c=>L1 a (Aa a n) d c
end BR
section
open BR
def BR(a:AD):=
Aa a BW [] 0
theorem YF{a:AD}{r:gr}(h:BR a=some r):Says prog 97 [.agg (Aq a)] (.BQ [vO 1 eS r.1,sb r.2]):=by refine kO mix func97 (hn [(1,[12,16,45,58,99,106,115,122,131,135]),(4,[21,105,121,130,134]),(6,[22,26,29,34,38,43,53,72,79,86,95]),(8,[65,70,77,84,91])] [(15,1)]) ?_;have l4:=da λ_ _ _ _ n b=>∃l i,(b 1=bA 6 (Aq a)/\b 4=vO 1 eS l/\b 10=si i)/\L4r a n l i=some r;have l3:=da λ_ _ _ _ n b=>∃j f,(b 1=bA 6 (Aq a)/\b 4=vO 1 eS j/\b 9=si f)/\Gg a n j f=some r;have l1:=da λ_ _ _ _ n b=>∃d c,(b 1=bA 6 (Aq a)/\b 4=vO 1 eS d/\b 5=si c)/\Aa a n d c=some r;have l2:=da λf _ _ _ n g=>∃(c:Int)(d:dv)(b:DR)(e:Int),(g 1=bA 6 (Aq a)/\g 4= .own false 1 ((d++[b.Name]).map eS)/\g 5=si c/\g 6=bA 5 (Gy b)/\g 7=si e)/\DF (Aa a f) c d a b n e=some r;have c1:=db 1 λe _ _ _ f=>∃(c:Int)(d:dv)(b:DR)(p:Bool),(f 1=bA 6 (Aq a)/\f 4= .own false 1 ((d++[b.Name]).map eS)/\f 5=si c/\f 6=bA 5 (Gy b)/\f 51=sb p)/\J1 (Aa a e) c d a b p=some r;unfold BR at h;exact walk
end
namespace AY
def J3(l:dv):ABd ((List ABe)×Bool):=
some (l,true)
def J2(L1:dt)(c:Int)(d:dv)(b o:DR):=
L1 (d++[b.Name]) (BA (c+o.Bq))
def L2(L1:dt)(c:Int)(a:gw)(d:dv)(b:DR)(L2:DR->Int->ABd ((List ABe)×Bool))(e:DR)(f:Int):=
if decide (f<b.Bq)then
(gt a (BA (c+f))).bind λi=>
if !(i.Name.toList==e.Name.toList&&(i.Index==f&&(i.Bq==e.Bq&&(i.Gz==e.Gz&&(i.Init==e.Init)))))then
some ([],false)
else
L2 (DR.mk e.Name f e.Bq e.Gz e.Init) (BA (f+1))
else
J2 L1 c d b e
def DF(L1:dt)(c:Int)(a:gw)(d:dv)(b:DR):Nat->DR->Int->ABd ((List ABe)×Bool)
|0,_,_=>none
|n+1,e,f=>L2 L1 c a d b (DF L1 c a d b n) e f
def J1(L1:dt)(c:Int)(a:gw)(d:dv)(b:DR)(j:Bool):=
if j then
some ([],false)
else
DF L1 c a d b BW b 0
def L1(a:gw)(L1:dt)(d:dv)(c:Int):=
if decide (c<(a.length:Int))then
(gt a c).bind λb=>
if Ap (d.length+1) 16=true then
if b.Bq==0 then
if b.Index != 0 then
some ([],false)
else
L1 (d++[b.Name]) (BA (c+1))
else
if decide (b.Bq<1)then
J1 L1 c a d b true
else
if decide (b.Bq>4)then
J1 L1 c a d b true
else
if b.Gz then
J1 L1 c a d b true
else
J1 L1 c a d b (decide (b.Bq>(BA ((a.length:Int)-c))))
else none
else
J3 d
def Aa(a:gw):Nat->(List ABe)->Int->ABd ((List ABe)×Bool)
|0,_,_=>none
|n+1,d,c=>L1 a (Aa a n) d c
end AY
section
open AY
def AY(a:gw):=
Aa a BW [] 0
theorem Oh{a:gw}{r:gr}(h:AY a=some r):Says prog 90 [vS 5 Gy a] (.BQ [vO 1 eS r.1,sb r.2]):=by refine kO mix func90 (hn [(4,[16,70]),(6,[17,21,24,29,33,38,42,50,56,67])] [(15,1)]) ?_;have l1:=da λ_ _ _ _ n b=>∃d c,(b 0=vS 5 Gy a/\b 4=vO 1 eS d/\b 5=si c)/\Aa a n d c=some r;have l2:=da λg _ _ _ n h=>∃(c:Int)(d:dv)(b e:DR)(f:Int),(h 0=vS 5 Gy a/\h 4= .own false 1 ((d++[b.Name]).map eS)/\h 5=si c/\h 6=bA 5 (Gy e)/\h 51=si b.Bq/\h 52=si f)/\DF (Aa a g) c a d b n e f=some r;have c1:=db 1 λe _ _ _ f=>∃(c:Int)(d:dv)(b:DR)(j:Bool),(f 0=vS 5 Gy a/\f 4= .own false 1 ((d++[b.Name]).map eS)/\f 5=si c/\f 6=bA 5 (Gy b)/\f 49=sb j)/\J1 (Aa a e) c a d b j=some r;unfold AY at h;exact walk
end
namespace BC
def J6:=
some true
def J5(L1:df)(b:Int):=
L1 (BA (b+1))
def J4(L1:df)(b:Int)(a:AL)(c:AH)(i:Bool):=
if i then
some false
else
(gt a.World.Ai c.Dg).bind λl=>
(gt a.Init.Sync.AF l.Mutex).bind λo=>
if o.CG==b then
some false
else
J5 L1 b
def J3(L1:df)(b:Int)(a:AL)(c:AH)(f:Bool):=
if f then
if c.Dg != 0 then
some false
else
J5 L1 b
else
if decide (c.Dg<0)then
J4 L1 b a c true
else
J4 L1 b a c (decide (c.Dg>=(a.World.Ai.length:Int)))
def J2(L1:df)(b:Int)(a:AL)(c:AH)(d:Bool):=
(gt a.Init.Count b).bind λj=>
if !((j==0)==d)then
some false
else
if c.Status != 3 then
J3 L1 b a c (c.Status != 4)
else
J3 L1 b a c false
def J1(L1:df)(b:Int)(a:AL)(c:AH)(e:Bool):=
if e then
some false
else
if c.Status==0 then
J2 L1 b a c true
else
J2 L1 b a c (c.Status==1)
def L1(a:AL)(L1:df)(b:Int):=
if decide (b<(a.Init.Sync.AA.length:Int))then
(gt a.Init.Sync.AA b).bind λc=>
if decide (c.Status<0)then
J1 L1 b a c true
else
if decide (c.Status>5)then
J1 L1 b a c true
else
if b==0 then
J1 L1 b a c (c.Status==0)
else
J1 L1 b a c false
else
J6
def Aa(a:AL):Nat->Int->ABd Bool
|0,_=>none
|n+1,b=>L1 a (Aa a n) b
end BC
section
open BC
def BC(a:AL):=
Aa a BW 0
theorem OI{a:AL}{r:Bool}(h:BC a=some r):Says prog 46 [.agg (B0 a)] (sb r):=by refine kO mix func46 (hn [(1,[6,7,8,41,42,67,68,73,74,75,77,78]),(4,[16,20,28,33,37,50,54,58,61,65,80])] [(8,1),(10,2),(15,3)]) ?_;have l1:=da λ_ _ _ _ n c=>∃b,(c 1=bA 15 (B0 a)/\c 9=vS 3 An a.Init.Sync.AA/\c 10=si (a.Init.Sync.AA.length:Int)/\c 11=si b)/\Aa a n b=some r;have c3:=db 3 λd _ _ _ e=>∃b c f,(e 1=bA 15 (B0 a)/\e 3=si b/\e 4=bA 3 (An c)/\e 9=vS 3 An a.Init.Sync.AA/\e 10=si (a.Init.Sync.AA.length:Int)/\e 11=si b/\e 57=sb f)/\J3 (Aa a d) b a c f=some r;have c2:=db 2 λe _ _ _ f=>∃b c d,(f 1=bA 15 (B0 a)/\f 3=si b/\f 4=bA 3 (An c)/\f 5=sb d/\f 9=vS 3 An a.Init.Sync.AA/\f 10=si (a.Init.Sync.AA.length:Int)/\f 11=si b)/\J2 (Aa a e) b a c d=some r;have c1:=db 1 λd _ _ _ f=>∃b c e,(f 1=bA 15 (B0 a)/\f 3=si b/\f 4=bA 3 (An c)/\f 9=vS 3 An a.Init.Sync.AA/\f 10=si (a.Init.Sync.AA.length:Int)/\f 11=si b/\f 32=sb e)/\J1 (Aa a d) b a c e=some r;unfold BC at h;exact walk
end
end Go.Abs
