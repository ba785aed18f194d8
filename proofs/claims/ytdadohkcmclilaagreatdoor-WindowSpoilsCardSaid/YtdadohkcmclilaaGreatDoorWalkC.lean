/- Typed programs of Go functions, and that the functions do what these say. -/
import Derived.Test.YtdadohkcmclilaaGreatDoorBaseA
import Derived.Shelf.Slices.SearchI
set_option linter.unusedSimpArgs false
set_option linter.unusedVariables false
namespace Go.Abs
open Go.Proofs
set_option maxRecDepth 1000000
set_option maxHeartbeats 4000000
namespace Bc
def J1 (b:Int) (a:Dh) (c:Bool):ABh (Int×Dh):=
if c then
some (0,a)
else
(gt a.L (Aq ((Aq (a.At+1))-1))).bind λd=>
if¬b=0 then
some ((Aq d).tmod b,(Dh.mk a.L (Aq (a.At+1))))
else none
end Bc
section
open Bc
def Bc (a:Dh) (b:Int):ABh (Int×Dh):=
if decide (a.At≥(a.L.length:Int))then
J1 b a true
else
J1 b a (decide (b<1))
theorem Hh {a:Dh} {b:Int} {r:Int×Dh} (h:Bc a b=some r):BM Tryz.prog 63 [bA 2 (UF a),si b] (si r.1) [bA 2 (UF r.2),.dead]:=by refine kL mix Tryz.func63 (hn [(0,[5,6,7,9,10,11,12,19,20,21,24,25,26,27,28,29,30,31,32,35])]) ?_;unfold Bc at h;exact walk
end
def Ed:ABh (List EV):=
some [(EV.mk 1 0 (⟨#[120]⟩:ABi) 0 0 (⟨#[]⟩:ABi)),(EV.mk 1 0 (⟨#[121]⟩:ABi) 0 1 (⟨#[]⟩:ABi)),(EV.mk 2 0 (⟨#[118]⟩:ABi) 0 0 (⟨#[]⟩:ABi)),(EV.mk 1 0 (⟨#[113]⟩:ABi) 2 0 (⟨#[]⟩:ABi)),(EV.mk 3 0 (⟨#[109]⟩:ABi) 0 0 (⟨#[]⟩:ABi)),(EV.mk 3 0 (⟨#[110]⟩:ABi) 0 0 (⟨#[]⟩:ABi)),(EV.mk 4 0 (⟨#[114]⟩:ABi) 0 0 (⟨#[]⟩:ABi)),(EV.mk 5 0 (⟨#[99]⟩:ABi) 0 0 (⟨#[109]⟩:ABi)),(EV.mk 6 0 (⟨#[102]⟩:ABi) 0 0 (⟨#[]⟩:ABi))]
theorem Qa {r:List EV} (h:Ed=some r):Says Tryz.prog 62 [] (vO 6 JR r):=by refine kO mix Tryz.func62 hn ?_;unfold Ed at h;exact walk
def A5 (a:A8) (b:Ac):ABh A8:=
if Ap (a.out.length+1) 48=true then
some (A8.mk a.w a.locals (a.out++[(Ac.mk b.Op b.A b.B b.C b.N a.site)]) a.site a.next)
else none
theorem GO {a:A8} {b:Ac} {r:A8} (h:A5 a b=some r):BM Tryz.prog 60 [bA 10 (EJ a),.agg (EB b)] (.BT []) [bA 10 (EJ r),.dead]:=by refine kL mix Tryz.func60 (hn [(0,[4,5,6,10,11,12,13,17,18]),(3,[8])] (E:=[(2,(.bE [(0,0,8,9)] [i0 9 .fl,i1 10 0 (.cp (.t 0)),i1 11 0 (.JW (.t 10)),ML 12 0 7 11,bL 13 0 12,iA 14 6 3,i0 15 (.NH 6 [z15] [(0,.t 14)]),i0 16 (.app 6 48 (.t 13) (.t 15)),i1 17 0 (.JW (.t 0)),ML 18 0 7 17,iS 1 18 16]))])) ?_;unfold A5 at h;exact walk
namespace HJ
def J1 (b:Bool):ABh Bool:=
some b
end HJ
section
open HJ
def HJ (a:BA):ABh Bool:=
if a.Op==0 then
if a.N==0 then
if a.Name.toList==(⟨#[]⟩:ABi).toList then
J1 ((a.L.length:Int)==0)
else
J1 false
else
J1 false
else
J1 false
theorem XB {a:BA} {r:Bool} (h:HJ a=some r):Says Tryz.prog 199 [.agg [si a.Op,si a.N,BZ a.Name,vS 4 BC a.L]] (sb r):=by refine kO mix Tryz.func199 (hn [(1,[3,7,12,17])]) ?_;unfold HJ at h;exact walk
end
namespace FO
def J1 (b:Bool):ABh Bool:=
some b
end FO
section
open FO
def FO (a:Int):ABh Bool:=
if decide (a≥97)then
if decide (a≤122)then
J1 true
else
if decide (a≥65)then
J1 (decide (a≤90))
else
J1 false
else
if decide (a≥65)then
J1 (decide (a≤90))
else
J1 false
theorem Nv {a:Int} {r:Bool} (h:FO a=some r):Says Tryz.prog 134 [.sc (.int .u8 a)] (sb r):=by refine kO mix Tryz.func134 hn ?_;unfold FO at h;exact walk
end
namespace HS
def J1 (a:Int) (b:Bool):ABh Int:=
if b then
some 0
else
(gt [3,3,4,4,5,6,7,8,9,10,11,12,13,14,15,16,18,19,20,21,22,23,2] (Aq (a-6))).bind λc=>
some c
end HS
section
open HS
def HS (a:Int):ABh Int:=
if decide (a<6)then
J1 a true
else
J1 a (decide (a>28))
theorem YR {a r:Int} (h:HS a=some r):Says Tryz.prog 167 [si a] (si r):=by refine kO mix Tryz.func167 (hn [(3,[11,14])]) ?_;unfold HS at h;exact walk
end
def Eh (b:ABi) (a:BA):ABh AR:=
some (AR.mk 1 0 b (⟨#[]⟩:ABi) [] a [] [])
theorem Ow {b:ABi} {a:BA} {r:AR} (h:Eh b a=some r):Says Tryz.prog 65 [BZ b,.agg [si a.Op,si a.N,BZ a.Name,vS 4 BC a.L]] (.agg [si r.Op,si r.E8,BZ r.Name,BZ r.Arg,vS 4 BC r.Index,si r.Expr.Op,si r.Expr.N,BZ r.Expr.Name,vS 4 BC r.Expr.L,vS 11 A6 r.Body,vS 11 A6 r.Else]):=by refine kF mix Tryz.func65 hn ?_;unfold Eh at h;exact walk
namespace GH
def J1 (c:Int):ABh Int:=
some c
end GH
section
open GH
def GH (b a:Int):ABh Int:=
if decide (a<1)then
some 0
else
if¬a=0 then
if decide ((b.tmod a)<0)then
J1 (Aq ((b.tmod a)+a))
else
J1 (b.tmod a)
else none
theorem XG {b a r:Int} (h:GH b a=some r):Says Tryz.prog 194 [si b,si a] (si r):=by refine kO mix Tryz.func194 hn ?_;unfold GH at h;exact walk
end
namespace FN
def J1 (c:Bool):ABh Bool:=
some c
end FN
section
open FN
def FN (a:AF) (b:Int):ABh Bool:=
if a.Status==3 then
J1 (a.DC==b)
else
J1 false
theorem Ns {a:AF} {b:Int} {r:Bool} (h:FN a b=some r):Says Tryz.prog 163 [.agg (Ax a),si b] (sb r):=by refine kO mix Tryz.func163 (hn [(2,[5,9])]) ?_;unfold FN at h;exact walk
end
namespace DH
def J1 (a:Int) (b:Bool):ABh Int:=
if b then
some 0
else
some a
end DH
section
open DH
def DH (a:Int):ABh Int:=
if decide (a<1)then
J1 a true
else
J1 a (decide (a>100))
theorem S5 {a r:Int} (h:DH a=some r):Says Tryz.prog 196 [si a] (si r):=by refine kO mix Tryz.func196 hn ?_;unfold DH at h;exact walk
end
def Hp (c:Int) (a b:BA):ABh BA:=
some (BA.mk c 0 (⟨#[]⟩:ABi) [a,b])
theorem Ox {c:Int} {a b r:BA} (h:Hp c a b=some r):Says Tryz.prog 155 [si c,.agg [si a.Op,si a.N,BZ a.Name,vS 4 BC a.L],.agg [si b.Op,si b.N,BZ b.Name,vS 4 BC b.L]] (.agg [si r.Op,si r.N,BZ r.Name,vS 4 BC r.L]):=by refine kF mix Tryz.func155 hn ?_;unfold Hp at h;exact walk
namespace Es
def J1 (c:Bool):ABh Bool:=
some c
end Es
section
open Es
def Es (a b:Int):ABh Bool:=
if decide (a≥0)then
J1 (decide (a<b))
else
J1 false
theorem Rl {a b:Int} {r:Bool} (h:Es a b=some r):Says Tryz.prog 133 [si a,si b] (sb r):=by refine kO mix Tryz.func133 hn ?_;unfold Es at h;exact walk
end
namespace DJ
def J1 (c:Bool):ABh Bool:=
some c
end DJ
section
open DJ
def DJ (a b:Int):ABh Bool:=
if decide (a≥0)then
J1 (decide (a<b))
else
J1 false
theorem Jz {a b:Int} {r:Bool} (h:DJ a b=some r):Says Tryz.prog 116 [si a,si b] (sb r):=by refine kO mix Tryz.func116 hn ?_;unfold DJ at h;exact walk
end
namespace HI
def J1 (b:Bool):ABh Bool:=
some b
end HI
section
open HI
def HI (a:Int):ABh Bool:=
if decide (a≥48)then
J1 (decide (a≤57))
else
J1 false
theorem W7 {a:Int} {r:Bool} (h:HI a=some r):Says Tryz.prog 173 [.sc (.int .u8 a)] (sb r):=by refine kO mix Tryz.func173 hn ?_;unfold HI at h;exact walk
end
namespace FP
def J1 (b:Bool):ABh Bool:=
some b
end FP
section
open FP
def FP (a:Int):ABh Bool:=
if decide (a≥1)then
J1 (decide (a≤5))
else
J1 false
theorem Nz {a:Int} {r:Bool} (h:FP a=some r):Says Tryz.prog 165 [si a] (sb r):=by refine kO mix Tryz.func165 hn ?_;unfold FP at h;exact walk
end
namespace DL
def J1 (c:Bool):ABh Bool:=
some c
end DL
section
open DL
def DL (a b:Int):ABh Bool:=
if decide (a≥0)then
J1 (decide (a<b))
else
J1 false
theorem PB {a b:Int} {r:Bool} (h:DL a b=some r):Says Tryz.prog 128 [si a,si b] (sb r):=by refine kO mix Tryz.func128 hn ?_;unfold DL at h;exact walk
end
namespace HA
def J1 (c:Bool):ABh Bool:=
some c
end HA
section
open HA
def HA (a b:Int):ABh Bool:=
if decide (a≥0)then
J1 (decide (a<b))
else
J1 false
theorem UX {a b:Int} {r:Bool} (h:HA a b=some r):Says Tryz.prog 137 [si a,si b] (sb r):=by refine kO mix Tryz.func137 hn ?_;unfold HA at h;exact walk
end
namespace Kn
def J1 (c:Bool):ABh Bool:=
some c
end Kn
section
open Kn
def Kn (a b:Int):ABh Bool:=
if decide (a≥0)then
J1 (decide (a<b))
else
J1 false
theorem eT {a b:Int} {r:Bool} (h:Kn a b=some r):Says Tryz.prog 99 [si a,si b] (sb r):=by refine kO mix Tryz.func99 hn ?_;unfold Kn at h;exact walk
end
namespace Ko
def J1 (c:Bool):ABh Bool:=
some c
end Ko
section
open Ko
def Ko (a b:Int):ABh Bool:=
if decide (a≥0)then
J1 (decide (a<b))
else
J1 false
theorem UY {a b:Int} {r:Bool} (h:Ko a b=some r):Says Tryz.prog 97 [si a,si b] (sb r):=by refine kO mix Tryz.func97 hn ?_;unfold Ko at h;exact walk
end
def IH (a:ABi):ABh BA:=
some (BA.mk 2 0 a [])
theorem SP {a:ABi} {r:BA} (h:IH a=some r):Says Tryz.prog 156 [BZ a] (.agg [si r.Op,si r.N,BZ r.Name,vS 4 BC r.L]):=by refine kF mix Tryz.func156 hn ?_;unfold IH at h;exact walk
def JV (a:Int):ABh BA:=
some (BA.mk 1 a (⟨#[]⟩:ABi) [])
theorem O0 {a:Int} {r:BA} (h:JV a=some r):Says Tryz.prog 66 [si a] (.agg [si r.Op,si r.N,BZ r.Name,vS 4 BC r.L]):=by refine kF mix Tryz.func66 hn ?_;unfold JV at h;exact walk
def Bx (a:Bool):ABh Int:=
if a then
some 7
else
some 0
theorem Tu {a:Bool} {r:Int} (h:Bx a=some r):Says Tryz.prog 180 [sb a] (si r):=by refine kO mix Tryz.func180 hn ?_;unfold Bx at h;exact walk
def D3 (a:Bool):ABh Int:=
if a then
some 1
else
some 0
theorem PA {a:Bool} {r:Int} (h:D3 a=some r):Says Tryz.prog 209 [sb a] (si r):=by refine kO mix Tryz.func209 hn ?_;unfold D3 at h;exact walk
def E1 (a b:Int):ABh Int:=
if a != 0 then
some a
else
some b
theorem eP {a b r:Int} (h:E1 a b=some r):Says Tryz.prog 177 [si a,si b] (si r):=by refine kO mix Tryz.func177 hn ?_;unfold E1 at h;exact walk
end Go.Abs
