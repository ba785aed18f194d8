/- Typed programs of Go functions, and that the functions do what these say. -/
import Derived.Test.YtdojkofgkcmagaaGreatDoorWalkI
import Derived.Test.YtdojkofgkcmagaaGreatDoorWalkN
set_option linter.unusedSimpArgs false
set_option linter.unusedVariables false
namespace Go.Abs
open Go.Proofs
set_option maxRecDepth 1000000
set_option maxHeartbeats 4000000
namespace Ax
def J4 (v:BT):ABd (BT×Int×Int):=
some (v,0,0)
def J3 (L1:BT->Int->Int->ABd (BT×Int×Int)) (b:Int) (u:BT) (w:Int):ABd (BT×Int×Int):=
L1 u w (BA (b+1))
def J2 (L1:BT->Int->Int->ABd (BT×Int×Int)) (a:BT) (b:Int) (e:BB) (y:Az):ABd (BT×Int×Int):=
if Ap (a.AA.length+1) 32=true then
J3 L1 b (BT.mk a.World (a.AA++[y])) e.next
else none
def J1 (L2:Az->Int->ABd (BT×Int×Int)) (c:Int) (x:Az):ABd (BT×Int×Int):=
L2 x (BA (c+1))
def L3 (L2:Az->Int->ABd (BT×Int×Int)) (c:Int) (i:List Int) (L3:Az->Int->ABd (BT×Int×Int)) (j:Az) (l:Int):ABd (BT×Int×Int):=
if decide (l<(i.length:Int))then
(gt i l).bind λt=>
L3 (Az.mk (if(BA (t+1))>j.Ck then(BA (t+1))else j.Ck) j.Br) (BA (l+1))
else
J1 L2 c j
def Gg (L2:Az->Int->ABd (BT×Int×Int)) (c:Int) (i:List Int):Nat->Az->Int->ABd (BT×Int×Int)
|0,_,_=>none
|n+1,j,l=>L3 L2 c i (Gg L2 c i n) j l
def L2 (L1:BT->Int->Int->ABd (BT×Int×Int)) (a:BT) (b:Int) (e f:BB) (L2:Az->Int->ABd (BT×Int×Int)) (o:Az) (c:Int):ABd (BT×Int×Int):=
if decide (c<(f.out.length:Int))then
(gt f.out c).bind λaa=>
(AZ aa).bind λi=>
Gg L2 c i BW o 0
else
J2 L1 a b e o
def DF (L1:BT->Int->Int->ABd (BT×Int×Int)) (a:BT) (b:Int) (e f:BB):Nat->Az->Int->ABd (BT×Int×Int)
|0,_,_=>none
|n+1,o,c=>L2 L1 a b e f (DF L1 a b e f n) o c
def L1 (d:AR) (L1:BT->Int->Int->ABd (BT×Int×Int)) (a:BT) (p b:Int):ABd (BT×Int×Int):=
if decide (b<(d.AA.length:Int))then
(gt d.AA b).bind λs=>
(DU BW (BB.mk a.World s.GA [] 0 p) s.Body).bind λe=>
(A6 (BB.mk e.w e.locals e.out (-1) e.next) (Ad.mk 28 0 0 0 0 0)).bind λf=>
DF L1 a b e f BW (Az.mk (f.locals.length:Int) f.out) 0
else
J4 a
def Aa (d:AR):Nat->BT->Int->Int->ABd (BT×Int×Int)
|0,_,_,_=>none
|n+1,a,p,b=>L1 d (Aa d n) a p b
end Ax
section
open Ax
def Ax (d:AR):ABd (BT×Int×Int):=
(A5 d).bind λq=>
if q.1 != 0 then
some ((BT.mk (AD.mk [] [] [] [] [] []) []),q.1,q.2)
else
(Bt d).bind λz=>
Aa d BW (BT.mk z []) 0 0
theorem UT {d:AR} {r:BT×Int×Int} (h:Ax d=some r):Says Tryz.prog 139 [.agg (CS d)] (.BQ [.agg (JS r.1),si r.2.1,si r.2.2]):=by refine kF mix Tryz.func139 (hn [(1,[29,37,47]),(7,[35,36,106,107,111,112]),(10,[46,54,55,56,58,59,60,61,64,65,66,67,69,70,71,72,75,76,77,78,83,84,85,86,88]),(11,[97,105,108]),(13,[92,99,101])] (Z:=[(14,false,10,[(0,7,0)])])) ?_;have a1:= @Kc;have a2:= @YC;have a3:= @Qk;have a4:= @Gl;have a5:= @JO;have l1:=λn1 n2 n3 n4:Nat=>A3 λn τ=>∃(a:BT) (p b:Int),(τ 1=bA 2 (CS d)/\τ 2=bA 7 z10/\τ 7=bA 7 [vS 5 Gy a.World.Cells,vS 2 Hy a.World.AF,vS 2 Hx a.World.Ai,vS 1 eS a.World.AK,vS 1 eS a.World.AA,vS 3 Gb a.World.BU,vO 2 Cf a.AA]/\τ 8=si p/\τ 9=si b)/\Aa d n a p b=some r;have l2:=λn1 n2 n3 n4:Nat=>A3 λn τ=>∃(a:BT) (b:Int) (e f:BB) (o:Az) (c:Int),(τ 1=bA 2 (CS d)/\τ 2=bA 7 z10/\τ 7=bA 7 [vS 5 Gy a.World.Cells,vS 2 Hy a.World.AF,vS 2 Hx a.World.Ai,vS 1 eS a.World.AK,vS 1 eS a.World.AA,vS 3 Gb a.World.BU,vO 2 Cf a.AA]/\τ 8=si e.next/\τ 9=si b/\τ 10=bA 10 (egen f)/\τ 11=bA 2 (Cf o)/\τ 12=si c)/\DF (Aa d n1) a b e f n o c=some r;have l3:=λn1 n2 n3 n4:Nat=>A3 λn τ=>∃(a:BT) (b:Int) (e f:BB) (c:Int) (i:List Int) (j:Az) (l:Int),(τ 1=bA 2 (CS d)/\τ 2=bA 7 z10/\τ 7=bA 7 [vS 5 Gy a.World.Cells,vS 2 Hy a.World.AF,vS 2 Hx a.World.Ai,vS 1 eS a.World.AK,vS 1 eS a.World.AA,vS 3 Gb a.World.BU,vO 2 Cf a.AA]/\τ 8=si e.next/\τ 9=si b/\τ 10=bA 10 (egen f)/\τ 11=bA 2 (Cf j)/\τ 12=si c/\τ 13=vO 1 eI i/\τ 14=si l)/\Gg (DF (Aa d n1) a b e f n2) c i n j l=some r;unfold Ax at h;exact walk
end
def f85c:IC:=(Ra 4 [.b 2 [21] (.bx 7 (.t 0)),.o (.bx 7 (.c (.agg z12))),.o (.bx 7 (.c (.agg z13)))]
(Sq (Ra 8 [.A 7 2,.c 136 [8] 0,.N 9]
(Ci 10 (Rb 11 [.o (.T2 z12 []),.o (.T2 z13 []),.S 7 4 11,.S 7 5 12])))
(Ra 14 [.A 7 2,.A 7 2,.c 138 [15] 1,.C 1,.b 18 [6,13,19,20,23] (.call 137 [.t 14,.t 16,.c (.own false 7 []),.t 17] 3),.w 13,.y 18 (.cp (.t 18)),.w 19,.y 18 (.ext (.t 13) 0),.y 18 (.ext (.t 13) 1),.b 7 [25] (.bx 7 (.c (.agg z13))),.w 6,.y 18 (.cp (.t 19)),.S 7 7 20]
(Rb 21 [.F 0 2,.A 6 21,.y 18 (.cp (.t 6)),.o (.T2 z12 [(0,6,.t 22),(6,1,.t 23)]),.y 7 (.ld true 7 (.t 7)),.S 7 4 24,.S 7 5 25]))))
def f85g:Gi:=⟨[(6,[18]),(13,[18]),(19,[18]),(20,[18]),(21,[2]),(23,[18]),(25,[7])]⟩
def f85r:List RV:=[.cell 4 true 7,.cell 5 true 7]
def LS (a:BT) (b:List C5):ABd (CC×Al):=
(Bz a).bind λd=>
if !d then
some ((CC.mk (AD.mk [] [] [] [] [] []) []),(Al.mk (AP.mk [] 0 [] []) [] [] []))
else
(C0 a).bind λe=>
(E7 a e [] b).bind λc=>
some ((CC.mk a.World c.1),c.2)
theorem eD {a:BT} {b:List C5} {r:CC×Al} (h:LS a b=some r):Says Tryz.prog 85 [.agg (JS a),vS 2 JC b] (.BQ [.agg (cV r.1),.agg (KQ r.2)]):=by refine wO mix Tryz.func85 (I:=⟨f85c,f85g,f85r⟩) ?_;simp only[f85c,f85g,f85r];have a1:= @Ln;have a2:= @YK;have a3:= @ZX;unfold LS at h;exact walk
end Go.Abs
