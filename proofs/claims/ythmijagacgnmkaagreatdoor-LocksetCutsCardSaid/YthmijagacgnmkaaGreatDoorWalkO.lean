/- Typed programs of Go functions, and that the functions do what these say. -/
import Derived.Test.YthmijagacgnmkaaGreatDoorWalkN
set_option linter.unusedSimpArgs false
set_option linter.unusedVariables false
namespace Go.Abs
open Go.Proofs
set_option maxRecDepth 1000000
set_option maxHeartbeats 4000000
namespace Ax
def J4 (v:BT):AB8 (BT×Int×Int):=
some (v,0,0)
def J3 (L1:BT->Int->Int->AB8 (BT×Int×Int)) (b:Int) (u:BT) (w:Int):AB8 (BT×Int×Int):=
L1 u w (A1 (b+1))
def J2 (L1:BT->Int->Int->AB8 (BT×Int×Int)) (a:BT) (b:Int) (e:A9) (y:Az):AB8 (BT×Int×Int):=
if Ak (a.AA.length+1) 32=true then
J3 L1 b (BT.mk a.World (a.AA++[y])) e.next
else none
def J1 (L2:Az->Int->AB8 (BT×Int×Int)) (c:Int) (x:Az):AB8 (BT×Int×Int):=
L2 x (A1 (c+1))
def L3 (L2:Az->Int->AB8 (BT×Int×Int)) (c:Int) (i:List Int) (L3:Az->Int->AB8 (BT×Int×Int)) (j:Az) (l:Int):AB8 (BT×Int×Int):=
if decide (l<(i.length:Int))then
(gt i l).bind λt=>
L3 (Az.mk (if(A1 (t+1))>j.Ch then(A1 (t+1))else j.Ch) j.Bq) (A1 (l+1))
else
J1 L2 c j
def Gq (L2:Az->Int->AB8 (BT×Int×Int)) (c:Int) (i:List Int):Nat->Az->Int->AB8 (BT×Int×Int)
|0,_,_=>none
|n+1,j,l=>L3 L2 c i (Gq L2 c i n) j l
def L2 (L1:BT->Int->Int->AB8 (BT×Int×Int)) (a:BT) (b:Int) (e f:A9) (L2:Az->Int->AB8 (BT×Int×Int)) (o:Az) (c:Int):AB8 (BT×Int×Int):=
if decide (c<(f.out.length:Int))then
(gt f.out c).bind λaa=>
(Aa aa).bind λi=>
Gq L2 c i BP o 0
else
J2 L1 a b e o
def Cr (L1:BT->Int->Int->AB8 (BT×Int×Int)) (a:BT) (b:Int) (e f:A9):Nat->Az->Int->AB8 (BT×Int×Int)
|0,_,_=>none
|n+1,o,c=>L2 L1 a b e f (Cr L1 a b e f n) o c
def L1 (d:AR) (L1:BT->Int->Int->AB8 (BT×Int×Int)) (a:BT) (p b:Int):AB8 (BT×Int×Int):=
if decide (b<(d.AA.length:Int))then
(gt d.AA b).bind λs=>
(DU BP (A9.mk a.World s.GZ [] 0 p) s.Body).bind λe=>
(A6 (A9.mk e.w e.locals e.out (-1) e.next) (Ac.mk 28 0 0 0 0 0)).bind λf=>
Cr L1 a b e f BP (Az.mk (f.locals.length:Int) f.out) 0
else
J4 a
def AZ (d:AR):Nat->BT->Int->Int->AB8 (BT×Int×Int)
|0,_,_,_=>none
|n+1,a,p,b=>L1 d (AZ d n) a p b
end Ax
section
open Ax
def Ax (d:AR):AB8 (BT×Int×Int):=
(A5 d).bind λq=>
if q.1 != 0 then
some ((BT.mk (AD.mk [] [] [] [] [] []) []),q.1,q.2)
else
(Bs d).bind λz=>
AZ d BP (BT.mk z []) 0 0
theorem Uz {d:AR} {r:BT×Int×Int} (h:Ax d=some r):Says Tryz.prog 158 [.agg (CN d)] (.BM [.agg (Jo r.1),si r.2.1,si r.2.2]):=by refine kF mix Tryz.func158 (hn [(1,[29,37,47]),(7,[35,36,106,107,111,112]),(10,[46,54,55,56,58,59,60,61,64,65,66,67,69,70,71,72,75,76,77,78,83,84,85,86,88]),(11,[97,105,108]),(13,[92,99,101])] (Z:=[(14,false,10,[(0,7,0)])])) ?_;have a1:= @Kv;have a2:= @Ym;have a3:= @RE;have a4:= @G5;have a5:= @Je;have l1:=λn1 n2 n3 n4:Nat=>Av λn τ=>∃(a:BT) (p b:Int),(τ 1=bA 2 (CN d)/\τ 2=bA 7 z11/\τ 7=bA 7 [vS 5 Gx a.World.Cells,vS 2 Hu a.World.AE,vS 2 Ht a.World.Af,vS 1 eS a.World.AK,vS 1 eS a.World.AA,vS 3 GX a.World.BL,vO 2 Cd a.AA]/\τ 8=si p/\τ 9=si b)/\AZ d n a p b=some r;have l2:=λn1 n2 n3 n4:Nat=>Av λn τ=>∃(a:BT) (b:Int) (e f:A9) (o:Az) (c:Int),(τ 1=bA 2 (CN d)/\τ 2=bA 7 z11/\τ 7=bA 7 [vS 5 Gx a.World.Cells,vS 2 Hu a.World.AE,vS 2 Ht a.World.Af,vS 1 eS a.World.AK,vS 1 eS a.World.AA,vS 3 GX a.World.BL,vO 2 Cd a.AA]/\τ 8=si e.next/\τ 9=si b/\τ 10=bA 10 (egen f)/\τ 11=bA 2 (Cd o)/\τ 12=si c)/\Cr (AZ d n1) a b e f n o c=some r;have l3:=λn1 n2 n3 n4:Nat=>Av λn τ=>∃(a:BT) (b:Int) (e f:A9) (c:Int) (i:List Int) (j:Az) (l:Int),(τ 1=bA 2 (CN d)/\τ 2=bA 7 z11/\τ 7=bA 7 [vS 5 Gx a.World.Cells,vS 2 Hu a.World.AE,vS 2 Ht a.World.Af,vS 1 eS a.World.AK,vS 1 eS a.World.AA,vS 3 GX a.World.BL,vO 2 Cd a.AA]/\τ 8=si e.next/\τ 9=si b/\τ 10=bA 10 (egen f)/\τ 11=bA 2 (Cd j)/\τ 12=si c/\τ 13=vO 1 eI i/\τ 14=si l)/\Gq (Cr (AZ d n1) a b e f n2) c i n j l=some r;unfold Ax at h;exact walk
end
def f106c:IC:=(Ra 4 [.b 2 [21] (.bx 7 (.t 0)),.o (.bx 7 (.c (.agg z13))),.o (.bx 7 (.c (.agg z14)))]
(Sq (Ra 8 [.A 7 2,.c 155 [8] 0,.N 9]
(Ci 10 (Rb 11 [.o (.Uc z13 []),.o (.Uc z14 []),.S 7 4 11,.S 7 5 12])))
(Ra 14 [.A 7 2,.A 7 2,.c 157 [15] 1,.C 1,.b 18 [6,13,19,20,23] (.call 156 [.t 14,.t 16,.c (.own false 7 []),.t 17] 3),.w 13,.y 18 (.cp (.t 18)),.w 19,.y 18 (.ext (.t 13) 0),.y 18 (.ext (.t 13) 1),.b 7 [25] (.bx 7 (.c (.agg z14))),.w 6,.y 18 (.cp (.t 19)),.S 7 7 20]
(Rb 21 [.F 0 2,.A 6 21,.y 18 (.cp (.t 6)),.o (.Uc z13 [(0,6,.t 22),(6,1,.t 23)]),.y 7 (.ld true 7 (.t 7)),.S 7 4 24,.S 7 5 25]))))
def f106g:Gi:=⟨[(6,[18]),(13,[18]),(19,[18]),(20,[18]),(21,[2]),(23,[18]),(25,[7])]⟩
def f106r:List RV:=[.cell 4 true 7,.cell 5 true 7]
def Ls (a:BT) (b:List C6):AB8 (Aw×Aj):=
(Bz a).bind λd=>
if !d then
some ((Aw.mk (AD.mk [] [] [] [] [] []) []),(Aj.mk (AP.mk [] 0 [] []) [] [] []))
else
(C1 a).bind λe=>
(FP a e [] b).bind λc=>
some ((Aw.mk a.World c.1),c.2)
theorem eR {a:BT} {b:List C6} {r:Aw×Aj} (h:Ls a b=some r):Says Tryz.prog 106 [.agg (Jo a),vS 2 JT b] (.BM [.agg (Wv r.1),.agg (Kj r.2)]):=by refine wO mix Tryz.func106 (I:=⟨f106c,f106g,f106r⟩) ?_;simp only[f106c,f106g,f106r];have a1:= @MI;have a2:= @Yt;have a3:= @Z1;unfold Ls at h;exact walk
end Go.Abs
