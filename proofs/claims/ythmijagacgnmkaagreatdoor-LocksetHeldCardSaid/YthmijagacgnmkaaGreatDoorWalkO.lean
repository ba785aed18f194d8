/- Typed programs of Go functions, and that the functions do what these say. -/
import Derived.Test.YthmijagacgnmkaaGreatDoorWalkN
set_option linter.unusedSimpArgs false
set_option linter.unusedVariables false
namespace Go.Abs
open Go.Proofs
set_option maxRecDepth 1000000
set_option maxHeartbeats 4000000
namespace As
def J4 (v:BL):ABr (BL×Int×Int):=
some (v,0,0)
def J3 (L1:BL->Int->Int->ABr (BL×Int×Int)) (b:Int) (u:BL) (w:Int):ABr (BL×Int×Int):=
L1 u w (Ay (b+1))
def J2 (L1:BL->Int->Int->ABr (BL×Int×Int)) (a:BL) (b:Int) (e:A6) (y:Av):ABr (BL×Int×Int):=
if Af (a.AA.length+1) 32=true then
J3 L1 b (BL.mk a.World (a.AA++[y])) e.next
else none
def J1 (L2:Av->Int->ABr (BL×Int×Int)) (c:Int) (x:Av):ABr (BL×Int×Int):=
L2 x (Ay (c+1))
def L3 (L2:Av->Int->ABr (BL×Int×Int)) (c:Int) (i:List Int) (L3:Av->Int->ABr (BL×Int×Int)) (j:Av) (l:Int):ABr (BL×Int×Int):=
if decide (l<(i.length:Int))then
(gt i l).bind λt=>
L3 (Av.mk (if(Ay (t+1))>j.CY then(Ay (t+1))else j.CY) j.Bg) (Ay (l+1))
else
J1 L2 c j
def Hz (L2:Av->Int->ABr (BL×Int×Int)) (c:Int) (i:List Int):Nat->Av->Int->ABr (BL×Int×Int)
|0,_,_=>none
|n+1,j,l=>L3 L2 c i (Hz L2 c i n) j l
def L2 (L1:BL->Int->Int->ABr (BL×Int×Int)) (a:BL) (b:Int) (e f:A6) (L2:Av->Int->ABr (BL×Int×Int)) (o:Av) (c:Int):ABr (BL×Int×Int):=
if decide (c<(f.out.length:Int))then
(gt f.out c).bind λaa=>
(AW aa).bind λi=>
Hz L2 c i BU o 0
else
J2 L1 a b e o
def Cf (L1:BL->Int->Int->ABr (BL×Int×Int)) (a:BL) (b:Int) (e f:A6):Nat->Av->Int->ABr (BL×Int×Int)
|0,_,_=>none
|n+1,o,c=>L2 L1 a b e f (Cf L1 a b e f n) o c
def L1 (d:AQ) (L1:BL->Int->Int->ABr (BL×Int×Int)) (a:BL) (p b:Int):ABr (BL×Int×Int):=
if decide (b<(d.AA.length:Int))then
(gt d.AA b).bind λs=>
(DM BU (A6.mk a.World s.GG [] 0 p) s.Body).bind λe=>
(A3 (A6.mk e.w e.locals e.out (-1) e.next) (Aa.mk 28 0 0 0 0 0)).bind λf=>
Cf L1 a b e f BU (Av.mk (f.locals.length:Int) f.out) 0
else
J4 a
def AZ (d:AQ):Nat->BL->Int->Int->ABr (BL×Int×Int)
|0,_,_,_=>none
|n+1,a,p,b=>L1 d (AZ d n) a p b
end As
section
open As
def As (d:AQ):ABr (BL×Int×Int):=
(A2 d).bind λq=>
if q.1 != 0 then
some ((BL.mk (AB.mk [] [] [] [] [] []) []),q.1,q.2)
else
(Bm d).bind λz=>
AZ d BU (BL.mk z []) 0 0
theorem UP {d:AQ} {r:BL×Int×Int} (h:As d=some r):Says Tryz.prog 158 [.agg (CC d)] (.BI [.agg (JU r.1),si r.2.1,si r.2.2]):=by refine kF mix Tryz.func158 (hn [(1,[29,37,47]),(7,[35,36,106,107,111,112]),(10,[46,54,55,56,58,59,60,61,64,65,66,67,69,70,71,72,75,76,77,78,83,84,85,86,88]),(11,[97,105,108]),(13,[92,99,101])] (Z:=[(14,false,10,[(0,7,0)])])) ?_;have a1:= @Kb;have a2:= @Xx;have a3:= @Qh;have a4:= @Gn;have a5:= @JR;have l1:=λn1 n2 n3 n4:Nat=>A0 λn τ=>∃(a:BL) (p b:Int),(τ 1=bA 2 (CC d)/\τ 2=bA 7 z11/\τ 7=bA 7 [vS 5 Hj a.World.Cells,vS 2 Je a.World.AF,vS 2 Jd a.World.Ah,vS 1 eS a.World.AK,vS 1 eS a.World.AA,vS 3 HP a.World.BF,vO 2 CT a.AA]/\τ 8=si p/\τ 9=si b)/\AZ d n a p b=some r;have l2:=λn1 n2 n3 n4:Nat=>A0 λn τ=>∃(a:BL) (b:Int) (e f:A6) (o:Av) (c:Int),(τ 1=bA 2 (CC d)/\τ 2=bA 7 z11/\τ 7=bA 7 [vS 5 Hj a.World.Cells,vS 2 Je a.World.AF,vS 2 Jd a.World.Ah,vS 1 eS a.World.AK,vS 1 eS a.World.AA,vS 3 HP a.World.BF,vO 2 CT a.AA]/\τ 8=si e.next/\τ 9=si b/\τ 10=bA 10 (egen f)/\τ 11=bA 2 (CT o)/\τ 12=si c)/\Cf (AZ d n1) a b e f n o c=some r;have l3:=λn1 n2 n3 n4:Nat=>A0 λn τ=>∃(a:BL) (b:Int) (e f:A6) (c:Int) (i:List Int) (j:Av) (l:Int),(τ 1=bA 2 (CC d)/\τ 2=bA 7 z11/\τ 7=bA 7 [vS 5 Hj a.World.Cells,vS 2 Je a.World.AF,vS 2 Jd a.World.Ah,vS 1 eS a.World.AK,vS 1 eS a.World.AA,vS 3 HP a.World.BF,vO 2 CT a.AA]/\τ 8=si e.next/\τ 9=si b/\τ 10=bA 10 (egen f)/\τ 11=bA 2 (CT j)/\τ 12=si c/\τ 13=vO 1 eI i/\τ 14=si l)/\Hz (Cf (AZ d n1) a b e f n2) c i n j l=some r;unfold As at h;exact walk
end
def f106c:IC:=(Ra 4 [.b 2 [21] (.bx 7 (.t 0)),.o (.bx 7 (.c (.agg z13))),.o (.bx 7 (.c (.agg z14)))]
(Sq (Ra 8 [.A 7 2,.c 155 [8] 0,.N 9]
(Ci 10 (Rb 11 [.o (.T6 z13 []),.o (.T6 z14 []),.S 7 4 11,.S 7 5 12])))
(Ra 14 [.A 7 2,.A 7 2,.c 157 [15] 1,.C 1,.b 18 [6,13,19,20,23] (.call 156 [.t 14,.t 16,.c (.own false 7 []),.t 17] 3),.w 13,.y 18 (.cp (.t 18)),.w 19,.y 18 (.ext (.t 13) 0),.y 18 (.ext (.t 13) 1),.b 7 [25] (.bx 7 (.c (.agg z14))),.w 6,.y 18 (.cp (.t 19)),.S 7 7 20]
(Rb 21 [.F 0 2,.A 6 21,.y 18 (.cp (.t 6)),.o (.T6 z13 [(0,6,.t 22),(6,1,.t 23)]),.y 7 (.ld true 7 (.t 7)),.S 7 4 24,.S 7 5 25]))))
def f106g:Gi:=⟨[(6,[18]),(13,[18]),(19,[18]),(20,[18]),(21,[2]),(23,[18]),(25,[7])]⟩
def f106r:List RV:=[.cell 4 true 7,.cell 5 true 7]
def LW (a:BL) (b:List Cv):ABr (Ac×Ai):=
(Bq a).bind λd=>
if !d then
some ((Ac.mk (AB.mk [] [] [] [] [] []) []),(Ai.mk (AN.mk [] 0 [] []) [] [] []))
else
(Cr a).bind λe=>
(E7 a e [] b).bind λc=>
some ((Ac.mk a.World c.1),c.2)
theorem cU {a:BL} {b:List Cv} {r:Ac×Ai} (h:LW a b=some r):Says Tryz.prog 106 [.agg (JU a),vS 2 JG b] (.BI [.agg (V2 r.1),.agg (KR r.2)]):=by refine wO mix Tryz.func106 (I:=⟨f106c,f106g,f106r⟩) ?_;simp only[f106c,f106g,f106r];have a1:= @Ls;have a2:= @X5;have a3:= @ZE;unfold LW at h;exact walk
namespace Gv
def J1 (d:Bool):ABr Bool:=
some d
def J2 (e:Bool):ABr Bool:=
some e
end Gv
section
open Gv
def Gv (a:Ac):ABr Bool:=
(D6 a).bind λf=>
(HO a).bind λb=>
(BV a).bind λc=>
if f.2==0 then
if b.2==0 then
if c.2==0 then
J1 ((b.1.length:Int)==(a.AH.length:Int))
else
J1 false
else
J1 false
else
if b.2==12 then
if c.2==12 then
J2 ((Ay ((b.1.length:Int)+(c.1.length:Int)))==0)
else
J2 false
else
J2 false
theorem UI {a:Ac} {r:Bool} (h:Gv a=some r):Says Tryz.prog 34 [.agg (FP a)] (sb r):=by refine kO mix Tryz.func34 (hn [(1,[35]),(7,[49]),(8,[29,43]),(21,[19,22,23])]) ?_;have a1:= @Jx;have a2:= @JI;have a3:= @Iz;unfold Gv at h;exact walk
end
end Go.Abs
