/- Typed programs of Go functions, and that the functions do what these say. -/
import Derived.Test.YtdojkofgkcmagaaGreatDoorWalkO
set_option linter.defProp false
set_option linter.unusedSimpArgs false
set_option linter.unusedVariables false
namespace Go.Abs
open Go.Proofs Tryz
set_option maxRecDepth 1000000
set_option maxHeartbeats 4000000
namespace A2
def J4(v:Bj):ABu (Bj×Int×Int):=
some (v,0,0)
def J3(L1:km)(b:Int)(u:Bj)(w:Int):=
L1 u w (A6 (b+1))
def J2(L1:km)(a:Bj)(b:Int)(e:BL)(y:A5):=
if Am (a.AA.length+1) 32=true then
J3 L1 b (Bj.mk a.cT (a.AA++[y])) e.next
else none
def J1(L2:A5->Int->ABu (Bj×Int×Int))(c:Int)(x:A5):=
L2 x (A6 (c+1))
def L3(L2:A5->Int->ABu (Bj×Int×Int))(c:Int)(i:iq)(L3:A5->Int->ABu (Bj×Int×Int))(j:A5)(l:Int):=
if decide (l<(i.length:Int))then
(gt i l).bind λt=>
L3 (A5.mk (if(A6 (t+1))>j.C3 then(A6 (t+1))else j.C3) j.B8) (A6 (l+1))
else
J1 L2 c j
def Gc(L2:A5->Int->ABu (Bj×Int×Int))(c:Int)(i:iq):Nat->A5->Int->ABu (Bj×Int×Int)
|0,_,_=>none
|n+1,j,l=>L3 L2 c i (Gc L2 c i n) j l
def L2(L1:km)(a:Bj)(b:Int)(e f:BL)(L2:A5->Int->ABu (Bj×Int×Int))(o:A5)(c:Int):=
if decide (c<(f.dr.length:Int))then
(gt f.dr c).bind λaa=>
(Ab aa).bind λi=>
Gc L2 c i BT o 0
else
J2 L1 a b e o
def CC(L1:km)(a:Bj)(b:Int)(e f:BL):Nat->A5->Int->ABu (Bj×Int×Int)
|0,_,_=>none
|n+1,o,c=>L2 L1 a b e f (CC L1 a b e f n) o c
def L1(d:AU)(L1:km)(a:Bj)(p b:Int):=
if decide (b<(d.AA.length:Int))then
(gt d.AA b).bind λs=>
(Dl BT (BL.mk a.cT s.G0 [] 0 p) s.dx).bind λe=>
(BH (BL.mk e.w e.dq e.dr (-1) e.next) (Ai.mk 28 0 0 0 0 0)).bind λf=>
CC L1 a b e f BT (A5.mk (f.dq.length:Int) f.dr) 0
else
J4 a
def AW(d:AU):Nat->Bj->Int->Int->ABu (Bj×Int×Int)
|0,_,_,_=>none
|n+1,a,p,b=>L1 d (AW d n) a p b
end A2
section
open A2
def A2(d:AU):=
(BF d).bind λq=>
if q.1 != 0 then
some ((Bj.mk (AF.mk [] [] [] [] [] []) []),q.1,q.2)
else
(CA d).bind λz=>
AW d BT (Bj.mk z []) 0 0
def V7{d:AU}{r:Bj×Int×Int}(h:A2 d=some r):Says prog 139 [.agg (Cf d)] (.BZ [.agg (KV r.1),si r.2.1,si r.2.2]):=by refine kF mix func139 (hn [(1,[29,37,47]),(7,[35,36,106,107,111,112]),(10,[46,54,55,56,58,59,60,61,64,65,66,67,69,70,71,72,75,76,77,78,83,84,85,86,88]),(11,[97,105,108]),(13,[92,99,101])] (Z:=[(14,false,10,[(0,7,0)])])) ?_;have a1:= @LY;have a2:= @Zu;have a3:= @Sc;have a4:= @HR;have a5:= @KQ;have l1:=im λ_ _ _ _ n c=>∃(a:Bj)(p b:Int),(c 1=bA 2 (Cf d)/\c 2=bA 7 z10/\c 7=bA 7 [vS 5 HV a.cT.df,vS 2 IX a.cT.AK,vS 2 IW a.cT.Ak,vS 1 eS a.cT.AL,vS 1 eS a.cT.AA,vS 3 Gu a.cT.Be,vO 2 Cz a.AA]/\c 8=si p/\c 9=si b)/\AW d n a p b=some r;have l2:=im λg _ _ _ n h=>∃(a:Bj)(b:Int)(e f:BL)(o:A5)(c:Int),(h 1=bA 2 (Cf d)/\h 2=bA 7 z10/\h 7=bA 7 [vS 5 HV a.cT.df,vS 2 IX a.cT.AK,vS 2 IW a.cT.Ak,vS 1 eS a.cT.AL,vS 1 eS a.cT.AA,vS 3 Gu a.cT.Be,vO 2 Cz a.AA]/\h 8=si e.next/\h 9=si b/\h 10=bA 10 (egen f)/\h 11=bA 2 (Cz o)/\h 12=si c)/\CC (AW d g) a b e f n o c=some r;have l3:=im λg h _ _ n k=>∃(a:Bj)(b:Int)(e f:BL)(c:Int)(i:iq)(j:A5)(l:Int),(k 1=bA 2 (Cf d)/\k 2=bA 7 z10/\k 7=bA 7 [vS 5 HV a.cT.df,vS 2 IX a.cT.AK,vS 2 IW a.cT.Ak,vS 1 eS a.cT.AL,vS 1 eS a.cT.AA,vS 3 Gu a.cT.Be,vO 2 Cz a.AA]/\k 8=si e.next/\k 9=si b/\k 10=bA 10 (egen f)/\k 11=bA 2 (Cz j)/\k 12=si c/\k 13=vO 1 eI i/\k 14=si l)/\Gc (CC (AW d g) a b e f h) c i n j l=some r;unfold A2 at h;exact walk
end
def f85c:IC:=(Ra 4 [.b 2 [21] (.bx 7 (.t 0)),.o (.bx 7 (.c (.agg z12))),.o (.bx 7 (.c (.agg z13)))]
(Sq (Ra 8 [.A 7 2,.c 136 [8] 0,.N 9]
(Ci 10 (Rb 11 [.o (.TK z12 []),.o (.TK z13 []),.S 7 4 11,.S 7 5 12])))
(Ra 14 [.A 7 2,.A 7 2,.c 138 [15] 1,.C 1,.b 18 [6,13,19,20,23] (.call 137 [.t 14,.t 16,.c (.own false 7 []),.t 17] 3),.w 13,.y 18 (.cp (.t 18)),.w 19,.y 18 (.ext (.t 13) 0),.y 18 (.ext (.t 13) 1),.b 7 [25] (.bx 7 (.c (.agg z13))),.w 6,.y 18 (.cp (.t 19)),.S 7 7 20]
(Rb 21 [.F 0 2,.A 6 21,.y 18 (.cp (.t 6)),.o (.TK z12 [(0,6,.t 22),(6,1,.t 23)]),.y 7 (.ld true 7 (.t 7)),.S 7 4 24,.S 7 5 25]))))
def f85g:Gi:=⟨[(6,[18]),(13,[18]),(19,[18]),(20,[18]),(21,[2]),(23,[18]),(25,[7])]⟩
def f85r:List RV:=[.cell 4 true 7,.cell 5 true 7]
def Ml(a:Bj)(b:kv):ABu (Ca×As):=
(CJ a).bind λd=>
if !d then
some ((Ca.mk (AF.mk [] [] [] [] [] []) []),(As.mk (AQ.mk [] 0 [] []) [] [] []))
else
(DJ a).bind λe=>
(Ft a e [] b).bind λc=>
some ((Ca.mk a.cT c.1),c.2)
def kE{a:Bj}{b:kv}{r:Ca×As}(h:Ml a b=some r):Says prog 85 [.agg (KV a),vS 2 HD b] (.BZ [.agg (iT r.1),.agg (LO r.2)]):=by refine wO mix func85 (I:=⟨f85c,f85g,f85r⟩) ?_;simp only[f85c,f85g,f85r];have a1:= @NC;have a2:= @Z1;have a3:= @dA;unfold Ml at h;exact walk
namespace Gv
def J1(c:Bool):ABu Bool:=
some c
end Gv
section
open Gv
def Gv:=
(Ik 1).bind λb=>
(Ik 2).bind λa=>
(CB b).bind λd=>
if d then
(CB a).bind λe=>
if e then
(Es b 0 2).bind λf=>
if f then
(Es b 0 1).bind λi=>
if !i then
(Es a 0 3).bind λj=>
if !j then
(Es a 1 3).bind λl=>
if !l then
(Es a 2 3).bind λo=>
J1 o
else
J1 false
else
J1 false
else
J1 false
else
J1 false
else
J1 false
else
J1 false
def Qj{r:Bool}(h:Gv=some r):Says prog 29 [] (sb r):=by refine kO mix func29 hn ?_;have a1:= @XT;have a2:= @Q6;have a3:= @Qq;unfold Gv at h;exact walk
end
end Go.Abs
