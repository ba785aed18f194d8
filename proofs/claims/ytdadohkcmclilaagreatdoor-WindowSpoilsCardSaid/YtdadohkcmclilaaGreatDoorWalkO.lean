/- Typed programs of Go functions, and that the functions do what these say. -/
import Derived.Test.YtdadohkcmclilaaGreatDoorWalkN
import Derived.Shelf.Slices.SearchI
set_option linter.unusedSimpArgs false
set_option linter.unusedVariables false
namespace Go.Abs
open Go.Proofs
set_option maxRecDepth 1000000
set_option maxHeartbeats 4000000
namespace As
def J4 (v:BB):ABh (BB×Int×Int):=
some (v,0,0)
def J3 (L1:BB->Int->Int->ABh (BB×Int×Int)) (b:Int) (u:BB) (w:Int):ABh (BB×Int×Int):=
L1 u w (Aq (b+1))
def J2 (L1:BB->Int->Int->ABh (BB×Int×Int)) (a:BB) (b:Int) (e:A8) (y:Al):ABh (BB×Int×Int):=
if Ap (a.AA.length+1) 32=true then
J3 L1 b (BB.mk a.World (a.AA++[y])) e.next
else none
def J1 (L2:Al->Int->ABh (BB×Int×Int)) (c:Int) (x:Al):ABh (BB×Int×Int):=
L2 x (Aq (c+1))
def L3 (L2:Al->Int->ABh (BB×Int×Int)) (c:Int) (i:List Int) (L3:Al->Int->ABh (BB×Int×Int)) (j:Al) (l:Int):ABh (BB×Int×Int):=
if decide (l<(i.length:Int))then
(gt i l).bind λt=>
L3 (Al.mk (if(Aq (t+1))>j.B5 then(Aq (t+1))else j.B5) j.Aw) (Aq (l+1))
else
J1 L2 c j
def GL (L2:Al->Int->ABh (BB×Int×Int)) (c:Int) (i:List Int):Nat->Al->Int->ABh (BB×Int×Int)
|0,_,_=>none
|n+1,j,l=>L3 L2 c i (GL L2 c i n) j l
def L2 (L1:BB->Int->Int->ABh (BB×Int×Int)) (a:BB) (b:Int) (e f:A8) (L2:Al->Int->ABh (BB×Int×Int)) (o:Al) (c:Int):ABh (BB×Int×Int):=
if decide (c<(f.out.length:Int))then
(gt f.out c).bind λaa=>
(AY aa).bind λi=>
GL L2 c i Bg o 0
else
J2 L1 a b e o
def DI (L1:BB->Int->Int->ABh (BB×Int×Int)) (a:BB) (b:Int) (e f:A8):Nat->Al->Int->ABh (BB×Int×Int)
|0,_,_=>none
|n+1,o,c=>L2 L1 a b e f (DI L1 a b e f n) o c
def L1 (d:AU) (L1:BB->Int->Int->ABh (BB×Int×Int)) (a:BB) (p b:Int):ABh (BB×Int×Int):=
if decide (b<(d.AA.length:Int))then
(gt d.AA b).bind λs=>
(DF Bg (A8.mk a.World s.Fh [] 0 p) s.Body).bind λe=>
(A5 (A8.mk e.w e.locals e.out (-1) e.next) (Ac.mk 28 0 0 0 0 0)).bind λf=>
DI L1 a b e f Bg (Al.mk (f.locals.length:Int) f.out) 0
else
J4 a
def AZ (d:AU):Nat->BB->Int->Int->ABh (BB×Int×Int)
|0,_,_,_=>none
|n+1,a,p,b=>L1 d (AZ d n) a p b
end As
section
open As
def As (d:AU):ABh (BB×Int×Int):=
(A4 d).bind λq=>
if q.1 != 0 then
some ((BB.mk (AD.mk [] [] [] [] [] []) []),q.1,q.2)
else
(Br d).bind λz=>
AZ d Bg (BB.mk z []) 0 0
theorem Tw {d:AU} {r:BB×Int×Int} (h:As d=some r):Says Tryz.prog 27 [.agg (CL d)] (.BT [.agg (He r.1),si r.2.1,si r.2.2]):=by refine kF mix Tryz.func27 (hn [(1,[29,37,47]),(7,[35,36,106,107,111,112]),(10,[46,54,55,56,58,59,60,61,64,65,66,67,69,70,71,72,75,76,77,78,83,84,85,86,88]),(11,[97,105,108]),(13,[92,99,101])] (Z:=[(14,false,10,[(0,7,0)])])) ?_;have a1:= @KB;have a2:= @XI;have a3:= @QI;have a4:= @GO;have a5:= @I4;have l1:=λn1 n2 n3 n4:Nat=>A7 λn τ=>∃(a:BB) (p b:Int),(τ 1=bA 2 (CL d)/\τ 2=bA 7 z9/\τ 7=bA 7 [vS 5 Gd a.World.Cells,vS 2 Hg a.World.AG,vS 2 Hf a.World.Af,vS 1 eS a.World.AH,vS 1 eS a.World.AA,vS 3 GF a.World.BL,vO 2 Ce a.AA]/\τ 8=si p/\τ 9=si b)/\AZ d n a p b=some r;have l2:=λn1 n2 n3 n4:Nat=>A7 λn τ=>∃(a:BB) (b:Int) (e f:A8) (o:Al) (c:Int),(τ 1=bA 2 (CL d)/\τ 2=bA 7 z9/\τ 7=bA 7 [vS 5 Gd a.World.Cells,vS 2 Hg a.World.AG,vS 2 Hf a.World.Af,vS 1 eS a.World.AH,vS 1 eS a.World.AA,vS 3 GF a.World.BL,vO 2 Ce a.AA]/\τ 8=si e.next/\τ 9=si b/\τ 10=bA 10 (egen f)/\τ 11=bA 2 (Ce o)/\τ 12=si c)/\DI (AZ d n1) a b e f n o c=some r;have l3:=λn1 n2 n3 n4:Nat=>A7 λn τ=>∃(a:BB) (b:Int) (e f:A8) (c:Int) (i:List Int) (j:Al) (l:Int),(τ 1=bA 2 (CL d)/\τ 2=bA 7 z9/\τ 7=bA 7 [vS 5 Gd a.World.Cells,vS 2 Hg a.World.AG,vS 2 Hf a.World.Af,vS 1 eS a.World.AH,vS 1 eS a.World.AA,vS 3 GF a.World.BL,vO 2 Ce a.AA]/\τ 8=si e.next/\τ 9=si b/\τ 10=bA 10 (egen f)/\τ 11=bA 2 (Ce j)/\τ 12=si c/\τ 13=vO 1 eI i/\τ 14=si l)/\GL (DI (AZ d n1) a b e f n2) c i n j l=some r;unfold As at h;exact walk
end
def f12c:IC:=(Ra 4 [.b 2 [21] (.bx 7 (.t 0)),.o (.bx 7 (.c (.agg z11))),.o (.bx 7 (.c (.agg z12)))]
(Sq (Ra 8 [.A 7 2,.c 36 [8] 0,.N 9]
(Ci 10 (Rb 11 [.o (.TY z11 []),.o (.TY z12 []),.S 7 4 11,.S 7 5 12])))
(Ra 14 [.A 7 2,.A 7 2,.c 38 [15] 1,.C 1,.b 18 [6,13,19,20,23] (.call 37 [.t 14,.t 16,.c (.own false 7 []),.t 17] 3),.w 13,.y 18 (.cp (.t 18)),.w 19,.y 18 (.ext (.t 13) 0),.y 18 (.ext (.t 13) 1),.b 7 [25] (.bx 7 (.c (.agg z12))),.w 6,.y 18 (.cp (.t 19)),.S 7 7 20]
(Rb 21 [.F 0 2,.A 6 21,.y 18 (.cp (.t 6)),.o (.TY z11 [(0,6,.t 22),(6,1,.t 23)]),.y 7 (.ld true 7 (.t 7)),.S 7 4 24,.S 7 5 25]))))
def f12g:Gi:=⟨[(6,[18]),(13,[18]),(19,[18]),(20,[18]),(21,[2]),(23,[18]),(25,[7])]⟩
def f12r:List RV:=[.cell 4 true 7,.cell 5 true 7]
def Ii (a:BB) (b:List BJ):ABh (BN×Ae):=
(BV a).bind λd=>
if !d then
some ((BN.mk (AD.mk [] [] [] [] [] []) []),(Ae.mk (AQ.mk [] 0 [] []) [] [] []))
else
(Bp a).bind λe=>
(C2 a e [] b).bind λc=>
some ((BN.mk a.World c.1),c.2)
theorem S7 {a:BB} {b:List BJ} {r:BN×Ae} (h:Ii a b=some r):Says Tryz.prog 12 [.agg (He a),vS 2 Hc b] (.BT [.agg (Zq r.1),.agg (Iz r.2)]):=by refine wO mix Tryz.func12 (I:=⟨f12c,f12g,f12r⟩) ?_;simp only[f12c,f12g,f12r];have a1:= @LR;have a2:= @XP;have a3:= @YQ;unfold Ii at h;exact walk
end Go.Abs
