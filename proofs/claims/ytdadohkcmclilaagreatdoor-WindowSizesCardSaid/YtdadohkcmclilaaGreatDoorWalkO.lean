/- Typed programs of Go functions, and that the functions do what these say. -/
import Derived.Test.YtdadohkcmclilaaGreatDoorWalkN
import Derived.Shelf.Slices.SearchI
set_option linter.unusedSimpArgs false
set_option linter.unusedVariables false
namespace Go.Abs
open Go.Proofs
set_option maxRecDepth 1000000
set_option maxHeartbeats 4000000
namespace BX
def J4 (v:BF):ABp (BF×Int×Int):=
some (v,0,0)
def J3 (L1:BF->Int->Int->ABp (BF×Int×Int)) (b:Int) (u:BF) (w:Int):ABp (BF×Int×Int):=
L1 u w (Ap (b+1))
def J2 (L1:BF->Int->Int->ABp (BF×Int×Int)) (a:BF) (b:Int) (e:A5) (y:An):ABp (BF×Int×Int):=
if Al (a.AA.length+1) 32=true then
J3 L1 b (BF.mk a.World (a.AA++[y])) e.next
else none
def J1 (L2:An->Int->ABp (BF×Int×Int)) (c:Int) (x:An):ABp (BF×Int×Int):=
L2 x (Ap (c+1))
def L3 (L2:An->Int->ABp (BF×Int×Int)) (c:Int) (i:List Int) (L3:An->Int->ABp (BF×Int×Int)) (j:An) (l:Int):ABp (BF×Int×Int):=
if decide (l<(i.length:Int))then
(gt i l).bind λt=>
L3 (An.mk (if(Ap (t+1))>j.Br then(Ap (t+1))else j.Br) j.A1) (Ap (l+1))
else
J1 L2 c j
def Gm (L2:An->Int->ABp (BF×Int×Int)) (c:Int) (i:List Int):Nat->An->Int->ABp (BF×Int×Int)
|0,_,_=>none
|n+1,j,l=>L3 L2 c i (Gm L2 c i n) j l
def L2 (L1:BF->Int->Int->ABp (BF×Int×Int)) (a:BF) (b:Int) (e f:A5) (L2:An->Int->ABp (BF×Int×Int)) (o:An) (c:Int):ABp (BF×Int×Int):=
if decide (c<(f.out.length:Int))then
(gt f.out c).bind λaa=>
(AU aa).bind λi=>
Gm L2 c i BT o 0
else
J2 L1 a b e o
def C2 (L1:BF->Int->Int->ABp (BF×Int×Int)) (a:BF) (b:Int) (e f:A5):Nat->An->Int->ABp (BF×Int×Int)
|0,_,_=>none
|n+1,o,c=>L2 L1 a b e f (C2 L1 a b e f n) o c
def L1 (d:AQ) (L1:BF->Int->Int->ABp (BF×Int×Int)) (a:BF) (p b:Int):ABp (BF×Int×Int):=
if decide (b<(d.AA.length:Int))then
(gt d.AA b).bind λs=>
(E4 BT (A5.mk a.World s.HB [] 0 p) s.Body).bind λe=>
(A8 (A5.mk e.w e.locals e.out (-1) e.next) (Ab.mk 28 0 0 0 0 0)).bind λf=>
C2 L1 a b e f BT (An.mk (f.locals.length:Int) f.out) 0
else
J4 a
def Aa (d:AQ):Nat->BF->Int->Int->ABp (BF×Int×Int)
|0,_,_,_=>none
|n+1,a,p,b=>L1 d (Aa d n) a p b
end BX
section
open BX
def BX (d:AQ):ABp (BF×Int×Int):=
(Bg d).bind λq=>
if q.1 != 0 then
some ((BF.mk (AD.mk [] [] [] [] [] []) []),q.1,q.2)
else
(DD d).bind λz=>
Aa d BT (BF.mk z []) 0 0
theorem TY {d:AQ} {r:BF×Int×Int} (h:BX d=some r):Says Tryz.prog 27 [.agg (Bu d)] (.BJ [.agg (I6 r.1),si r.2.1,si r.2.2]):=by
 refine kF mix Tryz.func27 (hn [(1,[29,37,47]),(7,[35,36,106,107,111,112]),(10,[46,54,55,56,58,59,60,61,64,65,66,67,69,70,71,72,75,76,77,78,83,84,85,86,88]),(11,[97,105,108]),(13,[92,99,101])] (Z:=[(14,false,10,[(0,7,0)])])) ?_
 have a1:= @Jy
 have a2:= @Wh
 have a3:= @P2
 have a4:= @F9
 have a5:= @I4
 have l1:=λn1 n2 n3 n4:Nat=>Ax λn τ=>∃(a:BF) (p b:Int),(τ 1=bA 2 (Bu d)/\τ 2=bA 7 z8/\τ 7=bA 7 [vS 5 Fw a.World.Cells,vS 2 HG a.World.AG,vS 2 HF a.World.Af,vS 1 eS a.World.AK,vS 1 eS a.World.AA,vS 3 FO a.World.A7,vO 2 CA a.AA]/\τ 8=si p/\τ 9=si b)/\Aa d n a p b=some r
 have l2:=λn1 n2 n3 n4:Nat=>Ax λn τ=>∃(a:BF) (b:Int) (e f:A5) (o:An) (c:Int),(τ 1=bA 2 (Bu d)/\τ 2=bA 7 z8/\τ 7=bA 7 [vS 5 Fw a.World.Cells,vS 2 HG a.World.AG,vS 2 HF a.World.Af,vS 1 eS a.World.AK,vS 1 eS a.World.AA,vS 3 FO a.World.A7,vO 2 CA a.AA]/\τ 8=si e.next/\τ 9=si b/\τ 10=bA 10 (egen f)/\τ 11=bA 2 (CA o)/\τ 12=si c)/\C2 (Aa d n1) a b e f n o c=some r
 have l3:=λn1 n2 n3 n4:Nat=>Ax λn τ=>∃(a:BF) (b:Int) (e f:A5) (c:Int) (i:List Int) (j:An) (l:Int),(τ 1=bA 2 (Bu d)/\τ 2=bA 7 z8/\τ 7=bA 7 [vS 5 Fw a.World.Cells,vS 2 HG a.World.AG,vS 2 HF a.World.Af,vS 1 eS a.World.AK,vS 1 eS a.World.AA,vS 3 FO a.World.A7,vO 2 CA a.AA]/\τ 8=si e.next/\τ 9=si b/\τ 10=bA 10 (egen f)/\τ 11=bA 2 (CA j)/\τ 12=si c/\τ 13=vO 1 eI i/\τ 14=si l)/\Gm (C2 (Aa d n1) a b e f n2) c i n j l=some r
 unfold BX at h
 exact walk
end
def f12c:IC:=(Ra 4 [.b 2 [21] (.bx 7 (.t 0)),.o (.bx 7 (.c (.agg z11))),.o (.bx 7 (.c (.agg z12)))]
(Sq (Ra 8 [.A 7 2,.c 36 [8] 0,.N 9]
(Ci 10 (Rb 11 [.o (.RD z11 []),.o (.RD z12 []),.S 7 4 11,.S 7 5 12])))
(Ra 14 [.A 7 2,.A 7 2,.c 38 [15] 1,.C 1,.b 18 [6,13,19,20,23] (.call 37 [.t 14,.t 16,.c (.own false 7 []),.t 17] 3),.w 13,.y 18 (.cp (.t 18)),.w 19,.y 18 (.ext (.t 13) 0),.y 18 (.ext (.t 13) 1),.b 7 [25] (.bx 7 (.c (.agg z12))),.w 6,.y 18 (.cp (.t 19)),.S 7 7 20]
(Rb 21 [.F 0 2,.A 6 21,.y 18 (.cp (.t 6)),.o (.RD z11 [(0,6,.t 22),(6,1,.t 23)]),.y 7 (.ld true 7 (.t 7)),.S 7 4 24,.S 7 5 25]))))
def f12g:Gi:=⟨[(6,[18]),(13,[18]),(19,[18]),(20,[18]),(21,[2]),(23,[18]),(25,[7])]⟩
def f12r:List RV:=[.cell 4 true 7,.cell 5 true 7]
def LN (a:BF) (b:List BK):ABp (Az×Ad):=
(CB a).bind λd=>
if !d then
some ((Az.mk (AD.mk [] [] [] [] [] []) []),(Ad.mk (AN.mk [] 0 [] []) [] [] []))
else
(EW a).bind λe=>
(Gk a e [] b).bind λc=>
some ((Az.mk a.World c.1),c.2)
theorem ZS {a:BF} {b:List BK} {r:Az×Ad} (h:LN a b=some r):Says Tryz.prog 12 [.agg (I6 a),vS 2 Iu b] (.BJ [.agg (PU r.1),.agg (Jp r.2)]):=by
 refine wO mix Tryz.func12 (I:=⟨f12c,f12g,f12r⟩) ?_
 simp only[f12c,f12g,f12r]
 have a1:= @LA
 have a2:= @Wo
 have a3:= @Xz
 unfold LN at h
 exact walk
end Go.Abs
