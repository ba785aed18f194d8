/- Go functions do what typed programs say. -/
import Derived.Test.YtdojkofgkcmagaaGreatDoorWalkJ
import Derived.Test.YtdojkofgkcmagaaGreatDoorWalkP
import Derived.Shelf.Slices.SearchI
set_option linter.all false
namespace Go.Abs
open Go.Proofs Tryz
set_option maxRecDepth 1000000
set_option maxHeartbeats 4000000
namespace BB
def J4(v:Bx):ABi (Bx×Int×Int):=some (v,0,0)
def J3(L1:lj)(b:Int)(u:Bx)(w:Int):=L1 u w (A8 (b+1))
def J2(L1:lj)(a:Bx)(b:Int)(e:BW)(y:BE):=if Ap (a.AA.length+1) 32=true then
J3 L1 b (Bx.mk a.dc (a.AA++[y])) e.next
else none
def J1(L2:lx)(c:Int)(x:BE):=L2 x (A8 (c+1))
def L3(L2:lx)(c:Int)(i:i6)(L3:lx)(j:BE)(l:Int):=if decide (l<(i.length:Int))then(gt i l).bind λt=>L3 (BE.mk (if(A8 (t+1))>j.DH then(A8 (t+1))else j.DH) j.CO) (A8 (l+1))
else
J1 L2 c j
def E3(L2:lx)(c:Int)(i:i6):Nat->BE->Int->ABi (Bx×Int×Int)
|0,_,_=>none
|n+1,j,l=>L3 L2 c i (E3 L2 c i n) j l
def L2(L1:lj)(a:Bx)(b:Int)(e f:BW)(L2:lx)(o:BE)(c:Int):=if decide (c<(f.dx.length:Int))then(gt f.dx c).bind λaa=>(Af aa).bind λi=>E3 L2 c i BQ o 0
else
J2 L1 a b e o
def Bs(L1:lj)(a:Bx)(b:Int)(e f:BW):Nat->BE->Int->ABi (Bx×Int×Int)
|0,_,_=>none
|n+1,o,c=>L2 L1 a b e f (Bs L1 a b e f n) o c
def L1(d:AY)(L1:lj)(a:Bx)(p b:Int):=if decide (b<(d.AA.length:Int))then(gt d.AA b).bind λs=>(D4 BQ (BW.mk a.dc s.HE [] 0 p) s.dz).bind λe=>(BU (BW.mk e.w e.du e.dx (-1) e.next) (Ak.mk 28 0 0 0 0 0)).bind λf=>Bs L1 a b e f BQ (BE.mk (f.du.length:Int) f.dx) 0
else
J4 a
def AR(d:AY):Nat->Bx->Int->Int->ABi (Bx×Int×Int)
|0,_,_,_=>none
|n+1,a,p,b=>L1 d (AR d n) a p b
end BB
section
open BB
def BB(d:AY):=(BT d).bind λq=>if q.1 != 0 then
some ((Bx.mk (AG.mk [] [] [] [] [] []) []),q.1,q.2)
else(CP d).bind λz=>AR d BQ (Bx.mk z []) 0 0
def XF{d:AY}{r:Bx×Int×Int}(h:BB d=some r):Says prog 139 [.agg (Ct d)] (.Bo [.agg (Kg r.1),si r.2.1,si r.2.2]):=by refine kF mix func139 (hn [(1,[29,37,47]),(7,[35,36,106,107,111,112]),(10,[46,54,55,56,58,59,60,61,64,65,66,67,69,70,71,72,75,76,77,78,83,84,85,86,88]),(11,[97,105,108]),(13,[92,99,101])] (Z:=[(14,false,10,[(0,7,0)])])) ?_;have a1:=@Lj;have a2:=@bU;have a3:=@TD;have a4:=@Hk;have a5:=@Kc;have l1:=i4 λn c=>∃(a:Bx)(p b:Int),(c 1=bA 2 (Ct d)/\c 2=bA 7 z10/\c 7=bA 7 [vS 5 Hp a.dc.di,vS 2 Ix a.dc.AK,vS 2 Iw a.dc.Al,vS 1 eS a.dc.AL,vS 1 eS a.dc.AA,vS 3 G9 a.dc.Bt,vO 2 DB a.AA]/\c 8=si p/\c 9=si b)/\AR d n a p b=some r;have l2:=iy λg _ _ _ n h=>∃(a:Bx)(b:Int)(e f:BW)(o:BE)(c:Int),(h 1=bA 2 (Ct d)/\h 2=bA 7 z10/\h 7=bA 7 [vS 5 Hp a.dc.di,vS 2 Ix a.dc.AK,vS 2 Iw a.dc.Al,vS 1 eS a.dc.AL,vS 1 eS a.dc.AA,vS 3 G9 a.dc.Bt,vO 2 DB a.AA]/\h 8=si e.next/\h 9=si b/\h 10=bA 10 (egen f)/\h 11=bA 2 (DB o)/\h 12=si c)/\Bs (AR d g) a b e f n o c=some r;have l3:=iy λg h _ _ n k=>∃(a:Bx)(b:Int)(e f:BW)(c:Int)(i:i6)(j:BE)(l:Int),(k 1=bA 2 (Ct d)/\k 2=bA 7 z10/\k 7=bA 7 [vS 5 Hp a.dc.di,vS 2 Ix a.dc.AK,vS 2 Iw a.dc.Al,vS 1 eS a.dc.AL,vS 1 eS a.dc.AA,vS 3 G9 a.dc.Bt,vO 2 DB a.AA]/\k 8=si e.next/\k 9=si b/\k 10=bA 10 (egen f)/\k 11=bA 2 (DB j)/\k 12=si c/\k 13=vO 1 eI i/\k 14=si l)/\E3 (Bs (AR d g) a b e f h) c i n j l=some r;unfold BB at h;exact walk
end
def f85c:IC:=(Ra 4 [.b 2 [21] (.bx 7 (.t 0)),.o (.bx 7 (.c (.agg z12))),.o (.bx 7 (.c (.agg z13)))]
(Sq (Ra 8 [.A 7 2,.c 136 [8] 0,.N 9]
(Ci 10 (Rb 11 [.o (.To z12 []),.o (.To z13 []),.S 7 4 11,.S 7 5 12])))
(Ra 14 [.A 7 2,.A 7 2,.c 138 [15] 1,.C 1,.b 18 [6,13,19,20,23] (.call 137 [.t 14,.t 16,.c (.own false 7 []),.t 17] 3),.w 13,.y 18 (.cp (.t 18)),.w 19,.y 18 (.ext (.t 13) 0),.y 18 (.ext (.t 13) 1),.b 7 [25] (.bx 7 (.c (.agg z13))),.w 6,.y 18 (.cp (.t 19)),.S 7 7 20]
(Rb 21 [.F 0 2,.A 6 21,.y 18 (.cp (.t 6)),.o (.To z12 [(0,6,.t 22),(6,1,.t 23)]),.y 7 (.ld true 7 (.t 7)),.S 7 4 24,.S 7 5 25]))))
def f85g:Gi:=⟨[(6,[18]),(13,[18]),(19,[18]),(20,[18]),(21,[2]),(23,[18]),(25,[7])]⟩
def f85r:List RV:=[.cell 4 true 7,.cell 5 true 7]
def M6(a:Bx)(b:lm):ABi (Ck×A4):=(CV a).bind λd=>if !d then
some ((Ck.mk (AG.mk [] [] [] [] [] []) []),(A4.mk (AQ.mk [] 0 [] []) [] [] []))
else(Db a).bind λe=>(GN a e [] b).bind λc=>some ((Ck.mk a.dc c.1),c.2)
def mX{a:Bx}{b:lm}{r:Ck×A4}(h:M6 a b=some r):Says prog 85 [.agg (Kg a),vS 2 HW b] (.Bo [.agg (lX r.1),.agg (LY r.2)]):=by refine wO mix func85 (I:=⟨f85c,f85g,f85r⟩) ?_;simp only[f85c,f85g,f85r];have a1:=@NS;have a2:=@b8;have a3:=@fT;unfold M6 at h;exact walk
namespace Fk
def J1(c:Bool):ABi Bool:=some c
end Fk
section
open Fk
def Fk:=(I7 1).bind λb=>(I7 2).bind λa=>(CQ b).bind λd=>if d then(CQ a).bind λe=>if e then(Co b 0 2).bind λf=>if f then(Co b 0 1).bind λi=>if !i then(Co a 0 3).bind λj=>if !j then(Co a 1 3).bind λl=>if !l then(Co a 2 3).bind λo=>J1 o
else
J1 false
else
J1 false
else
J1 false
else
J1 false
else
J1 false
else
J1 false
def K0{r:Bool}(h:Fk=some r):Says prog 29 [] (sb r):=by refine kO mix func29 hn ?_;have a1:=@YO;have a2:=@Rh;have a3:=@K6;unfold Fk at h;exact walk
end
end Go.Abs
