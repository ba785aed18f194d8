/- Go functions do what typed programs say. -/
import Derived.Test.YtdojkofgkcmagaaGreatDoorWalkI
import Derived.Test.YtdojkofgkcmagaaGreatDoorWalkO
import Derived.Shelf.Slices.SearchI
set_option linter.all false
namespace Go.Abs
open Go.Proofs Tryz
set_option maxRecDepth 1000000
set_option maxHeartbeats 4000000
namespace Bo
def J4(v:B5):ABm (B5×Int×Int):=some (v,0,0)
def J3(L1:la)(b:Int)(u:B5)(w:Int):=L1 u w (A9 (b+1))
def J2(L1:la)(a:B5)(b:Int)(e:BX)(y:BI):=if Aq (a.AB.length+1) 32=true then
J3 L1 b (B5.mk a.db (a.AB++[y])) e.next
else none
def J1(L2:lj)(c:Int)(x:BI):=L2 x (A9 (c+1))
def L3(L2:lj)(c:Int)(i:iT)(L3:lj)(j:BI)(l:Int):=if decide (l<(i.length:Int))then(gt i l).bind λt=>L3 (BI.mk (if(A9 (t+1))>j.Dk then(A9 (t+1))else j.Dk) j.Cq) (A9 (l+1))
else
J1 L2 c j
def Fw(L2:lj)(c:Int)(i:iT):Nat->BI->Int->ABm (B5×Int×Int)
|0,_,_=>none
|n+1,j,l=>L3 L2 c i (Fw L2 c i n) j l
def L2(L1:la)(a:B5)(b:Int)(e f:BX)(L2:lj)(o:BI)(c:Int):=if decide (c<(f.dt.length:Int))then(gt f.dt c).bind λaa=>(Aw aa).bind λi=>Fw L2 c i BQ o 0
else
J2 L1 a b e o
def B9(L1:la)(a:B5)(b:Int)(e f:BX):Nat->BI->Int->ABm (B5×Int×Int)
|0,_,_=>none
|n+1,o,c=>L2 L1 a b e f (B9 L1 a b e f n) o c
def L1(d:Aa)(L1:la)(a:B5)(p b:Int):=if decide (b<(d.AB.length:Int))then(gt d.AB b).bind λs=>(Ez BQ (BX.mk a.db s.Hp [] 0 p) s.dz).bind λe=>(BV (BX.mk e.w e.dr e.dt (-1) e.next) (An.mk 28 0 0 0 0 0)).bind λf=>B9 L1 a b e f BQ (BI.mk (f.dr.length:Int) f.dt) 0
else
J4 a
def AU(d:Aa):Nat->B5->Int->Int->ABm (B5×Int×Int)
|0,_,_,_=>none
|n+1,a,p,b=>L1 d (AU d n) a p b
end Bo
section
open Bo
def Bo(d:Aa):=(Bz d).bind λq=>if q.1 != 0 then
some ((B5.mk (AG.mk [] [] [] [] [] []) []),q.1,q.2)
else(C2 d).bind λz=>AU d BQ (B5.mk z []) 0 0
def Wh{d:Aa}{r:B5×Int×Int}(h:Bo d=some r):Says prog 139 [.agg (Cf d)] (.Bp [.agg (KI r.1),si r.2.1,si r.2.2]):=by refine kF mix func139 (hn [(1,[29,37,47]),(7,[35,36,106,107,111,112]),(10,[46,54,55,56,58,59,60,61,64,65,66,67,69,70,71,72,75,76,77,78,83,84,85,86,88]),(11,[97,105,108]),(13,[92,99,101])] (Z:=[(14,false,10,[(0,7,0)])])) ?_;have a1:=@LH;have a2:=@Zx;have a3:=@Se;have a4:=@HK;have a5:=@KF;have l1:=iJ λn c=>∃(a:B5)(p b:Int),(c 1=bA 2 (Cf d)/\c 2=bA 7 z10/\c 7=bA 7 [vS 5 G5 a.db.dg,vS 2 IE a.db.AK,vS 2 ID a.db.Aj,vS 1 eS a.db.AM,vS 1 eS a.db.AB,vS 3 GP a.db.Bu,vO 2 Cr a.AB]/\c 8=si p/\c 9=si b)/\AU d n a p b=some r;have l2:=iy λg _ _ _ n h=>∃(a:B5)(b:Int)(e f:BX)(o:BI)(c:Int),(h 1=bA 2 (Cf d)/\h 2=bA 7 z10/\h 7=bA 7 [vS 5 G5 a.db.dg,vS 2 IE a.db.AK,vS 2 ID a.db.Aj,vS 1 eS a.db.AM,vS 1 eS a.db.AB,vS 3 GP a.db.Bu,vO 2 Cr a.AB]/\h 8=si e.next/\h 9=si b/\h 10=bA 10 (egen f)/\h 11=bA 2 (Cr o)/\h 12=si c)/\B9 (AU d g) a b e f n o c=some r;have l3:=iy λg h _ _ n k=>∃(a:B5)(b:Int)(e f:BX)(c:Int)(i:iT)(j:BI)(l:Int),(k 1=bA 2 (Cf d)/\k 2=bA 7 z10/\k 7=bA 7 [vS 5 G5 a.db.dg,vS 2 IE a.db.AK,vS 2 ID a.db.Aj,vS 1 eS a.db.AM,vS 1 eS a.db.AB,vS 3 GP a.db.Bu,vO 2 Cr a.AB]/\k 8=si e.next/\k 9=si b/\k 10=bA 10 (egen f)/\k 11=bA 2 (Cr j)/\k 12=si c/\k 13=vO 1 eI i/\k 14=si l)/\Fw (B9 (AU d g) a b e f h) c i n j l=some r;unfold Bo at h;exact walk
end
def f85c:IC:=(Ra 4 [.b 2 [21] (.bx 7 (.t 0)),.o (.bx 7 (.c (.agg z12))),.o (.bx 7 (.c (.agg z13)))]
(Sq (Ra 8 [.A 7 2,.c 136 [8] 0,.N 9]
(Ci 10 (Rb 11 [.o (.UG z12 []),.o (.UG z13 []),.S 7 4 11,.S 7 5 12])))
(Ra 14 [.A 7 2,.A 7 2,.c 138 [15] 1,.C 1,.b 18 [6,13,19,20,23] (.call 137 [.t 14,.t 16,.c (.own false 7 []),.t 17] 3),.w 13,.y 18 (.cp (.t 18)),.w 19,.y 18 (.ext (.t 13) 0),.y 18 (.ext (.t 13) 1),.b 7 [25] (.bx 7 (.c (.agg z13))),.w 6,.y 18 (.cp (.t 19)),.S 7 7 20]
(Rb 21 [.F 0 2,.A 6 21,.y 18 (.cp (.t 6)),.o (.UG z12 [(0,6,.t 22),(6,1,.t 23)]),.y 7 (.ld true 7 (.t 7)),.S 7 4 24,.S 7 5 25]))))
def f85g:Gi:=⟨[(6,[18]),(13,[18]),(19,[18]),(20,[18]),(21,[2]),(23,[18]),(25,[7])]⟩
def f85r:List RV:=[.cell 4 true 7,.cell 5 true 7]
def Oh(a:B5)(b:nd):ABm (Cu×A3):=(C1 a).bind λd=>if !d then
some ((Cu.mk (AG.mk [] [] [] [] [] []) []),(A3.mk (AP.mk [] 0 [] []) [] [] []))
else(EJ a).bind λe=>(HH a e [] b).bind λc=>some ((Cu.mk a.db c.1),c.2)
def jQ{a:B5}{b:nd}{r:Cu×A3}(h:Oh a b=some r):Says prog 85 [.agg (KI a),vS 2 Ju b] (.Bp [.agg (hZ r.1),.agg (K6 r.2)]):=by refine wO mix func85 (I:=⟨f85c,f85g,f85r⟩) ?_;simp only[f85c,f85g,f85r];have a1:=@NC;have a2:=@Z5;have a3:=@dK;unfold Oh at h;exact walk
namespace GY
def J1(c:Bool):ABm Bool:=some c
end GY
section
open GY
def GY:=(Ib 1).bind λb=>(Ib 2).bind λa=>(CD b).bind λd=>if d then(CD a).bind λe=>if e then(EO b 0 2).bind λf=>if f then(EO b 0 1).bind λi=>if !i then(EO a 0 3).bind λj=>if !j then(EO a 1 3).bind λl=>if !l then(EO a 2 3).bind λo=>J1 o
else
J1 false
else
J1 false
else
J1 false
else
J1 false
else
J1 false
else
J1 false
def Mt{r:Bool}(h:GY=some r):Says prog 29 [] (sb r):=by refine kO mix func29 hn ?_;have a1:=@Xg;have a2:=@ND;have a3:=@Mx;unfold GY at h;exact walk
end
end Go.Abs
