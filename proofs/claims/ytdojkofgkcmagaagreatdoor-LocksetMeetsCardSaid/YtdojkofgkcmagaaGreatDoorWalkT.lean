/- Typed programs of Go functions, and that the functions do what these say. -/
import Derived.Test.YtdojkofgkcmagaaGreatDoorWalkS
set_option linter.unusedSimpArgs false
set_option linter.unusedVariables false
namespace Go.Abs
open Go.Proofs Tryz
set_option maxRecDepth 1000000
set_option maxHeartbeats 4000000
namespace Dt
def J4:ABu Bool:=
(Gv).bind λl=>
some l
def J3(L1:ir)(b:Int):=
L1 (A6 (b+1))
def J2(L2:ir)(c:Int):=
L2 (A6 (c+1))
def J1(L2:ir)(b c:Int)(a:AG)(f:Bool):=
if f then
(Es a b c).bind λj=>
if !j then
some false
else
J2 L2 c
else
J2 L2 c
def L2(L1:ir)(b:Int)(a:AG)(d:AH)(L2:ir)(c:Int):=
if decide (c<(a.AB.length:Int))then
(gt a.AB c).bind λe=>
if e.da==1 then
if d.da==20 then
if d.dn==e.cr then
J1 L2 b c a true
else
if e.da==21 then
if d.da==2 then
if d.cr==e.dn then
J1 L2 b c a true
else
if e.da==23 then
if d.da==22 then
J1 L2 b c a (d.dn==e.dn)
else
J1 L2 b c a false
else
J1 L2 b c a false
else
if e.da==23 then
if d.da==22 then
J1 L2 b c a (d.dn==e.dn)
else
J1 L2 b c a false
else
J1 L2 b c a false
else
if e.da==23 then
if d.da==22 then
J1 L2 b c a (d.dn==e.dn)
else
J1 L2 b c a false
else
J1 L2 b c a false
else
if e.da==21 then
if d.da==2 then
if d.cr==e.dn then
J1 L2 b c a true
else
if e.da==23 then
if d.da==22 then
J1 L2 b c a (d.dn==e.dn)
else
J1 L2 b c a false
else
J1 L2 b c a false
else
if e.da==23 then
if d.da==22 then
J1 L2 b c a (d.dn==e.dn)
else
J1 L2 b c a false
else
J1 L2 b c a false
else
if e.da==23 then
if d.da==22 then
J1 L2 b c a (d.dn==e.dn)
else
J1 L2 b c a false
else
J1 L2 b c a false
else
if e.da==21 then
if d.da==2 then
if d.cr==e.dn then
J1 L2 b c a true
else
if e.da==23 then
if d.da==22 then
J1 L2 b c a (d.dn==e.dn)
else
J1 L2 b c a false
else
J1 L2 b c a false
else
if e.da==23 then
if d.da==22 then
J1 L2 b c a (d.dn==e.dn)
else
J1 L2 b c a false
else
J1 L2 b c a false
else
if e.da==23 then
if d.da==22 then
J1 L2 b c a (d.dn==e.dn)
else
J1 L2 b c a false
else
J1 L2 b c a false
else
J3 L1 b
def CC(L1:ir)(b:Int)(a:AG)(d:AH):Nat->Int->ABu Bool
|0,_=>none
|n+1,c=>L2 L1 b a d (CC L1 b a d n) c
def L1(a:AG)(L1:ir)(b:Int):=
if decide (b<(a.AB.length:Int))then
(gt a.AB b).bind λd=>
CC L1 b a d BT 0
else
J4
def AW(a:AG):Nat->Int->ABu Bool
|0,_=>none
|n+1,b=>L1 a (AW a n) b
end Dt
variable{i:Kk}{r:Bool}
section
open Dt
def Dt(i:Kk):=
(EM i 16).bind λa=>
AW a BT 0
theorem bO(h:Dt i=some r):Says prog 9 [.agg (Yx i)] (sb r):=by refine kO mix func9 (hn [(3,[10,18]),(5,[30,35,46,51,63,68]),(7,[26,37,42,53,59,70])] [(13,1)]) ?_;have a1:= @JM;have a2:= @Qj;have a3:= @Qq;have l1:=im λ_ _ _ _ n c=>∃(a:AG)(b:Int),(c 3=bA 15 (A4 a)/\c 11=vS 7 A7 a.AB/\c 12=si (a.AB.length:Int)/\c 13=si b)/\AW a n b=some r;have l2:=im λe _ _ _ n f=>∃(a:AG)(b:Int)(d:AH)(c:Int),(f 3=bA 15 (A4 a)/\f 4=si b/\f 5=bA 7 (A7 d)/\f 11=vS 7 A7 a.AB/\f 12=si (a.AB.length:Int)/\f 13=si b/\f 19=vS 7 A7 a.AB/\f 20=si (a.AB.length:Int)/\f 21=si c)/\CC (AW a e) b a d n c=some r;have c1:=ip 1 λe g _ _ h=>∃(a:AG)(b:Int)(d:AH)(c:Int)(f:Bool),(h 3=bA 15 (A4 a)/\h 4=si b/\h 5=bA 7 (A7 d)/\h 6=si c/\h 11=vS 7 A7 a.AB/\h 12=si (a.AB.length:Int)/\h 13=si b/\h 19=vS 7 A7 a.AB/\h 20=si (a.AB.length:Int)/\h 21=si c/\h 74=sb f)/\J1 (CC (AW a e) b a d g) b c a f=some r;unfold Dt at h;exact walk
end
namespace MS
def J5:ABu Bool:=
(Gv).bind λt=>
some t
def J4(L1:ir)(b:Int):=
L1 (A6 (b+1))
def J3(L2:ir)(d:Int):=
L2 (A6 (d+1))
def J2(L2:ir)(d:Int)(p:Bool):=
if !p then
some false
else
J3 L2 d
def J1(L3:Bool->Int->ABu Bool)(f:Int)(o:Bool):=
L3 o (A6 (f+1))
def L3(L2:ir)(b d:Int)(a:kn)(L3:Bool->Int->ABu Bool)(i:Bool)(f:Int):=
if decide (f<((a.2.du.take b.toNat).length:Int))then
(gt (a.2.du.take b.toNat) f).bind λu=>
if i then
J1 L3 f true
else
J1 L3 f (u==d)
else
J2 L2 d i
def Gc(L2:ir)(b d:Int)(a:kn):Nat->Bool->Int->ABu Bool
|0,_,_=>none
|n+1,i,f=>L3 L2 b d a (Gc L2 b d a n) i f
def L2(L1:ir)(b:Int)(c:AG)(a:kn)(e:Int)(L2:ir)(d:Int):=
if decide (d<(c.AB.length:Int))then
(Es c d e).bind λs=>
if !s then
J3 L2 d
else
if 0<=b/\b.toNat<=a.2.du.length then
Gc L2 b d a BT false 0
else none
else
J4 L1 b
def CC(L1:ir)(b:Int)(c:AG)(a:kn)(e:Int):Nat->Int->ABu Bool
|0,_=>none
|n+1,d=>L2 L1 b c a e (CC L1 b c a e n) d
def L1(c:AG)(a:kn)(L1:ir)(b:Int):=
if decide (b<(a.2.du.length:Int))then
(gt a.2.du b).bind λe=>
CC L1 b c a e BT 0
else
J5
def AW(c:AG)(a:kn):Nat->Int->ABu Bool
|0,_=>none
|n+1,b=>L1 c a (AW c a n) b
end MS
section
open MS
def MS(l:Kk)(j:iq):=
if decide ((j.length:Int)>60)then
(Gv).bind λq=>
some q
else
(EM l 14).bind λc=>
(Ew c j).bind λa=>
AW c a BT 0
end
namespace Dg
def J3:ABu Bool:=
(I3).bind λq=>
some q
def J2(L1:ir)(b:Int):=
L1 (A6 (b+1))
def J1(L2:ir)(e:Int)(o:Bool):=
if o then
some false
else
L2 (A6 (e+1))
def L2(L1:ir)(b:Int)(a:AG)(d:nf)(c:kn)(L2:ir)(e:Int):=
if decide (e<b)then
(Gj a c.2 b).bind λj=>
(Gj a c.2 e).bind λl=>
if decide (j>=0)then
if decide (l>=0)then
(E5 a c.2 b).bind λs=>
if s then
(E5 a c.2 e).bind λt=>
if t then
(gt d j).bind λv=>
(gt d l).bind λw=>
(GX v w).bind λu=>
J1 L2 e u
else
J1 L2 e false
else
J1 L2 e false
else
J1 L2 e false
else
J1 L2 e false
else
J2 L1 b
def CC(L1:ir)(b:Int)(a:AG)(d:nf)(c:kn):Nat->Int->ABu Bool
|0,_=>none
|n+1,e=>L2 L1 b a d c (CC L1 b a d c n) e
def L1(a:AG)(d:nf)(c:kn)(L1:ir)(b:Int):=
if decide (b<(a.cT.AA.length:Int))then
CC L1 b a d c BT 0
else
J3
def AW(a:AG)(d:nf)(c:kn):Nat->Int->ABu Bool
|0,_=>none
|n+1,b=>L1 a d c (AW a d c n) b
end Dg
variable{a:iq}
section
open Dg
def Dg(i:Kk)(f:iq):=
if decide ((f.length:Int)>60)then
(I3).bind λp=>
some p
else
(EM i 14).bind λa=>
(LW a).bind λd=>
if(d.length:Int) != (a.AB.length:Int)then
some false
else
(Ew a f).bind λc=>
AW a d c BT 0
theorem X3(h:Dg i a=some r):Says prog 5 [.agg (Yx i),vS 1 eI a] (sb r):=by refine kO mix func5 (hn [(5,[23,33,34])]) ?_;have a1:= @ZU;have a2:= @JM;have a3:= @Ug;have a4:= @dF;have a5:= @Ll;have a6:= @Lb;have a7:= @SJ;have l1:=im λ_ _ _ _ n e=>∃(f:AG)(d:nf)(c:kn)(b:Int),(e 5=bA 15 (A4 f)/\e 6=vS 2 NZ d/\e 8=bA 9 (IH c.2)/\e 36=si (f.cT.AA.length:Int)/\e 37=si b)/\AW f d c n b=some r;have l2:=im λa _ _ _ n g=>∃(f:AG)(d:nf)(c:kn)(b e:Int),(g 5=bA 15 (A4 f)/\g 6=vS 2 NZ d/\g 8=bA 9 (IH c.2)/\g 9=si b/\g 10=si e/\g 36=si (f.cT.AA.length:Int)/\g 37=si b)/\CC (AW f d c a) b f d c n e=some r;unfold Dg at h;exact walk
end
namespace LU
def J5:ABu Bool:=
(Gv).bind λs=>
some s
def J4(L1:ir)(b:Int):=
L1 (A6 (b+1))
def J3(L1:ir)(b:Int)(c:jb)(l:iq):=
(gt c b).bind λu=>
(PY l u).bind λq=>
if !q then
some false
else
J4 L1 b
def J2(L2:mo)(d:Int)(j:iq):=
L2 j (A6 (d+1))
def J1(L2:mo)(e:iq)(d:Int)(a:AG)(o:Bool):=
if o then
(gt a.AB d).bind λi=>
(gt e i.cr).bind λt=>
J2 L2 d (e.set i.cr.toNat (A6 (t+1)))
else
J2 L2 d e
def L2(L1:ir)(b:Int)(a:AG)(c:jb)(L2:mo)(e:iq)(d:Int):=
if decide (d<(a.AB.length:Int))then
if d==b then
J1 L2 e d a true
else
(Es a d b).bind λp=>
J1 L2 e d a p
else
J3 L1 b c e
def CC(L1:ir)(b:Int)(a:AG)(c:jb):Nat->(List Int)->Int->ABu Bool
|0,_,_=>none
|n+1,e,d=>L2 L1 b a c (CC L1 b a c n) e d
def L1(a:AG)(c:jb)(L1:ir)(b:Int):=
if decide (b<(a.AB.length:Int))then
if 0<=(a.cT.AA.length:Int)/\(a.cT.AA.length:Int)<=(a.cT.AA.length:Int)/\Am a.cT.AA.length 8=true then
CC L1 b a c BT (List.replicate a.cT.AA.length (0:Int)) 0
else none
else
J5
def AW(a:AG)(c:jb):Nat->Int->ABu Bool
|0,_=>none
|n+1,b=>L1 a c (AW a c n) b
end LU
section
open LU
def LU(f:Kk):=
(EM f 12).bind λa=>
(oK a).bind λc=>
if(c.length:Int) != (a.AB.length:Int)then
some false
else
AW a c BT 0
end
namespace D7
def J2(e:Bool):ABu Bool:=
some e
def J1(b:Int)(a:AG):=
(I8 a b).bind λl=>
(CT a b).bind λo=>
(HM l o).bind λp=>
if p then
(Gv).bind λq=>
J2 q
else
J2 false
def L1(b:Int)(a:AG)(L1:ir)(c:Int):=
if decide (c<=(a.AB.length:Int))then
(I8 a c).bind λf=>
(CT a c).bind λi=>
(HM f i).bind λj=>
if !j then
some false
else
L1 (A6 (c+1))
else
J1 b a
def AW(b:Int)(a:AG):Nat->Int->ABu Bool
|0,_=>none
|n+1,c=>L1 b a (AW b a n) c
end D7
variable{b:Int}
section
open D7
def D7(d:Kk)(b:Int):=
(EM d 16).bind λa=>
AW b a BT (-1)
theorem Vw(h:D7 i b=some r):Says prog 10 [.agg (Yx i),si b] (sb r):=by refine kO mix func10 (hn [(5,[10])]) ?_;have a1:= @JM;have a2:= @Ti;have a3:= @Se;have a4:= @Q8;have a5:= @Qj;have l1:=im λ_ _ _ _ n i=>∃a c,(i 1=si b/\i 5=bA 15 (A4 a)/\i 6=si c)/\AW b a n c=some r;unfold D7 at h;exact walk
end
end Go.Abs
