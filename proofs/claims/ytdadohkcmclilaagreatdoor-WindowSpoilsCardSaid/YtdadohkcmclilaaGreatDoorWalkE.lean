/- Typed programs of Go functions, and that the functions do what these say. -/
import Derived.Test.YtdadohkcmclilaaGreatDoorWalkA
import Derived.Test.YtdadohkcmclilaaGreatDoorWalkB
import Derived.Test.YtdadohkcmclilaaGreatDoorWalkC
import Derived.Shelf.Slices.SearchI
set_option linter.unusedSimpArgs false
set_option linter.unusedVariables false
namespace Go.Abs
open Go.Proofs
set_option maxRecDepth 1000000
set_option maxHeartbeats 4000000
namespace C6
def J2 (p:List AF) (l:Int):ABh (Int×(List AF)):=
some (l,p)
def J1 (L1:(List AF)->Int->Int->ABh (Int×(List AF))) (a:Int) (o:List AF) (j:Int):ABh (Int×(List AF)):=
L1 o j (Aq (a+1))
def L1 (c:Int) (b:List AF) (L1:(List AF)->Int->Int->ABh (Int×(List AF))) (d:List AF) (e a:Int):ABh (Int×(List AF)):=
if decide (a<(b.length:Int))then
(gt d a).bind λi=>
(FN i c).bind λq=>
if q then
J1 L1 a (d.set a.toNat (AF.mk 4 i.DC i.Atomic)) (Aq (e+1))
else
J1 L1 a d e
else
J2 d e
def AZ (c:Int) (b:List AF):Nat->(List AF)->Int->Int->ABh (Int×(List AF))
|0,_,_,_=>none
|n+1,d,e,a=>L1 c b (AZ c b n) d e a
end C6
section
open C6
def C6 (f:Int) (b:List AF) (c:Int):ABh (Int×(List AF)):=
AZ c b Bg b 0 0
theorem QA {f:Int} {b:List AF} {c:Int} {r:Int×(List AF)} (h:C6 f b c=some r):BM Tryz.prog 125 [.agg [.dead,si f,.dead,vO 3 Ax b],si c] (si r.1) [.agg [.dead,si f,.dead,vO 3 Ax r.2],.dead]:=by refine kL mix Tryz.func125 (hn [(0,[2,8,9,14,19,20,22,23])] (E:=[(0,(.YS [.bxv ⟨2,[],[0]⟩ 4 0,.o (iK 4 0)]))])) ?_;have a1:= @Ns;have l1:=λn1 n2 n3 n4:Nat=>A7 λn τ=>∃(d:List AF) (e a:Int) (us1:List Value),(τ 0= .agg [.dead,si f,.dead,vO 3 Ax d]/\τ 1=si c/\τ 2= .vb 0 0 us1/\τ 5=si e/\τ 9= .al 0 [(0,3,0)]/\τ 10=si (b.length:Int)/\τ 11=si a)/\AZ c b n d e a=some r;unfold C6 at h;exact walk
end
namespace DO
def J1 (e:AB):ABh AB:=
some e
def L1 (a:AB) (L1:AB->Int->ABh AB) (b:AB) (c:Int):ABh AB:=
if decide (c<(a.Sync.AG.length:Int))then
(gt a.Sync.AG c).bind λd=>
(slices_Clone_int d.Aj).bind λp=>
if Ap (b.Sync.AG.length+1) 32=true then
L1 (AB.mk (AQ.mk (b.Sync.AG++[(AX.mk d.CS p)]) b.Sync.Tx b.Sync.B4 b.Sync.AA) b.Cells b.AH b.Count) (Aq (c+1))
else none
else
J1 b
def AZ (a:AB):Nat->AB->Int->ABh AB
|0,_,_=>none
|n+1,b,c=>L1 a (AZ a n) b c
end DO
section
open DO
def DO (a:AB):ABh AB:=
(E3 a.Cells).bind λf=>
(E3 a.AH).bind λi=>
(slices_Clone_int a.Count).bind λj=>
(HE a.Sync.B4).bind λl=>
(EL a.Sync.AA).bind λo=>
AZ a Bg (AB.mk (AQ.mk [] a.Sync.Tx l o) f i j) 0
theorem Nd {a r:AB} (h:DO a=some r):Says Tryz.prog 33 [.agg (BH a)] (.agg (Et r)):=by refine kO mix Tryz.func33 (hn [(1,[6,9,12,16,17,19,20,23,24,29,30]),(3,[28,37,38,39,48,49,51]),(5,[40,42])]) ?_;have a1:= @Jp;have a2:= @G3;have a3:= @KZ;have a4:= @HC;have l1:=λn1 n2 n3 n4:Nat=>A7 λn τ=>∃(b:AB) (c:Int),(τ 2=bA 7 z0/\τ 3=bA 7 (Et b)/\τ 31=vS 2 Dk a.Sync.AG/\τ 32=si (a.Sync.AG.length:Int)/\τ 33=si c)/\AZ a n b c=some r;unfold DO at h;exact walk
end
namespace Dp
def J1 (d:Int):ABh (Int×Bool):=
some (d,true)
def J2 (e:Int):ABh (Int×Bool):=
some (e,true)
end Dp
section
open Dp
def Dp (c b a:Int):ABh (Int×Bool):=
if c==6 then
some (Aq (b+a),true)
else
if c==7 then
some (Aq (b-a),true)
else
if c==8 then
some (Aq (b*a),true)
else
if c==9 then
if a==0 then
some (0,true)
else
if¬a=0 then
some (Aq (b.tdiv a),true)
else none
else
if c==10 then
if a==0 then
some (0,true)
else
if¬a=0 then
some (b.tmod a,true)
else none
else
if c==11 then
(D3 (b==a)).bind λf=>
some (f,true)
else
if c==12 then
(D3 (b != a)).bind λi=>
some (i,true)
else
if c==13 then
(D3 (decide (b<a))).bind λj=>
some (j,true)
else
if c==14 then
(D3 (decide (b≤a))).bind λl=>
some (l,true)
else
if c==15 then
(D3 (decide (b>a))).bind λo=>
some (o,true)
else
if c==16 then
(D3 (decide (b≥a))).bind λp=>
some (p,true)
else
if c==17 then
if b != 0 then
(D3 (a != 0)).bind λq=>
J1 q
else
(D3 false).bind λs=>
J1 s
else
if c==18 then
if b != 0 then
(D3 true).bind λt=>
J2 t
else
(D3 (a != 0)).bind λu=>
J2 u
else
some (0,false)
theorem VD {c b a:Int} {r:Int×Bool} (h:Dp c b a=some r):Says Tryz.prog 197 [si c,si b,si a] (.BT [si r.1,sb r.2]):=by refine kO mix Tryz.func197 hn ?_;have a1:= @PA;unfold Dp at h;exact walk
end
namespace G0
def J1 (e:Bool):ABh Bool:=
some e
def J3 (f:Bool):ABh Bool:=
some f
def J2 (a:AK) (b:AB) (c:Bool):ABh Bool:=
if c then
some true
else
if a.Kind==18 then
(Cz b.Sync a.Obj).bind λd=>
if(d.length:Int)==0 then
some (a.Value==(-1))
else
if decide (a.Value≥0)then
if decide (a.Value<(b.Sync.AA.length:Int))then
(GQ d a.Value).bind λi=>
J3 i
else
J3 false
else
J3 false
else
if a.Kind==19 then
(Cz b.Sync a.Obj).bind λj=>
some (a.Value==(j.length:Int))
else
some (a.Value==0)
end G0
section
open G0
def G0 (b:AB) (a:AK):ABh Bool:=
if a.Kind==3 then
(gt b.Cells a.Obj).bind λl=>
some (a.Value==l)
else
if a.Kind==23 then
(gt b.AH a.Obj).bind λo=>
some (a.Value==o)
else
if a.Kind==5 then
if a.Value==0 then
J1 true
else
J1 (a.Value==1)
else
if a.Kind==4 then
J2 a b (a.Kind==4)
else
J2 a b (a.Kind==22)
theorem XS {b:AB} {a:AK} {r:Bool} (h:G0 b a=some r):Says Tryz.prog 102 [.agg (BH b),.agg (BQ a)] (sb r):=by refine kO mix Tryz.func102 (hn [(2,[12,23,45,62,63,78]),(3,[6,10,14,21,25,32,36,47,53,56,60,70,76,80,85]),(5,[50,69])] [(9,2)]) ?_;have a1:= @Mw;have a2:= @NU;have c2:=λn1 n2 n3 n4:Nat=>Bu 2 λτ=>∃(c:Bool),(τ 2=bA 7 (BH b)/\τ 3=bA 7 (BQ a)/\τ 7=si a.Kind/\τ 40=sb c)/\J2 a b c=some r;unfold G0 at h;exact walk
end
namespace Cx
def J1 (d:AB):ABh AB:=
some d
def L1 (a:AD) (L1:AB->Int->ABh AB) (b:AB) (c:Int):ABh AB:=
if decide (c<(a.Cells.length:Int))then
(gt a.Cells c).bind λf=>
if Ap (b.Cells.length+1) 8=true then
L1 (AB.mk b.Sync (b.Cells++[f.Init]) b.AH b.Count) (Aq (c+1))
else none
else
J1 b
def AZ (a:AD):Nat->AB->Int->ABh AB
|0,_,_=>none
|n+1,b,c=>L1 a (AZ a n) b c
end Cx
section
open Cx
def Cx (a:AD):ABh AB:=
(Dn a).bind λe=>
if 0≤0/\0≤(a.Cells.length:Int)/\Ap a.Cells.length 8=true then
if 0≤(a.AH.length:Int)/\(a.AH.length:Int)≤(a.AH.length:Int)/\Ap a.AH.length 8=true then
if 0≤(a.AA.length:Int)/\(a.AA.length:Int)≤(a.AA.length:Int)/\Ap a.AA.length 8=true then
AZ a Bg (AB.mk e [] (List.replicate a.AH.length 0) (List.replicate a.AA.length 0)) 0
else none
else none
else none
theorem Kp {a:AD} {r:AB} (h:Cx a=some r):Says Tryz.prog 31 [.agg (Az a)] (.agg (Et r)):=by refine kO mix Tryz.func31 (hn [(1,[8,12,16,21]),(3,[28,29,34,36]),(5,[30])]) ?_;have a1:= @Ux;have l1:=λn1 n2 n3 n4:Nat=>A7 λn τ=>∃(b:AB) (c:Int),(τ 2=bA 7 z0/\τ 3=bA 7 (Et b)/\τ 22=vS 5 Gd a.Cells/\τ 23=si (a.Cells.length:Int)/\τ 24=si c)/\AZ a n b c=some r;unfold Cx at h;exact walk
end
namespace EZ
def J2 (a:AU) (d:Int) (i:Bool):ABh Int:=
if i then
(gt a.Decls d).bind λp=>
some p.Kind
else
some 9
def J1 (a:AU) (b:ABi) (f:Bool):ABh Int:=
if f then
some 8
else
(Cr a.Decls b).bind λd=>
if decide (d<0)then
(Cp a.AA b).bind λl=>
if decide (l≥0)then
some 7
else
some 0
else
(gt a.Decls d).bind λc=>
if c.Kind==1 then
if c.CG != 0 then
some 2
else
some 1
else
if c.Kind==2 then
some 1
else
if c.Kind==3 then
J2 a d (c.Kind==3)
else
if c.Kind==4 then
J2 a d (c.Kind==4)
else
if c.Kind==5 then
J2 a d (c.Kind==5)
else
J2 a d (c.Kind==6)
end EZ
section
open EZ
def EZ (a:AU) (e:Int) (b:ABi):ABh Int:=
if decide (e≥0)then
if decide (e<(a.AA.length:Int))then
(gt a.AA e).bind λo=>
(CN o.Fh b).bind λj=>
J1 a b (decide (j≥0))
else
J1 a b false
else
J1 a b false
theorem U7 {a:AU} {e:Int} {b:ABi} {r:Int} (h:EZ a e b=some r):Says Tryz.prog 200 [.agg (CL a),si e,BZ b] (si r):=by refine kO mix Tryz.func200 (hn [(3,[12,18,28,34,39,47,61])] [(2,1)]) ?_;have a1:= @Iv;have a2:= @Jb;have a3:= @HK;have c1:=λn1 n2 n3 n4:Nat=>Bu 1 λτ=>∃(f:Bool),(τ 2=BZ b/\τ 3=bA 2 (CL a)/\τ 27=sb f)/\J1 a b f=some r;unfold EZ at h;exact walk
end
namespace EE
def J1 (a:AQ) (e:List AX):ABh AQ:=
(HE a.B4).bind λi=>
(EL a.AA).bind λj=>
some (AQ.mk e a.Tx i j)
def L1 (a:AQ) (L1:(List AX)->Int->ABh AQ) (c:List AX) (b:Int):ABh AQ:=
if decide (b<(a.AG.length:Int))then
(gt a.AG b).bind λd=>
(slices_Clone_int d.Aj).bind λf=>
(gt c b).bind λl=>
L1 (c.set b.toNat (AX.mk d.CS f)) (Aq (b+1))
else
J1 a c
def AZ (a:AQ):Nat->(List AX)->Int->ABh AQ
|0,_,_=>none
|n+1,c,b=>L1 a (AZ a n) c b
end EE
section
open EE
def EE (a:AQ):ABh AQ:=
if 0≤(a.AG.length:Int)/\(a.AG.length:Int)≤(a.AG.length:Int)/\Ap a.AG.length 32=true then
AZ a Bg (List.replicate a.AG.length (AX.mk 0 [])) 0
else none
theorem Uy {a r:AQ} (h:EE a=some r):Says Tryz.prog 119 [.agg (FK a)] (.agg (HO r)):=by refine kO mix Tryz.func119 (hn [(1,[6,7,10,11,16,17,29,30,31,33,34,35,37,38]),(3,[18,26,28]),(5,[20,22,23])]) ?_;have a1:= @KZ;have a2:= @HC;have a3:= @G3;have l1:=λn1 n2 n3 n4:Nat=>A7 λn τ=>∃(c:List AX) (b:Int),(τ 1=bA 4 (FK a)/\τ 2=bA 4 z3/\τ 3=vO 2 B6 c/\τ 11=vS 2 Dk a.AG/\τ 12=si (a.AG.length:Int)/\τ 13=si b)/\AZ a n c b=some r;unfold EE at h;exact walk
end
namespace D4
def J2 (j:List Int):ABh (List Int):=
some j
def L2 (a:List Int) (L2:(List Int)->Int->ABh (List Int)) (f:List Int) (d:Int):ABh (List Int):=
if decide (d<(a.length:Int))then
(gt a d).bind λq=>
(ET f q).bind λo=>
L2 o (Aq (d+1))
else
J2 f
def DI (a:List Int):Nat->(List Int)->Int->ABh (List Int)
|0,_,_=>none
|n+1,f,d=>L2 a (DI a n) f d
def J1 (a i:List Int):ABh (List Int):=
DI a Bg i 0
def L1 (b a:List Int) (L1:(List Int)->Int->ABh (List Int)) (e:List Int) (c:Int):ABh (List Int):=
if decide (c<(b.length:Int))then
(gt b c).bind λp=>
(ET e p).bind λl=>
L1 l (Aq (c+1))
else
J1 a e
def AZ (b a:List Int):Nat->(List Int)->Int->ABh (List Int)
|0,_,_=>none
|n+1,e,c=>L1 b a (AZ b a n) e c
end D4
section
open D4
def D4 (b a:List Int):ABh (List Int):=
AZ b a Bg [] 0
theorem PF {b a r:List Int} (h:D4 b a=some r):Says Tryz.prog 142 [vS 1 eI b,vS 1 eI a] (vO 1 eI r):=by refine kO mix Tryz.func142 (hn [(5,[14,26,32])]) ?_;have a1:= @aC;have l2:=λn1 n2 n3 n4:Nat=>A7 λn τ=>∃(f:List Int) (d:Int),(τ 1=vS 1 eI a/\τ 5=vO 1 eI f/\τ 7=si d)/\DI a n f d=some r;have l1:=λn1 n2 n3 n4:Nat=>A7 λn τ=>∃(e:List Int) (c:Int),(τ 0=vS 1 eI b/\τ 1=vS 1 eI a/\τ 5=vO 1 eI e/\τ 6=si c)/\AZ b a n e c=some r;unfold D4 at h;exact walk
end
namespace E2
def J2 (a:Ac) (c:Bool):ABh Int:=
if c then
some (-1)
else
some a.A
def J1 (a:Ac) (b:AM) (d:Bool):ABh Int:=
if d then
some a.B
else
if a.Op==7 then
(gt b.B5 a.C).bind λi=>
(GH i a.N).bind λe=>
some (Aq (a.B+e))
else
if a.Op==9 then
(gt b.B5 a.C).bind λj=>
(GH j a.N).bind λf=>
some (Aq (a.A+f))
else
if a.Op==10 then
J2 a (a.Op==10)
else
if a.Op==17 then
J2 a (a.Op==17)
else
if a.Op==18 then
J2 a (a.Op==18)
else
if a.Op==19 then
J2 a (a.Op==19)
else
if a.Op==20 then
J2 a (a.Op==20)
else
J2 a (a.Op==28)
end E2
section
open E2
def E2 (a:Ac) (b:AM):ABh Int:=
if a.Op==6 then
J1 a b (a.Op==6)
else
J1 a b (a.Op==27)
theorem VH {a:Ac} {b:AM} {r:Int} (h:E2 a b=some r):Says Tryz.prog 168 [.agg (EB a),.agg (Eu b)] (si r):=by refine kO mix Tryz.func168 (hn [(2,[5,10,14,18,22,28,32,36,47]),(3,[16,30])] [(3,1),(10,2)]) ?_;have a1:= @XG;have c2:=λn1 n2 n3 n4:Nat=>Bu 2 λτ=>∃(c:Bool),(τ 2=bA 6 (EB a)/\τ 40=sb c)/\J2 a c=some r;have c1:=λn1 n2 n3 n4:Nat=>Bu 1 λτ=>∃(d:Bool),(τ 2=bA 6 (EB a)/\τ 3=bA 4 (Eu b)/\τ 6=si a.Op/\τ 7=sb d)/\J1 a b d=some r;unfold E2 at h;exact walk
end
namespace Ga
def J1 (d:AB):ABh AB:=
some d
def L1 (a:AD) (L1:AB->Int->ABh AB) (b:AB) (c:Int):ABh AB:=
if decide (c<(a.Cells.length:Int))then
(gt a.Cells c).bind λf=>
if Ap (b.Cells.length+1) 8=true then
L1 (AB.mk b.Sync (b.Cells++[f.Init]) b.AH b.Count) (Aq (c+1))
else none
else
J1 b
def AZ (a:AD):Nat->AB->Int->ABh AB
|0,_,_=>none
|n+1,b,c=>L1 a (AZ a n) b c
end Ga
section
open Ga
def Ga (a:AD):ABh AB:=
(CP a).bind λe=>
if 0≤(a.AH.length:Int)/\(a.AH.length:Int)≤(a.AH.length:Int)/\Ap a.AH.length 8=true then
if 0≤(a.AA.length:Int)/\(a.AA.length:Int)≤(a.AA.length:Int)/\Ap a.AA.length 8=true then
AZ a Bg (AB.mk e [] (List.replicate a.AH.length 0) (List.replicate a.AA.length 0)) 0
else none
else none
theorem PJ {a:AD} {r:AB} (h:Ga a=some r):Says Tryz.prog 105 [.agg (Az a)] (.agg (Et r)):=by refine kO mix Tryz.func105 (hn [(1,[7,11,17,25]),(3,[23,24,33,34])]) ?_;have a1:= @PH;have l1:=λn1 n2 n3 n4:Nat=>A7 λn τ=>∃(b:AB) (c:Int),(τ 1=bA 6 (Az a)/\τ 2=bA 7 z0/\τ 3=bA 7 (Et b)/\τ 4=si c)/\AZ a n b c=some r;unfold Ga at h;exact walk
end
namespace ER
def J2:ABh Bool:=
some true
def L1 (a:AD) (L1:Int->ABh Bool) (b:Int):ABh Bool:=
if decide (b<(a.Af.length:Int))then
(gt a.Af b).bind λf=>
(DJ f.Mutex (a.AG.length:Int)).bind λe=>
if !e then
some false
else
L1 (Aq (b+1))
else
J2
def AZ (a:AD):Nat->Int->ABh Bool
|0,_=>none
|n+1,b=>L1 a (AZ a n) b
def J1 (a:AD) (d:Bool):ABh Bool:=
if d then
some false
else
AZ a Bg 0
end ER
section
open ER
def ER (a:AD) (c:AQ):ABh Bool:=
if(c.AG.length:Int) != (a.AG.length:Int)then
J1 a true
else
if(c.B4.length:Int) != (a.AH.length:Int)then
J1 a true
else
J1 a ((c.AA.length:Int) != (a.AA.length:Int))
theorem LN {a:AD} {c:AQ} {r:Bool} (h:ER a c=some r):Says Tryz.prog 91 [.agg (Az a),.agg (FK c)] (sb r):=by refine kO mix Tryz.func91 (hn [(2,[10,18,27,32,41]),(3,[7,15,24]),(6,[39])] [(2,1)]) ?_;have a1:= @Jz;have l1:=λn1 n2 n3 n4:Nat=>A7 λn τ=>∃(b:Int),(τ 2=bA 6 (Az a)/\τ 33=vS 2 Hf a.Af/\τ 34=si (a.Af.length:Int)/\τ 35=si b)/\AZ a n b=some r;have c1:=λn1 n2 n3 n4:Nat=>Bu 1 λτ=>∃(d:Bool),(τ 2=bA 6 (Az a)/\τ 31=sb d)/\J1 a d=some r;unfold ER at h;exact walk
end
namespace GJ
def J3:ABh Bool:=
some true
def J2 (L1:Int->ABh Bool) (a:Int):ABh Bool:=
L1 (Aq (a+1))
def J1 (L1:Int->ABh Bool) (a:Int) (l:Bool):ABh Bool:=
if l then
some false
else
J2 L1 a
def L1 (c:List Int) (d:Int) (b:AP) (L1:Int->ABh Bool) (a:Int):ABh Bool:=
if decide (a<(c.length:Int))then
(gt c a).bind λf=>
(gt b.Init.Count d).bind λi=>
if decide (f<i)then
J2 L1 a
else
(Ij b d (Aq (f-i))).bind λe=>
if decide (e<0)then
J1 L1 a true
else
(gt b.AE e).bind λj=>
if j.Kind != 3 then
J1 L1 a (j.Kind != 23)
else
J1 L1 a false
else
J3
def AZ (c:List Int) (d:Int) (b:AP):Nat->Int->ABh Bool
|0,_=>none
|n+1,a=>L1 c d b (AZ c d b n) a
end GJ
section
open GJ
def GJ (b:AP) (d:Int) (c:List Int):ABh Bool:=
AZ c d b Bg 0
theorem XX {b:AP} {d:Int} {c:List Int} {r:Bool} (h:GJ b d c=some r):Says Tryz.prog 53 [.agg (BW b),si d,vS 1 eI c] (sb r):=by refine kO mix Tryz.func53 (hn [(3,[19,20,32,33,43,51])]) ?_;have a1:= @aD;have l1:=λn1 n2 n3 n4:Nat=>A7 λn τ=>∃(a:Int),(τ 1=si d/\τ 2=vS 1 eI c/\τ 3=bA 15 (BW b)/\τ 7=si a)/\AZ c d b n a=some r;unfold GJ at h;exact walk
end
namespace D7
def J1 (e:List AK):ABh (List AK):=
some e
def L1 (a:List AK) (L1:(List AK)->Int->ABh (List AK)) (b:List AK) (c:Int):ABh (List AK):=
if decide (c<(a.length:Int))then
(gt a c).bind λd=>
(slices_Clone_int d.EI).bind λf=>
(slices_Clone_int d.Dr).bind λi=>
if Ap (b.length+1) 88=true then
L1 (b++[(AK.mk d.Thread d.Kind d.Obj d.Value d.Site f i)]) (Aq (c+1))
else none
else
J1 b
def AZ (a:List AK):Nat->(List AK)->Int->ABh (List AK)
|0,_,_=>none
|n+1,b,c=>L1 a (AZ a n) b c
end D7
section
open D7
def D7 (a:List AK):ABh (List AK):=
if 0≤0/\0≤(a.length:Int)/\Ap a.length 88=true then
AZ a Bg [] 0
else none
theorem PU {a r:List AK} (h:D7 a=some r):Says Tryz.prog 34 [vS 7 BQ a] (vO 7 It r):=by refine kO mix Tryz.func34 (hn [(3,[23,28]),(5,[15,16,18,19,21,22,24])]) ?_;have a1:= @G3;have l1:=λn1 n2 n3 n4:Nat=>A7 λn τ=>∃(b:List AK) (c:Int),(τ 3=vO 7 It b/\τ 9=vS 7 BQ a/\τ 10=si (a.length:Int)/\τ 11=si c)/\AZ a n b c=some r;unfold D7 at h;exact walk
end
namespace FH
def J1 (d:Ae):ABh Ae:=
some d
def L1 (a:Ae) (L1:Ae->Int->ABh Ae) (b:Ae) (c:Int):ABh Ae:=
if decide (c<(a.AA.length:Int))then
(gt a.AA c).bind λi=>
(DG i).bind λf=>
if Ap (b.AA.length+1) 64=true then
L1 (Ae.mk b.Sync b.Cells b.AH (b.AA++[f])) (Aq (c+1))
else none
else
J1 b
def AZ (a:Ae):Nat->Ae->Int->ABh Ae
|0,_,_=>none
|n+1,b,c=>L1 a (AZ a n) b c
end FH
section
open FH
def FH (a:Ae):ABh Ae:=
(Fp a.Sync).bind λe=>
if Ap (a.Cells.length) 8=true then
if Ap (a.AH.length) 8=true then
AZ a Bg (Ae.mk e a.Cells a.AH []) 0
else none
else none
theorem YN {a r:Ae} (h:FH a=some r):Says Tryz.prog 130 [.agg (Iz a)] (.agg (Ll r)):=by refine kO mix Tryz.func130 (hn [(1,[5,9,13,18,26]),(3,[24,25,34,35])]) ?_;have a1:= @Qe;have a2:= @Qd;have l1:=λn1 n2 n3 n4:Nat=>A7 λn τ=>∃(b:Ae) (c:Int),(τ 1=bA 7 (Iz a)/\τ 2=bA 7 z2/\τ 3=bA 7 (Ll b)/\τ 4=si c)/\AZ a n b c=some r;unfold FH at h;exact walk
end
namespace Bj
def J3:ABh Bool:=
some false
def J2 (L1:Int->Int->ABh Bool) (b f:Int):ABh Bool:=
L1 f (Aq (b+1))
def J1 (L1:Int->Int->ABh Bool) (c:Int) (a:List Ac) (b:Int) (i:Bool):ABh Bool:=
if i then
some false
else
(gt a c).bind λe=>
(FP e.Op).bind λj=>
if !j then
some true
else
if e.Op==5 then
J2 L1 b e.A
else
J2 L1 b (Aq (c+1))
def L1 (a:List Ac) (L1:Int->Int->ABh Bool) (c b:Int):ABh Bool:=
if decide (b≤(a.length:Int))then
if decide (c<0)then
J1 L1 c a b true
else
J1 L1 c a b (decide (c≥(a.length:Int)))
else
J3
def AZ (a:List Ac):Nat->Int->Int->ABh Bool
|0,_,_=>none
|n+1,c,b=>L1 a (AZ a n) c b
end Bj
section
open Bj
def Bj (a:List Ac) (d:Int):ABh Bool:=
AZ a Bg d 0
theorem XK {a:List Ac} {d:Int} {r:Bool} (h:Bj a d=some r):Says Tryz.prog 127 [vS 6 EB a,si d] (sb r):=by refine kO mix Tryz.func127 hn ?_;have a1:= @Nz;have l1:=λn1 n2 n3 n4:Nat=>A7 λn τ=>∃(c b:Int),(τ 0=vS 6 EB a/\τ 1=si c/\τ 5=si b)/\AZ a n c b=some r;unfold Bj at h;exact walk
end
namespace DD
def J1:ABh Bool:=
some false
def L1 (a:ABi) (b:List ABi) (L1:Int->ABh Bool) (c:Int):ABh Bool:=
if decide (c<(b.length:Int))then
(gt b c).bind λd=>
if d.toList==a.toList then
some true
else
L1 (Aq (c+1))
else
J1
def AZ (a:ABi) (b:List ABi):Nat->Int->ABh Bool
|0,_=>none
|n+1,c=>L1 a b (AZ a b n) c
end DD
section
open DD
def DD (a:ABi):ABh Bool:=
(JY).bind λb=>
AZ a b Bg 0
theorem RC {a:ABi} {r:Bool} (h:DD a=some r):Says Tryz.prog 135 [BZ a] (sb r):=by refine kO mix Tryz.func135 (hn [(3,[7,12,14])]) ?_;have a1:= @Sn;have l1:=λn1 n2 n3 n4:Nat=>A7 λn τ=>∃(b:List ABi) (c:Int),(τ 0=BZ a/\τ 3=vO 1 eS b/\τ 4=si c)/\AZ a b n c=some r;unfold DD at h;exact walk
end
namespace Fq
def J1 (c:Bool):ABh Bool:=
some c
end Fq
section
open Fq
def Fq (a b:AK):ABh Bool:=
if a.Thread==b.Thread then
if a.Kind==b.Kind then
if a.Obj==b.Obj then
if a.Value==b.Value then
if a.Site==b.Site then
(EK a.EI b.EI).bind λd=>
if d then
(EK a.Dr b.Dr).bind λe=>
J1 e
else
J1 false
else
J1 false
else
J1 false
else
J1 false
else
J1 false
else
J1 false
theorem RH {a b:AK} {r:Bool} (h:Fq a b=some r):Says Tryz.prog 46 [.agg (BQ a),.agg (BQ b)] (sb r):=by refine kO mix Tryz.func46 (hn [(2,[5,11,18,25,32,39,46]),(3,[7,13,20,27,34,41,48])]) ?_;have a1:= @Ly;unfold Fq at h;exact walk
end
def IP (a:AD):ABh AD:=
(Ik a.Cells).bind λb=>
(Im a.AG).bind λc=>
(Il a.Af).bind λd=>
(slices_Clone_string a.AH).bind λe=>
(slices_Clone_string a.AA).bind λf=>
(Io a.BL).bind λi=>
some (AD.mk b c d e f i)
theorem QN {a r:AD} (h:IP a=some r):Says Tryz.prog 32 [.agg (Az a)] (.agg (NK r)):=by refine kO mix Tryz.func32 (hn [(1,[3,6,9,12,15,18])]) ?_;have a1:= @MU;have a2:= @MX;have a3:= @MV;have a4:= @Na;have a5:= @MY;unfold IP at h;exact walk
namespace Hb
def J1 (c:Bool):ABh Bool:=
some c
end Hb
section
open Hb
def Hb (b:AD) (a:AB):ABh Bool:=
(Ee b a.Sync).bind λd=>
if d then
if(a.Cells.length:Int)==(b.Cells.length:Int)then
if(a.AH.length:Int)==(b.AH.length:Int)then
J1 ((a.Count.length:Int)==(b.AA.length:Int))
else
J1 false
else
J1 false
else
J1 false
theorem Qf {b:AD} {a:AB} {r:Bool} (h:Hb b a=some r):Says Tryz.prog 48 [.agg (Az b),.agg (BH a)] (sb r):=by refine kO mix Tryz.func48 (hn [(2,[13,22,31]),(3,[6,10,19,28])]) ?_;have a1:= @MR;unfold Hb at h;exact walk
end
namespace Ei
def J1 (e:Bool):ABh Bool:=
some e
end Ei
section
open Ei
def Ei (b:AD) (a c:Int):ABh Bool:=
(DL a (b.Cells.length:Int)).bind λf=>
if f then
(gt b.Cells a).bind λd=>
if d.Index==0 then
if d.CG != 0 then
J1 (d.CG==c)
else
J1 false
else
J1 false
else
J1 false
theorem XJ {b:AD} {a c:Int} {r:Bool} (h:Ei b a c=some r):Says Tryz.prog 164 [.agg (Az b),si a,si c] (sb r):=by refine kO mix Tryz.func164 (hn [(3,[8,13,22,31])]) ?_;have a1:= @PB;unfold Ei at h;exact walk
end
namespace FV
def J1 (d:Bool):ABh Bool:=
some d
end FV
section
open FV
def FV (b:AD) (a:Int) (c:Bool):ABh Bool:=
(Es a (b.AG.length:Int)).bind λe=>
if e then
(gt b.AG a).bind λf=>
J1 (f.RW==c)
else
J1 false
theorem Rk {b:AD} {a:Int} {c r:Bool} (h:FV b a c=some r):Says Tryz.prog 89 [.agg (Az b),si a,sb c] (sb r):=by refine kO mix Tryz.func89 (hn [(3,[8,13])]) ?_;have a1:= @Rl;unfold FV at h;exact walk
end
namespace Fv
def J1 (c:Bool):ABh Bool:=
some c
end Fv
section
open Fv
def Fv (b:AP) (a:Int):ABh Bool:=
(Ko a (b.Init.Count.length:Int)).bind λd=>
if d then
(gt b.Init.Count a).bind λe=>
J1 (decide (e≥1))
else
J1 false
theorem XW {b:AP} {a:Int} {r:Bool} (h:Fv b a=some r):Says Tryz.prog 98 [.agg (BW b),si a] (sb r):=by refine kO mix Tryz.func98 (hn [(2,[6,7,12,13])]) ?_;have a1:= @UY;unfold Fv at h;exact walk
end
namespace Gs
def J1 (b:Bool):ABh Bool:=
some b
end Gs
section
open Gs
def Gs (a:Int):ABh Bool:=
(FO a).bind λc=>
if c then
J1 true
else
(HI a).bind λd=>
if d then
J1 true
else
J1 (a==95)
theorem XA {a:Int} {r:Bool} (h:Gs a=some r):Says Tryz.prog 136 [.sc (.int .u8 a)] (sb r):=by refine kO mix Tryz.func136 hn ?_;have a1:= @Nv;have a2:= @W7;unfold Gs at h;exact walk
end
def Dg (a:AO) (b:ABi):ABh (Bool×AO):=
(CN a.held b).bind λc=>
some (decide (c≥0),a)
theorem P8 {a:AO} {b:ABi} {r:Bool×AO} (h:Dg a b=some r):BM Tryz.prog 157 [bA 8 (CR a),BZ b] (sb r.1) [bA 8 (CR r.2),.dead]:=by refine kL mix Tryz.func157 (hn [(0,[5,6,7,8])]) ?_;have a1:= @HK;unfold Dg at h;exact walk
def Ht (b a:Int):ABh (Int×Bool):=
if b==4 then
some (Aq (0-a),true)
else
if b==5 then
(D3 (a==0)).bind λc=>
some (c,true)
else
some (0,false)
theorem XH {b a:Int} {r:Int×Bool} (h:Ht b a=some r):Says Tryz.prog 195 [si b,si a] (.BT [si r.1,sb r.2]):=by refine kO mix Tryz.func195 hn ?_;have a1:= @PA;unfold Ht at h;exact walk
def Gk (a:List Int) (b:Int):ABh Bool:=
(FQ a b).bind λc=>
some (decide (c≥0))
theorem RN {a:List Int} {b:Int} {r:Bool} (h:Gk a b=some r):Says Tryz.prog 159 [vS 1 eI a,si b] (sb r):=by refine kO mix Tryz.func159 hn ?_;have a1:= @VK;unfold Gk at h;exact walk
end Go.Abs
