/- Typed programs of Go functions, and that the functions do what these say. -/
import Derived.Test.YthmijagacgnmkaaGreatDoorBaseA
set_option linter.unusedSimpArgs false
set_option linter.unusedVariables false
namespace Go.Abs
open Go.Proofs
set_option maxRecDepth 1000000
set_option maxHeartbeats 4000000
namespace CG
def J2:AB8 Bool:=
some true
def J1 (L1:Int->AB8 Bool) (b:Int) (c:Bool):AB8 Bool:=
if c then
some false
else
L1 (A1 (b+1))
def L1 (a:AB) (L1:Int->AB8 Bool) (b:Int):AB8 Bool:=
if decide (b<(a.Sync.Bp.length:Int))then
(gt a.Sync.Bp b).bind λd=>
if !d then
(gt a.AK b).bind λe=>
J1 L1 b (e != 0)
else
J1 L1 b false
else
J2
def AZ (a:AB):Nat->Int->AB8 Bool
|0,_=>none
|n+1,b=>L1 a (AZ a n) b
end CG
section
open CG
def CG (a:AB):AB8 Bool:=
AZ a BP 0
theorem Of {a:AB} {r:Bool} (h:CG a=some r):Says Tryz.prog 85 [.agg (A3 a)] (sb r):=by refine kO mix Tryz.func85 (hn [(1,[5,6,17])]) ?_;have l1:=λn1 n2 n3 n4:Nat=>Av λn τ=>∃(b:Int),(τ 1=bA 7 (A3 a)/\τ 7=vS 1 eB a.Sync.Bp/\τ 8=si (a.Sync.Bp.length:Int)/\τ 9=si b)/\AZ a n b=some r;unfold CG at h;exact walk
end
namespace Em
def J1 (e:List C6):AB8 (List C6):=
some e
def L1 (a:List Int) (L1:(List C6)->Int->AB8 (List C6)) (c:List C6) (b:Int):AB8 (List C6):=
if decide (b<(a.length:Int))then
(gt a b).bind λd=>
if Ak (c.length+1) 16=true then
L1 (c++[(C6.mk ((A1 d).tmod 4) (A1 (((A1 ((A1 d).tdiv 4)).tmod 5)-1)))]) (A1 (b+1))
else none
else
J1 c
def AZ (a:List Int):Nat->(List C6)->Int->AB8 (List C6)
|0,_,_=>none
|n+1,c,b=>L1 a (AZ a n) c b
end Em
section
open Em
def Em (a:List Int):AB8 (List C6):=
AZ a BP [] 0
theorem V6 {a:List Int} {r:List C6} (h:Em a=some r):Says Tryz.prog 108 [vS 1 Ww a] (vO 2 JT r):=by refine kO mix Tryz.func108 (hn [(3,[11,29])]) ?_;have l1:=λn1 n2 n3 n4:Nat=>Av λn τ=>∃(c:List C6) (b:Int),(τ 0=vS 1 Ww a/\τ 3=vO 2 JT c/\τ 4=si b)/\AZ a n c b=some r;unfold Em at h;exact walk
end
namespace CQ
def J1 (a:A9):AB8 (Int×A9):=
some ((-1),a)
def L1 (a:A9) (b:AB9) (L1:Int->AB8 (Int×A9)) (c:Int):AB8 (Int×A9):=
if decide (c<(a.w.Af.length:Int))then
(gt a.w.Af c).bind λd=>
if d.Name.toList==b.toList then
some (c,a)
else
L1 (A1 (c+1))
else
J1 a
def AZ (a:A9) (b:AB9):Nat->Int->AB8 (Int×A9)
|0,_=>none
|n+1,c=>L1 a b (AZ a b n) c
end CQ
section
open CQ
def CQ (a:A9) (b:AB9):AB8 (Int×A9):=
AZ a b BP 0
theorem T9 {a:A9} {b:AB9} {r:Int×A9} (h:CQ a b=some r):BA Tryz.prog 243 [bA 10 (EV a),BZ b] (si r.1) [bA 10 (EV r.2),.dead]:=by refine kL mix Tryz.func243 (hn [(0,[7,8,9,10,11,16,17,18,19,20,22,23])]) ?_;have l1:=λn1 n2 n3 n4:Nat=>Av λn τ=>∃(c:Int),(τ 0=bA 10 (EV a)/\τ 1=BZ b/\τ 5=si c)/\AZ a b n c=some r;unfold CQ at h;exact walk
end
namespace KA
def J2:AB8 Int:=
some (-1)
def J1 (L1:Int->Int->AB8 Int) (a f:Int):AB8 Int:=
L1 f (A1 (a+1))
def L1 (c:Int) (b:AO) (L1:Int->Int->AB8 Int) (d a:Int):AB8 Int:=
if decide (a<(b.AF.length:Int))then
(gt b.AF a).bind λi=>
if i.Thread==c then
if d==0 then
some a
else
J1 L1 a (A1 (d-1))
else
J1 L1 a d
else
J2
def AZ (c:Int) (b:AO):Nat->Int->Int->AB8 Int
|0,_,_=>none
|n+1,d,a=>L1 c b (AZ c b n) d a
end KA
section
open KA
def KA (b:AO) (c e:Int):AB8 Int:=
AZ c b BP e 0
theorem eT {b:AO} {c e r:Int} (h:KA b c e=some r):Says Tryz.prog 144 [.agg (BV b),si c,si e] (si r):=by refine kO mix Tryz.func144 (hn [(3,[9,15])]) ?_;have l1:=λn1 n2 n3 n4:Nat=>Av λn τ=>∃(d a:Int),(τ 1=si c/\τ 2=si d/\τ 3=bA 15 (BV b)/\τ 7=si a)/\AZ c b n d a=some r;unfold KA at h;exact walk
end
namespace CB
def J1 (c:Bool):AB8 Bool:=
some c
end CB
section
open CB
def CB (b:Int) (a:AO):AB8 Bool:=
if decide (b≥0)then
if decide (b<(a.Init.Count.length:Int))then
(gt a.Init.Count b).bind λd=>
J1 (decide (d≥1))
else
J1 false
else
J1 false
theorem NY {b:Int} {a:AO} {r:Bool} (h:CB b a=some r):Says Tryz.prog 141 [si b,.fp [vS 5 Gx a.World.Cells,vS 2 Hu a.World.AE,vS 2 Ht a.World.Af,vS 1 eS a.World.AK,vS 1 eS a.World.AA,vS 3 GX a.World.BL,si a.Start,vS 2 DS a.Init.Sync.AE,si a.Init.Sync.Tx,vS 1 eB a.Init.Sync.Bp,vS 3 An a.Init.Sync.AA,vS 1 eI a.Init.Cells,vS 1 eI a.Init.AK,vS 1 eI a.Init.Count,vS 7 BX a.AF]] (sb r):=by refine kO mix Tryz.func141 hn ?_;unfold CB at h;exact walk
end
namespace E4
def J1:AB8 Bool:=
some true
def L1 (a b:List Int) (L1:Int->AB8 Bool) (c:Int):AB8 Bool:=
if decide (c<(a.length:Int))then
(gt a c).bind λd=>
(gt b c).bind λe=>
if d != e then
some false
else
L1 (A1 (c+1))
else
J1
def AZ (a b:List Int):Nat->Int->AB8 Bool
|0,_=>none
|n+1,c=>L1 a b (AZ a b n) c
end E4
section
open E4
def E4 (a b:List Int):AB8 Bool:=
if(a.length:Int) != (b.length:Int)then
some false
else
AZ a b BP 0
theorem Se {a b:List Int} {r:Bool} (h:E4 a b=some r):Says Tryz.prog 72 [vS 1 eI a,vS 1 eI b] (sb r):=by refine kO mix Tryz.func72 hn ?_;have l1:=λn1 n2 n3 n4:Nat=>Av λn τ=>∃(c:Int),(τ 0=vS 1 eI a/\τ 1=vS 1 eI b/\τ 5=si c)/\AZ a b n c=some r;unfold E4 at h;exact walk
end
namespace HC
def J1:AB8 Bool:=
some true
def L1 (a b:List Int) (L1:Int->AB8 Bool) (c:Int):AB8 Bool:=
if decide (c<(a.length:Int))then
(gt a c).bind λd=>
(gt b c).bind λe=>
if d != e then
some false
else
L1 (A1 (c+1))
else
J1
def AZ (a b:List Int):Nat->Int->AB8 Bool
|0,_=>none
|n+1,c=>L1 a b (AZ a b n) c
end HC
section
open HC
def HC (a b:List Int):AB8 Bool:=
if(a.length:Int) != (b.length:Int)then
some false
else
AZ a b BP 0
theorem QF {a b:List Int} {r:Bool} (h:HC a b=some r):Says Tryz.prog 30 [vS 1 eI a,vS 1 eI b] (sb r):=by refine kO mix Tryz.func30 hn ?_;have l1:=λn1 n2 n3 n4:Nat=>Av λn τ=>∃(c:Int),(τ 0=vS 1 eI a/\τ 1=vS 1 eI b/\τ 12=si (a.length:Int)/\τ 13=si c)/\AZ a b n c=some r;unfold HC at h;exact walk
end
namespace ET
def J1:AB8 Bool:=
some true
def L1 (a b:List Int) (L1:Int->AB8 Bool) (c:Int):AB8 Bool:=
if decide (c<(a.length:Int))then
(gt a c).bind λd=>
(gt b c).bind λe=>
if d != e then
some false
else
L1 (A1 (c+1))
else
J1
def AZ (a b:List Int):Nat->Int->AB8 Bool
|0,_=>none
|n+1,c=>L1 a b (AZ a b n) c
end ET
section
open ET
def ET (a b:List Int):AB8 Bool:=
if(a.length:Int) != (b.length:Int)then
some false
else
AZ a b BP 0
theorem KS {a b:List Int} {r:Bool} (h:ET a b=some r):Says Tryz.prog 73 [vS 1 eI a,vS 1 eI b] (sb r):=by refine kO mix Tryz.func73 hn ?_;have l1:=λn1 n2 n3 n4:Nat=>Av λn τ=>∃(c:Int),(τ 0=vS 1 eI a/\τ 1=vS 1 eI b/\τ 5=si c)/\AZ a b n c=some r;unfold ET at h;exact walk
end
namespace Cu
def J1:AB8 Int:=
some (-1)
def L1 (a:List Co) (b:AB9) (L1:Int->AB8 Int) (c:Int):AB8 Int:=
if decide (c<(a.length:Int))then
(gt a c).bind λd=>
if d.Name.toList==b.toList then
some c
else
L1 (A1 (c+1))
else
J1
def AZ (a:List Co) (b:AB9):Nat->Int->AB8 Int
|0,_=>none
|n+1,c=>L1 a b (AZ a b n) c
end Cu
section
open Cu
def Cu (a:List Co) (b:AB9):AB8 Int:=
AZ a b BP 0
theorem KR {a:List Co} {b:AB9} {r:Int} (h:Cu a b=some r):Says Tryz.prog 238 [vS 4 Iv a,BZ b] (si r):=by refine kO mix Tryz.func238 hn ?_;have l1:=λn1 n2 n3 n4:Nat=>Av λn τ=>∃(c:Int),(τ 0=vS 4 Iv a/\τ 1=BZ b/\τ 5=si c)/\AZ a b n c=some r;unfold Cu at h;exact walk
end
namespace Bj
def J1:AB8 Int:=
some (-1)
def L1 (b:AB9) (a:AD) (L1:Int->AB8 Int) (c:Int):AB8 Int:=
if decide (c<(a.Cells.length:Int))then
(gt a.Cells c).bind λd=>
if d.Name.toList==b.toList then
some c
else
L1 (A1 (c+1))
else
J1
def AZ (b:AB9) (a:AD):Nat->Int->AB8 Int
|0,_=>none
|n+1,c=>L1 b a (AZ b a n) c
end Bj
section
open Bj
def Bj (a:AD) (b:AB9):AB8 Int:=
AZ b a BP 0
theorem Ox {a:AD} {b:AB9} {r:Int} (h:Bj a b=some r):Says Tryz.prog 261 [.agg (Ah a),BZ b] (si r):=by refine kO mix Tryz.func261 (hn [(2,[7,13])]) ?_;have l1:=λn1 n2 n3 n4:Nat=>Av λn τ=>∃(c:Int),(τ 1=BZ b/\τ 2=bA 6 (Ah a)/\τ 5=si c)/\AZ b a n c=some r;unfold Bj at h;exact walk
end
namespace Dm
def J1:AB8 Bool:=
some false
def L1 (a:AB9) (L1:Int->AB8 Bool) (b:Int):AB8 Bool:=
if decide (b<22)then
if b<22 then
(gt Lz b).bind λc=>
if a.toList==c.toList then
some true
else
L1 (A1 (b+1))
else none
else
J1
def AZ (a:AB9):Nat->Int->AB8 Bool
|0,_=>none
|n+1,b=>L1 a (AZ a n) b
end Dm
section
open Dm
def Dm (a:AB9):AB8 Bool:=
AZ a BP 0
theorem Sm {a:AB9} {r:Bool} (h:Dm a=some r):Says Tryz.prog 202 [BZ a] (sb r):=by refine kO mix Tryz.func202 (hn (E:=[(1,(.Wc [.gld ⟨5,[],[]⟩ 0 22,.o (iU 6 0)]))])) ?_;have l1:=λn1 n2 n3 n4:Nat=>Av λn τ=>∃(b:Int),(τ 0=BZ a/\τ 5= .agg (Lz.map BZ)/\τ 6=si b)/\AZ a n b=some r;unfold Dm at h;exact walk
end
namespace Cw
def J1:AB8 Int:=
some (-1)
def L1 (a:List Eg) (b:AB9) (L1:Int->AB8 Int) (c:Int):AB8 Int:=
if decide (c<(a.length:Int))then
(gt a c).bind λd=>
if d.Name.toList==b.toList then
some c
else
L1 (A1 (c+1))
else
J1
def AZ (a:List Eg) (b:AB9):Nat->Int->AB8 Int
|0,_=>none
|n+1,c=>L1 a b (AZ a b n) c
end Cw
section
open Cw
def Cw (a:List Eg) (b:AB9):AB8 Int:=
AZ a b BP 0
theorem JW {a:List Eg} {b:AB9} {r:Int} (h:Cw a b=some r):Says Tryz.prog 237 [vS 6 KG a,BZ b] (si r):=by refine kO mix Tryz.func237 hn ?_;have l1:=λn1 n2 n3 n4:Nat=>Av λn τ=>∃(c:Int),(τ 0=vS 6 KG a/\τ 1=BZ b/\τ 5=si c)/\AZ a b n c=some r;unfold Cw at h;exact walk
end
namespace Dy
def J1:AB8 Int:=
some (-1)
def L1 (a:List Ia) (b:AB9) (L1:Int->AB8 Int) (c:Int):AB8 Int:=
if decide (c<(a.length:Int))then
(gt a c).bind λd=>
if d.Name.toList==b.toList then
some c
else
L1 (A1 (c+1))
else
J1
def AZ (a:List Ia) (b:AB9):Nat->Int->AB8 Int
|0,_=>none
|n+1,c=>L1 a b (AZ a b n) c
end Dy
section
open Dy
def Dy (a:List Ia) (b:AB9):AB8 Int:=
AZ a b BP 0
theorem O0 {a:List Ia} {b:AB9} {r:Int} (h:Dy a b=some r):Says Tryz.prog 218 [vS 2 Hu a,BZ b] (si r):=by refine kO mix Tryz.func218 hn ?_;have l1:=λn1 n2 n3 n4:Nat=>Av λn τ=>∃(c:Int),(τ 0=vS 2 Hu a/\τ 1=BZ b/\τ 5=si c)/\AZ a b n c=some r;unfold Dy at h;exact walk
end
namespace CP
def J1:AB8 Int:=
some (-1)
def L1 (a:List AB9) (b:AB9) (L1:Int->AB8 Int) (c:Int):AB8 Int:=
if decide (c<(a.length:Int))then
(gt a c).bind λd=>
if d.toList==b.toList then
some c
else
L1 (A1 (c+1))
else
J1
def AZ (a:List AB9) (b:AB9):Nat->Int->AB8 Int
|0,_=>none
|n+1,c=>L1 a b (AZ a b n) c
end CP
section
open CP
def CP (a:List AB9) (b:AB9):AB8 Int:=
AZ a b BP 0
theorem Hx {a:List AB9} {b:AB9} {r:Int} (h:CP a b=some r):Says Tryz.prog 126 [vS 1 eS a,BZ b] (si r):=by refine kO mix Tryz.func126 hn ?_;have l1:=λn1 n2 n3 n4:Nat=>Av λn τ=>∃(c:Int),(τ 0=vS 1 eS a/\τ 1=BZ b/\τ 5=si c)/\AZ a b n c=some r;unfold CP at h;exact walk
end
namespace GG
def J1:AB8 Int:=
some (-1)
def L1 (a:List Int) (b:Int) (L1:Int->AB8 Int) (c:Int):AB8 Int:=
if decide (c<(a.length:Int))then
(gt a c).bind λd=>
if b==d then
some c
else
L1 (A1 (c+1))
else
J1
def AZ (a:List Int) (b:Int):Nat->Int->AB8 Int
|0,_=>none
|n+1,c=>L1 a b (AZ a b n) c
end GG
section
open GG
def GG (a:List Int) (b:Int):AB8 Int:=
AZ a b BP 0
theorem Wg {a:List Int} {b r:Int} (h:GG a b=some r):Says Tryz.prog 190 [vS 1 eI a,si b] (si r):=by refine kO mix Tryz.func190 hn ?_;have l1:=λn1 n2 n3 n4:Nat=>Av λn τ=>∃(c:Int),(τ 0=vS 1 eI a/\τ 1=si b/\τ 7=si (a.length:Int)/\τ 8=si c)/\AZ a b n c=some r;unfold GG at h;exact walk
end
namespace DW
def J2 (d:Bool):AB8 Bool:=
some d
def J1 (a:AG) (b:AD) (c:Bool):AB8 Bool:=
if c then
some (a.Site==(-1))
else
if decide (a.Site≥0)then
if decide (a.Site<(b.BL.length:Int))then
(gt b.BL a.Site).bind λe=>
J2 (e.Thread==a.Thread)
else
J2 false
else
J2 false
end DW
section
open DW
def DW (b:AD) (a:AG):AB8 Bool:=
if a.Kind==1 then
J1 a b true
else
J1 a b (a.Kind==2)
theorem QS {b:AD} {a:AG} {r:Bool} (h:DW b a=some r):Says Tryz.prog 55 [.agg (Ah b),.agg (BX a)] (sb r):=by refine kO mix Tryz.func55 (hn [(2,[22,28]),(3,[5,9,13,16,20,30,35])]) ?_;unfold DW at h;exact walk
end
namespace EA
def J3 (d:Bool):AB8 Int:=
if d then
some 2
else
some (-1)
def J2 (a:Int) (c:Bool):AB8 Int:=
if c then
some 1
else
if decide (a≥6)then
J3 (decide (a≤18))
else
J3 false
def J1 (a:Int) (b:Bool):AB8 Int:=
if b then
some 0
else
if decide (a≥3)then
J2 a (decide (a≤5))
else
J2 a false
end EA
section
open EA
def EA (a:Int):AB8 Int:=
if a==1 then
J1 a true
else
J1 a (a==2)
theorem T2 {a r:Int} (h:EA a=some r):Says Tryz.prog 268 [si a] (si r):=by refine kO mix Tryz.func268 (hn (Q:=[(2,1)])) ?_;have c1:=λn1 n2 n3 n4:Nat=>Bm 1 λτ=>∃(b:Bool),(τ 0=si a/\τ 3=sb b)/\J1 a b=some r;unfold EA at h;exact walk
end
namespace G6
def J1:AB8 Bool:=
some false
def L1 (a:List Int) (b:Int) (L1:Int->AB8 Bool) (c:Int):AB8 Bool:=
if decide (c<(a.length:Int))then
(gt a c).bind λd=>
if d==b then
some true
else
L1 (A1 (c+1))
else
J1
def AZ (a:List Int) (b:Int):Nat->Int->AB8 Bool
|0,_=>none
|n+1,c=>L1 a b (AZ a b n) c
end G6
section
open G6
def G6 (a:List Int) (b:Int):AB8 Bool:=
AZ a b BP 0
theorem OU {a:List Int} {b:Int} {r:Bool} (h:G6 a b=some r):Says Tryz.prog 100 [vS 1 eI a,si b] (sb r):=by refine kO mix Tryz.func100 hn ?_;have l1:=λn1 n2 n3 n4:Nat=>Av λn τ=>∃(c:Int),(τ 0=vS 1 eI a/\τ 1=si b/\τ 5=si c)/\AZ a b n c=some r;unfold G6 at h;exact walk
end
namespace Ae
def J1 (b:Int) (a:AU) (c:Bool):AB8 (Int×AU):=
if c then
some (0,a)
else
(gt a.L (A1 ((A1 (a.At+1))-1))).bind λd=>
if¬b=0 then
some ((A1 d).tmod b,(AU.mk a.L (A1 (a.At+1))))
else none
end Ae
section
open Ae
def Ae (a:AU) (b:Int):AB8 (Int×AU):=
if decide (a.At≥(a.L.length:Int))then
J1 b a true
else
J1 b a (decide (b<1))
theorem Cp {a:AU} {b:Int} {r:Int×AU} (h:Ae a b=some r):BA Tryz.prog 104 [bA 2 (FE a),si b] (si r.1) [bA 2 (FE r.2),.dead]:=by refine kL mix Tryz.func104 (hn [(0,[5,6,7,9,10,11,12,19,20,21,24,25,26,27,28,29,30,31,32,35])]) ?_;unfold Ae at h;exact walk
end
def Ew:AB8 (List Eg):=
some [(Eg.mk 1 0 (⟨#[120]⟩:AB9) 0 0 (⟨#[]⟩:AB9)),(Eg.mk 1 0 (⟨#[121]⟩:AB9) 0 1 (⟨#[]⟩:AB9)),(Eg.mk 2 0 (⟨#[118]⟩:AB9) 0 0 (⟨#[]⟩:AB9)),(Eg.mk 1 0 (⟨#[113]⟩:AB9) 2 0 (⟨#[]⟩:AB9)),(Eg.mk 3 0 (⟨#[109]⟩:AB9) 0 0 (⟨#[]⟩:AB9)),(Eg.mk 3 0 (⟨#[110]⟩:AB9) 0 0 (⟨#[]⟩:AB9)),(Eg.mk 4 0 (⟨#[114]⟩:AB9) 0 0 (⟨#[]⟩:AB9)),(Eg.mk 5 0 (⟨#[99]⟩:AB9) 0 0 (⟨#[109]⟩:AB9)),(Eg.mk 6 0 (⟨#[102]⟩:AB9) 0 0 (⟨#[]⟩:AB9))]
theorem RT {r:List Eg} (h:Ew=some r):Says Tryz.prog 186 [] (vO 6 KG r):=by refine kO mix Tryz.func186 hn ?_;unfold Ew at h;exact walk
def A6 (a:A9) (b:Ac):AB8 A9:=
if Ak (a.out.length+1) 48=true then
some (A9.mk a.w a.locals (a.out++[(Ac.mk b.Op b.A b.B b.C b.N a.site)]) a.site a.next)
else none
theorem G5 {a:A9} {b:Ac} {r:A9} (h:A6 a b=some r):BA Tryz.prog 184 [bA 10 (EV a),.agg (EN b)] (.BM []) [bA 10 (EV r),.dead]:=by refine kL mix Tryz.func184 (hn [(0,[4,5,6,10,11,12,13,17,18]),(3,[8])] (E:=[(2,(.aY [(0,0,8,9)] [i0 9 .fl,i1 10 0 (.cp (.t 0)),i1 11 0 (.KK (.t 10)),Ll 12 0 7 11,Zm 13 0 12,iA 14 6 3,i0 15 (.Na 6 [z20] [(0,.t 14)]),i0 16 (.app 6 48 (.t 13) (.t 15)),i1 17 0 (.KK (.t 0)),Ll 18 0 7 17,iS 1 18 16]))])) ?_;unfold A6 at h;exact walk
namespace Hw
def J1 (b:Bool):AB8 Bool:=
some b
end Hw
section
open Hw
def Hw (a:BB):AB8 Bool:=
if a.Op==0 then
if a.N==0 then
if a.Name.toList==(⟨#[]⟩:AB9).toList then
J1 ((a.L.length:Int)==0)
else
J1 false
else
J1 false
else
J1 false
theorem Ye {a:BB} {r:Bool} (h:Hw a=some r):Says Tryz.prog 264 [.agg [si a.Op,si a.N,BZ a.Name,vS 4 BD a.L]] (sb r):=by refine kO mix Tryz.func264 (hn [(1,[3,7,12,17])]) ?_;unfold Hw at h;exact walk
end
namespace GC
def J1 (b:Bool):AB8 Bool:=
some b
end GC
section
open GC
def GC (a:Int):AB8 Bool:=
if decide (a≥97)then
if decide (a≤122)then
J1 true
else
if decide (a≥65)then
J1 (decide (a≤90))
else
J1 false
else
if decide (a≥65)then
J1 (decide (a≤90))
else
J1 false
theorem Ov {a:Int} {r:Bool} (h:GC a=some r):Says Tryz.prog 167 [.sc (.int .u8 a)] (sb r):=by refine kO mix Tryz.func167 hn ?_;unfold GC at h;exact walk
end
namespace II
def J1 (a:Int) (b:Bool):AB8 Int:=
if b then
some 0
else
(gt [3,3,4,4,5,6,7,8,9,10,11,12,13,14,15,16,18,19,20,21,22,23,2] (A1 (a-6))).bind λc=>
some c
end II
section
open II
def II (a:Int):AB8 Int:=
if decide (a<6)then
J1 a true
else
J1 a (decide (a>28))
theorem Z2 {a r:Int} (h:II a=some r):Says Tryz.prog 231 [si a] (si r):=by refine kO mix Tryz.func231 (hn [(3,[11,14])]) ?_;unfold II at h;exact walk
end
def E2 (b:AB9) (a:BB):AB8 AQ:=
some (AQ.mk 1 0 b (⟨#[]⟩:AB9) [] a [] [])
theorem Pu {b:AB9} {a:BB} {r:AQ} (h:E2 b a=some r):Says Tryz.prog 188 [BZ b,.agg [si a.Op,si a.N,BZ a.Name,vS 4 BD a.L]] (.agg [si r.Op,si r.FA,BZ r.Name,BZ r.Arg,vS 4 BD r.Index,si r.Expr.Op,si r.Expr.N,BZ r.Expr.Name,vS 4 BD r.Expr.L,vS 11 A7 r.Body,vS 11 A7 r.Else]):=by refine kF mix Tryz.func188 hn ?_;unfold E2 at h;exact walk
namespace Gy
def J1 (c:Int):AB8 Int:=
some c
end Gy
section
open Gy
def Gy (b a:Int):AB8 Int:=
if decide (a<1)then
some 0
else
if¬a=0 then
if decide ((b.tmod a)<0)then
J1 (A1 ((b.tmod a)+a))
else
J1 (b.tmod a)
else none
theorem Yj {b a r:Int} (h:Gy b a=some r):Says Tryz.prog 251 [si b,si a] (si r):=by refine kO mix Tryz.func251 hn ?_;unfold Gy at h;exact walk
end
namespace GA
def J1 (c:Bool):AB8 Bool:=
some c
end GA
section
open GA
def GA (a:AH) (b:Int):AB8 Bool:=
if a.Status==3 then
J1 (a.D7==b)
else
J1 false
theorem Oq {a:AH} {b:Int} {r:Bool} (h:GA a b=some r):Says Tryz.prog 164 [.agg (An a),si b] (sb r):=by refine kO mix Tryz.func164 (hn [(2,[5,9])]) ?_;unfold GA at h;exact walk
end
namespace Ej
def J1 (a:Int) (b:Bool):AB8 Int:=
if b then
some 0
else
some a
end Ej
section
open Ej
def Ej (a:Int):AB8 Int:=
if decide (a<1)then
J1 a true
else
J1 a (decide (a>100))
theorem UC {a r:Int} (h:Ej a=some r):Says Tryz.prog 253 [si a] (si r):=by refine kO mix Tryz.func253 hn ?_;unfold Ej at h;exact walk
end
def Ig (c:Int) (a b:BB):AB8 BB:=
some (BB.mk c 0 (⟨#[]⟩:AB9) [a,b])
theorem Pv {c:Int} {a b r:BB} (h:Ig c a b=some r):Says Tryz.prog 246 [si c,.agg [si a.Op,si a.N,BZ a.Name,vS 4 BD a.L],.agg [si b.Op,si b.N,BZ b.Name,vS 4 BD b.L]] (.agg [si r.Op,si r.N,BZ r.Name,vS 4 BD r.L]):=by refine kF mix Tryz.func246 hn ?_;unfold Ig at h;exact walk
namespace FC
def J1 (c:Bool):AB8 Bool:=
some c
end FC
section
open FC
def FC (a b:Int):AB8 Bool:=
if decide (a≥0)then
J1 (decide (a<b))
else
J1 false
theorem TD {a b:Int} {r:Bool} (h:FC a b=some r):Says Tryz.prog 166 [si a,si b] (sb r):=by refine kO mix Tryz.func166 hn ?_;unfold FC at h;exact walk
end
namespace DH
def J1 (c:Bool):AB8 Bool:=
some c
end DH
section
open DH
def DH (a b:Int):AB8 Bool:=
if decide (a≥0)then
J1 (decide (a<b))
else
J1 false
theorem I0 {a b:Int} {r:Bool} (h:DH a b=some r):Says Tryz.prog 110 [si a,si b] (sb r):=by refine kO mix Tryz.func110 hn ?_;unfold DH at h;exact walk
end
namespace Hv
def J1 (b:Bool):AB8 Bool:=
some b
end Hv
section
open Hv
def Hv (a:Int):AB8 Bool:=
if decide (a≥48)then
J1 (decide (a≤57))
else
J1 false
theorem Yb {a:Int} {r:Bool} (h:Hv a=some r):Says Tryz.prog 204 [.sc (.int .u8 a)] (sb r):=by refine kO mix Tryz.func204 hn ?_;unfold Hv at h;exact walk
end
namespace GF
def J1 (b:Bool):AB8 Bool:=
some b
end GF
section
open GF
def GF (a:Int):AB8 Bool:=
if decide (a≥1)then
J1 (decide (a≤5))
else
J1 false
theorem Oy {a:Int} {r:Bool} (h:GF a=some r):Says Tryz.prog 229 [si a] (sb r):=by refine kO mix Tryz.func229 hn ?_;unfold GF at h;exact walk
end
namespace Hm
def J1 (c:Bool):AB8 Bool:=
some c
end Hm
section
open Hm
def Hm (a b:Int):AB8 Bool:=
if decide (a≥0)then
J1 (decide (a<b))
else
J1 false
theorem Ve {a b:Int} {r:Bool} (h:Hm a b=some r):Says Tryz.prog 128 [si a,si b] (sb r):=by refine kO mix Tryz.func128 hn ?_;unfold Hm at h;exact walk
end
namespace Db
def J1 (c:Bool):AB8 Bool:=
some c
end Db
section
open Db
def Db (a b:Int):AB8 Bool:=
if decide (a≥0)then
J1 (decide (a<b))
else
J1 false
theorem P6 {a b:Int} {r:Bool} (h:Db a b=some r):Says Tryz.prog 209 [si a,si b] (sb r):=by refine kO mix Tryz.func209 hn ?_;unfold Db at h;exact walk
end
namespace Ln
def J1 (c:Bool):AB8 Bool:=
some c
end Ln
section
open Ln
def Ln (a b:Int):AB8 Bool:=
if decide (a≥0)then
J1 (decide (a<b))
else
J1 false
theorem Vg {a b:Int} {r:Bool} (h:Ln a b=some r):Says Tryz.prog 142 [si a,si b] (sb r):=by refine kO mix Tryz.func142 hn ?_;unfold Ln at h;exact walk
end
namespace LJ
def J1 (c:Bool):AB8 Bool:=
some c
end LJ
section
open LJ
def LJ (a b:Int):AB8 Bool:=
if decide (a≥0)then
J1 (decide (a<b))
else
J1 false
theorem kJ {a b:Int} {r:Bool} (h:LJ a b=some r):Says Tryz.prog 66 [si a,si b] (sb r):=by refine kO mix Tryz.func66 hn ?_;unfold LJ at h;exact walk
end
def M7:AB8 (List Int):=
some [3,3,3,3,3,4,4,4,4,4,5,5,5,6,6,6,7,7,7,8,9,10,11,12,13,14,14,15,16,16,17,17,18,18,19,20,1,1,2,21,22,23,23]
theorem Y8 {r:List Int} (h:M7=some r):Says Tryz.prog 175 [] (vO 1 eI r):=by refine kO mix Tryz.func175 hn ?_;unfold M7 at h;exact walk
def KJ (a:Int):AB8 BB:=
some (BB.mk 1 a (⟨#[]⟩:AB9) [])
theorem Py {a:Int} {r:BB} (h:KJ a=some r):Says Tryz.prog 189 [si a] (.agg [si r.Op,si r.N,BZ r.Name,vS 4 BD r.L]):=by refine kF mix Tryz.func189 hn ?_;unfold KJ at h;exact walk
def Iy (a:AB9):AB8 BB:=
some (BB.mk 2 0 a [])
theorem Tg {a:AB9} {r:BB} (h:Iy a=some r):Says Tryz.prog 247 [BZ a] (.agg [si r.Op,si r.N,BZ r.Name,vS 4 BD r.L]):=by refine kF mix Tryz.func247 hn ?_;unfold Iy at h;exact walk
def B1 (a:Bool):AB8 Int:=
if a then
some 7
else
some 0
theorem Ux {a:Bool} {r:Int} (h:B1 a=some r):Says Tryz.prog 260 [sb a] (si r):=by refine kO mix Tryz.func260 hn ?_;unfold B1 at h;exact walk
def EC (a:Bool):AB8 Int:=
if a then
some 1
else
some 0
theorem P5 {a:Bool} {r:Int} (h:EC a=some r):Says Tryz.prog 262 [sb a] (si r):=by refine kO mix Tryz.func262 hn ?_;unfold EC at h;exact walk
def FN (a b:Int):AB8 Int:=
if a != 0 then
some a
else
some b
theorem kH {a b r:Int} (h:FN a b=some r):Says Tryz.prog 257 [si a,si b] (si r):=by refine kO mix Tryz.func257 hn ?_;unfold FN at h;exact walk
end Go.Abs
