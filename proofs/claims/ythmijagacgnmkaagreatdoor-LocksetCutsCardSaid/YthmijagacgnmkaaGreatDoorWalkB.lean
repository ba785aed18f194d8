/- Typed programs of Go functions, and that the functions do what these say. -/
import Derived.Test.YthmijagacgnmkaaGreatDoorBaseA
set_option linter.unusedSimpArgs false
set_option linter.unusedVariables false
namespace Go.Abs
open Go.Proofs
set_option maxRecDepth 1000000
set_option maxHeartbeats 4000000
namespace Aq
def J4:AB8 Bool:=
some true
def J3 (L1:Int->AB8 Bool) (b:Int):AB8 Bool:=
L1 (A1 (b+1))
def J2 (L2:Int->AB8 Bool) (e:Int) (i:Bool):AB8 Bool:=
if i then
some false
else
L2 (A1 (e+1))
def L2 (L1:Int->AB8 Bool) (d:List Int) (a:List Bool) (b:Int) (L2:Int->AB8 Bool) (e:Int):AB8 Bool:=
if decide (e<(d.length:Int))then
(gt d e).bind λf=>
if decide (f<0)then
J2 L2 e true
else
if decide (f≥(a.length:Int))then
J2 L2 e true
else
(gt a f).bind λj=>
J2 L2 e (!j)
else
J3 L1 b
def Cr (L1:Int->AB8 Bool) (d:List Int) (a:List Bool) (b:Int):Nat->Int->AB8 Bool
|0,_=>none
|n+1,e=>L2 L1 d a b (Cr L1 d a b n) e
def J1 (L1:Int->AB8 Bool) (a:List Bool) (b:Int) (d:List Int):AB8 Bool:=
Cr L1 d a b BP 0
def L1 (c:AG) (a:List Bool) (L1:Int->AB8 Bool) (b:Int):AB8 Bool:=
if decide (b<2)then
if b==0 then
J1 L1 a b c.Du
else
if b==1 then
J1 L1 a b c.DR
else
none
else
J4
def AZ (c:AG) (a:List Bool):Nat->Int->AB8 Bool
|0,_=>none
|n+1,b=>L1 c a (AZ c a n) b
end Aq
section
open Aq
def Aq (a:List Bool) (c:AG):AB8 Bool:=
AZ c a BP 0
theorem Od {a:List Bool} {c:AG} {r:Bool} (h:Aq a c=some r):Says Tryz.prog 62 [vS 1 eB a,.agg (BX c)] (sb r):=by refine kO mix Tryz.func62 (hn [(3,[9,11])] [(6,1)]) ?_;have l1:=λn1 n2 n3 n4:Nat=>Av λn τ=>∃(b:Int),(τ 0=vS 1 eB a/\τ 13= .agg [vS 1 eI c.Du,vS 1 eI c.DR]/\τ 14=si b)/\AZ c a n b=some r;have l2:=λn1 n2 n3 n4:Nat=>Av λn τ=>∃(d:List Int) (b e:Int),(τ 0=vS 1 eB a/\τ 13= .agg [vS 1 eI c.Du,vS 1 eI c.DR]/\τ 14=si b/\τ 17=vS 1 eI d/\τ 18=si (d.length:Int)/\τ 19=si e)/\Cr (AZ c a n1) d a b n e=some r;have c1:=λn1 n2 n3 n4:Nat=>Bm 1 λτ=>∃(b:Int) (d:List Int),(τ 0=vS 1 eB a/\τ 6=vS 1 eI d/\τ 13= .agg [vS 1 eI c.Du,vS 1 eI c.DR]/\τ 14=si b)/\J1 (AZ c a n1) a b d=some r;unfold Aq at h;exact walk
end
namespace Fi
def J2 (f:AD):AB8 AD:=
some f
def J1 (L1:AD->Int->AB8 AD) (a:Int) (e:AD):AB8 AD:=
L1 e (A1 (a+1))
def L2 (L1:AD->Int->AB8 AD) (a:Int) (L2:AD->Int->AB8 AD) (b:AD) (c:Int):AB8 AD:=
if decide (c<6)then
if Ak (b.BL.length+1) 24=true then
L2 (AD.mk b.Cells b.AE b.Af b.AK b.AA (b.BL++[(Da.mk a c (A1 ((A1 ((A1 (10*a))+c))+1)))])) (A1 (c+1))
else none
else
J1 L1 a b
def Cr (L1:AD->Int->AB8 AD) (a:Int):Nat->AD->Int->AB8 AD
|0,_,_=>none
|n+1,b,c=>L2 L1 a (Cr L1 a n) b c
def L1 (L1:AD->Int->AB8 AD) (d:AD) (a:Int):AB8 AD:=
if decide (a<4)then
Cr L1 a BP d 0
else
J2 d
def AZ:Nat->AD->Int->AB8 AD
|0,_,_=>none
|n+1,d,a=>L1 (AZ n) d a
end Fi
section
open Fi
def Fi:AB8 AD:=
AZ BP (AD.mk [(DL.mk (⟨#[120]⟩:AB9) 0 0 false 0),(DL.mk (⟨#[121]⟩:AB9) 0 0 false 1),(DL.mk (⟨#[118]⟩:AB9) 0 0 true 0),(DL.mk (⟨#[113]⟩:AB9) 0 2 false 0),(DL.mk (⟨#[113]⟩:AB9) 1 2 false 0)] [(Ia.mk (⟨#[109]⟩:AB9) false),(Ia.mk (⟨#[110]⟩:AB9) false),(Ia.mk (⟨#[114]⟩:AB9) true)] [(Nc.mk (⟨#[99]⟩:AB9) 0)] [(⟨#[102]⟩:AB9)] [(⟨#[109,97,105,110]⟩:AB9),(⟨#[116,49]⟩:AB9),(⟨#[116,50]⟩:AB9),(⟨#[116,51]⟩:AB9)] []) 0
theorem QL {r:AD} (h:Fi=some r):Says Tryz.prog 103 [] (.agg (K0 r)):=by refine kO mix Tryz.func103 (hn [(1,[19,20,29,30,41,43])]) ?_;have l1:=λn1 n2 n3 n4:Nat=>Av λn τ=>∃(d:AD) (a:Int),(τ 0=bA 6 z8/\τ 1=bA 6 (K0 d)/\τ 21=si 4/\τ 22=si a)/\AZ n d a=some r;have l2:=λn1 n2 n3 n4:Nat=>Av λn τ=>∃(a:Int) (b:AD) (c:Int),(τ 0=bA 6 z8/\τ 1=bA 6 (K0 b)/\τ 2=si a/\τ 3=si c/\τ 21=si 4/\τ 22=si a)/\Cr (AZ n1) a n b c=some r;unfold Fi at h;exact walk
end
namespace Fg
def J1 (i f:Int):AB8 (Int×Int):=
some (i,A1 (f+1))
def L1 (R100:BB->AB8 (Int×Int)) (a:BB) (L1:Int->Int->Int->AB8 (Int×Int)) (d b c:Int):AB8 (Int×Int):=
if decide (c<(a.L.length:Int))then
(gt a.L c).bind λj=>
(R100 j).bind λe=>
L1 (A1 (d+e.1)) (if e.2>b then e.2 else b) (A1 (c+1))
else
J1 d b
def AZ (R100:BB->AB8 (Int×Int)) (a:BB):Nat->Int->Int->Int->AB8 (Int×Int)
|0,_,_,_=>none
|n+1,d,b,c=>L1 R100 a (AZ R100 a n) d b c
end Fg
section
open Fg
def Fg (R100:BB->AB8 (Int×Int)) (a:BB):AB8 (Int×Int):=
AZ R100 a BP 1 0 0
theorem Yg {R100:BB->AB8 (Int×Int)} (H100:∀{x0 r},R100 x0=some r->Says Tryz.prog 266 [.agg [si x0.Op,si x0.N,BZ x0.Name,vS 4 BD x0.L]] (.BM [si r.1,si r.2])) {a:BB} {r:Int×Int} (h:Fg R100 a=some r):Says Tryz.prog 266 [.agg [si a.Op,si a.N,BZ a.Name,vS 4 BD a.L]] (.BM [si r.1,si r.2]):=by refine kO mix Tryz.func266 (hn [(1,[10,17])]) ?_;have a1:= @H100;have l1:=λn1 n2 n3 n4:Nat=>Av λn τ=>∃(d b c:Int),(τ 1=bA 4 [si a.Op,si a.N,BZ a.Name,vS 4 BD a.L]/\τ 4=si d/\τ 5=si b/\τ 6=si c)/\AZ R100 a n d b c=some r;unfold Fg at h;exact walk
end
def T4:Nat->(BB->AB8 (Int×Int))
|0=>(λ_=>none)
|n+1=>Fg ((T4 n))
def KQ (n:Nat):BB->AB8 (Int×Int):=(T4 n)
theorem WO (n:Nat):(∀{x0 r},(KQ n) x0=some r->Says Tryz.prog 266 [.agg [si x0.Op,si x0.N,BZ x0.Name,.sl false 4 (x0.L.map BD)]] (.BM [si r.1,si r.2])):=by
  induction n with
  |zero=>exactλh=>DP h
  |succ n ih=>exactλh=>Yg ih h
theorem WR {n:Nat}:∀{x0 r},(KQ n) x0=some r->Says Tryz.prog 266 [.agg [si x0.Op,si x0.N,BZ x0.Name,.sl false 4 (x0.L.map BD)]] (.BM [si r.1,si r.2]):=(WO n)
namespace Dw
def J2 (f:AP):AB8 AP:=
some f
def J1 (d:AP):AB8 AP:=
if decide ((d.AA.length:Int)>0)then
(gt d.AA 0).bind λe=>
J2 (AP.mk d.AE d.Tx d.Bp (d.AA.set 0 (AH.mk 1 e.D7 e.Atomic)))
else
J2 d
def L1 (a:AD) (L1:AP->Int->AB8 AP) (b:AP) (c:Int):AB8 AP:=
if decide (c<((List.replicate a.AE.length (AW.mk 0 [])).length:Int))then
(gt b.AE c).bind λi=>
L1 (AP.mk (b.AE.set c.toNat (AW.mk (-1) i.Al)) b.Tx b.Bp b.AA) (A1 (c+1))
else
J1 b
def AZ (a:AD):Nat->AP->Int->AB8 AP
|0,_,_=>none
|n+1,b,c=>L1 a (AZ a n) b c
end Dw
section
open Dw
def Dw (a:AD):AB8 AP:=
if 0≤(a.AE.length:Int)/\(a.AE.length:Int)≤(a.AE.length:Int)/\Ak a.AE.length 32=true then
if 0≤(a.AK.length:Int)/\(a.AK.length:Int)≤(a.AK.length:Int)/\Ak a.AK.length 1=true then
if 0≤(a.AA.length:Int)/\(a.AA.length:Int)≤(a.AA.length:Int)/\Ak a.AA.length 24=true then
AZ a BP (AP.mk (List.replicate a.AE.length (AW.mk 0 [])) (-1) (List.replicate a.AK.length false) (List.replicate a.AA.length (AH.mk 0 0 false))) 0
else none
else none
else none
theorem WC {a:AD} {r:AP} (h:Dw a=some r):Says Tryz.prog 52 [.agg (Ah a)] (.agg (IF r)):=by refine kO mix Tryz.func52 (hn [(1,[5,9,13]),(3,[18,19,24,25,27,28,30,31,34,35,36,37,38])]) ?_;have l1:=λn1 n2 n3 n4:Nat=>Av λn τ=>∃(b:AP) (c:Int),(τ 2=bA 4 z4/\τ 3=bA 4 (IF b)/\τ 20=si ((List.replicate a.AE.length (AW.mk 0 [])).length:Int)/\τ 21=si c)/\AZ a n b c=some r;unfold Dw at h;exact walk
end
namespace Cz
def J1 (e:Int):AB8 Int:=
some e
def L1 (R100:(List AQ)->AB8 Int) (a:List AQ) (L1:Int->Int->AB8 Int) (c b:Int):AB8 Int:=
if decide (b<(a.length:Int))then
(gt a b).bind λd=>
(R100 d.Body).bind λf=>
(R100 d.Else).bind λi=>
L1 (A1 ((A1 (c+f))+i)) (A1 (b+1))
else
J1 c
def AZ (R100:(List AQ)->AB8 Int) (a:List AQ):Nat->Int->Int->AB8 Int
|0,_,_=>none
|n+1,c,b=>L1 R100 a (AZ R100 a n) c b
end Cz
section
open Cz
def Cz (R100:(List AQ)->AB8 Int) (a:List AQ):AB8 Int:=
AZ R100 a BP (a.length:Int) 0
theorem Yf {R100:(List AQ)->AB8 Int} (H100:∀{x0 r},R100 x0=some r->Says Tryz.prog 216 [vS 11 A7 x0] (si r)) {a:List AQ} {r:Int} (h:Cz R100 a=some r):Says Tryz.prog 216 [vS 11 A7 a] (si r):=by refine kO mix Tryz.func216 hn ?_;have a1:= @H100;have l1:=λn1 n2 n3 n4:Nat=>Av λn τ=>∃(c b:Int),(τ 0=vS 11 A7 a/\τ 3=si c/\τ 4=si b)/\AZ R100 a n c b=some r;unfold Cz at h;exact walk
end
def T3:Nat->((List AQ)->AB8 Int)
|0=>(λ_=>none)
|n+1=>Cz ((T3 n))
def Gt (n:Nat):(List AQ)->AB8 Int:=(T3 n)
theorem WL (n:Nat):(∀{x0 r},(Gt n) x0=some r->Says Tryz.prog 216 [.sl false 11 (x0.map A7)] (si r)):=by
  induction n with
  |zero=>exactλh=>DP h
  |succ n ih=>exactλh=>Yf ih h
theorem WM {n:Nat}:∀{x0 r},(Gt n) x0=some r->Says Tryz.prog 216 [.sl false 11 (x0.map A7)] (si r):=(WL n)
namespace Ef
def J3 (c:Int) (a:List Int) (b:Int) (f:Bool):AB8 (List Int):=
if f then
some a
else
if 0≤c/\c.toNat≤a.length then
if Ak ((a.take c.toNat).length) 8=true then
if Ak ((a.take c.toNat).length+1) 8=true then
if 0≤c/\c.toNat≤a.length then
if Ak (((a.take c.toNat)++[b]).length+((a.drop c.toNat).take (a.length-c.toNat)).length) 8=true then
some (((a.take c.toNat)++[b])++((a.drop c.toNat).take (a.length-c.toNat)))
else none
else none
else none
else none
else none
def J2 (a:List Int) (b c:Int):AB8 (List Int):=
if decide (c<(a.length:Int))then
(gt a c).bind λj=>
J3 c a b (j==b)
else
J3 c a b false
def J1 (L1:Int->AB8 (List Int)) (d:Int) (a:List Int) (b:Int) (e:Bool):AB8 (List Int):=
if e then
L1 (A1 (d+1))
else
J2 a b d
def L1 (a:List Int) (b:Int) (L1:Int->AB8 (List Int)) (d:Int):AB8 (List Int):=
if decide (d<(a.length:Int))then
(gt a d).bind λi=>
J1 L1 d a b (decide (i<b))
else
J1 L1 d a b false
def AZ (a:List Int) (b:Int):Nat->Int->AB8 (List Int)
|0,_=>none
|n+1,d=>L1 a b (AZ a b n) d
end Ef
section
open Ef
def Ef (a:List Int) (b:Int):AB8 (List Int):=
AZ a b BP 0
theorem eQ {a:List Int} {b:Int} {r:List Int} (h:Ef a b=some r):Says Tryz.prog 170 [vO 1 eI a,si b] (vO 1 eI r):=by refine kO mix Tryz.func170 (hn [(0,[8,12,14,22,26,28,33,35,44]),(6,[39,43])]) ?_;have l1:=λn1 n2 n3 n4:Nat=>Av λn τ=>∃(d:Int),(τ 0=vO 1 eI a/\τ 1=si b/\τ 5=si d)/\AZ a b n d=some r;unfold Ef at h;exact walk
end
namespace BW
def J2 (a:BJ):AB8 (Bool×BJ):=
some (false,a)
def J1 (L1:Int->AB8 (Bool×BJ)) (b:Int) (a:BJ) (i:Bool):AB8 (Bool×BJ):=
if i then
some (true,a)
else
L1 (A1 (b+1))
def L1 (d e:Int) (c:AB9) (a:BJ) (L1:Int->AB8 (Bool×BJ)) (b:Int):AB8 (Bool×BJ):=
if decide (b<(a.Ga.length:Int))then
(gt a.Ga b).bind λf=>
if f.Op==d then
if c.toList==(⟨#[]⟩:AB9).toList then
J1 L1 b a true
else
J1 L1 b a (f.Name.toList==c.toList)
else
if f.Op==e then
if c.toList==(⟨#[]⟩:AB9).toList then
J1 L1 b a true
else
J1 L1 b a (f.Name.toList==c.toList)
else
J1 L1 b a false
else
J2 a
def AZ (d e:Int) (c:AB9) (a:BJ):Nat->Int->AB8 (Bool×BJ)
|0,_=>none
|n+1,b=>L1 d e c a (AZ d e c a n) b
end BW
section
open BW
def BW (a:BJ) (d e:Int) (c:AB9):AB8 (Bool×BJ):=
AZ d e c a BP 0
theorem P4 {a:BJ} {d e:Int} {c:AB9} {r:Bool×BJ} (h:BW a d e c=some r):BA Tryz.prog 256 [bA 6 (HX a),si d,si e,BZ c] (sb r.1) [bA 6 (HX r.2),.dead,.dead,.dead]:=by refine kL mix Tryz.func256 (hn [(0,[12,13,14,15,20,21,22,23,25,26]),(10,[27,32,41])]) ?_;have l1:=λn1 n2 n3 n4:Nat=>Av λn τ=>∃(b:Int),(τ 0=bA 6 (HX a)/\τ 1=si d/\τ 2=si e/\τ 3=BZ c/\τ 9=si b)/\AZ d e c a n b=some r;unfold BW at h;exact walk
end
namespace CY
def J3:AB8 Bool:=
some true
def J2 (L1:Int->Int->Int->AB8 Bool) (b:Int) (d:Da) (j f:Int):AB8 Bool:=
if d.Stmt != f then
some false
else
L1 j (A1 (f+1)) (A1 (b+1))
def J1 (L1:Int->Int->Int->AB8 Bool) (e b c:Int) (d:Da) (i:Bool):AB8 Bool:=
if i then
some false
else
if decide (d.Thread>c)then
J2 L1 b d d.Thread 0
else
J2 L1 b d c e
def L1 (a:AD) (L1:Int->Int->Int->AB8 Bool) (c e b:Int):AB8 Bool:=
if decide (b<(a.BL.length:Int))then
(gt a.BL b).bind λd=>
if decide (d.Thread<c)then
J1 L1 e b c d true
else
J1 L1 e b c d (decide (d.Thread≥(a.AA.length:Int)))
else
J3
def AZ (a:AD):Nat->Int->Int->Int->AB8 Bool
|0,_,_,_=>none
|n+1,c,e,b=>L1 a (AZ a n) c e b
end CY
section
open CY
def CY (a:AD):AB8 Bool:=
AZ a BP 0 0 0
theorem PA {a:AD} {r:Bool} (h:CY a=some r):Says Tryz.prog 123 [.agg (Ah a)] (sb r):=by refine kO mix Tryz.func123 (hn [(1,[7,21]),(6,[14,19,26,30,32])]) ?_;have l1:=λn1 n2 n3 n4:Nat=>Av λn τ=>∃(c e b:Int),(τ 1=bA 6 (Ah a)/\τ 3=si c/\τ 4=si e/\τ 8=vS 3 GX a.BL/\τ 9=si (a.BL.length:Int)/\τ 10=si b)/\AZ a n c e b=some r;unfold CY at h;exact walk
end
namespace Aa
def J3 (a:Ac) (d:Bool):AB8 (List Int):=
if d then
some [a.B]
else
if a.Op==9 then
some [a.B,a.C]
else
some []
def J2 (a:Ac) (b:Bool):AB8 (List Int):=
if b then
some [a.A,a.B]
else
if a.Op==4 then
some [a.A,a.B,a.C]
else
if a.Op==7 then
some [a.A,a.C]
else
if a.Op==8 then
J3 a (a.Op==8)
else
J3 a (a.Op==26)
def J1 (a:Ac) (c:Bool):AB8 (List Int):=
if c then
some [a.A]
else
if a.Op==2 then
J2 a (a.Op==2)
else
J2 a (a.Op==3)
end Aa
section
open Aa
def Aa (a:Ac):AB8 (List Int):=
if a.Op==1 then
J1 a (a.Op==1)
else
if a.Op==6 then
J1 a (a.Op==6)
else
if a.Op==10 then
J1 a (a.Op==10)
else
J1 a (a.Op==27)
theorem Je {a:Ac} {r:List Int} (h:Aa a=some r):Says Tryz.prog 185 [.agg (EN a)] (vO 1 eI r):=by refine kO mix Tryz.func185 (hn [(1,[3,10,16,18,23,25,27,32,34,40,45,47])] [(3,1),(8,2)]) ?_;have c2:=λn1 n2 n3 n4:Nat=>Bm 2 λτ=>∃(b:Bool),(τ 1=bA 6 (EN a)/\τ 4=si a.Op/\τ 13=sb b)/\J2 a b=some r;have c1:=λn1 n2 n3 n4:Nat=>Bm 1 λτ=>∃(c:Bool),(τ 1=bA 6 (EN a)/\τ 4=si a.Op/\τ 5=sb c)/\J1 a c=some r;unfold Aa at h;exact walk
end
namespace C4
def J3 (i:List Int):AB8 (List Int):=
some i
def J2 (L1:(List Int)->Int->AB8 (List Int)) (a:Int) (f:List Int):AB8 (List Int):=
L1 f (A1 (a+1))
def J1 (L1:(List Int)->Int->AB8 (List Int)) (a:Int) (b:List Int) (j:Bool):AB8 (List Int):=
if j then
if Ak (b.length+1) 8=true then
J2 L1 a (b++[a])
else none
else
J2 L1 a b
def L1 (d:Int) (c:AP) (L1:(List Int)->Int->AB8 (List Int)) (b:List Int) (a:Int):AB8 (List Int):=
if decide (a<(c.AA.length:Int))then
(gt c.AA a).bind λe=>
if e.Status==3 then
J1 L1 a b (e.D7==d)
else
J1 L1 a b false
else
J3 b
def AZ (d:Int) (c:AP):Nat->(List Int)->Int->AB8 (List Int)
|0,_,_=>none
|n+1,b,a=>L1 d c (AZ d c n) b a
end C4
section
open C4
def C4 (c:AP) (d:Int):AB8 (List Int):=
AZ d c BP [] 0
theorem Nz {c:AP} {d:Int} {r:List Int} (h:C4 c d=some r):Says Tryz.prog 130 [.agg (FZ c),si d] (vO 1 eI r):=by refine kO mix Tryz.func130 (hn [(2,[8,14,22]),(5,[31,35])]) ?_;have l1:=λn1 n2 n3 n4:Nat=>Av λn τ=>∃(b:List Int) (a:Int),(τ 1=si d/\τ 2=bA 4 (FZ c)/\τ 5=vO 1 eI b/\τ 6=si a)/\AZ d c n b a=some r;unfold C4 at h;exact walk
end
namespace Ex
def J3 (f:Bool):AB8 Bool:=
some f
def J2 (b:AP) (a:AD):AB8 Bool:=
if(b.AE.length:Int)==(a.AE.length:Int)then
if(b.Bp.length:Int)==(a.AK.length:Int)then
J3 ((b.AA.length:Int)==(a.AA.length:Int))
else
J3 false
else
J3 false
def J1 (L1:Int->AB8 Bool) (c:Int) (e:Bool):AB8 Bool:=
if e then
some false
else
L1 (A1 (c+1))
def L1 (b:AP) (a:AD) (L1:Int->AB8 Bool) (c:Int):AB8 Bool:=
if decide (c<(a.Af.length:Int))then
(gt a.Af c).bind λd=>
if decide (d.Mutex<0)then
J1 L1 c true
else
J1 L1 c (decide (d.Mutex≥(a.AE.length:Int)))
else
J2 b a
def AZ (b:AP) (a:AD):Nat->Int->AB8 Bool
|0,_=>none
|n+1,c=>L1 b a (AZ b a n) c
end Ex
section
open Ex
def Ex (a:AD) (b:AP):AB8 Bool:=
AZ b a BP 0
theorem NQ {a:AD} {b:AP} {r:Bool} (h:Ex a b=some r):Says Tryz.prog 127 [.agg (Ah a),.agg (FZ b)] (sb r):=by refine kO mix Tryz.func127 (hn [(2,[7,13,21,27,35,43,52]),(3,[32,40,49])]) ?_;have l1:=λn1 n2 n3 n4:Nat=>Av λn τ=>∃(c:Int),(τ 2=bA 6 (Ah a)/\τ 3=bA 4 (FZ b)/\τ 5=si c)/\AZ b a n c=some r;unfold Ex at h;exact walk
end
namespace FO
def J1 (e:AL):AB8 AL:=
some e
def L1 (a:AL) (L1:AL->Int->AB8 AL) (b:AL) (c:Int):AB8 AL:=
if decide (c<(a.Cc.length:Int))then
(gt a.Cc c).bind λd=>
if Ak (d.length) 8=true then
if Ak (b.Cc.length+1) 24=true then
L1 (AL.mk b.PC b.Ch (b.Cc++[d]) b.AF) (A1 (c+1))
else none
else none
else
J1 b
def AZ (a:AL):Nat->AL->Int->AB8 AL
|0,_,_=>none
|n+1,b,c=>L1 a (AZ a n) b c
end FO
section
open FO
def FO (a:AL):AB8 AL:=
if Ak (a.Ch.length) 8=true then
AZ a BP (AL.mk a.PC a.Ch [] a.AF) 0
else none
theorem RY {a r:AL} (h:FO a=some r):Says Tryz.prog 233 [.agg (FF a)] (.agg (B0 r)):=by refine kO mix Tryz.func233 (hn [(1,[5,7,10,15,24]),(3,[21,22,32,33])] (Z:=[(6,true,3,[(0,2,0)])])) ?_;have l1:=λn1 n2 n3 n4:Nat=>Av λn τ=>∃(b:AL) (c:Int),(τ 1=bA 4 (FF a)/\τ 2=bA 4 z9/\τ 3=bA 4 [si b.PC,vO 1 eI b.Ch,vO 1 Ng b.Cc,si b.AF]/\τ 4=si c)/\AZ a n b c=some r;unfold FO at h;exact walk
end
def f151c:IC:=(.seq (.PR [⟨some ⟨2,[],[]⟩,.mv (.c (.own false 3 [])),none⟩])
(.seq (.seq (.Wc [.o ⟨some ⟨3,[],[]⟩,.cp (.t 0),none⟩,
.Tl ⟨4,[],[]⟩ false (.t 3)])
(.cond (.t 4) (.seq (.PR [⟨some ⟨2,[],[]⟩,.mv (.c (.own false 3 [])),none⟩])
.ret) .skip))
(.seq (.PR [⟨some ⟨5,[],[]⟩,.Na 3 [] [],none⟩,
⟨some ⟨6,[],[]⟩,.cp (.t 0),none⟩,
⟨some ⟨7,[],[]⟩,.app 3 24 (.t 5) (.t 6),none⟩,
⟨some ⟨2,[],[]⟩,.mv (.t 7),none⟩])
.ret)))
def f151g:Gi:=⟨[]⟩
def f151r:List RV:=[.tmp 2]
def f151:FI:=⟨f151c,f151g,f151r⟩
theorem chk151:Lj Tryz.prog Tryz.f151 f151=true:=by kernel_rfl
def Ed (l:List AH):AB8 (List AH):=if Ak l.length 24=true then some l else none
theorem Hp {l:List AH} {r:List AH} (h:Ed l=some r):Says Tryz.prog 151 [vS 3 An l] (vO 3 An r):=by
  obtain⟨g,h⟩:=G9 h;obtain rfl:=AAl h;refine JX mix Tryz.func151 chk151 (AAq (by kernel_rfl)) rfl ?_;simp only[f151,f151c,f151g,f151r];simp +decide only[go_sem,g];intro b hb;cases b with
  |true=>have hl:l=[]:=(by simpa using hb rfl);subst hl;simp +decide only[go_sem,g]
  |false=>simp +decide only[go_sem,g]
namespace DM
def J3 (i:Bool):AB8 Bool:=
some i
def J2 (a:AO) (e:Int):AB8 Bool:=
if a.Start==e then
J3 (decide ((A1 (e+(a.AF.length:Int)))≤400))
else
J3 false
def J1 (L1:Int->Int->AB8 Bool) (c b d:Int) (f:Bool):AB8 Bool:=
if f then
some false
else
L1 (A1 (c+d)) (A1 (b+1))
def L1 (a:AO) (L1:Int->Int->AB8 Bool) (c b:Int):AB8 Bool:=
if decide (b<(a.Init.Count.length:Int))then
(gt a.Init.Count b).bind λd=>
if decide (d<0)then
J1 L1 c b d true
else
J1 L1 c b d (decide (d>400))
else
J2 a c
def AZ (a:AO):Nat->Int->Int->AB8 Bool
|0,_,_=>none
|n+1,c,b=>L1 a (AZ a n) c b
end DM
section
open DM
def DM (a:AO):AB8 Bool:=
AZ a BP 0 0
theorem Ua {a:AO} {r:Bool} (h:DM a=some r):Says Tryz.prog 82 [.agg (BV a)] (sb r):=by refine kO mix Tryz.func82 (hn [(1,[6,7,24,30])]) ?_;have l1:=λn1 n2 n3 n4:Nat=>Av λn τ=>∃(c b:Int),(τ 1=bA 15 (BV a)/\τ 3=si c/\τ 8=vS 1 eI a.Init.Count/\τ 9=si (a.Init.Count.length:Int)/\τ 10=si b)/\AZ a n c b=some r;unfold DM at h;exact walk
end
def f145c:IC:=(.seq (.PR [⟨some ⟨2,[],[]⟩,.mv (.c (.own false 5 [])),none⟩])
(.seq (.seq (.Wc [.o ⟨some ⟨3,[],[]⟩,.cp (.t 0),none⟩,
.Tl ⟨4,[],[]⟩ false (.t 3)])
(.cond (.t 4) (.seq (.PR [⟨some ⟨2,[],[]⟩,.mv (.c (.own false 5 [])),none⟩])
.ret) .skip))
(.seq (.PR [⟨some ⟨5,[],[]⟩,.Na 5 [] [],none⟩,
⟨some ⟨6,[],[]⟩,.cp (.t 0),none⟩,
⟨some ⟨7,[],[]⟩,.app 5 48 (.t 5) (.t 6),none⟩,
⟨some ⟨2,[],[]⟩,.mv (.t 7),none⟩])
.ret)))
def f145g:Gi:=⟨[]⟩
def f145r:List RV:=[.tmp 2]
def f145:FI:=⟨f145c,f145g,f145r⟩
theorem chk145:Lj Tryz.prog Tryz.f145 f145=true:=by kernel_rfl
def Ji (l:List DL):AB8 (List DL):=if Ak l.length 48=true then some l else none
theorem NS {l:List DL} {r:List DL} (h:Ji l=some r):Says Tryz.prog 145 [vS 5 Gx l] (vO 5 Gx r):=by
  obtain⟨g,h⟩:=G9 h;obtain rfl:=AAl h;refine JX mix Tryz.func145 chk145 (AAq (by kernel_rfl)) rfl ?_;simp only[f145,f145c,f145g,f145r];simp +decide only[go_sem,g];intro b hb;cases b with
  |true=>have hl:l=[]:=(by simpa using hb rfl);subst hl;simp +decide only[go_sem,g]
  |false=>simp +decide only[go_sem,g]
def f146c:IC:=(.seq (.PR [⟨some ⟨2,[],[]⟩,.mv (.c (.own false 2 [])),none⟩])
(.seq (.seq (.Wc [.o ⟨some ⟨3,[],[]⟩,.cp (.t 0),none⟩,
.Tl ⟨4,[],[]⟩ false (.t 3)])
(.cond (.t 4) (.seq (.PR [⟨some ⟨2,[],[]⟩,.mv (.c (.own false 2 [])),none⟩])
.ret) .skip))
(.seq (.PR [⟨some ⟨5,[],[]⟩,.Na 2 [] [],none⟩,
⟨some ⟨6,[],[]⟩,.cp (.t 0),none⟩,
⟨some ⟨7,[],[]⟩,.app 2 24 (.t 5) (.t 6),none⟩,
⟨some ⟨2,[],[]⟩,.mv (.t 7),none⟩])
.ret)))
def f146g:Gi:=⟨[]⟩
def f146r:List RV:=[.tmp 2]
def f146:FI:=⟨f146c,f146g,f146r⟩
theorem chk146:Lj Tryz.prog Tryz.f146 f146=true:=by kernel_rfl
def Jk (l:List Ia):AB8 (List Ia):=if Ak l.length 24=true then some l else none
theorem NU {l:List Ia} {r:List Ia} (h:Jk l=some r):Says Tryz.prog 146 [vS 2 Hu l] (vO 2 Hu r):=by
  obtain⟨g,h⟩:=G9 h;obtain rfl:=AAl h;refine JX mix Tryz.func146 chk146 (AAq (by kernel_rfl)) rfl ?_;simp only[f146,f146c,f146g,f146r];simp +decide only[go_sem,g];intro b hb;cases b with
  |true=>have hl:l=[]:=(by simpa using hb rfl);subst hl;simp +decide only[go_sem,g]
  |false=>simp +decide only[go_sem,g]
def f147c:IC:=(.seq (.PR [⟨some ⟨2,[],[]⟩,.mv (.c (.own false 2 [])),none⟩])
(.seq (.seq (.Wc [.o ⟨some ⟨3,[],[]⟩,.cp (.t 0),none⟩,
.Tl ⟨4,[],[]⟩ false (.t 3)])
(.cond (.t 4) (.seq (.PR [⟨some ⟨2,[],[]⟩,.mv (.c (.own false 2 [])),none⟩])
.ret) .skip))
(.seq (.PR [⟨some ⟨5,[],[]⟩,.Na 2 [] [],none⟩,
⟨some ⟨6,[],[]⟩,.cp (.t 0),none⟩,
⟨some ⟨7,[],[]⟩,.app 2 24 (.t 5) (.t 6),none⟩,
⟨some ⟨2,[],[]⟩,.mv (.t 7),none⟩])
.ret)))
def f147g:Gi:=⟨[]⟩
def f147r:List RV:=[.tmp 2]
def f147:FI:=⟨f147c,f147g,f147r⟩
theorem chk147:Lj Tryz.prog Tryz.f147 f147=true:=by kernel_rfl
def Jj (l:List Nc):AB8 (List Nc):=if Ak l.length 24=true then some l else none
theorem NT {l:List Nc} {r:List Nc} (h:Jj l=some r):Says Tryz.prog 147 [vS 2 Ht l] (vO 2 Ht r):=by
  obtain⟨g,h⟩:=G9 h;obtain rfl:=AAl h;refine JX mix Tryz.func147 chk147 (AAq (by kernel_rfl)) rfl ?_;simp only[f147,f147c,f147g,f147r];simp +decide only[go_sem,g];intro b hb;cases b with
  |true=>have hl:l=[]:=(by simpa using hb rfl);subst hl;simp +decide only[go_sem,g]
  |false=>simp +decide only[go_sem,g]
def f149c:IC:=(.seq (.PR [⟨some ⟨2,[],[]⟩,.mv (.c (.own false 3 [])),none⟩])
(.seq (.seq (.Wc [.o ⟨some ⟨3,[],[]⟩,.cp (.t 0),none⟩,
.Tl ⟨4,[],[]⟩ false (.t 3)])
(.cond (.t 4) (.seq (.PR [⟨some ⟨2,[],[]⟩,.mv (.c (.own false 3 [])),none⟩])
.ret) .skip))
(.seq (.PR [⟨some ⟨5,[],[]⟩,.Na 3 [] [],none⟩,
⟨some ⟨6,[],[]⟩,.cp (.t 0),none⟩,
⟨some ⟨7,[],[]⟩,.app 3 24 (.t 5) (.t 6),none⟩,
⟨some ⟨2,[],[]⟩,.mv (.t 7),none⟩])
.ret)))
def f149g:Gi:=⟨[]⟩
def f149r:List RV:=[.tmp 2]
def f149:FI:=⟨f149c,f149g,f149r⟩
theorem chk149:Lj Tryz.prog Tryz.f149 f149=true:=by kernel_rfl
def Jl (l:List Da):AB8 (List Da):=if Ak l.length 24=true then some l else none
theorem NV {l:List Da} {r:List Da} (h:Jl l=some r):Says Tryz.prog 149 [vS 3 GX l] (vO 3 GX r):=by
  obtain⟨g,h⟩:=G9 h;obtain rfl:=AAl h;refine JX mix Tryz.func149 chk149 (AAq (by kernel_rfl)) rfl ?_;simp only[f149,f149c,f149g,f149r];simp +decide only[go_sem,g];intro b hb;cases b with
  |true=>have hl:l=[]:=(by simpa using hb rfl);subst hl;simp +decide only[go_sem,g]
  |false=>simp +decide only[go_sem,g]
namespace He
def J3 (i:Bool):AB8 Bool:=
some i
def J2 (a:AO) (d:Int):AB8 Bool:=
if a.Start==d then
J3 (decide ((A1 (d+(a.AF.length:Int)))≤400))
else
J3 false
def J1 (L1:Int->Int->AB8 Bool) (b c:Int) (a:AO) (f:Bool):AB8 Bool:=
if f then
some false
else
(gt a.Init.Count b).bind λj=>
L1 (A1 (c+j)) (A1 (b+1))
def L1 (a:AO) (L1:Int->Int->AB8 Bool) (c b:Int):AB8 Bool:=
if decide (b<(a.Init.Count.length:Int))then
(gt a.Init.Count b).bind λe=>
if decide (e<0)then
J1 L1 b c a true
else
J1 L1 b c a (decide (e>400))
else
J2 a c
def AZ (a:AO):Nat->Int->Int->AB8 Bool
|0,_,_=>none
|n+1,c,b=>L1 a (AZ a n) c b
end He
section
open He
def He (a:AO):AB8 Bool:=
AZ a BP 0 0
theorem Wb {a:AO} {r:Bool} (h:He a=some r):Says Tryz.prog 87 [.agg (BV a)] (sb r):=by refine kO mix Tryz.func87 (hn [(1,[6,7,13,14,21,22,30,31,37,43])]) ?_;have l1:=λn1 n2 n3 n4:Nat=>Av λn τ=>∃(c b:Int),(τ 1=bA 15 (BV a)/\τ 3=si c/\τ 4=si b)/\AZ a n c b=some r;unfold He at h;exact walk
end
def f148c:IC:=(.seq (.PR [⟨some ⟨2,[],[]⟩,.mv (.c (.own false 1 [])),none⟩])
(.seq (.seq (.Wc [.o ⟨some ⟨3,[],[]⟩,.cp (.t 0),none⟩,
.Tl ⟨4,[],[]⟩ false (.t 3)])
(.cond (.t 4) (.seq (.PR [⟨some ⟨2,[],[]⟩,.mv (.c (.own false 1 [])),none⟩])
.ret) .skip))
(.seq (.PR [⟨some ⟨5,[],[]⟩,.Na 1 [] [],none⟩,
⟨some ⟨6,[],[]⟩,.cp (.t 0),none⟩,
⟨some ⟨7,[],[]⟩,.app 1 16 (.t 5) (.t 6),none⟩,
⟨some ⟨2,[],[]⟩,.mv (.t 7),none⟩])
.ret)))
def f148g:Gi:=⟨[]⟩
def f148r:List RV:=[.tmp 2]
def f148:FI:=⟨f148c,f148g,f148r⟩
theorem chk148:Lj Tryz.prog Tryz.f148 f148=true:=by kernel_rfl
def slices_Clone_string (l:List AB9):AB8 (List AB9):=if Ak l.length 16=true then some l else none
theorem Ob {l:List AB9} {r:List AB9} (h:slices_Clone_string l=some r):Says Tryz.prog 148 [vS 1 eS l] (vO 1 eS r):=by
  obtain⟨g,h⟩:=G9 h;obtain rfl:=AAl h;refine JX mix Tryz.func148 chk148 (AAq (by kernel_rfl)) rfl ?_;simp only[f148,f148c,f148g,f148r];simp +decide only[go_sem,g];intro b hb;cases b with
  |true=>have hl:l=[]:=(by simpa using hb rfl);subst hl;simp +decide only[go_sem,g]
  |false=>simp +decide only[go_sem,g]
namespace EH
def J2 (e:List Int):AB8 (List Int):=
some e
def J1 (L1:(List Int)->Int->AB8 (List Int)) (b:Int) (d:List Int):AB8 (List Int):=
L1 d (A1 (b+1))
def L1 (a:AB) (L1:(List Int)->Int->AB8 (List Int)) (c:List Int) (b:Int):AB8 (List Int):=
if decide (b<(a.Sync.AA.length:Int))then
(gt a.Sync.AA b).bind λf=>
if f.Status==3 then
if Ak (c.length+1) 8=true then
J1 L1 b (c++[b])
else none
else
J1 L1 b c
else
J2 c
def AZ (a:AB):Nat->(List Int)->Int->AB8 (List Int)
|0,_,_=>none
|n+1,c,b=>L1 a (AZ a n) c b
end EH
section
open EH
def EH (a:AB):AB8 (List Int):=
AZ a BP [] 0
theorem U8 {a:AB} {r:List Int} (h:EH a=some r):Says Tryz.prog 206 [.agg (A3 a)] (vO 1 eI r):=by refine kO mix Tryz.func206 (hn [(1,[6,7]),(3,[18,23]),(5,[15])]) ?_;have l1:=λn1 n2 n3 n4:Nat=>Av λn τ=>∃(c:List Int) (b:Int),(τ 3=vO 1 eI c/\τ 8=vS 3 An a.Sync.AA/\τ 9=si (a.Sync.AA.length:Int)/\τ 10=si b)/\AZ a n c b=some r;unfold EH at h;exact walk
end
def f150c:IC:=(.seq (.PR [⟨some ⟨2,[],[]⟩,.mv (.c (.own false 1 [])),none⟩])
(.seq (.seq (.Wc [.o ⟨some ⟨3,[],[]⟩,.cp (.t 0),none⟩,
.Tl ⟨4,[],[]⟩ false (.t 3)])
(.cond (.t 4) (.seq (.PR [⟨some ⟨2,[],[]⟩,.mv (.c (.own false 1 [])),none⟩])
.ret) .skip))
(.seq (.PR [⟨some ⟨5,[],[]⟩,.Na 1 [] [],none⟩,
⟨some ⟨6,[],[]⟩,.cp (.t 0),none⟩,
⟨some ⟨7,[],[]⟩,.app 1 1 (.t 5) (.t 6),none⟩,
⟨some ⟨2,[],[]⟩,.mv (.t 7),none⟩])
.ret)))
def f150g:Gi:=⟨[]⟩
def f150r:List RV:=[.tmp 2]
def f150:FI:=⟨f150c,f150g,f150r⟩
theorem chk150:Lj Tryz.prog Tryz.f150 f150=true:=by kernel_rfl
def IJ (l:List Bool):AB8 (List Bool):=if Ak l.length 1=true then some l else none
theorem LN {l:List Bool} {r:List Bool} (h:IJ l=some r):Says Tryz.prog 150 [vS 1 eB l] (vO 1 eB r):=by
  obtain⟨g,h⟩:=G9 h;obtain rfl:=AAl h;refine JX mix Tryz.func150 chk150 (AAq (by kernel_rfl)) rfl ?_;simp only[f150,f150c,f150g,f150r];simp +decide only[go_sem,g];intro b hb;cases b with
  |true=>have hl:l=[]:=(by simpa using hb rfl);subst hl;simp +decide only[go_sem,g]
  |false=>simp +decide only[go_sem,g]
def f59c:IC:=(.seq (.PR [⟨some ⟨2,[],[]⟩,.mv (.c (.own false 1 [])),none⟩])
(.seq (.seq (.Wc [.o ⟨some ⟨3,[],[]⟩,.cp (.t 0),none⟩,
.Tl ⟨4,[],[]⟩ false (.t 3)])
(.cond (.t 4) (.seq (.PR [⟨some ⟨2,[],[]⟩,.mv (.c (.own false 1 [])),none⟩])
.ret) .skip))
(.seq (.PR [⟨some ⟨5,[],[]⟩,.Na 1 [] [],none⟩,
⟨some ⟨6,[],[]⟩,.cp (.t 0),none⟩,
⟨some ⟨7,[],[]⟩,.app 1 8 (.t 5) (.t 6),none⟩,
⟨some ⟨2,[],[]⟩,.mv (.t 7),none⟩])
.ret)))
def f59g:Gi:=⟨[]⟩
def f59r:List RV:=[.tmp 2]
def f59:FI:=⟨f59c,f59g,f59r⟩
theorem chk59:Lj Tryz.prog Tryz.f59 f59=true:=by kernel_rfl
def FW (l:List Int):AB8 (List Int):=if Ak l.length 8=true then some l else none
theorem Kg {l:List Int} {r:List Int} (h:FW l=some r):Says Tryz.prog 59 [vS 1 eI l] (vO 1 eI r):=by
  obtain⟨g,h⟩:=G9 h;obtain rfl:=AAl h;refine JX mix Tryz.func59 chk59 (AAq (by kernel_rfl)) rfl ?_;simp only[f59,f59c,f59g,f59r];simp +decide only[go_sem,g];intro b hb;cases b with
  |true=>have hl:l=[]:=(by simpa using hb rfl);subst hl;simp +decide only[go_sem,g]
  |false=>simp +decide only[go_sem,g]
namespace Gg
def J1 (e:AP):AB8 AP:=
some e
def L1 (a:AP) (L1:AP->Int->AB8 AP) (b:AP) (c:Int):AB8 AP:=
if decide (c<(a.AE.length:Int))then
(gt a.AE c).bind λd=>
if Ak (d.Al.length) 8=true then
if Ak (b.AE.length+1) 32=true then
L1 (AP.mk (b.AE++[d]) b.Tx b.Bp b.AA) (A1 (c+1))
else none
else none
else
J1 b
def AZ (a:AP):Nat->AP->Int->AB8 AP
|0,_,_=>none
|n+1,b,c=>L1 a (AZ a n) b c
end Gg
section
open Gg
def Gg (a:AP):AB8 AP:=
if Ak (a.Bp.length) 1=true then
if Ak (a.AA.length) 24=true then
AZ a BP (AP.mk [] a.Tx a.Bp a.AA) 0
else none
else none
theorem RZ {a r:AP} (h:Gg a=some r):Says Tryz.prog 131 [.agg (FZ a)] (.agg (IF r)):=by refine kO mix Tryz.func131 (hn [(1,[5,8,12,17,25,32]),(3,[23,24,42,43])]) ?_;have l1:=λn1 n2 n3 n4:Nat=>Av λn τ=>∃(b:AP) (c:Int),(τ 1=bA 4 (FZ a)/\τ 2=bA 4 z4/\τ 3=bA 4 (IF b)/\τ 4=si c)/\AZ a n b c=some r;unfold Gg at h;exact walk
end
def f60c:IC:=(.seq (.PR [⟨some ⟨2,[],[]⟩,.mv (.c (.own false 1 [])),none⟩])
(.seq (.seq (.Wc [.o ⟨some ⟨3,[],[]⟩,.cp (.t 0),none⟩,
.Tl ⟨4,[],[]⟩ false (.t 3)])
(.cond (.t 4) (.seq (.PR [⟨some ⟨2,[],[]⟩,.mv (.c (.own false 1 [])),none⟩])
.ret) .skip))
(.seq (.PR [⟨some ⟨5,[],[]⟩,.Na 1 [] [],none⟩,
⟨some ⟨6,[],[]⟩,.cp (.t 0),none⟩,
⟨some ⟨7,[],[]⟩,.app 1 8 (.t 5) (.t 6),none⟩,
⟨some ⟨2,[],[]⟩,.mv (.t 7),none⟩])
.ret)))
def f60g:Gi:=⟨[]⟩
def f60r:List RV:=[.tmp 2]
def f60:FI:=⟨f60c,f60g,f60r⟩
theorem chk60:Lj Tryz.prog Tryz.f60 f60=true:=by kernel_rfl
def slices_Clone_int (l:List Int):AB8 (List Int):=if Ak l.length 8=true then some l else none
theorem Gp {l:List Int} {r:List Int} (h:slices_Clone_int l=some r):Says Tryz.prog 60 [vS 1 eI l] (vO 1 eI r):=by
  obtain⟨g,h⟩:=G9 h;obtain rfl:=AAl h;refine JX mix Tryz.func60 chk60 (AAq (by kernel_rfl)) rfl ?_;simp only[f60,f60c,f60g,f60r];simp +decide only[go_sem,g];intro b hb;cases b with
  |true=>have hl:l=[]:=(by simpa using hb rfl);subst hl;simp +decide only[go_sem,g]
  |false=>simp +decide only[go_sem,g]
namespace EG
def J2 (i:List Int):AB8 (List Int):=
some i
def J1 (L1:(List Int)->Int->AB8 (List Int)) (b:Int) (f:List Int):AB8 (List Int):=
L1 f (A1 (b+1))
def L1 (a:List Int) (c:Int) (L1:(List Int)->Int->AB8 (List Int)) (d:List Int) (b:Int):AB8 (List Int):=
if decide (b<(a.length:Int))then
(gt a b).bind λe=>
if e != c then
if Ak (d.length+1) 8=true then
J1 L1 b (d++[e])
else none
else
J1 L1 b d
else
J2 d
def AZ (a:List Int) (c:Int):Nat->(List Int)->Int->AB8 (List Int)
|0,_,_=>none
|n+1,d,b=>L1 a c (AZ a c n) d b
end EG
section
open EG
def EG (a:List Int) (c:Int):AB8 (List Int):=
AZ a c BP [] 0
theorem U4 {a:List Int} {c:Int} {r:List Int} (h:EG a c=some r):Says Tryz.prog 133 [vS 1 eI a,si c] (vO 1 eI r):=by refine kO mix Tryz.func133 (hn [(5,[19,26])]) ?_;have l1:=λn1 n2 n3 n4:Nat=>Av λn τ=>∃(d:List Int) (b:Int),(τ 0=vS 1 eI a/\τ 1=si c/\τ 5=vO 1 eI d/\τ 6=si b)/\AZ a c n d b=some r;unfold EG at h;exact walk
end
def KN:AB8 (List AB9):=
some [(⟨#[118,97,114]⟩:AB9),(⟨#[118,111,108,97,116,105,108,101]⟩:AB9),(⟨#[109,117,116,101,120]⟩:AB9),(⟨#[114,119,108,111,99,107]⟩:AB9),(⟨#[99,111,110,100]⟩:AB9),(⟨#[102,117,116,117,114,101]⟩:AB9),(⟨#[116,104,114,101,97,100]⟩:AB9),(⟨#[105,102]⟩:AB9),(⟨#[101,108,115,101]⟩:AB9),(⟨#[119,104,105,108,101]⟩:AB9),(⟨#[108,111,99,107]⟩:AB9),(⟨#[114,101,97,100]⟩:AB9),(⟨#[119,114,105,116,101]⟩:AB9),(⟨#[116,114,97,110,115,97,99,116,105,111,110]⟩:AB9),(⟨#[97,116,111,109,105,99]⟩:AB9),(⟨#[119,97,105,116]⟩:AB9),(⟨#[110,111,116,105,102,121]⟩:AB9),(⟨#[110,111,116,105,102,121,97,108,108]⟩:AB9),(⟨#[115,112,97,119,110]⟩:AB9),(⟨#[106,111,105,110]⟩:AB9),(⟨#[115,101,116]⟩:AB9),(⟨#[103,101,116]⟩:AB9)]
theorem T1 {r:List AB9} (h:KN=some r):Says Tryz.prog 203 [] (vO 1 eS r):=by refine kO mix Tryz.func203 hn ?_;unfold KN at h;exact walk
namespace Dq
def J2:AB8 Bool:=
some true
def J1 (L1:Int->AB8 Bool) (a:Int) (e:Bool):AB8 Bool:=
if e then
some false
else
L1 (A1 (a+1))
def L1 (c:Int) (b:List Int) (L1:Int->AB8 Bool) (a:Int):AB8 Bool:=
if decide (a<(b.length:Int))then
(gt b a).bind λd=>
if decide (d<1)then
J1 L1 a true
else
if decide (d≥c)then
J1 L1 a true
else
if decide (a>0)then
(gt b (A1 (a-1))).bind λf=>
J1 L1 a (decide (d≤f))
else
J1 L1 a false
else
J2
def AZ (c:Int) (b:List Int):Nat->Int->AB8 Bool
|0,_=>none
|n+1,a=>L1 c b (AZ c b n) a
end Dq
section
open Dq
def Dq (b:List Int) (c:Int):AB8 Bool:=
AZ c b BP 0
theorem U6 {b:List Int} {c:Int} {r:Bool} (h:Dq b c=some r):Says Tryz.prog 68 [vS 1 eI b,si c] (sb r):=by refine kO mix Tryz.func68 hn ?_;have l1:=λn1 n2 n3 n4:Nat=>Av λn τ=>∃(a:Int),(τ 0=vS 1 eI b/\τ 1=si c/\τ 5=si a)/\AZ c b n a=some r;unfold Dq at h;exact walk
end
end Go.Abs
