/- Typed programs of Go functions, and that the functions do what these say. -/
import Derived.Test.YthmijagacgnmkaaGreatDoorWalkA
import Derived.Test.YthmijagacgnmkaaGreatDoorWalkB
import Derived.Test.YthmijagacgnmkaaGreatDoorWalkC
set_option linter.unusedSimpArgs false
set_option linter.unusedVariables false
namespace Go.Abs
open Go.Proofs
set_option maxRecDepth 1000000
set_option maxHeartbeats 4000000
namespace DG
def J4 (f:Int) (o:List AH):AB8 (Int×(List AH)):=
some (f,o)
def J3 (a:List AH) (f:Int):AB8 (Int×(List AH)):=
if decide (f≥0)then
(gt a f).bind λj=>
J4 f (a.set f.toNat (AH.mk 4 j.D7 j.Atomic))
else
J4 f a
def J2 (L1:Int->Int->AB8 (Int×(List AH))) (b l:Int):AB8 (Int×(List AH)):=
L1 l (A1 (b+1))
def J1 (L1:Int->Int->AB8 (Int×(List AH))) (c b:Int) (p:Bool):AB8 (Int×(List AH)):=
if p then
J2 L1 b b
else
J2 L1 b c
def L1 (d:Int) (a:List AH) (e:Int) (L1:Int->Int->AB8 (Int×(List AH))) (c b:Int):AB8 (Int×(List AH)):=
if decide (b<(a.length:Int))then
(gt a b).bind λs=>
(GA s d).bind λq=>
if q then
if decide (c<0)then
J1 L1 c b true
else
J1 L1 c b (b==e)
else
J1 L1 c b false
else
J3 a c
def AZ (d:Int) (a:List AH) (e:Int):Nat->Int->Int->AB8 (Int×(List AH))
|0,_,_=>none
|n+1,c,b=>L1 d a e (AZ d a e n) c b
end DG
section
open DG
def DG (i:Int) (a:List AH) (d e:Int):AB8 (Int×(List AH)):=
AZ d a e BP (-1) 0
theorem Ut {i:Int} {a:List AH} {d e:Int} {r:Int×(List AH)} (h:DG i a d e=some r):BA Tryz.prog 118 [.agg [.dead,si i,.dead,vO 3 An a],si d,si e] (si r.1) [.agg [.dead,si i,.dead,vO 3 An r.2],.dead,.dead]:=by refine kL mix Tryz.func118 (hn [(0,[3,10,11,16,34,35,37,38])] (E:=[(0,(.Wc [.bxv ⟨3,[],[0]⟩ 4 0,.o (iK 6 0)]))])) ?_;have a1:= @Oq;have l1:=λn1 n2 n3 n4:Nat=>Av λn τ=>∃(c b:Int) (us1:List Value),(τ 0= .agg [.dead,si i,.dead,vO 3 An a]/\τ 1=si d/\τ 2=si e/\τ 3= .vb 0 0 us1/\τ 7=si c/\τ 11= .al 0 [(0,3,0)]/\τ 12=si (a.length:Int)/\τ 13=si b)/\AZ d a e n c b=some r;unfold DG at h;exact walk
end
namespace DC
def J2 (p:List AH) (l:Int):AB8 (Int×(List AH)):=
some (l,p)
def J1 (L1:(List AH)->Int->Int->AB8 (Int×(List AH))) (a:Int) (o:List AH) (j:Int):AB8 (Int×(List AH)):=
L1 o j (A1 (a+1))
def L1 (c:Int) (b:List AH) (L1:(List AH)->Int->Int->AB8 (Int×(List AH))) (d:List AH) (e a:Int):AB8 (Int×(List AH)):=
if decide (a<(b.length:Int))then
(gt d a).bind λi=>
(GA i c).bind λq=>
if q then
J1 L1 a (d.set a.toNat (AH.mk 4 i.D7 i.Atomic)) (A1 (e+1))
else
J1 L1 a d e
else
J2 d e
def AZ (c:Int) (b:List AH):Nat->(List AH)->Int->Int->AB8 (Int×(List AH))
|0,_,_,_=>none
|n+1,d,e,a=>L1 c b (AZ c b n) d e a
end DC
section
open DC
def DC (f:Int) (b:List AH) (c:Int):AB8 (Int×(List AH)):=
AZ c b BP b 0 0
theorem Q5 {f:Int} {b:List AH} {c:Int} {r:Int×(List AH)} (h:DC f b c=some r):BA Tryz.prog 119 [.agg [.dead,si f,.dead,vO 3 An b],si c] (si r.1) [.agg [.dead,si f,.dead,vO 3 An r.2],.dead]:=by refine kL mix Tryz.func119 (hn [(0,[2,8,9,14,19,20,22,23])] (E:=[(0,(.Wc [.bxv ⟨2,[],[0]⟩ 4 0,.o (iK 4 0)]))])) ?_;have a1:= @Oq;have l1:=λn1 n2 n3 n4:Nat=>Av λn τ=>∃(d:List AH) (e a:Int) (us1:List Value),(τ 0= .agg [.dead,si f,.dead,vO 3 An d]/\τ 1=si c/\τ 2= .vb 0 0 us1/\τ 5=si e/\τ 9= .al 0 [(0,3,0)]/\τ 10=si (b.length:Int)/\τ 11=si a)/\AZ c b n d e a=some r;unfold DC at h;exact walk
end
namespace D3
def J1 (e:AB):AB8 AB:=
some e
def L1 (a:AB) (L1:AB->Int->AB8 AB) (b:AB) (c:Int):AB8 AB:=
if decide (c<(a.Sync.AE.length:Int))then
(gt a.Sync.AE c).bind λd=>
(slices_Clone_int d.Al).bind λp=>
if Ak (b.Sync.AE.length+1) 32=true then
L1 (AB.mk (AP.mk (b.Sync.AE++[(AW.mk d.B6 p)]) b.Sync.Tx b.Sync.Bp b.Sync.AA) b.Cells b.AK b.Count) (A1 (c+1))
else none
else
J1 b
def AZ (a:AB):Nat->AB->Int->AB8 AB
|0,_,_=>none
|n+1,b,c=>L1 a (AZ a n) b c
end D3
section
open D3
def D3 (a:AB):AB8 AB:=
(FW a.Cells).bind λf=>
(FW a.AK).bind λi=>
(slices_Clone_int a.Count).bind λj=>
(IJ a.Sync.Bp).bind λl=>
(Ed a.Sync.AA).bind λo=>
AZ a BP (AB.mk (AP.mk [] a.Sync.Tx l o) f i j) 0
theorem Oe {a r:AB} (h:D3 a=some r):Says Tryz.prog 92 [.agg (A3 a)] (.agg (Dt r)):=by refine kO mix Tryz.func92 (hn [(1,[6,9,12,16,17,19,20,23,24,29,30]),(3,[28,37,38,39,48,49,51]),(5,[40,42])]) ?_;have a1:= @Kg;have a2:= @Gp;have a3:= @LN;have a4:= @Hp;have l1:=λn1 n2 n3 n4:Nat=>Av λn τ=>∃(b:AB) (c:Int),(τ 2=bA 7 z0/\τ 3=bA 7 (Dt b)/\τ 31=vS 2 DS a.Sync.AE/\τ 32=si (a.Sync.AE.length:Int)/\τ 33=si c)/\AZ a n b c=some r;unfold D3 at h;exact walk
end
namespace E0
def J3 (s:AU) (o:List Int):AB8 ((List Int)×AU):=
some (o,s)
def J2 (L1:AU->(List Int)->Int->AB8 ((List Int)×AU)) (b:Int) (q:AU) (l:List Int):AB8 ((List Int)×AU):=
L1 q l (A1 (b+1))
def J1 (L1:AU->(List Int)->Int->AB8 ((List Int)×AU)) (c:List Int) (b f:Int) (i:AU) (p:Bool):AB8 ((List Int)×AU):=
if p then
if Ak (c.length+1) 8=true then
J2 L1 b i (c++[f])
else none
else
J2 L1 b i c
def L1 (a:List Int) (L1:AU->(List Int)->Int->AB8 ((List Int)×AU)) (d:AU) (c:List Int) (b:Int):AB8 ((List Int)×AU):=
if decide (b<(a.length:Int))then
(gt a b).bind λf=>
if decide ((A1 (b+3))≥(a.length:Int))then
(Ae d 2).bind λj=>
J1 L1 c b f j.2 (j.1==1)
else
J1 L1 c b f d false
else
J3 d c
def AZ (a:List Int):Nat->AU->(List Int)->Int->AB8 ((List Int)×AU)
|0,_,_,_=>none
|n+1,d,c,b=>L1 a (AZ a n) d c b
end E0
section
open E0
def E0 (e:AU) (a:List Int):AB8 ((List Int)×AU):=
AZ a BP e [] 0
theorem Z5 {e:AU} {a:List Int} {r:(List Int)×AU} (h:E0 e a=some r):BA Tryz.prog 178 [bA 2 (FE e),vO 1 eI a] (vO 1 eI r.1) [bA 2 (FE r.2),vO 1 eI a]:=by refine kL mix Tryz.func178 (hn [(0,[21]),(1,[8,13,17]),(5,[25,30])]) ?_;have a1:= @Cp;have l1:=λn1 n2 n3 n4:Nat=>Av λn τ=>∃(d:AU) (c:List Int) (b:Int),(τ 0=bA 2 (FE d)/\τ 1=vO 1 eI a/\τ 5=vO 1 eI c/\τ 8= .al 1 []/\τ 9=si (a.length:Int)/\τ 10=si b)/\AZ a n d c b=some r;unfold E0 at h;exact walk
end
namespace GD
def J1 (d:Int):AB8 (Int×Bool):=
some (d,true)
def J2 (e:Int):AB8 (Int×Bool):=
some (e,true)
end GD
section
open GD
def GD (c b a:Int):AB8 (Int×Bool):=
if c==6 then
some (A1 (b+a),true)
else
if c==7 then
some (A1 (b-a),true)
else
if c==8 then
some (A1 (b*a),true)
else
if c==9 then
if a==0 then
some (0,true)
else
if¬a=0 then
some (A1 (b.tdiv a),true)
else none
else
if c==10 then
if a==0 then
some (0,true)
else
if¬a=0 then
some (b.tmod a,true)
else none
else
if c==11 then
(EC (b==a)).bind λf=>
some (f,true)
else
if c==12 then
(EC (b != a)).bind λi=>
some (i,true)
else
if c==13 then
(EC (decide (b<a))).bind λj=>
some (j,true)
else
if c==14 then
(EC (decide (b≤a))).bind λl=>
some (l,true)
else
if c==15 then
(EC (decide (b>a))).bind λo=>
some (o,true)
else
if c==16 then
(EC (decide (b≥a))).bind λp=>
some (p,true)
else
if c==17 then
if b != 0 then
(EC (a != 0)).bind λq=>
J1 q
else
(EC false).bind λs=>
J1 s
else
if c==18 then
if b != 0 then
(EC true).bind λt=>
J2 t
else
(EC (a != 0)).bind λu=>
J2 u
else
some (0,false)
theorem WW {c b a:Int} {r:Int×Bool} (h:GD c b a=some r):Says Tryz.prog 254 [si c,si b,si a] (.BM [si r.1,sb r.2]):=by refine kO mix Tryz.func254 hn ?_;have a1:= @P5;unfold GD at h;exact walk
end
namespace GO
def J1 (e:Bool):AB8 Bool:=
some e
def J3 (f:Bool):AB8 Bool:=
some f
def J2 (a:AG) (b:AB) (c:Bool):AB8 Bool:=
if c then
some true
else
if a.Kind==18 then
(C4 b.Sync a.Obj).bind λd=>
if(d.length:Int)==0 then
some (a.Value==(-1))
else
if decide (a.Value≥0)then
if decide (a.Value<(b.Sync.AA.length:Int))then
(G6 d a.Value).bind λi=>
J3 i
else
J3 false
else
J3 false
else
if a.Kind==19 then
(C4 b.Sync a.Obj).bind λj=>
some (a.Value==(j.length:Int))
else
some (a.Value==0)
end GO
section
open GO
def GO (b:AB) (a:AG):AB8 Bool:=
if a.Kind==3 then
(gt b.Cells a.Obj).bind λl=>
some (a.Value==l)
else
if a.Kind==23 then
(gt b.AK a.Obj).bind λo=>
some (a.Value==o)
else
if a.Kind==5 then
if a.Value==0 then
J1 true
else
J1 (a.Value==1)
else
if a.Kind==4 then
J2 a b (a.Kind==4)
else
J2 a b (a.Kind==22)
theorem Yv {b:AB} {a:AG} {r:Bool} (h:GO b a=some r):Says Tryz.prog 69 [.agg (A3 b),.agg (BX a)] (sb r):=by refine kO mix Tryz.func69 (hn [(2,[12,23,45,62,63,78]),(3,[6,10,14,21,25,32,36,47,53,56,60,70,76,80,85]),(5,[50,69])] [(9,2)]) ?_;have a1:= @Nz;have a2:= @OU;have c2:=λn1 n2 n3 n4:Nat=>Bm 2 λτ=>∃(c:Bool),(τ 2=bA 7 (A3 b)/\τ 3=bA 7 (BX a)/\τ 7=si a.Kind/\τ 40=sb c)/\J2 a b c=some r;unfold GO at h;exact walk
end
namespace CX
def J1 (d:AB):AB8 AB:=
some d
def L1 (a:AD) (L1:AB->Int->AB8 AB) (b:AB) (c:Int):AB8 AB:=
if decide (c<(a.Cells.length:Int))then
(gt a.Cells c).bind λf=>
if Ak (b.Cells.length+1) 8=true then
L1 (AB.mk b.Sync (b.Cells++[f.Init]) b.AK b.Count) (A1 (c+1))
else none
else
J1 b
def AZ (a:AD):Nat->AB->Int->AB8 AB
|0,_,_=>none
|n+1,b,c=>L1 a (AZ a n) b c
end CX
section
open CX
def CX (a:AD):AB8 AB:=
(Dw a).bind λe=>
if 0≤0/\0≤(a.Cells.length:Int)/\Ak a.Cells.length 8=true then
if 0≤(a.AK.length:Int)/\(a.AK.length:Int)≤(a.AK.length:Int)/\Ak a.AK.length 8=true then
if 0≤(a.AA.length:Int)/\(a.AA.length:Int)≤(a.AA.length:Int)/\Ak a.AA.length 8=true then
AZ a BP (AB.mk e [] (List.replicate a.AK.length (0:Int)) (List.replicate a.AA.length (0:Int))) 0
else none
else none
else none
theorem Hg {a:AD} {r:AB} (h:CX a=some r):Says Tryz.prog 15 [.agg (Ah a)] (.agg (Dt r)):=by refine kO mix Tryz.func15 (hn [(1,[8,12,16,21]),(3,[28,29,34,36]),(5,[30])]) ?_;have a1:= @WC;have l1:=λn1 n2 n3 n4:Nat=>Av λn τ=>∃(b:AB) (c:Int),(τ 2=bA 7 z0/\τ 3=bA 7 (Dt b)/\τ 22=vS 5 Gx a.Cells/\τ 23=si (a.Cells.length:Int)/\τ 24=si c)/\AZ a n b c=some r;unfold CX at h;exact walk
end
namespace En
def J2 (a:AR) (d:Int) (i:Bool):AB8 Int:=
if i then
(gt a.Decls d).bind λp=>
some p.Kind
else
some 9
def J1 (a:AR) (b:AB9) (f:Bool):AB8 Int:=
if f then
some 8
else
(Cw a.Decls b).bind λd=>
if decide (d<0)then
(Cu a.AA b).bind λl=>
if decide (l≥0)then
some 7
else
some 0
else
(gt a.Decls d).bind λc=>
if c.Kind==1 then
if c.Bw != 0 then
some 2
else
some 1
else
if c.Kind==2 then
some 1
else
if c.Kind==3 then
J2 a d (c.Kind==3)
else
if c.Kind==4 then
J2 a d (c.Kind==4)
else
if c.Kind==5 then
J2 a d (c.Kind==5)
else
J2 a d (c.Kind==6)
end En
section
open En
def En (a:AR) (e:Int) (b:AB9):AB8 Int:=
if decide (e≥0)then
if decide (e<(a.AA.length:Int))then
(gt a.AA e).bind λo=>
(CP o.GZ b).bind λj=>
J1 a b (decide (j≥0))
else
J1 a b false
else
J1 a b false
theorem WN {a:AR} {e:Int} {b:AB9} {r:Int} (h:En a e b=some r):Says Tryz.prog 265 [.agg (CN a),si e,BZ b] (si r):=by refine kO mix Tryz.func265 (hn [(3,[12,18,28,34,39,47,61])] [(2,1)]) ?_;have a1:= @JW;have a2:= @KR;have a3:= @Hx;have c1:=λn1 n2 n3 n4:Nat=>Bm 1 λτ=>∃(f:Bool),(τ 2=BZ b/\τ 3=bA 2 (CN a)/\τ 27=sb f)/\J1 a b f=some r;unfold En at h;exact walk
end
namespace EP
def J1 (a:AP) (e:List AW):AB8 AP:=
(IJ a.Bp).bind λi=>
(Ed a.AA).bind λj=>
some (AP.mk e a.Tx i j)
def L1 (a:AP) (L1:(List AW)->Int->AB8 AP) (c:List AW) (b:Int):AB8 AP:=
if decide (b<(a.AE.length:Int))then
(gt a.AE b).bind λd=>
(slices_Clone_int d.Al).bind λf=>
(gt c b).bind λl=>
L1 (c.set b.toNat (AW.mk d.B6 f)) (A1 (b+1))
else
J1 a c
def AZ (a:AP):Nat->(List AW)->Int->AB8 AP
|0,_,_=>none
|n+1,c,b=>L1 a (AZ a n) c b
end EP
section
open EP
def EP (a:AP):AB8 AP:=
if 0≤(a.AE.length:Int)/\(a.AE.length:Int)≤(a.AE.length:Int)/\Ak a.AE.length 32=true then
AZ a BP (List.replicate a.AE.length (AW.mk 0 [])) 0
else none
theorem WD {a r:AP} (h:EP a=some r):Says Tryz.prog 113 [.agg (FZ a)] (.agg (IF r)):=by refine kO mix Tryz.func113 (hn [(1,[6,7,10,11,16,17,29,30,31,33,34,35,37,38]),(3,[18,26,28]),(5,[20,22,23])]) ?_;have a1:= @LN;have a2:= @Hp;have a3:= @Gp;have l1:=λn1 n2 n3 n4:Nat=>Av λn τ=>∃(c:List AW) (b:Int),(τ 1=bA 4 (FZ a)/\τ 2=bA 4 z4/\τ 3=vO 2 Bn c/\τ 11=vS 2 DS a.AE/\τ 12=si (a.AE.length:Int)/\τ 13=si b)/\AZ a n c b=some r;unfold EP at h;exact walk
end
namespace ED
def J2 (j:List Int):AB8 (List Int):=
some j
def L2 (a:List Int) (L2:(List Int)->Int->AB8 (List Int)) (f:List Int) (d:Int):AB8 (List Int):=
if decide (d<(a.length:Int))then
(gt a d).bind λq=>
(Ef f q).bind λo=>
L2 o (A1 (d+1))
else
J2 f
def Cr (a:List Int):Nat->(List Int)->Int->AB8 (List Int)
|0,_,_=>none
|n+1,f,d=>L2 a (Cr a n) f d
def J1 (a i:List Int):AB8 (List Int):=
Cr a BP i 0
def L1 (b a:List Int) (L1:(List Int)->Int->AB8 (List Int)) (e:List Int) (c:Int):AB8 (List Int):=
if decide (c<(b.length:Int))then
(gt b c).bind λp=>
(Ef e p).bind λl=>
L1 l (A1 (c+1))
else
J1 a e
def AZ (b a:List Int):Nat->(List Int)->Int->AB8 (List Int)
|0,_,_=>none
|n+1,e,c=>L1 b a (AZ b a n) e c
end ED
section
open ED
def ED (b a:List Int):AB8 (List Int):=
AZ b a BP [] 0
theorem P8 {b a r:List Int} (h:ED b a=some r):Says Tryz.prog 132 [vS 1 eI b,vS 1 eI a] (vO 1 eI r):=by refine kO mix Tryz.func132 (hn [(5,[14,26,32])]) ?_;have a1:= @eQ;have l2:=λn1 n2 n3 n4:Nat=>Av λn τ=>∃(f:List Int) (d:Int),(τ 1=vS 1 eI a/\τ 5=vO 1 eI f/\τ 7=si d)/\Cr a n f d=some r;have l1:=λn1 n2 n3 n4:Nat=>Av λn τ=>∃(e:List Int) (c:Int),(τ 0=vS 1 eI b/\τ 1=vS 1 eI a/\τ 5=vO 1 eI e/\τ 6=si c)/\AZ b a n e c=some r;unfold ED at h;exact walk
end
namespace G0
def J1 (a:Int) (c:AB) (b:AU) (e:Bool):AB8 (Int×AU):=
if e then
(Ae b 3).bind λi=>
some (i.1,i.2)
else
if a==5 then
(Ae b 2).bind λj=>
some (j.1,j.2)
else
if a==18 then
(EH c).bind λf=>
if decide ((f.length:Int)>0)then
(Ae b (f.length:Int)).bind λl=>
(gt f l.1).bind λs=>
some (s,l.2)
else
some ((-1),b)
else
if a==19 then
(EH c).bind λo=>
some ((o.length:Int),b)
else
some (0,b)
end G0
section
open G0
def G0 (b:AU) (c:AB) (a d:Int):AB8 (Int×AU):=
if a==3 then
(gt c.Cells d).bind λp=>
some (p,b)
else
if a==23 then
(gt c.AK 0).bind λq=>
some (q,b)
else
if a==4 then
J1 a c b (a==4)
else
J1 a c b (a==22)
theorem Y9 {b:AU} {c:AB} {a d:Int} {r:Int×AU} (h:G0 b c a d=some r):BA Tryz.prog 177 [bA 2 (FE b),.agg (A3 c),si a,si d] (si r.1) [bA 2 (FE r.2),.dead,.dead,.dead]:=by refine kL mix Tryz.func177 (hn [(0,[27,31,41]),(5,[13,20]),(9,[37,40,42,45])] [(7,1)]) ?_;have a1:= @Cp;have a2:= @U8;have c1:=λn1 n2 n3 n4:Nat=>Bm 1 λτ=>∃(e:Bool),(τ 0=bA 2 (FE b)/\τ 5=bA 7 (A3 c)/\τ 10=si a/\τ 24=sb e)/\J1 a c b e=some r;unfold G0 at h;exact walk
end
namespace FQ
def J2 (a:Ac) (c:Bool):AB8 Int:=
if c then
some (-1)
else
some a.A
def J1 (a:Ac) (b:AL) (d:Bool):AB8 Int:=
if d then
some a.B
else
if a.Op==7 then
(gt b.Ch a.C).bind λi=>
(Gy i a.N).bind λe=>
some (A1 (a.B+e))
else
if a.Op==9 then
(gt b.Ch a.C).bind λj=>
(Gy j a.N).bind λf=>
some (A1 (a.A+f))
else
if a.Op==10 then
J2 a (a.Op==10)
else
if a.Op==17 then
J2 a (a.Op==17)
else
if a.Op==18 then
J2 a (a.Op==18)
else
if a.Op==19 then
J2 a (a.Op==19)
else
if a.Op==20 then
J2 a (a.Op==20)
else
J2 a (a.Op==28)
end FQ
section
open FQ
def FQ (a:Ac) (b:AL):AB8 Int:=
if a.Op==6 then
J1 a b (a.Op==6)
else
J1 a b (a.Op==27)
theorem Wa {a:Ac} {b:AL} {r:Int} (h:FQ a b=some r):Says Tryz.prog 232 [.agg (EN a),.agg (FF b)] (si r):=by refine kO mix Tryz.func232 (hn [(2,[5,10,14,18,22,28,32,36,47]),(3,[16,30])] [(3,1),(10,2)]) ?_;have a1:= @Yj;have c2:=λn1 n2 n3 n4:Nat=>Bm 2 λτ=>∃(c:Bool),(τ 2=bA 6 (EN a)/\τ 40=sb c)/\J2 a c=some r;have c1:=λn1 n2 n3 n4:Nat=>Bm 1 λτ=>∃(d:Bool),(τ 2=bA 6 (EN a)/\τ 3=bA 4 (FF b)/\τ 6=si a.Op/\τ 7=sb d)/\J1 a b d=some r;unfold FQ at h;exact walk
end
namespace EE
def J1 (d:AB):AB8 AB:=
some d
def L1 (a:AD) (L1:AB->Int->AB8 AB) (b:AB) (c:Int):AB8 AB:=
if decide (c<(a.Cells.length:Int))then
(gt a.Cells c).bind λf=>
if Ak (b.Cells.length+1) 8=true then
L1 (AB.mk b.Sync (b.Cells++[f.Init]) b.AK b.Count) (A1 (c+1))
else none
else
J1 b
def AZ (a:AD):Nat->AB->Int->AB8 AB
|0,_,_=>none
|n+1,b,c=>L1 a (AZ a n) b c
end EE
section
open EE
def EE (a:AD):AB8 AB:=
(CR a).bind λe=>
if 0≤(a.AK.length:Int)/\(a.AK.length:Int)≤(a.AK.length:Int)/\Ak a.AK.length 8=true then
if 0≤(a.AA.length:Int)/\(a.AA.length:Int)≤(a.AA.length:Int)/\Ak a.AA.length 8=true then
AZ a BP (AB.mk e [] (List.replicate a.AK.length (0:Int)) (List.replicate a.AA.length (0:Int))) 0
else none
else none
theorem Il {a:AD} {r:AB} (h:EE a=some r):Says Tryz.prog 20 [.agg (Ah a)] (.agg (Dt r)):=by refine kO mix Tryz.func20 (hn [(1,[7,11,17,25]),(3,[23,24,33,34])]) ?_;have a1:= @QC;have l1:=λn1 n2 n3 n4:Nat=>Av λn τ=>∃(b:AB) (c:Int),(τ 1=bA 6 (Ah a)/\τ 2=bA 7 z0/\τ 3=bA 7 (Dt b)/\τ 4=si c)/\AZ a n b c=some r;unfold EE at h;exact walk
end
namespace D9
def J2:AB8 Bool:=
some true
def L1 (a:AD) (L1:Int->AB8 Bool) (b:Int):AB8 Bool:=
if decide (b<(a.Af.length:Int))then
(gt a.Af b).bind λf=>
(DH f.Mutex (a.AE.length:Int)).bind λe=>
if !e then
some false
else
L1 (A1 (b+1))
else
J2
def AZ (a:AD):Nat->Int->AB8 Bool
|0,_=>none
|n+1,b=>L1 a (AZ a n) b
def J1 (a:AD) (d:Bool):AB8 Bool:=
if d then
some false
else
AZ a BP 0
end D9
section
open D9
def D9 (a:AD) (c:AP):AB8 Bool:=
if(c.AE.length:Int) != (a.AE.length:Int)then
J1 a true
else
if(c.Bp.length:Int) != (a.AK.length:Int)then
J1 a true
else
J1 a ((c.AA.length:Int) != (a.AA.length:Int))
theorem KL {a:AD} {c:AP} {r:Bool} (h:D9 a c=some r):Says Tryz.prog 109 [.agg (Ah a),.agg (FZ c)] (sb r):=by refine kO mix Tryz.func109 (hn [(2,[10,18,27,32,41]),(3,[7,15,24]),(6,[39])] [(2,1)]) ?_;have a1:= @I0;have l1:=λn1 n2 n3 n4:Nat=>Av λn τ=>∃(b:Int),(τ 2=bA 6 (Ah a)/\τ 33=vS 2 Ht a.Af/\τ 34=si (a.Af.length:Int)/\τ 35=si b)/\AZ a n b=some r;have c1:=λn1 n2 n3 n4:Nat=>Bm 1 λτ=>∃(d:Bool),(τ 2=bA 6 (Ah a)/\τ 31=sb d)/\J1 a d=some r;unfold D9 at h;exact walk
end
namespace HU
def J3:AB8 Bool:=
some true
def J2 (L1:Int->AB8 Bool) (a:Int):AB8 Bool:=
L1 (A1 (a+1))
def J1 (L1:Int->AB8 Bool) (a:Int) (l:Bool):AB8 Bool:=
if l then
some false
else
J2 L1 a
def L1 (c:List Int) (d:Int) (b:AO) (L1:Int->AB8 Bool) (a:Int):AB8 Bool:=
if decide (a<(c.length:Int))then
(gt c a).bind λf=>
(gt b.Init.Count d).bind λi=>
if decide (f<i)then
J2 L1 a
else
(KA b d (A1 (f-i))).bind λe=>
if decide (e<0)then
J1 L1 a true
else
(gt b.AF e).bind λj=>
if j.Kind != 3 then
J1 L1 a (j.Kind != 23)
else
J1 L1 a false
else
J3
def AZ (c:List Int) (d:Int) (b:AO):Nat->Int->AB8 Bool
|0,_=>none
|n+1,a=>L1 c d b (AZ c d b n) a
end HU
section
open HU
def HU (b:AO) (d:Int) (c:List Int):AB8 Bool:=
AZ c d b BP 0
theorem Yx {b:AO} {d:Int} {c:List Int} {r:Bool} (h:HU b d c=some r):Says Tryz.prog 90 [.agg (BV b),si d,vS 1 eI c] (sb r):=by refine kO mix Tryz.func90 (hn [(3,[19,20,32,33,43,51])]) ?_;have a1:= @eT;have l1:=λn1 n2 n3 n4:Nat=>Av λn τ=>∃(a:Int),(τ 1=si d/\τ 2=vS 1 eI c/\τ 3=bA 15 (BV b)/\τ 7=si a)/\AZ c d b n a=some r;unfold HU at h;exact walk
end
namespace Er
def J1 (e:List AG):AB8 (List AG):=
some e
def L1 (a:List AG) (L1:(List AG)->Int->AB8 (List AG)) (b:List AG) (c:Int):AB8 (List AG):=
if decide (c<(a.length:Int))then
(gt a c).bind λd=>
(slices_Clone_int d.Du).bind λf=>
(slices_Clone_int d.DR).bind λi=>
if Ak (b.length+1) 88=true then
L1 (b++[(AG.mk d.Thread d.Kind d.Obj d.Value d.Site f i)]) (A1 (c+1))
else none
else
J1 b
def AZ (a:List AG):Nat->(List AG)->Int->AB8 (List AG)
|0,_,_=>none
|n+1,b,c=>L1 a (AZ a n) b c
end Er
section
open Er
def Er (a:List AG):AB8 (List AG):=
if 0≤0/\0≤(a.length:Int)/\Ak a.length 88=true then
AZ a BP [] 0
else none
theorem QU {a r:List AG} (h:Er a=some r):Says Tryz.prog 93 [vS 7 BX a] (vO 7 IE r):=by refine kO mix Tryz.func93 (hn [(3,[23,28]),(5,[15,16,18,19,21,22,24])]) ?_;have a1:= @Gp;have l1:=λn1 n2 n3 n4:Nat=>Av λn τ=>∃(b:List AG) (c:Int),(τ 3=vO 7 IE b/\τ 9=vS 7 BX a/\τ 10=si (a.length:Int)/\τ 11=si c)/\AZ a n b c=some r;unfold Er at h;exact walk
end
namespace F6
def J1 (d:Aj):AB8 Aj:=
some d
def L1 (a:Aj) (L1:Aj->Int->AB8 Aj) (b:Aj) (c:Int):AB8 Aj:=
if decide (c<(a.AA.length:Int))then
(gt a.AA c).bind λi=>
(FO i).bind λf=>
if Ak (b.AA.length+1) 64=true then
L1 (Aj.mk b.Sync b.Cells b.AK (b.AA++[f])) (A1 (c+1))
else none
else
J1 b
def AZ (a:Aj):Nat->Aj->Int->AB8 Aj
|0,_,_=>none
|n+1,b,c=>L1 a (AZ a n) b c
end F6
section
open F6
def F6 (a:Aj):AB8 Aj:=
(Gg a.Sync).bind λe=>
if Ak (a.Cells.length) 8=true then
if Ak (a.AK.length) 8=true then
AZ a BP (Aj.mk e a.Cells a.AK []) 0
else none
else none
theorem Zy {a r:Aj} (h:F6 a=some r):Says Tryz.prog 211 [.agg (Kj a)] (.agg (Mk r)):=by refine kO mix Tryz.func211 (hn [(1,[5,9,13,18,26]),(3,[24,25,34,35])]) ?_;have a1:= @RZ;have a2:= @RY;have l1:=λn1 n2 n3 n4:Nat=>Av λn τ=>∃(b:Aj) (c:Int),(τ 1=bA 7 (Kj a)/\τ 2=bA 7 z3/\τ 3=bA 7 (Mk b)/\τ 4=si c)/\AZ a n b c=some r;unfold F6 at h;exact walk
end
namespace B9
def J3:AB8 Bool:=
some false
def J2 (L1:Int->Int->AB8 Bool) (b f:Int):AB8 Bool:=
L1 f (A1 (b+1))
def J1 (L1:Int->Int->AB8 Bool) (c:Int) (a:List Ac) (b:Int) (i:Bool):AB8 Bool:=
if i then
some false
else
(gt a c).bind λe=>
(GF e.Op).bind λj=>
if !j then
some true
else
if e.Op==5 then
J2 L1 b e.A
else
J2 L1 b (A1 (c+1))
def L1 (a:List Ac) (L1:Int->Int->AB8 Bool) (c b:Int):AB8 Bool:=
if decide (b≤(a.length:Int))then
if decide (c<0)then
J1 L1 c a b true
else
J1 L1 c a b (decide (c≥(a.length:Int)))
else
J3
def AZ (a:List Ac):Nat->Int->Int->AB8 Bool
|0,_,_=>none
|n+1,c,b=>L1 a (AZ a n) c b
end B9
section
open B9
def B9 (a:List Ac) (d:Int):AB8 Bool:=
AZ a BP d 0
theorem Yo {a:List Ac} {d:Int} {r:Bool} (h:B9 a d=some r):Says Tryz.prog 208 [vS 6 EN a,si d] (sb r):=by refine kO mix Tryz.func208 hn ?_;have a1:= @Oy;have l1:=λn1 n2 n3 n4:Nat=>Av λn τ=>∃(c b:Int),(τ 0=vS 6 EN a/\τ 1=si c/\τ 5=si b)/\AZ a n c b=some r;unfold B9 at h;exact walk
end
namespace GP
def J2:AB8 Bool:=
some true
def J1 (L1:Int->AB8 Bool) (c:Int) (f:Bool):AB8 Bool:=
if f then
some false
else
L1 (A1 (c+1))
def L1 (a b:List D5) (L1:Int->AB8 Bool) (c:Int):AB8 Bool:=
if decide (c<(a.length:Int))then
(gt a c).bind λd=>
(gt b c).bind λe=>
(HC d.HW e.HW).bind λi=>
if !i then
J1 L1 c true
else
(HC d.MX e.MX).bind λj=>
J1 L1 c (!j)
else
J2
def AZ (a b:List D5):Nat->Int->AB8 Bool
|0,_=>none
|n+1,c=>L1 a b (AZ a b n) c
end GP
section
open GP
def GP (a b:List D5):AB8 Bool:=
if(a.length:Int) != (b.length:Int)then
some false
else
AZ a b BP 0
theorem UF {a b:List D5} {r:Bool} (h:GP a b=some r):Says Tryz.prog 25 [vS 2 K6 a,vS 2 K6 b] (sb r):=by refine kO mix Tryz.func25 hn ?_;have a1:= @QF;have l1:=λn1 n2 n3 n4:Nat=>Av λn τ=>∃(c:Int),(τ 0=vS 2 K6 a/\τ 1=vS 2 K6 b/\τ 12=si (a.length:Int)/\τ 13=si c)/\AZ a b n c=some r;unfold GP at h;exact walk
end
namespace DQ
def J1:AB8 Bool:=
some false
def L1 (a:AB9) (b:List AB9) (L1:Int->AB8 Bool) (c:Int):AB8 Bool:=
if decide (c<(b.length:Int))then
(gt b c).bind λd=>
if d.toList==a.toList then
some true
else
L1 (A1 (c+1))
else
J1
def AZ (a:AB9) (b:List AB9):Nat->Int->AB8 Bool
|0,_=>none
|n+1,c=>L1 a b (AZ a b n) c
end DQ
section
open DQ
def DQ (a:AB9):AB8 Bool:=
(KN).bind λb=>
AZ a b BP 0
theorem SX {a:AB9} {r:Bool} (h:DQ a=some r):Says Tryz.prog 168 [BZ a] (sb r):=by refine kO mix Tryz.func168 (hn [(3,[7,12,14])]) ?_;have a1:= @T1;have l1:=λn1 n2 n3 n4:Nat=>Av λn τ=>∃(b:List AB9) (c:Int),(τ 0=BZ a/\τ 3=vO 1 eS b/\τ 4=si c)/\AZ a b n c=some r;unfold DQ at h;exact walk
end
namespace Gw
def J1 (c:Bool):AB8 Bool:=
some c
end Gw
section
open Gw
def Gw (a b:AG):AB8 Bool:=
if a.Thread==b.Thread then
if a.Kind==b.Kind then
if a.Obj==b.Obj then
if a.Value==b.Value then
if a.Site==b.Site then
(ET a.Du b.Du).bind λd=>
if d then
(ET a.DR b.DR).bind λe=>
J1 e
else
J1 false
else
J1 false
else
J1 false
else
J1 false
else
J1 false
else
J1 false
theorem Sd {a b:AG} {r:Bool} (h:Gw a b=some r):Says Tryz.prog 152 [.agg (BX a),.agg (BX b)] (sb r):=by refine kO mix Tryz.func152 (hn [(2,[5,11,18,25,32,39,46]),(3,[7,13,20,27,34,41,48])]) ?_;have a1:= @KS;unfold Gw at h;exact walk
end
namespace Hz
def J1 (a:Int×AU) (e:Bool):AB8 (Int×AU):=
if e then
some ((-1),a.2)
else
some (A1 (a.1-2),a.2)
end Hz
section
open Hz
def Hz (c:AU) (d:Int) (b:List Int):AB8 (Int×AU):=
(Ae c (A1 ((b.length:Int)+2))).bind λa=>
if decide ((A1 (a.1-2))<0)then
J1 a true
else
(gt b (A1 (a.1-2))).bind λf=>
J1 a (f==0)
theorem Y6 {c:AU} {d:Int} {b:List Int} {r:Int×AU} (h:Hz c d b=some r):BA Tryz.prog 174 [bA 2 (FE c),.agg [.dead,si d,.dead,.dead,.dead,.dead,vS 1 eI b]] (si r.1) [bA 2 (FE r.2),.dead]:=by refine kL mix Tryz.func174 (hn [(0,[6]),(1,[3,7,8,16,17,19])] (E:=[(0,(.Wc [.bxv ⟨3,[],[1]⟩ 7 1,.o (iK 4 0)]))])) ?_;have a1:= @Cp;unfold Hz at h;exact walk
end
def JS (a:AD):AB8 AD:=
(Ji a.Cells).bind λb=>
(Jk a.AE).bind λc=>
(Jj a.Af).bind λd=>
(slices_Clone_string a.AK).bind λe=>
(slices_Clone_string a.AA).bind λf=>
(Jl a.BL).bind λi=>
some (AD.mk b c d e f i)
theorem RI {a r:AD} (h:JS a=some r):Says Tryz.prog 91 [.agg (Ah a)] (.agg (K0 r)):=by refine kO mix Tryz.func91 (hn [(1,[3,6,9,12,15,18])]) ?_;have a1:= @NS;have a2:= @NU;have a3:= @NT;have a4:= @Ob;have a5:= @NV;unfold JS at h;exact walk
namespace HY
def J1 (c:Bool):AB8 Bool:=
some c
end HY
section
open HY
def HY (b:AD) (a:AB):AB8 Bool:=
(Ex b a.Sync).bind λd=>
if d then
if(a.Cells.length:Int)==(b.Cells.length:Int)then
if(a.AK.length:Int)==(b.AK.length:Int)then
J1 ((a.Count.length:Int)==(b.AA.length:Int))
else
J1 false
else
J1 false
else
J1 false
theorem Re {b:AD} {a:AB} {r:Bool} (h:HY b a=some r):Says Tryz.prog 65 [.agg (Ah b),.agg (A3 a)] (sb r):=by refine kO mix Tryz.func65 (hn [(2,[13,22,31]),(3,[6,10,19,28])]) ?_;have a1:= @NQ;unfold HY at h;exact walk
end
namespace E3
def J1 (e:Bool):AB8 Bool:=
some e
end E3
section
open E3
def E3 (b:AD) (a c:Int):AB8 Bool:=
(Db a (b.Cells.length:Int)).bind λf=>
if f then
(gt b.Cells a).bind λd=>
if d.Index==0 then
if d.Bw != 0 then
J1 (d.Bw==c)
else
J1 false
else
J1 false
else
J1 false
theorem Yn {b:AD} {a c:Int} {r:Bool} (h:E3 b a c=some r):Says Tryz.prog 228 [.agg (Ah b),si a,si c] (sb r):=by refine kO mix Tryz.func228 (hn [(3,[8,13,22,31])]) ?_;have a1:= @P6;unfold E3 at h;exact walk
end
namespace GL
def J1 (d:Bool):AB8 Bool:=
some d
end GL
section
open GL
def GL (b:AD) (a:Int) (c:Bool):AB8 Bool:=
(FC a (b.AE.length:Int)).bind λe=>
if e then
(gt b.AE a).bind λf=>
J1 (f.RW==c)
else
J1 false
theorem TC {b:AD} {a:Int} {c r:Bool} (h:GL b a c=some r):Says Tryz.prog 122 [.agg (Ah b),si a,sb c] (sb r):=by refine kO mix Tryz.func122 (hn [(3,[8,13])]) ?_;have a1:= @TD;unfold GL at h;exact walk
end
namespace Gz
def J1 (c:Bool):AB8 Bool:=
some c
end Gz
section
open Gz
def Gz (b:AO) (a:Int):AB8 Bool:=
(Ln a (b.Init.Count.length:Int)).bind λd=>
if d then
(gt b.Init.Count a).bind λe=>
J1 (decide (e≥1))
else
J1 false
theorem Yw {b:AO} {a:Int} {r:Bool} (h:Gz b a=some r):Says Tryz.prog 143 [.agg (BV b),si a] (sb r):=by refine kO mix Tryz.func143 (hn [(2,[6,7,12,13])]) ?_;have a1:= @Vg;unfold Gz at h;exact walk
end
namespace HT
def J1 (b:Bool):AB8 Bool:=
some b
end HT
section
open HT
def HT (a:Int):AB8 Bool:=
(GC a).bind λc=>
if c then
J1 true
else
(Hv a).bind λd=>
if d then
J1 true
else
J1 (a==95)
theorem Yd {a:Int} {r:Bool} (h:HT a=some r):Says Tryz.prog 169 [.sc (.int .u8 a)] (sb r):=by refine kO mix Tryz.func169 hn ?_;have a1:= @Ov;have a2:= @Yb;unfold HT at h;exact walk
end
def Dp (a:AN) (b:AB9):AB8 (Bool×AN):=
(CP a.held b).bind λc=>
some (decide (c≥0),a)
theorem Q3 {a:AN} {b:AB9} {r:Bool×AN} (h:Dp a b=some r):BA Tryz.prog 248 [bA 8 (CS a),BZ b] (sb r.1) [bA 8 (CS r.2),.dead]:=by refine kL mix Tryz.func248 (hn [(0,[5,6,7,8])]) ?_;have a1:= @Hx;unfold Dp at h;exact walk
def IP (a:List Int):AB8 (List Int):=
(slices_Clone_int a).bind λb=>
(LO b).bind λc=>
(slices_Compact c).bind λd=>
some d
theorem ME {a r:List Int} (h:IP a=some r):Says Tryz.prog 136 [vS 1 eI a] (vO 1 eI r):=by refine kO mix Tryz.func136 (hn [(3,[6,8])]) ?_;have a1:= @Gp;have a2:= @QM;have a3:= @M9;unfold IP at h;exact walk
def LH (b a:Int):AB8 (Int×Bool):=
if b==4 then
some (A1 (0-a),true)
else
if b==5 then
(EC (a==0)).bind λc=>
some (c,true)
else
some (0,false)
theorem Yl {b a:Int} {r:Int×Bool} (h:LH b a=some r):Says Tryz.prog 252 [si b,si a] (.BM [si r.1,sb r.2]):=by refine kO mix Tryz.func252 hn ?_;have a1:= @P5;unfold LH at h;exact walk
def Gh (a:List Int) (b:Int):AB8 Bool:=
(GG a b).bind λc=>
some (decide (c≥0))
theorem MN {a:List Int} {b:Int} {r:Bool} (h:Gh a b=some r):Says Tryz.prog 160 [vS 1 eI a,si b] (sb r):=by refine kO mix Tryz.func160 hn ?_;have a1:= @Wg;unfold Gh at h;exact walk
end Go.Abs
