/- Typed programs of Go functions, and that the functions do what these say. -/
import Derived.Test.YthmijagacgnmkaaGreatDoorWalkA
import Derived.Test.YthmijagacgnmkaaGreatDoorWalkB
import Derived.Test.YthmijagacgnmkaaGreatDoorWalkC
set_option linter.unusedSimpArgs false
set_option linter.unusedVariables false
namespace Go.Abs
open Go.Proofs
set_option maxRecDepth 1000000
set_option maxHeartbeats 4000000
namespace Fk
def J1 (d:Int):ABr (Int×Bool):=
some (d,true)
def J2 (e:Int):ABr (Int×Bool):=
some (e,true)
end Fk
section
open Fk
def Fk (c b a:Int):ABr (Int×Bool):=
if c==6 then
some (Ay (b+a),true)
else
if c==7 then
some (Ay (b-a),true)
else
if c==8 then
some (Ay (b*a),true)
else
if c==9 then
if a==0 then
some (0,true)
else
if¬a=0 then
some (Ay (b.tdiv a),true)
else none
else
if c==10 then
if a==0 then
some (0,true)
else
if¬a=0 then
some (b.tmod a,true)
else none
else
if c==11 then
(D4 (b==a)).bind λf=>
some (f,true)
else
if c==12 then
(D4 (b != a)).bind λi=>
some (i,true)
else
if c==13 then
(D4 (decide (b<a))).bind λj=>
some (j,true)
else
if c==14 then
(D4 (decide (b≤a))).bind λl=>
some (l,true)
else
if c==15 then
(D4 (decide (b>a))).bind λo=>
some (o,true)
else
if c==16 then
(D4 (decide (b≥a))).bind λp=>
some (p,true)
else
if c==17 then
if b != 0 then
(D4 (a != 0)).bind λq=>
J1 q
else
(D4 false).bind λs=>
J1 s
else
if c==18 then
if b != 0 then
(D4 true).bind λt=>
J2 t
else
(D4 (a != 0)).bind λu=>
J2 u
else
some (0,false)
theorem Vh {c b a:Int} {r:Int×Bool} (h:Fk c b a=some r):Says Tryz.prog 254 [si c,si b,si a] (.BI [si r.1,sb r.2]):=by refine kO mix Tryz.func254 hn ?_;have a1:= @Pd;unfold Fk at h;exact walk
end
namespace Fw
def J1 (e:Bool):ABr Bool:=
some e
def J3 (f:Bool):ABr Bool:=
some f
def J2 (a:AE) (b:AD) (c:Bool):ABr Bool:=
if c then
some true
else
if a.Kind==18 then
(Cu b.Sync a.Obj).bind λd=>
if(d.length:Int)==0 then
some (a.Value==(-1))
else
if decide (a.Value≥0)then
if decide (a.Value<(b.Sync.AA.length:Int))then
(GC d a.Value).bind λi=>
J3 i
else
J3 false
else
J3 false
else
if a.Kind==19 then
(Cu b.Sync a.Obj).bind λj=>
some (a.Value==(j.length:Int))
else
some (a.Value==0)
end Fw
section
open Fw
def Fw (b:AD) (a:AE):ABr Bool:=
if a.Kind==3 then
(gt b.Cells a.Obj).bind λl=>
some (a.Value==l)
else
if a.Kind==23 then
(gt b.AK a.Obj).bind λo=>
some (a.Value==o)
else
if a.Kind==5 then
if a.Value==0 then
J1 true
else
J1 (a.Value==1)
else
if a.Kind==4 then
J2 a b (a.Kind==4)
else
J2 a b (a.Kind==22)
theorem X7 {b:AD} {a:AE} {r:Bool} (h:Fw b a=some r):Says Tryz.prog 69 [.agg (BH b),.agg (Bi a)] (sb r):=by refine kO mix Tryz.func69 (hn [(2,[12,23,45,62,63,78]),(3,[6,10,14,21,25,32,36,47,53,56,60,70,76,80,85]),(5,[50,69])] [(9,2)]) ?_;have a1:= @NT;have a2:= @LQ;have c2:=λn1 n2 n3 n4:Nat=>Bo 2 λτ=>∃(c:Bool),(τ 2=bA 7 (BH b)/\τ 3=bA 7 (Bi a)/\τ 7=si a.Kind/\τ 40=sb c)/\J2 a b c=some r;unfold Fw at h;exact walk
end
namespace Cc
def J1 (d:AD):ABr AD:=
some d
def L1 (a:AB) (L1:AD->Int->ABr AD) (b:AD) (c:Int):ABr AD:=
if decide (c<(a.Cells.length:Int))then
(gt a.Cells c).bind λf=>
if Af (b.Cells.length+1) 8=true then
L1 (AD.mk b.Sync (b.Cells++[f.Init]) b.AK b.Count) (Ay (c+1))
else none
else
J1 b
def AZ (a:AB):Nat->AD->Int->ABr AD
|0,_,_=>none
|n+1,b,c=>L1 a (AZ a n) b c
end Cc
section
open Cc
def Cc (a:AB):ABr AD:=
(Dm a).bind λe=>
if 0≤0/\0≤(a.Cells.length:Int)/\Af a.Cells.length 8=true then
if 0≤(a.AK.length:Int)/\(a.AK.length:Int)≤(a.AK.length:Int)/\Af a.AK.length 8=true then
if 0≤(a.AA.length:Int)/\(a.AA.length:Int)≤(a.AA.length:Int)/\Af a.AA.length 8=true then
AZ a BU (AD.mk e [] (List.replicate a.AK.length (0:Int)) (List.replicate a.AA.length (0:Int))) 0
else none
else none
else none
theorem I4 {a:AB} {r:AD} (h:Cc a=some r):Says Tryz.prog 15 [.agg (Am a)] (.agg (Hl r)):=by refine kO mix Tryz.func15 (hn [(1,[8,12,16,21]),(3,[28,29,34,36]),(5,[30])]) ?_;have a1:= @VU;have l1:=λn1 n2 n3 n4:Nat=>A0 λn τ=>∃(b:AD) (c:Int),(τ 2=bA 7 z0/\τ 3=bA 7 (Hl b)/\τ 22=vS 5 Hj a.Cells/\τ 23=si (a.Cells.length:Int)/\τ 24=si c)/\AZ a n b c=some r;unfold Cc at h;exact walk
end
namespace Ea
def J2 (a:AQ) (d:Int) (i:Bool):ABr Int:=
if i then
(gt a.Decls d).bind λp=>
some p.Kind
else
some 9
def J1 (a:AQ) (b:ABs) (f:Bool):ABr Int:=
if f then
some 8
else
(Cj a.Decls b).bind λd=>
if decide (d<0)then
(Cg a.AA b).bind λl=>
if decide (l≥0)then
some 7
else
some 0
else
(gt a.Decls d).bind λc=>
if c.Kind==1 then
if c.B7 != 0 then
some 2
else
some 1
else
if c.Kind==2 then
some 1
else
if c.Kind==3 then
J2 a d (c.Kind==3)
else
if c.Kind==4 then
J2 a d (c.Kind==4)
else
if c.Kind==5 then
J2 a d (c.Kind==5)
else
J2 a d (c.Kind==6)
end Ea
section
open Ea
def Ea (a:AQ) (e:Int) (b:ABs):ABr Int:=
if decide (e≥0)then
if decide (e<(a.AA.length:Int))then
(gt a.AA e).bind λo=>
(CF o.GG b).bind λj=>
J1 a b (decide (j≥0))
else
J1 a b false
else
J1 a b false
theorem Vc {a:AQ} {e:Int} {b:ABs} {r:Int} (h:Ea a e b=some r):Says Tryz.prog 265 [.agg (CC a),si e,BR b] (si r):=by refine kO mix Tryz.func265 (hn [(3,[12,18,28,34,39,47,61])] [(2,1)]) ?_;have a1:= @JJ;have a2:= @Jv;have a3:= @He;have c1:=λn1 n2 n3 n4:Nat=>Bo 1 λτ=>∃(f:Bool),(τ 2=BR b/\τ 3=bA 2 (CC a)/\τ 27=sb f)/\J1 a b f=some r;unfold Ea at h;exact walk
end
namespace EE
def J1 (a:AN) (e:List AY):ABr AN:=
(KD a.B6).bind λi=>
(Gf a.AA).bind λj=>
some (AN.mk e a.Tx i j)
def L1 (a:AN) (L1:(List AY)->Int->ABr AN) (c:List AY) (b:Int):ABr AN:=
if decide (b<(a.AF.length:Int))then
(gt a.AF b).bind λd=>
(slices_Clone_int d.Ax).bind λf=>
(gt c b).bind λl=>
L1 (c.set b.toNat (AY.mk d.Bz f)) (Ay (b+1))
else
J1 a c
def AZ (a:AN):Nat->(List AY)->Int->ABr AN
|0,_,_=>none
|n+1,c,b=>L1 a (AZ a n) c b
end EE
section
open EE
def EE (a:AN):ABr AN:=
if 0≤(a.AF.length:Int)/\(a.AF.length:Int)≤(a.AF.length:Int)/\Af a.AF.length 32=true then
AZ a BU (List.replicate a.AF.length (AY.mk 0 [])) 0
else none
theorem VV {a r:AN} (h:EE a=some r):Says Tryz.prog 113 [.agg (EH a)] (.agg (Hm r)):=by refine kO mix Tryz.func113 (hn [(1,[6,7,10,11,16,17,29,30,31,33,34,35,37,38]),(3,[18,26,28]),(5,[20,22,23])]) ?_;have a1:= @Pp;have a2:= @Ke;have a3:= @I2;have l1:=λn1 n2 n3 n4:Nat=>A0 λn τ=>∃(c:List AY) (b:Int),(τ 1=bA 4 (EH a)/\τ 2=bA 4 z4/\τ 3=vO 2 Co c/\τ 11=vS 2 Hk a.AF/\τ 12=si (a.AF.length:Int)/\τ 13=si b)/\AZ a n c b=some r;unfold EE at h;exact walk
end
namespace D5
def J2 (j:List Int):ABr (List Int):=
some j
def L2 (a:List Int) (L2:(List Int)->Int->ABr (List Int)) (f:List Int) (d:Int):ABr (List Int):=
if decide (d<(a.length:Int))then
(gt a d).bind λq=>
(ES f q).bind λo=>
L2 o (Ay (d+1))
else
J2 f
def Cf (a:List Int):Nat->(List Int)->Int->ABr (List Int)
|0,_,_=>none
|n+1,f,d=>L2 a (Cf a n) f d
def J1 (a i:List Int):ABr (List Int):=
Cf a BU i 0
def L1 (b a:List Int) (L1:(List Int)->Int->ABr (List Int)) (e:List Int) (c:Int):ABr (List Int):=
if decide (c<(b.length:Int))then
(gt b c).bind λp=>
(ES e p).bind λl=>
L1 l (Ay (c+1))
else
J1 a e
def AZ (b a:List Int):Nat->(List Int)->Int->ABr (List Int)
|0,_,_=>none
|n+1,e,c=>L1 b a (AZ b a n) e c
end D5
section
open D5
def D5 (b a:List Int):ABr (List Int):=
AZ b a BU [] 0
theorem Pg {b a r:List Int} (h:D5 b a=some r):Says Tryz.prog 132 [vS 1 eI b,vS 1 eI a] (vO 1 eI r):=by refine kO mix Tryz.func132 (hn [(5,[14,26,32])]) ?_;have a1:= @cT;have l2:=λn1 n2 n3 n4:Nat=>A0 λn τ=>∃(f:List Int) (d:Int),(τ 1=vS 1 eI a/\τ 5=vO 1 eI f/\τ 7=si d)/\Cf a n f d=some r;have l1:=λn1 n2 n3 n4:Nat=>A0 λn τ=>∃(e:List Int) (c:Int),(τ 0=vS 1 eI b/\τ 1=vS 1 eI a/\τ 5=vO 1 eI e/\τ 6=si c)/\AZ b a n e c=some r;unfold D5 at h;exact walk
end
namespace Gj
def J1 (a:Int) (c:AD) (b:Ab) (e:Bool):ABr (Int×Ab):=
if e then
(Ak b 3).bind λi=>
some (i.1,i.2)
else
if a==5 then
(Ak b 2).bind λj=>
some (j.1,j.2)
else
if a==18 then
(D9 c).bind λf=>
if decide ((f.length:Int)>0)then
(Ak b (f.length:Int)).bind λl=>
(gt f l.1).bind λs=>
some (s,l.2)
else
some ((-1),b)
else
if a==19 then
(D9 c).bind λo=>
some ((o.length:Int),b)
else
some (0,b)
end Gj
section
open Gj
def Gj (b:Ab) (c:AD) (a d:Int):ABr (Int×Ab):=
if a==3 then
(gt c.Cells d).bind λp=>
some (p,b)
else
if a==23 then
(gt c.AK 0).bind λq=>
some (q,b)
else
if a==4 then
J1 a c b (a==4)
else
J1 a c b (a==22)
theorem YL {b:Ab} {c:AD} {a d:Int} {r:Int×Ab} (h:Gj b c a d=some r):A8 Tryz.prog 177 [bA 2 (Gz b),.agg (BH c),si a,si d] (si r.1) [bA 2 (Gz r.2),.dead,.dead,.dead]:=by refine kL mix Tryz.func177 (hn [(0,[27,31,41]),(5,[13,20]),(9,[37,40,42,45])] [(7,1)]) ?_;have a1:= @DO;have a2:= @UW;have c1:=λn1 n2 n3 n4:Nat=>Bo 1 λτ=>∃(e:Bool),(τ 0=bA 2 (Gz b)/\τ 5=bA 7 (BH c)/\τ 10=si a/\τ 24=sb e)/\J1 a c b e=some r;unfold Gj at h;exact walk
end
namespace E8
def J2 (a:Aa) (c:Bool):ABr Int:=
if c then
some (-1)
else
some a.A
def J1 (a:Aa) (b:AL) (d:Bool):ABr Int:=
if d then
some a.B
else
if a.Op==7 then
(gt b.CY a.C).bind λi=>
(Gh i a.N).bind λe=>
some (Ay (a.B+e))
else
if a.Op==9 then
(gt b.CY a.C).bind λj=>
(Gh j a.N).bind λf=>
some (Ay (a.A+f))
else
if a.Op==10 then
J2 a (a.Op==10)
else
if a.Op==17 then
J2 a (a.Op==17)
else
if a.Op==18 then
J2 a (a.Op==18)
else
if a.Op==19 then
J2 a (a.Op==19)
else
if a.Op==20 then
J2 a (a.Op==20)
else
J2 a (a.Op==28)
end E8
section
open E8
def E8 (a:Aa) (b:AL):ABr Int:=
if a.Op==6 then
J1 a b (a.Op==6)
else
J1 a b (a.Op==27)
theorem Vl {a:Aa} {b:AL} {r:Int} (h:E8 a b=some r):Says Tryz.prog 232 [.agg (EC a),.agg (E0 b)] (si r):=by refine kO mix Tryz.func232 (hn [(2,[5,10,14,18,22,28,32,36,47]),(3,[16,30])] [(3,1),(10,2)]) ?_;have a1:= @Xv;have c2:=λn1 n2 n3 n4:Nat=>Bo 2 λτ=>∃(c:Bool),(τ 2=bA 6 (EC a)/\τ 40=sb c)/\J2 a c=some r;have c1:=λn1 n2 n3 n4:Nat=>Bo 1 λτ=>∃(d:Bool),(τ 2=bA 6 (EC a)/\τ 3=bA 4 (E0 b)/\τ 6=si a.Op/\τ 7=sb d)/\J1 a b d=some r;unfold E8 at h;exact walk
end
namespace Eo
def J1 (d:AD):ABr AD:=
some d
def L1 (a:AB) (L1:AD->Int->ABr AD) (b:AD) (c:Int):ABr AD:=
if decide (c<(a.Cells.length:Int))then
(gt a.Cells c).bind λf=>
if Af (b.Cells.length+1) 8=true then
L1 (AD.mk b.Sync (b.Cells++[f.Init]) b.AK b.Count) (Ay (c+1))
else none
else
J1 b
def AZ (a:AB):Nat->AD->Int->ABr AD
|0,_,_=>none
|n+1,b,c=>L1 a (AZ a n) b c
end Eo
section
open Eo
def Eo (a:AB):ABr AD:=
(B2 a).bind λe=>
if 0≤(a.AK.length:Int)/\(a.AK.length:Int)≤(a.AK.length:Int)/\Af a.AK.length 8=true then
if 0≤(a.AA.length:Int)/\(a.AA.length:Int)≤(a.AA.length:Int)/\Af a.AA.length 8=true then
AZ a BU (AD.mk e [] (List.replicate a.AK.length (0:Int)) (List.replicate a.AA.length (0:Int))) 0
else none
else none
theorem Lu {a:AB} {r:AD} (h:Eo a=some r):Says Tryz.prog 20 [.agg (Am a)] (.agg (Hl r)):=by refine kO mix Tryz.func20 (hn [(1,[7,11,17,25]),(3,[23,24,33,34])]) ?_;have a1:= @Jw;have l1:=λn1 n2 n3 n4:Nat=>A0 λn τ=>∃(b:AD) (c:Int),(τ 1=bA 6 (Am a)/\τ 2=bA 7 z0/\τ 3=bA 7 (Hl b)/\τ 4=si c)/\AZ a n b c=some r;unfold Eo at h;exact walk
end
namespace EP
def J2:ABr Bool:=
some true
def L1 (a:AB) (L1:Int->ABr Bool) (b:Int):ABr Bool:=
if decide (b<(a.Ah.length:Int))then
(gt a.Ah b).bind λf=>
(DA f.Mutex (a.AF.length:Int)).bind λe=>
if !e then
some false
else
L1 (Ay (b+1))
else
J2
def AZ (a:AB):Nat->Int->ABr Bool
|0,_=>none
|n+1,b=>L1 a (AZ a n) b
def J1 (a:AB) (d:Bool):ABr Bool:=
if d then
some false
else
AZ a BU 0
end EP
section
open EP
def EP (a:AB) (c:AN):ABr Bool:=
if(c.AF.length:Int) != (a.AF.length:Int)then
J1 a true
else
if(c.B6.length:Int) != (a.AK.length:Int)then
J1 a true
else
J1 a ((c.AA.length:Int) != (a.AA.length:Int))
theorem Lo {a:AB} {c:AN} {r:Bool} (h:EP a c=some r):Says Tryz.prog 109 [.agg (Am a),.agg (EH c)] (sb r):=by refine kO mix Tryz.func109 (hn [(2,[10,18,27,32,41]),(3,[7,15,24]),(6,[39])] [(2,1)]) ?_;have a1:= @Ik;have l1:=λn1 n2 n3 n4:Nat=>A0 λn τ=>∃(b:Int),(τ 2=bA 6 (Am a)/\τ 33=vS 2 Jd a.Ah/\τ 34=si (a.Ah.length:Int)/\τ 35=si b)/\AZ a n b=some r;have c1:=λn1 n2 n3 n4:Nat=>Bo 1 λτ=>∃(d:Bool),(τ 2=bA 6 (Am a)/\τ 31=sb d)/\J1 a d=some r;unfold EP at h;exact walk
end
namespace K1
def J3:ABr Bool:=
some true
def J2 (L1:Int->ABr Bool) (a:Int):ABr Bool:=
L1 (Ay (a+1))
def J1 (L1:Int->ABr Bool) (a:Int) (l:Bool):ABr Bool:=
if l then
some false
else
J2 L1 a
def L1 (c:List Int) (d:Int) (b:BQ) (L1:Int->ABr Bool) (a:Int):ABr Bool:=
if decide (a<(c.length:Int))then
(gt c a).bind λf=>
(gt b.Init.Count d).bind λi=>
if decide (f<i)then
J2 L1 a
else
(QG b d (Ay (f-i))).bind λe=>
if decide (e<0)then
J1 L1 a true
else
(gt b.AH e).bind λj=>
if j.Kind != 3 then
J1 L1 a (j.Kind != 23)
else
J1 L1 a false
else
J3
def AZ (c:List Int) (d:Int) (b:BQ):Nat->Int->ABr Bool
|0,_=>none
|n+1,a=>L1 c d b (AZ c d b n) a
end K1
section
open K1
def K1 (b:BQ) (d:Int) (c:List Int):ABr Bool:=
AZ c d b BU 0
end
namespace FZ
def J1 (d:Ai):ABr Ai:=
some d
def L1 (a:Ai) (L1:Ai->Int->ABr Ai) (b:Ai) (c:Int):ABr Ai:=
if decide (c<(a.AA.length:Int))then
(gt a.AA c).bind λi=>
(E6 i).bind λf=>
if Af (b.AA.length+1) 64=true then
L1 (Ai.mk b.Sync b.Cells b.AK (b.AA++[f])) (Ay (c+1))
else none
else
J1 b
def AZ (a:Ai):Nat->Ai->Int->ABr Ai
|0,_,_=>none
|n+1,b,c=>L1 a (AZ a n) b c
end FZ
section
open FZ
def FZ (a:Ai):ABr Ai:=
(GO a.Sync).bind λe=>
if Af (a.Cells.length) 8=true then
if Af (a.AK.length) 8=true then
AZ a BU (Ai.mk e a.Cells a.AK []) 0
else none
else none
theorem ZB {a r:Ai} (h:FZ a=some r):Says Tryz.prog 211 [.agg (KR a)] (.agg (MR r)):=by refine kO mix Tryz.func211 (hn [(1,[5,9,13,18,26]),(3,[24,25,34,35])]) ?_;have a1:= @Qx;have a2:= @Qw;have l1:=λn1 n2 n3 n4:Nat=>A0 λn τ=>∃(b:Ai) (c:Int),(τ 1=bA 7 (KR a)/\τ 2=bA 7 z3/\τ 3=bA 7 (MR b)/\τ 4=si c)/\AZ a n b c=some r;unfold FZ at h;exact walk
end
namespace B1
def J3:ABr Bool:=
some false
def J2 (L1:Int->Int->ABr Bool) (b f:Int):ABr Bool:=
L1 f (Ay (b+1))
def J1 (L1:Int->Int->ABr Bool) (c:Int) (a:List Aa) (b:Int) (i:Bool):ABr Bool:=
if i then
some false
else
(gt a c).bind λe=>
(Fl e.Op).bind λj=>
if !j then
some true
else
if e.Op==5 then
J2 L1 b e.A
else
J2 L1 b (Ay (c+1))
def L1 (a:List Aa) (L1:Int->Int->ABr Bool) (c b:Int):ABr Bool:=
if decide (b≤(a.length:Int))then
if decide (c<0)then
J1 L1 c a b true
else
J1 L1 c a b (decide (c≥(a.length:Int)))
else
J3
def AZ (a:List Aa):Nat->Int->Int->ABr Bool
|0,_,_=>none
|n+1,c,b=>L1 a (AZ a n) c b
end B1
section
open B1
def B1 (a:List Aa) (d:Int):ABr Bool:=
AZ a BU d 0
theorem Xz {a:List Aa} {d:Int} {r:Bool} (h:B1 a d=some r):Says Tryz.prog 208 [vS 6 EC a,si d] (sb r):=by refine kO mix Tryz.func208 hn ?_;have a1:= @OQ;have l1:=λn1 n2 n3 n4:Nat=>A0 λn τ=>∃(c b:Int),(τ 0=vS 6 EC a/\τ 1=si c/\τ 5=si b)/\AZ a n c b=some r;unfold B1 at h;exact walk
end
namespace Gt
def J2:ABr Bool:=
some true
def J1 (L1:Int->ABr Bool) (c:Int) (f:Bool):ABr Bool:=
if f then
some false
else
L1 (Ay (c+1))
def L1 (a b:List Be) (L1:Int->ABr Bool) (c:Int):ABr Bool:=
if decide (c<(a.length:Int))then
(gt a c).bind λd=>
(gt b c).bind λe=>
(GD d.E9 e.E9).bind λi=>
if !i then
J1 L1 c true
else
(GD d.JK e.JK).bind λj=>
J1 L1 c (!j)
else
J2
def AZ (a b:List Be):Nat->Int->ABr Bool
|0,_=>none
|n+1,c=>L1 a b (AZ a b n) c
end Gt
section
open Gt
def Gt (a b:List Be):ABr Bool:=
if(a.length:Int) != (b.length:Int)then
some false
else
AZ a b BU 0
theorem Tc {a b:List Be} {r:Bool} (h:Gt a b=some r):Says Tryz.prog 25 [vS 2 G6 a,vS 2 G6 b] (sb r):=by refine kO mix Tryz.func25 hn ?_;have a1:= @Lv;have l1:=λn1 n2 n3 n4:Nat=>A0 λn τ=>∃(c:Int),(τ 0=vS 2 G6 a/\τ 1=vS 2 G6 b/\τ 12=si (a.length:Int)/\τ 13=si c)/\AZ a b n c=some r;unfold Gt at h;exact walk
end
namespace DH
def J1:ABr Bool:=
some false
def L1 (a:ABs) (b:List ABs) (L1:Int->ABr Bool) (c:Int):ABr Bool:=
if decide (c<(b.length:Int))then
(gt b c).bind λd=>
if d.toList==a.toList then
some true
else
L1 (Ay (c+1))
else
J1
def AZ (a:ABs) (b:List ABs):Nat->Int->ABr Bool
|0,_=>none
|n+1,c=>L1 a b (AZ a b n) c
end DH
section
open DH
def DH (a:ABs):ABr Bool:=
(Js).bind λb=>
AZ a b BU 0
theorem Re {a:ABs} {r:Bool} (h:DH a=some r):Says Tryz.prog 168 [BR a] (sb r):=by refine kO mix Tryz.func168 (hn [(3,[7,12,14])]) ?_;have a1:= @TL;have l1:=λn1 n2 n3 n4:Nat=>A0 λn τ=>∃(b:List ABs) (c:Int),(τ 0=BR a/\τ 3=vO 1 eS b/\τ 4=si c)/\AZ a b n c=some r;unfold DH at h;exact walk
end
namespace HJ
def J1 (c:Bool):ABr Bool:=
some c
end HJ
section
open HJ
def HJ (b:AB) (a:AD):ABr Bool:=
(EN b a.Sync).bind λd=>
if d then
if(a.Cells.length:Int)==(b.Cells.length:Int)then
if(a.AK.length:Int)==(b.AK.length:Int)then
J1 ((a.Count.length:Int)==(b.AA.length:Int))
else
J1 false
else
J1 false
else
J1 false
theorem ZH {b:AB} {a:AD} {r:Bool} (h:HJ b a=some r):Says Tryz.prog 65 [.agg (Am b),.agg (BH a)] (sb r):=by refine kO mix Tryz.func65 (hn [(2,[13,22,31]),(3,[6,10,19,28])]) ?_;have a1:= @Kk;unfold HJ at h;exact walk
end
namespace HD
def J1 (c:Bool):ABr Bool:=
some c
end HD
section
open HD
def HD (b:AB) (a:AE):ABr Bool:=
(Ge a).bind λd=>
if d then
if decide (a.Obj≥0)then
if decide (a.Obj<(b.Cells.length:Int))then
(gt b.Cells a.Obj).bind λe=>
J1 e.F6
else
J1 false
else
J1 false
else
J1 false
theorem Ta {b:AB} {a:AE} {r:Bool} (h:HD b a=some r):Says Tryz.prog 78 [.agg (Am b),.agg (Bi a)] (sb r):=by refine kO mix Tryz.func78 (hn [(2,[15,21]),(3,[8,13,23])]) ?_;have a1:= @LC;unfold HD at h;exact walk
end
namespace En
def J1 (e:Bool):ABr Bool:=
some e
end En
section
open En
def En (b:AB) (a c:Int):ABr Bool:=
(DS a (b.Cells.length:Int)).bind λf=>
if f then
(gt b.Cells a).bind λd=>
if d.Index==0 then
if d.B7 != 0 then
J1 (d.B7==c)
else
J1 false
else
J1 false
else
J1 false
theorem Xy {b:AB} {a c:Int} {r:Bool} (h:En b a c=some r):Says Tryz.prog 228 [.agg (Am b),si a,si c] (sb r):=by refine kO mix Tryz.func228 (hn [(3,[8,13,22,31])]) ?_;have a1:= @Pe;unfold En at h;exact walk
end
namespace Fq
def J1 (d:Bool):ABr Bool:=
some d
end Fq
section
open Fq
def Fq (b:AB) (a:Int) (c:Bool):ABr Bool:=
(Ez a (b.AF.length:Int)).bind λe=>
if e then
(gt b.AF a).bind λf=>
J1 (f.RW==c)
else
J1 false
theorem SO {b:AB} {a:Int} {c r:Bool} (h:Fq b a c=some r):Says Tryz.prog 122 [.agg (Am b),si a,sb c] (sb r):=by refine kO mix Tryz.func122 (hn [(3,[8,13])]) ?_;have a1:= @SP;unfold Fq at h;exact walk
end
namespace IQ
def J1 (c:Bool):ABr Bool:=
some c
end IQ
section
open IQ
def IQ (b:BQ) (a:Int):ABr Bool:=
(Pk a (b.Init.Count.length:Int)).bind λd=>
if d then
(gt b.Init.Count a).bind λe=>
J1 (decide (e≥1))
else
J1 false
end
namespace HB
def J1 (b:Bool):ABr Bool:=
some b
end HB
section
open HB
def HB (a:Int):ABr Bool:=
(Fj a).bind λc=>
if c then
J1 true
else
(Hb a).bind λd=>
if d then
J1 true
else
J1 (a==95)
theorem Xo {a:Int} {r:Bool} (h:HB a=some r):Says Tryz.prog 169 [.sc (.int .u8 a)] (sb r):=by refine kO mix Tryz.func169 hn ?_;have a1:= @ON;have a2:= @Xm;unfold HB at h;exact walk
end
def OU (a:Be):ABr (List Int):=
(Qk a.E9).bind λb=>
if Af (b.length+a.JK.length) 8=true then
(Ec (b++a.JK)).bind λc=>
some c
else none
theorem X8 {a:Be} {r:List Int} (h:OU a=some r):Says Tryz.prog 138 [.agg (G6 a)] (vO 1 eI r):=by refine kO mix Tryz.func138 (hn [(1,[3,6])]) ?_;have a1:= @ZI;have a2:= @OV;unfold OU at h;exact walk
def Dg (a:AO) (b:ABs):ABr (Bool×AO):=
(CF a.held b).bind λc=>
some (decide (c≥0),a)
theorem QX {a:AO} {b:ABs} {r:Bool×AO} (h:Dg a b=some r):A8 Tryz.prog 248 [bA 8 (CH a),BR b] (sb r.1) [bA 8 (CH r.2),.dead]:=by refine kL mix Tryz.func248 (hn [(0,[5,6,7,8])]) ?_;have a1:= @He;unfold Dg at h;exact walk
def G3 (a:List Int):ABr (List Int):=
(slices_Clone_int a).bind λb=>
(K4 b).bind λc=>
(slices_Compact c).bind λd=>
some d
theorem Lk {a r:List Int} (h:G3 a=some r):Says Tryz.prog 136 [vS 1 eI a] (vO 1 eI r):=by refine kO mix Tryz.func136 (hn [(3,[6,8])]) ?_;have a1:= @I2;have a2:= @Pq;have a3:= @Mj;unfold G3 at h;exact walk
def Kz (b a:Int):ABr (Int×Bool):=
if b==4 then
some (Ay (0-a),true)
else
if b==5 then
(D4 (a==0)).bind λc=>
some (c,true)
else
some (0,false)
theorem Xw {b a:Int} {r:Int×Bool} (h:Kz b a=some r):Says Tryz.prog 252 [si b,si a] (.BI [si r.1,sb r.2]):=by refine kO mix Tryz.func252 hn ?_;have a1:= @Pd;unfold Kz at h;exact walk
def GP (a:List Int) (b:Int):ABr Bool:=
(Fm a b).bind λc=>
some (decide (c≥0))
theorem Lw {a:List Int} {b:Int} {r:Bool} (h:GP a b=some r):Says Tryz.prog 160 [vS 1 eI a,si b] (sb r):=by refine kO mix Tryz.func160 hn ?_;have a1:= @Vq;unfold GP at h;exact walk
end Go.Abs
