/- Typed programs of Go functions, and that the functions do what these say. -/
import Derived.Test.YtdadohkcmclilaaGreatDoorWalkR
import Derived.Shelf.Slices.SearchI
set_option linter.unusedSimpArgs false
set_option linter.unusedVariables false
namespace Go.Abs
open Go.Proofs
set_option maxRecDepth 1000000
set_option maxHeartbeats 4000000
namespace I2
def J7 (w:Bool):ABp Bool:=
some w
def J6 (c:Az) (v:List AH):ABp Bool:=
(Cq v c.AF).bind λad=>
if ad then
(Ew).bind λx=>
J7 x
else
J7 false
def J5 (L1:(List AH)->Int->ABp Bool) (a:Int) (u:List AH):ABp Bool:=
L1 u (Ap (a+1))
def J4 (L1:(List AH)->Int->ABp Bool) (e:List AH) (a:Int) (d:AO):ABp Bool:=
if Al (e.length+d.AF.length) 88=true then
J5 L1 a (e++d.AF)
else none
def L2 (L1:(List AH)->Int->ABp Bool) (e:List AH) (a:Int) (i:Az×Ad) (d:AO) (L2:Int->ABp Bool) (p:Int):ABp Bool:=
if decide (p<(i.2.AA.length:Int))then
(gt d.Init.Count p).bind λae=>
(gt i.2.AA p).bind λaf=>
if ae != af.AF then
some false
else
L2 (Ap (p+1))
else
J4 L1 e a d
def C2 (L1:(List AH)->Int->ABp Bool) (e:List AH) (a:Int) (i:Az×Ad) (d:AO):Nat->Int->ABp Bool
|0,_=>none
|n+1,p=>L2 L1 e a i d (C2 L1 e a i d n) p
def J3 (L1:(List AH)->Int->ABp Bool) (e:List AH) (a:Int) (i:Az×Ad) (d:AO) (q:Bool):ABp Bool:=
if q then
some false
else
C2 L1 e a i d BT 0
def L1 (b:Int) (j:BF) (c:Az) (f:(List AO)×Int) (L1:(List AH)->Int->ABp Bool) (e:List AH) (a:Int):ABp Bool:=
if decide (a<(f.1.length:Int))then
(gt f.1 a).bind λd=>
if 0≤(if(c.AF.length:Int)<(Ap (a*(Ap (((Ap b).tmod 16)+1))))then(c.AF.length:Int)else(Ap (a*(Ap (((Ap b).tmod 16)+1)))))/\((if(c.AF.length:Int)<(Ap (a*(Ap (((Ap b).tmod 16)+1))))then(c.AF.length:Int)else(Ap (a*(Ap (((Ap b).tmod 16)+1))))).toNat)≤c.AF.length then
(KF (c.AF.take ((if(c.AF.length:Int)<(Ap (a*(Ap (((Ap b).tmod 16)+1))))then(c.AF.length:Int)else(Ap (a*(Ap (((Ap b).tmod 16)+1))))).toNat))).bind λy=>
(LN j y).bind λi=>
if d.Start != (Ap (a*(Ap (((Ap b).tmod 16)+1))))then
J3 L1 e a i d true
else
(GG d).bind λz=>
if !z then
J3 L1 e a i d true
else
(Da d.Init.Sync i.2.Sync).bind λaa=>
if !aa then
J3 L1 e a i d true
else
(Cs d.Init.Cells i.2.Cells).bind λab=>
if !ab then
J3 L1 e a i d true
else
(Cs d.Init.AK i.2.AK).bind λac=>
if !ac then
J3 L1 e a i d true
else
J3 L1 e a i d ((d.Init.Count.length:Int) != (i.2.AA.length:Int))
else none
else
J6 c e
def Aa (b:Int) (j:BF) (c:Az) (f:(List AO)×Int):Nat->(List AH)->Int->ABp Bool
|0,_,_=>none
|n+1,e,a=>L1 b j c f (Aa b j c f n) e a
def J2 (b:Int) (j:BF) (c:Az) (f:(List AO)×Int) (t:Bool):ABp Bool:=
if t then
some false
else
Aa b j c f BT [] 0
def J1 (l o:List Int) (b:Int) (s:Bool):ABp Bool:=
if s then
some true
else
(Ma l).bind λj=>
(IX l o).bind λc=>
(Df c (Ap (((Ap b).tmod 16)+1))).bind λf=>
if f.2 != 0 then
J2 b j c f true
else
if¬(Ap (((Ap b).tmod 16)+1))=0 then
J2 b j c f ((f.1.length:Int) != (Ap ((Ap ((Ap ((c.AF.length:Int)+(Ap (((Ap b).tmod 16)+1))))-1)).tdiv (Ap (((Ap b).tmod 16)+1)))))
else none
end I2
section
open I2
def I2 (l o:List Int) (b:Int):ABp Bool:=
if decide ((l.length:Int)>200)then
J1 l o b true
else
J1 l o b (decide ((o.length:Int)>60))
end
namespace Dd
def J5:ABp Bool:=
(Ew).bind λx=>
some x
def J4 (L1:Int->ABp Bool) (c:Int) (u:Bool):ABp Bool:=
if u then
some false
else
L1 (Ap (c+1))
def J3 (L1:Int->ABp Bool) (c:Int) (a b:(List AO)×Int) (t:List AH):ABp Bool:=
(gt b.1 c).bind λo=>
(Cq o.AF t).bind λv=>
if !v then
J4 L1 c true
else
(gt a.1 (Ap (2*c))).bind λs=>
(C6 o.Init s.Init).bind λw=>
if !w then
J4 L1 c true
else
J4 L1 c (o.Start != s.Start)
def L1 (a b:(List AO)×Int) (L1:Int->ABp Bool) (c:Int):ABp Bool:=
if decide (c<(b.1.length:Int))then
(gt a.1 (Ap (2*c))).bind λl=>
if Al (l.AF.length) 88=true then
if decide ((Ap ((Ap (2*c))+1))<(a.1.length:Int))then
(gt a.1 (Ap ((Ap (2*c))+1))).bind λq=>
if Al (l.AF.length+q.AF.length) 88=true then
J3 L1 c a b (l.AF++q.AF)
else none
else
J3 L1 c a b l.AF
else none
else
J5
def Aa (a b:(List AO)×Int):Nat->Int->ABp Bool
|0,_=>none
|n+1,c=>L1 a b (Aa a b n) c
def J2 (a b:(List AO)×Int) (j:Bool):ABp Bool:=
if j then
some false
else
Aa a b BT 0
def J1 (d e:List Int) (f:Int) (i:Bool):ABp Bool:=
if i then
some true
else
(IX d e).bind λp=>
(Df p (Ap (((Ap f).tmod 8)+1))).bind λa=>
(Df p (Ap (2*(Ap (((Ap f).tmod 8)+1))))).bind λb=>
if a.2 != 0 then
J2 a b true
else
if b.2 != 0 then
J2 a b true
else
J2 a b ((b.1.length:Int) != (Ap ((Ap ((a.1.length:Int)+1)).tdiv 2)))
end Dd
section
open Dd
def Dd (d e:List Int) (f:Int):ABp Bool:=
if decide ((d.length:Int)>200)then
J1 d e f true
else
J1 d e f (decide ((e.length:Int)>60))
theorem XS {d e:List Int} {f:Int} {r:Bool} (h:Dd d e f=some r):Says Tryz.prog 6 [vS 1 YL d,vS 1 YL e,.sc (.int .u8 f)] (sb r):=by
 refine kO mix Tryz.func6 (hn [(7,[31,37]),(14,[78,92])] [(2,1),(9,2)] [(10,3)] [(5,false,7,[(0,6,7)])]) ?_
 have a1:= @Lx
 have a2:= @Ke
 have a3:= @JS
 have a4:= @Ki
 have a5:= @Hc
 have l1:=λn1 n2 n3 n4:Nat=>Ax λn τ=>∃(a b:(List AO)×Int) (c:Int),(τ 9=vS 15 BB a.1/\τ 11=vS 15 BB b.1/\τ 13=si c)/\Aa a b n c=some r
 have c2:=λn1 n2 n3 n4:Nat=>Bh 2 λτ=>∃(a b:(List AO)×Int) (j:Bool),(τ 9=vS 15 BB a.1/\τ 11=vS 15 BB b.1/\τ 57=sb j)/\J2 a b j=some r
 have c1:=λn1 n2 n3 n4:Nat=>Bh 1 λτ=>∃(i:Bool),(τ 0=vS 1 YL d/\τ 1=vS 1 YL e/\τ 2= .sc (.int .u8 f)/\τ 22=sb i)/\J1 d e f i=some r
 unfold Dd at h
 exact walk
end
namespace Bo
def J8 (w:Bool):ABp Bool:=
some w
def J7 (a:Az) (b c:AB×Int):ABp Bool:=
(Cf a (Ap ((a.AF.length:Int)+1))).bind λy=>
if y.2==1 then
(Cb b.1.Count c.1.Count).bind λz=>
if !z then
(Ew).bind λaa=>
J8 aa
else
J8 false
else
J8 false
def J6 (L2:Int->ABp Bool) (i:Int) (v:Bool):ABp Bool:=
if v then
some false
else
L2 (Ap (i+1))
def L2 (a:Az) (b c:AB×Int) (d:AH) (L2:Int->ABp Bool) (i:Int):ABp Bool:=
if decide (i<(b.1.Count.length:Int))then
(gt c.1.Count i).bind λq=>
(gt b.1.Count i).bind λs=>
if q != s then
if i != d.Thread then
J6 L2 i true
else
J6 L2 i (q != (Ap (s+1)))
else
J6 L2 i false
else
J7 a b c
def C2 (a:Az) (b c:AB×Int) (d:AH):Nat->Int->ABp Bool
|0,_=>none
|n+1,i=>L2 a b c d (C2 a b c d n) i
def J5 (a:Az) (b c:AB×Int) (d:AH):ABp Bool:=
C2 a b c d BT 0
def J4 (L1:Int->ABp Bool) (f:Int) (u:Bool):ABp Bool:=
if u then
some false
else
L1 (Ap (f+1))
def J3 (L1:Int->ABp Bool) (f:Int) (b c:AB×Int) (d:AH) (t:Bool):ABp Bool:=
if t then
(gt c.1.Cells f).bind λab=>
if ab != d.Value then
J4 L1 f true
else
J4 L1 f false
else
(gt c.1.Cells f).bind λac=>
(gt b.1.Cells f).bind λad=>
J4 L1 f (ac != ad)
def L1 (a:Az) (b c:AB×Int) (d:AH) (L1:Int->ABp Bool) (f:Int):ABp Bool:=
if decide (f<(b.1.Cells.length:Int))then
if d.Kind==4 then
J3 L1 f b c d (d.Obj==f)
else
J3 L1 f b c d false
else
J5 a b c d
def Aa (a:Az) (b c:AB×Int) (d:AH):Nat->Int->ABp Bool
|0,_=>none
|n+1,f=>L1 a b c d (Aa a b c d n) f
def J2 (e:Int) (a:Az) (b c:AB×Int) (p:Bool):ABp Bool:=
if p then
some false
else
(gt a.AF ((Ap e).tmod (a.AF.length:Int))).bind λd=>
Aa a b c d BT 0
def J1 (e:Int) (j l:List Int) (o:Bool):ABp Bool:=
if o then
some true
else
(IX j l).bind λa=>
if(a.AF.length:Int)==0 then
(Ew).bind λx=>
some x
else
if¬(a.AF.length:Int)=0 then
(Cf a ((Ap e).tmod (a.AF.length:Int))).bind λb=>
(Cf a (Ap (((Ap e).tmod (a.AF.length:Int))+1))).bind λc=>
if b.2 != 0 then
J2 e a b c true
else
if c.2 != 0 then
J2 e a b c true
else
if(b.1.Cells.length:Int) != (c.1.Cells.length:Int)then
J2 e a b c true
else
if(b.1.Count.length:Int) != (c.1.Count.length:Int)then
J2 e a b c true
else
J2 e a b c ((b.1.Cells.length:Int) != (a.World.Cells.length:Int))
else none
end Bo
section
open Bo
def Bo (j l:List Int) (e:Int):ABp Bool:=
if decide ((j.length:Int)>200)then
J1 e j l true
else
J1 e j l (decide ((l.length:Int)>60))
theorem Tl {j l:List Int} {e:Int} {r:Bool} (h:Bo j l e=some r):Says Tryz.prog 8 [vS 1 YL j,vS 1 YL l,.sc (.int .u8 e)] (sb r):=by
 refine kO mix Tryz.func8 (hn [(7,[30,31,37,38,42,48,82,83,84,88,89,91,92,176,177,178]),(9,[61,62,70,71,79,80,94,95,129,130,132,138,139,149,150,152,166,167,169,187,188]),(10,[54]),(11,[64,65,73,74,111,112,114,124,125,127,144,145,147,161,162,164,189,190]),(12,[57]),(13,[100,104,116,157]),(18,[184]),(44,[41,45,46]),(51,[47,52,53]),(181,[175,182,183])] [(2,1),(12,2)] [(10,3)]) ?_
 have a1:= @Lx
 have a2:= @JS
 have a3:= @LD
 have a4:= @Hi
 have l2:=λn1 n2 n3 n4:Nat=>Ax λn τ=>∃(a:Az) (b c:AB×Int) (d:AH) (i:Int),(τ 7=bA 7 (PU a)/\τ 9=bA 7 (CG b.1)/\τ 11=bA 7 (CG c.1)/\τ 13=bA 7 (BG d)/\τ 16=si i)/\C2 a b c d n i=some r
 have l1:=λn1 n2 n3 n4:Nat=>Ax λn τ=>∃(a:Az) (b c:AB×Int) (d:AH) (f:Int),(τ 7=bA 7 (PU a)/\τ 9=bA 7 (CG b.1)/\τ 11=bA 7 (CG c.1)/\τ 13=bA 7 (BG d)/\τ 14=si f)/\Aa a b c d n f=some r
 have c2:=λn1 n2 n3 n4:Nat=>Bh 2 λτ=>∃(a:Az) (b c:AB×Int) (p:Bool),(τ 7=bA 7 (PU a)/\τ 8=si ((Ap e).tmod (a.AF.length:Int))/\τ 9=bA 7 (CG b.1)/\τ 11=bA 7 (CG c.1)/\τ 87=sb p)/\J2 e a b c p=some r
 have c1:=λn1 n2 n3 n4:Nat=>Bh 1 λτ=>∃(o:Bool),(τ 0=vS 1 YL j/\τ 1=vS 1 YL l/\τ 2= .sc (.int .u8 e)/\τ 26=sb o)/\J1 e j l o=some r
 unfold Bo at h
 exact walk
end
namespace E2
def J2 (c:Bool):ABp Bool:=
some c
def J1 (a:AO) (b:Bool):ABp Bool:=
if b then
some true
else
(GG a).bind λd=>
(FM a).bind λe=>
if d==e then
(Ew).bind λf=>
J2 f
else
J2 false
end E2
section
open E2
def E2 (a:AO):ABp Bool:=
if decide ((a.AF.length:Int)>60)then
J1 a true
else
if decide ((a.World.AA.length:Int)>20)then
J1 a true
else
J1 a (decide ((a.World.AG.length:Int)>20))
theorem XU {a:AO} {r:Bool} (h:E2 a=some r):Says Tryz.prog 4 [.agg (BB a)] (sb r):=by
 refine kO mix Tryz.func4 (hn [(1,[3,8,9,15,16])] [(2,1)]) ?_
 have a1:= @Nl
 have a2:= @Wt
 have a3:= @JS
 have c1:=λn1 n2 n3 n4:Nat=>Bh 1 λτ=>∃(b:Bool),(τ 1=bA 15 (BB a)/\τ 20=sb b)/\J1 a b=some r
 unfold E2 at h
 exact walk
end
namespace D7
def J3:ABp Bool:=
(Ew).bind λs=>
some s
def L1 (a b:(List AO)×Int) (L1:Int->ABp Bool) (f:Int):ABp Bool:=
if decide (f<(a.1.length:Int))then
(gt a.1 f).bind λt=>
(gt b.1 f).bind λu=>
(JJ t u).bind λq=>
if !q then
some false
else
L1 (Ap (f+1))
else
J3
def Aa (a b:(List AO)×Int):Nat->Int->ABp Bool
|0,_=>none
|n+1,f=>L1 a b (Aa a b n) f
def J2 (a b:(List AO)×Int) (j:Bool):ABp Bool:=
if j then
some false
else
Aa a b BT 0
def J1 (d e:Int) (c:Az) (i:Bool):ABp Bool:=
if i then
some true
else
(Df c e).bind λa=>
(HU c e).bind λb=>
(Cf c d).bind λl=>
(GO c d).bind λo=>
if a.2 != b.2 then
J2 a b true
else
if(a.1.length:Int) != (b.1.length:Int)then
J2 a b true
else
if l.2 != o.2 then
J2 a b true
else
(C6 l.1 o.1).bind λp=>
J2 a b (!p)
end D7
section
open D7
def D7 (c:Az) (e d:Int):ABp Bool:=
if decide ((c.AF.length:Int)>100)then
J1 d e c true
else
J1 d e c (decide ((c.World.AA.length:Int)>20))
theorem XT {c:Az} {e d:Int} {r:Bool} (h:D7 c e d=some r):Says Tryz.prog 7 [.agg (Hj c),si e,si d] (sb r):=by
 refine kO mix Tryz.func7 (hn [(3,[16,21,22]),(11,[67]),(12,[62]),(13,[68]),(14,[63]),(42,[39,43,44]),(48,[45,49,50])] [(2,1),(9,2)] [(22,1)]) ?_
 have a1:= @Ke
 have a2:= @Wr
 have a3:= @LD
 have a4:= @Se
 have a5:= @JS
 have a6:= @X1
 have a7:= @Hc
 have l1:=λn1 n2 n3 n4:Nat=>Ax λn τ=>∃(a b:(List AO)×Int) (f:Int),(τ 7=vS 15 BB a.1/\τ 9=vS 15 BB b.1/\τ 15=si f)/\Aa a b n f=some r
 have c2:=λn1 n2 n3 n4:Nat=>Bh 2 λτ=>∃(a b:(List AO)×Int) (j:Bool),(τ 7=vS 15 BB a.1/\τ 9=vS 15 BB b.1/\τ 71=sb j)/\J2 a b j=some r
 have c1:=λn1 n2 n3 n4:Nat=>Bh 1 λτ=>∃(i:Bool),(τ 1=si e/\τ 2=si d/\τ 3=bA 7 (Hj c)/\τ 26=sb i)/\J1 d e c i=some r
 unfold D7 at h
 exact walk
end
end Go.Abs
