/- Go functions do what typed programs say. -/
import Derived.Test.YtdojkofgkcmagaaGreatDoorWalkB
import Derived.Test.YtdojkofgkcmagaaGreatDoorWalkC
import Derived.Shelf.Slices.SearchI
set_option linter.all false
namespace Go.Abs
open Go.Proofs Tryz
set_option maxRecDepth 1000000
set_option maxHeartbeats 4000000
namespace CR
def J5:=some true
def J4(L1:i6)(b:Int)(l:Bool):=if l then
some false
else
L1 (A9 (b+1))
def J3(L1:i6)(b:Int)(c:Bool)(a:AF)(e:Bool):=if e then
some false
else
if c then(gt a.de.dc.AB b).bind λq=>(Li q.DS (a.db.Aj.length:Int)).bind λo=>if !o then
J4 L1 b true
else
J4 L1 b false
else(gt a.de.dc.AB b).bind λs=>J4 L1 b (s.DS != 0)
def J2(L1:i6)(d:Bool)(b:Int)(a:AF)(c:Bool):=(gt a.de.dc.AB b).bind λf=>if decide (f.dh<0)then
J3 L1 b c a true
else
if decide (f.dh>5)then
J3 L1 b c a true
else(gt a.de.df b).bind λp=>if !(d==(p==0))then
J3 L1 b c a true
else
if b==0 then
J3 L1 b c a (f.dh==0)
else
J3 L1 b c a false
def J1(L1:i6)(b:Int)(a:AF)(d:Bool):=(gt a.de.dc.AB b).bind λj=>if j.dh==3 then
J2 L1 d b a true
else
J2 L1 d b a (j.dh==4)
def L1(a:AF)(L1:i6)(b:Int):=if decide (b<(a.de.dc.AB.length:Int))then(gt a.de.dc.AB b).bind λi=>if i.dh==0 then
J1 L1 b a true
else
J1 L1 b a (i.dh==1)
else
J5
def AU(a:AF):Nat->Int->ABm Bool
|0,_=>none
|n+1,b=>L1 a (AU a n) b
end CR
section
open CR
def CR(a:AF):=AU a BQ 0
def VX{a:AF}{r:Bool}(h:CR a=some r):Says prog 53 [.agg (A5 a)] (sb r):=by refine kO mix func53 (hn [(1,[7,8,9,61,62,89,90])] [(7,1),(8,2),(10,3)]) ?_;have a1:=@XL;have l1:=iJ λn c=>∃b,(c 1=bA 15 (A5 a)/\c 3=vS 3 Ax a.de.dc.AB/\c 4=si b)/\AU a n b=some r;have c3:=iz 3 λd _ _ _ f=>∃b c e,(f 1=bA 15 (A5 a)/\f 3=vS 3 Ax a.de.dc.AB/\f 4=si b/\f 6=sb c/\f 81=sb e)/\J3 (AU a d) b c a e=some r;have c2:=iz 2 λe _ _ _ f=>∃d b c,(f 1=bA 15 (A5 a)/\f 3=vS 3 Ax a.de.dc.AB/\f 4=si b/\f 5=sb d/\f 6=sb c)/\J2 (AU a e) d b a c=some r;have c1:=iz 1 λc _ _ _ e=>∃b d,(e 1=bA 15 (A5 a)/\e 3=vS 3 Ax a.de.dc.AB/\e 4=si b/\e 5=sb d)/\J1 (AU a c) b a d=some r;unfold CR at h;exact walk
end
namespace Bm
def J5(o:iT):ABm (List Int):=some o
def J4(L1:jd)(c:Int)(l:iT):=L1 l (A9 (c+1))
def J3(L1:jd)(e:iT)(c:Int)(p:Bool):=if p then
if Aq (e.length+1) 8=true then
J4 L1 c (e++[c])
else none
else
J4 L1 c e
def L1(b:Int)(a:AF)(d:AH)(L1:jd)(e:iT)(c:Int):=if decide (c<(a.AA.length:Int))then(gt a.AA c).bind λj=>(G9 j d).bind λt=>if t then
if j.dm==d.dm then
if j.cT==d.cT then
J3 L1 e c (!(decide (c>b)))
else
J3 L1 e c true
else
J3 L1 e c false
else
J3 L1 e c false
else
J5 e
def AU(b:Int)(a:AF)(d:AH):Nat->(List Int)->Int->ABm (List Int)
|0,_,_=>none
|n+1,e,c=>L1 b a d (AU b a d n) e c
def J2(b:Int)(a:AF)(d:AH)(f:iT):=AU b a d BQ f 0
def J1(b:Int)(a:AF)(i:Bool):=if i then
some []
else(gt a.AA b).bind λd=>(GL a d).bind λs=>if s then
J2 b a d [(-1)]
else
J2 b a d []
end Bm
section
open Bm
def Bm(a:AF)(b:Int):=if decide (b<0)then
J1 b a true
else
if decide (b>=(a.AA.length:Int))then
J1 b a true
else(gt a.AA b).bind λu=>(Ih u).bind λq=>J1 b a (!q)
def Jg{a:AF}{b:Int}{r:iT}(h:Bm a b=some r):Says prog 32 [.agg (A5 a),si b] (vO 1 eI r):=by refine kO mix func32 (hn [(2,[13,19,27,38]),(5,[52,59]),(6,[35,69,74]),(8,[50,57])] [(2,1),(6,2)]) ?_;have:=(by decide:Aq 1 8);have a1:=@X7;have a2:=@Wn;have a3:=@dN;have l1:=iJ λn f=>∃d e c,(f 1=si b/\f 5=bA 7 (Am d)/\f 6=vO 1 eI e/\f 39=vS 7 Am a.AA/\f 40=si (a.AA.length:Int)/\f 41=si c)/\AU b a d n e c=some r;have c2:=iR 2 λc=>∃d f,(c 1=si b/\c 2=bA 15 (A5 a)/\c 5=bA 7 (Am d)/\c 6=vO 1 eI f)/\J2 b a d f=some r;have c1:=iR 1 λc=>∃i,(c 1=si b/\c 2=bA 15 (A5 a)/\c 26=sb i)/\J1 b a i=some r;unfold Bm at h;exact walk
end
namespace ED
def J5(b:AZ)(c:Int)(p:Bool):ABm (Int×AZ):=if p then(Ao b 3).bind λo=>some ((A9 ((A9 (c+1))+o.1)).tmod 4,o.2)
else
some ((-1),b)
def J4(a:Int)(b:AZ)(c:Int)(f:Bool):=if f then
some (0,b)
else
if a==20 then
J5 b c (a==20)
else
J5 b c (a==21)
def J3(a:Int)(b:AZ)(c:Int)(e:Bool):=if e then
some (2,b)
else
if a==16 then
J4 a b c (a==16)
else
if a==17 then
J4 a b c (a==17)
else
if a==18 then
J4 a b c (a==18)
else
if a==19 then
J4 a b c (a==19)
else
if a==22 then
J4 a b c (a==22)
else
J4 a b c (a==23)
def J2(a:Int)(b:AZ)(c:Int)(d:Bool):=if d then(Ao b 2).bind λl=>some (l.1,l.2)
else
if a==8 then
J3 a b c (a==8)
else
if a==9 then
J3 a b c (a==9)
else
if a==10 then
J3 a b c (a==10)
else
J3 a b c (a==11)
def J1(a:Int)(b:AZ)(c:Int)(i:Bool):=if i then(Ao b 8).bind λj=>(gt [0,0,0,1,1,2,3,4] j.1).bind λq=>some (q,j.2)
else
if a==6 then
J2 a b c (a==6)
else
J2 a b c (a==7)
end ED
section
open ED
def ED(b:AZ)(a c:Int):=if a==3 then
J1 a b c (a==3)
else
J1 a b c (a==4)
def YB{b:AZ}{a c:Int}{r:j7}(h:ED b a c=some r):BF prog 176 [bA 2 (Ft b),si a,si c] (si r.1) [bA 2 (Ft r.2),.dead,.dead]:=by refine kL mix func176 (hn [(0,[12,19,38]),(11,[14])] [(3,1),(6,2),(9,3),(14,4)]) ?_;have a1:=@DD;have c4:=iR 4 λd=>∃f,(d 0=bA 2 (Ft b)/\d 2=si c/\d 7=si a/\d 26=sb f)/\J4 a b c f=some r;have c3:=iR 3 λd=>∃e,(d 0=bA 2 (Ft b)/\d 2=si c/\d 7=si a/\d 21=sb e)/\J3 a b c e=some r;have c2:=iR 2 λe=>∃d,(e 0=bA 2 (Ft b)/\e 2=si c/\e 7=si a/\e 16=sb d)/\J2 a b c d=some r;have c1:=iR 1 λd=>∃i,(d 0=bA 2 (Ft b)/\d 2=si c/\d 7=si a/\d 8=sb i)/\J1 a b c i=some r;unfold ED at h;exact walk
end
namespace DJ
def J4(f:Int)(o:kr):ABm (Int×(List AL)):=some (f,o)
def J3(a:kr)(f:Int):=if decide (f>=0)then(gt a f).bind λj=>J4 f (a.set f.toNat (AL.mk 4 j.DS j.dy))
else
J4 f a
def J2(L1:mh)(b l:Int):=L1 l (A9 (b+1))
def J1(L1:mh)(c b:Int)(p:Bool):=if p then
J2 L1 b b
else
J2 L1 b c
def L1(d:Int)(a:kr)(e:Int)(L1:mh)(c b:Int):=if decide (b<(a.length:Int))then(gt a b).bind λs=>(GG s d).bind λq=>if q then
if decide (c<0)then
J1 L1 c b true
else
J1 L1 c b (b==e)
else
J1 L1 c b false
else
J3 a c
def AU(d:Int)(a:kr)(e:Int):Nat->Int->Int->ABm (Int×(List AL))
|0,_,_=>none
|n+1,c,b=>L1 d a e (AU d a e n) c b
end DJ
section
open DJ
def DJ(i:Int)(a:kr)(d e:Int):=AU d a e BQ (-1) 0
def Wa{i:Int}{a:kr}{d e:Int}{r:Int×(List AL)}(h:DJ i a d e=some r):BF prog 196 [.agg [.dead,si i,.dead,vO 3 Ax a],si d,si e] (si r.1) [.agg [.dead,si i,.dead,vO 3 Ax r.2],.dead,.dead]:=by refine kL mix func196 (hn [(0,[3,10,11,16,34,35,37,38])] (E:=[(0,(.dP [.bxv ⟨3,[],[0]⟩ 4 0,.o (iK 6 0)]))])) ?_;have a1:=@Pw;have l1:=iJ λn f=>∃c b us1,(f 0=.agg [.dead,si i,.dead,vO 3 Ax a]/\f 1=si d/\f 2=si e/\f 3=.vb 0 0 us1/\f 7=si c/\f 11=.al 0 [(0,3,0)]/\f 12=si (a.length:Int)/\f 13=si b)/\AU d a e n c b=some r;unfold DJ at h;exact walk
end
namespace DC
def J2(p:kr)(l:Int):ABm (Int×(List AL)):=some (l,p)
def J1(L1:mn)(a:Int)(o:kr)(j:Int):=L1 o j (A9 (a+1))
def L1(c:Int)(b:kr)(L1:mn)(d:kr)(e a:Int):=if decide (a<(b.length:Int))then(gt d a).bind λi=>(GG i c).bind λq=>if q then
J1 L1 a (d.set a.toNat (AL.mk 4 i.DS i.dy)) (A9 (e+1))
else
J1 L1 a d e
else
J2 d e
def AU(c:Int)(b:kr):Nat->(List AL)->Int->Int->ABm (Int×(List AL))
|0,_,_,_=>none
|n+1,d,e,a=>L1 c b (AU c b n) d e a
end DC
section
open DC
def DC(f:Int)(b:kr)(c:Int):=AU c b BQ b 0 0
def SW{f:Int}{b:kr}{c:Int}{r:Int×(List AL)}(h:DC f b c=some r):BF prog 197 [.agg [.dead,si f,.dead,vO 3 Ax b],si c] (si r.1) [.agg [.dead,si f,.dead,vO 3 Ax r.2],.dead]:=by refine kL mix func197 (hn [(0,[2,8,9,14,19,20,22,23])] (E:=[(0,(.dP [.bxv ⟨2,[],[0]⟩ 4 0,.o (iK 4 0)]))])) ?_;have a1:=@Pw;have l1:=iJ λn g=>∃d e a us1,(g 0=.agg [.dead,si f,.dead,vO 3 Ax d]/\g 1=si c/\g 2=.vb 0 0 us1/\g 5=si e/\g 9=.al 0 [(0,3,0)]/\g 10=si (b.length:Int)/\g 11=si a)/\AU c b n d e a=some r;unfold DC at h;exact walk
end
namespace Gf
def J3(s:AZ)(o:iT):ABm ((List Int)×AZ):=some (o,s)
def J2(L1:lq)(b:Int)(q:AZ)(l:iT):=L1 q l (A9 (b+1))
def J1(L1:lq)(c:iT)(b f:Int)(i:AZ)(p:Bool):=if p then
if Aq (c.length+1) 8=true then
J2 L1 b i (c++[f])
else none
else
J2 L1 b i c
def L1(a:iT)(L1:lq)(d:AZ)(c:iT)(b:Int):=if decide (b<(a.length:Int))then(gt a b).bind λf=>if decide ((A9 (b+3))>=(a.length:Int))then(Ao d 2).bind λj=>J1 L1 c b f j.2 (j.1==1)
else
J1 L1 c b f d false
else
J3 d c
def AU(a:iT):Nat->AZ->(List Int)->Int->ABm ((List Int)×AZ)
|0,_,_,_=>none
|n+1,d,c,b=>L1 a (AU a n) d c b
end Gf
section
open Gf
def Gf(e:AZ)(a:iT):=AU a BQ e [] 0
def dU{e:AZ}{a:iT}{r:(List Int)×AZ}(h:Gf e a=some r):BF prog 178 [bA 2 (Ft e),vO 1 eI a] (vO 1 eI r.1) [bA 2 (Ft r.2),vO 1 eI a]:=by refine kL mix func178 (hn [(0,[21]),(1,[8,13,17]),(5,[25,30])]) ?_;have a1:=@DD;have l1:=iJ λn e=>∃d c b,(e 0=bA 2 (Ft d)/\e 1=vO 1 eI a/\e 5=vO 1 eI c/\e 8=.al 1 []/\e 9=si (a.length:Int)/\e 10=si b)/\AU a n d c b=some r;unfold Gf at h;exact walk
end
namespace HT
def J1(d:Int):ABm (Int×Bool):=some (d,true)
def J2(e:Int):ABm (Int×Bool):=some (e,true)
end HT
section
open HT
def HT(c b a:Int):=if c==6 then
some (A9 (b+a),true)
else
if c==7 then
some (A9 (b-a),true)
else
if c==8 then
some (A9 (b*a),true)
else
if c==9 then
if a==0 then
some (0,true)
else
if¬a=0 then
some (A9 (b.tdiv a),true)
else none
else
if c==10 then
if a==0 then
some (0,true)
else
if¬a=0 then
some (b.tmod a,true)
else none
else
if c==11 then(Ef (b==a)).bind λf=>some (f,true)
else
if c==12 then(Ef (b != a)).bind λi=>some (i,true)
else
if c==13 then(Ef (decide (b<a))).bind λj=>some (j,true)
else
if c==14 then(Ef (decide (b<=a))).bind λl=>some (l,true)
else
if c==15 then(Ef (decide (b>a))).bind λo=>some (o,true)
else
if c==16 then(Ef (decide (b>=a))).bind λp=>some (p,true)
else
if c==17 then
if b != 0 then(Ef (a != 0)).bind λq=>J1 q
else(Ef false).bind λs=>J1 s
else
if c==18 then
if b != 0 then(Ef true).bind λt=>J2 t
else(Ef (a != 0)).bind λu=>J2 u
else
some (0,false)
def Xx{c b a:Int}{r:md}(h:HT c b a=some r):Says prog 267 [si c,si b,si a] (.Bp [si r.1,sb r.2]):=by refine kO mix func267 hn ?_;have a1:=@Q7;unfold HT at h;exact walk
end
namespace Gb
def J1(e:Bool):ABm Bool:=some e
def J3(f:Bool):ABm Bool:=some f
def J2(a:AH)(b:AD)(c:Bool):=if c then
some true
else
if a.da==18 then(C4 b.dc a.di).bind λd=>if(d.length:Int)==0 then
some (a.dm==(-1))
else
if decide (a.dm>=0)then
if decide (a.dm<(b.dc.AB.length:Int))then(HM d a.dm).bind λi=>J3 i
else
J3 false
else
J3 false
else
if a.da==19 then(C4 b.dc a.di).bind λj=>some (a.dm==(j.length:Int))
else
some (a.dm==0)
end Gb
section
open Gb
def Gb(b:AD)(a:AH):=if a.da==3 then(gt b.dg a.di).bind λl=>some (a.dm==l)
else
if a.da==23 then(gt b.AM a.di).bind λo=>some (a.dm==o)
else
if a.da==5 then
if a.dm==0 then
J1 true
else
J1 (a.dm==1)
else
if a.da==4 then
J2 a b (a.da==4)
else
J2 a b (a.da==22)
def Z8{b:AD}{a:AH}{r:Bool}(h:Gb b a=some r):Says prog 105 [.agg (Bc b),.agg (Am a)] (sb r):=by refine kO mix func105 (hn [(2,[12,23,45,62,63,78]),(3,[6,10,14,21,25,32,36,47,53,56,60,70,76,80,85]),(5,[50,69])] [(9,2)]) ?_;have a1:=@Og;have a2:=@PY;have c2:=iR 2 λd=>∃c,(d 2=bA 7 (Bc b)/\d 3=bA 7 (Am a)/\d 7=si a.da/\d 40=sb c)/\J2 a b c=some r;unfold Gb at h;exact walk
end
namespace Fm
def J1(d:AD):ABm AD:=some d
def L1(a:AG)(L1:AD->Int->ABm AD)(b:AD)(c:Int):=if decide (c<(a.dg.length:Int))then(gt a.dg c).bind λf=>if Aq (b.dg.length+1) 8=true then
L1 (AD.mk b.dc (b.dg++[f.de]) b.AM b.df) (A9 (c+1))
else none
else
J1 b
def AU(a:AG):Nat->AD->Int->ABm AD
|0,_,_=>none
|n+1,b,c=>L1 a (AU a n) b c
end Fm
section
open Fm
def Fm(a:AG):=(Fl a).bind λe=>if 0<=0/\0<=(a.dg.length:Int)/\Aq a.dg.length 8=true then
if 0<=(a.AM.length:Int)/\(a.AM.length:Int)<=(a.AM.length:Int)/\Aq a.AM.length 8=true then
if 0<=(a.AB.length:Int)/\(a.AB.length:Int)<=(a.AB.length:Int)/\Aq a.AB.length 8=true then
AU a BQ (AD.mk e [] (List.replicate a.AM.length (0:Int)) (List.replicate a.AB.length (0:Int))) 0
else none
else none
else none
end
namespace GJ
def J2(a:Aa)(d:Int)(i:Bool):ABm Int:=if i then(gt a.ek d).bind λp=>some p.da
else
some 9
def J1(a:Aa)(b:ABn)(f:Bool):=if f then
some 8
else(DZ a.ek b).bind λd=>if decide (d<0)then(DO a.AB b).bind λl=>if decide (l>=0)then
some 7
else
some 0
else(gt a.ek d).bind λc=>if c.da==1 then
if c.Ca != 0 then
some 2
else
some 1
else
if c.da==2 then
some 1
else
if c.da==3 then
J2 a d (c.da==3)
else
if c.da==4 then
J2 a d (c.da==4)
else
if c.da==5 then
J2 a d (c.da==5)
else
J2 a d (c.da==6)
end GJ
section
open GJ
def GJ(a:Aa)(e:Int)(b:ABn):=if decide (e>=0)then
if decide (e<(a.AB.length:Int))then(gt a.AB e).bind λo=>(Cz o.Hp b).bind λj=>J1 a b (decide (j>=0))
else
J1 a b false
else
J1 a b false
def Xr{a:Aa}{e:Int}{b:ABn}{r:Int}(h:GJ a e b=some r):Says prog 279 [.agg (Cf a),si e,B0 b] (si r):=by refine kO mix func279 (hn [(3,[12,18,28,34,39,47,61])] [(2,1)]) ?_;have a1:=@Jx;have a2:=@Kg;have a3:=@IX;have c1:=iR 1 λc=>∃f,(c 2=B0 b/\c 3=bA 2 (Cf a)/\c 27=sb f)/\J1 a b f=some r;unfold GJ at h;exact walk
end
namespace EY
def J1(a:AP)(e:List AQ):ABm AP:=(Kl a.Bs).bind λi=>(HA a.AB).bind λj=>some (AP.mk e a.Tx i j)
def L1(a:AP)(L1:(List AQ)->Int->ABm AP)(c:List AQ)(b:Int):=if decide (b<(a.AK.length:Int))then(gt a.AK b).bind λd=>(slices_Clone_int d.Ae).bind λf=>(gt c b).bind λl=>L1 (c.set b.toNat (AQ.mk d.Bw f)) (A9 (b+1))
else
J1 a c
def AU(a:AP):Nat->(List AQ)->Int->ABm AP
|0,_,_=>none
|n+1,c,b=>L1 a (AU a n) c b
end EY
section
open EY
def EY(a:AP):=if 0<=(a.AK.length:Int)/\(a.AK.length:Int)<=(a.AK.length:Int)/\Aq a.AK.length 32=true then
AU a BQ (List.replicate a.AK.length (AQ.mk 0 [])) 0
else none
def Xl{a r:AP}(h:EY a=some r):Says prog 193 [.agg (HI a)] (.agg (I9 r)):=by refine kO mix func193 (hn [(1,[6,7,10,11,16,17,29,30,31,33,34,35,37,38]),(3,[18,26,28]),(5,[20,22,23])]) ?_;have a1:=@RM;have a2:=@LJ;have a3:=@MJ;have l1:=iJ λn d=>∃c b,(d 1=bA 4 (HI a)/\d 2=bA 4 z6/\d 3=vO 2 B3 c/\d 11=vS 2 C5 a.AK/\d 12=si (a.AK.length:Int)/\d 13=si b)/\AU a n c b=some r;unfold EY at h;exact walk
end
namespace ER
def J2(j:iT):ABm (List Int):=some j
def L2(a:iT)(L2:jd)(f:iT)(d:Int):=if decide (d<(a.length:Int))then(gt a d).bind λq=>(Et f q).bind λo=>L2 o (A9 (d+1))
else
J2 f
def B9(a:iT):Nat->(List Int)->Int->ABm (List Int)
|0,_,_=>none
|n+1,f,d=>L2 a (B9 a n) f d
def J1(a i:iT):=B9 a BQ i 0
def L1(b a:iT)(L1:jd)(e:iT)(c:Int):=if decide (c<(b.length:Int))then(gt b c).bind λp=>(Et e p).bind λl=>L1 l (A9 (c+1))
else
J1 a e
def AU(b a:iT):Nat->(List Int)->Int->ABm (List Int)
|0,_,_=>none
|n+1,e,c=>L1 b a (AU b a n) e c
end ER
section
open ER
def ER(b a:iT):=AU b a BQ [] 0
def RA{b a r:iT}(h:ER b a=some r):Says prog 156 [vS 1 eI b,vS 1 eI a] (vO 1 eI r):=by refine kO mix func156 (hn [(5,[14,26,32])]) ?_;have a1:=@jO;have l2:=iJ λn b=>∃f d,(b 1=vS 1 eI a/\b 5=vO 1 eI f/\b 7=si d)/\B9 a n f d=some r;have l1:=iJ λn d=>∃e c,(d 0=vS 1 eI b/\d 1=vS 1 eI a/\d 5=vO 1 eI e/\d 6=si c)/\AU b a n e c=some r;unfold ER at h;exact walk
end
namespace Hx
def J1(a:Int)(c:AD)(b:AZ)(e:Bool):ABm (Int×AZ):=if e then(Ao b 3).bind λi=>some (i.1,i.2)
else
if a==5 then(Ao b 2).bind λj=>some (j.1,j.2)
else
if a==18 then(FA c).bind λf=>if decide ((f.length:Int)>0)then(Ao b (f.length:Int)).bind λl=>(gt f l.1).bind λs=>some (s,l.2)
else
some ((-1),b)
else
if a==19 then(FA c).bind λo=>some ((o.length:Int),b)
else
some (0,b)
end Hx
section
open Hx
def Hx(b:AZ)(c:AD)(a d:Int):=if a==3 then(gt c.dg d).bind λp=>some (p,b)
else
if a==23 then(gt c.AM 0).bind λq=>some (q,b)
else
if a==4 then
J1 a c b (a==4)
else
J1 a c b (a==22)
def aQ{b:AZ}{c:AD}{a d:Int}{r:j7}(h:Hx b c a d=some r):BF prog 177 [bA 2 (Ft b),.agg (Bc c),si a,si d] (si r.1) [bA 2 (Ft r.2),.dead,.dead,.dead]:=by refine kL mix func177 (hn [(0,[27,31,41]),(5,[13,20]),(9,[37,40,42,45])] [(7,1)]) ?_;have a1:=@DD;have a2:=@Wp;have c1:=iR 1 λd=>∃e,(d 0=bA 2 (Ft b)/\d 5=bA 7 (Bc c)/\d 10=si a/\d 24=sb e)/\J1 a c b e=some r;unfold Hx at h;exact walk
end
namespace Gv
def J2(a:An)(c:Bool):ABm Int:=if c then
some (-1)
else
some a.A
def J1(a:An)(b:AN)(d:Bool):=if d then
some a.B
else
if a.Op==7 then(gt b.Dk a.C).bind λi=>(Hk i a.N).bind λe=>some (A9 (a.B+e))
else
if a.Op==9 then(gt b.Dk a.C).bind λj=>(Hk j a.N).bind λf=>some (A9 (a.A+f))
else
if a.Op==10 then
J2 a (a.Op==10)
else
if a.Op==17 then
J2 a (a.Op==17)
else
if a.Op==18 then
J2 a (a.Op==18)
else
if a.Op==19 then
J2 a (a.Op==19)
else
if a.Op==20 then
J2 a (a.Op==20)
else
J2 a (a.Op==28)
end Gv
section
open Gv
def Gv(a:An)(b:AN):=if a.Op==6 then
J1 a b (a.Op==6)
else
J1 a b (a.Op==27)
def X1{a:An}{b:AN}{r:Int}(h:Gv a b=some r):Says prog 241 [.agg (EX a),.agg (FN b)] (si r):=by refine kO mix func241 (hn [(2,[5,10,14,18,22,28,32,36,47]),(3,[16,30])] [(3,1),(10,2)]) ?_;have a1:=@Zv;have c2:=iR 2 λb=>∃c,(b 2=bA 6 (EX a)/\b 40=sb c)/\J2 a c=some r;have c1:=iR 1 λc=>∃d,(c 2=bA 6 (EX a)/\c 3=bA 4 (FN b)/\c 6=si a.Op/\c 7=sb d)/\J1 a b d=some r;unfold Gv at h;exact walk
end
namespace E5
def J1(d:AD):ABm AD:=some d
def L1(a:AG)(L1:AD->Int->ABm AD)(b:AD)(c:Int):=if decide (c<(a.dg.length:Int))then(gt a.dg c).bind λf=>if Aq (b.dg.length+1) 8=true then
L1 (AD.mk b.dc (b.dg++[f.de]) b.AM b.df) (A9 (c+1))
else none
else
J1 b
def AU(a:AG):Nat->AD->Int->ABm AD
|0,_,_=>none
|n+1,b,c=>L1 a (AU a n) b c
end E5
section
open E5
def E5(a:AG):=(DW a).bind λe=>if 0<=(a.AM.length:Int)/\(a.AM.length:Int)<=(a.AM.length:Int)/\Aq a.AM.length 8=true then
if 0<=(a.AB.length:Int)/\(a.AB.length:Int)<=(a.AB.length:Int)/\Aq a.AB.length 8=true then
AU a BQ (AD.mk e [] (List.replicate a.AM.length (0:Int)) (List.replicate a.AB.length (0:Int))) 0
else none
else none
def JF{a:AG}{r:AD}(h:E5 a=some r):Says prog 84 [.agg (A0 a)] (.agg (Ia r)):=by refine kO mix func84 (hn [(1,[7,11,17,25]),(3,[23,24,33,34])]) ?_;have a1:=@RD;have l1:=iJ λn d=>∃b c,(d 1=bA 6 (A0 a)/\d 2=bA 7 z0/\d 3=bA 7 (Ia b)/\d 4=si c)/\AU a n b c=some r;unfold E5 at h;exact walk
end
namespace Em
def J2:=some true
def L1(a:AG)(L1:i6)(b:Int):=if decide (b<(a.Aj.length:Int))then(gt a.Aj b).bind λf=>(De f.dn (a.AK.length:Int)).bind λe=>if !e then
some false
else
L1 (A9 (b+1))
else
J2
def AU(a:AG):Nat->Int->ABm Bool
|0,_=>none
|n+1,b=>L1 a (AU a n) b
def J1(a:AG)(d:Bool):=if d then
some false
else
AU a BQ 0
end Em
section
open Em
def Em(a:AG)(c:AP):=if(c.AK.length:Int) != (a.AK.length:Int)then
J1 a true
else
if(c.Bs.length:Int) != (a.AM.length:Int)then
J1 a true
else
J1 a ((c.AB.length:Int) != (a.AB.length:Int))
def M7{a:AG}{c:AP}{r:Bool}(h:Em a c=some r):Says prog 94 [.agg (A0 a),.agg (HI c)] (sb r):=by refine kO mix func94 (hn [(2,[10,18,27,32,41]),(3,[7,15,24]),(6,[39])] [(2,1)]) ?_;have a1:=@LF;have l1:=iJ λn c=>∃b,(c 2=bA 6 (A0 a)/\c 33=vS 2 ID a.Aj/\c 34=si (a.Aj.length:Int)/\c 35=si b)/\AU a n b=some r;have c1:=iR 1 λb=>∃d,(b 2=bA 6 (A0 a)/\b 31=sb d)/\J1 a d=some r;unfold Em at h;exact walk
end
namespace E9
def J3:=some true
def J2(L1:i6)(a:Int):=L1 (A9 (a+1))
def J1(L1:i6)(a:Int)(l:Bool):=if l then
some false
else
J2 L1 a
def L1(c:iT)(d:Int)(b:AF)(L1:i6)(a:Int):=if decide (a<(c.length:Int))then(gt c a).bind λf=>(gt b.de.df d).bind λi=>if decide (f<i)then
J2 L1 a
else(IM b d (A9 (f-i))).bind λe=>if decide (e<0)then
J1 L1 a true
else(gt b.AA e).bind λj=>if j.da != 3 then
J1 L1 a (j.da != 23)
else
J1 L1 a false
else
J3
def AU(c:iT)(d:Int)(b:AF):Nat->Int->ABm Bool
|0,_=>none
|n+1,a=>L1 c d b (AU c d b n) a
end E9
section
open E9
def E9(b:AF)(d:Int)(c:iT):=AU c d b BQ 0
def aD{b:AF}{d:Int}{c:iT}{r:Bool}(h:E9 b d c=some r):Says prog 56 [.agg (A5 b),si d,vS 1 eI c] (sb r):=by refine kO mix func56 (hn [(3,[19,20,32,33,43,51])]) ?_;have a1:=@jR;have l1:=iJ λn e=>∃a,(e 1=si d/\e 2=vS 1 eI c/\e 3=bA 15 (A5 b)/\e 7=si a)/\AU c d b n a=some r;unfold E9 at h;exact walk
end
namespace Hc
def J1(d:A3):ABm A3:=some d
def L1(a:A3)(L1:nY)(b:A3)(c:Int):=if decide (c<(a.AB.length:Int))then(gt a.AB c).bind λi=>(G0 i).bind λf=>if Aq (b.AB.length+1) 64=true then
L1 (A3.mk b.dc b.dg b.AM (b.AB++[f])) (A9 (c+1))
else none
else
J1 b
def AU(a:A3):Nat->A3->Int->ABm A3
|0,_,_=>none
|n+1,b,c=>L1 a (AU a n) b c
end Hc
section
open Hc
def Hc(a:A3):=(Gr a.dc).bind λe=>if Aq (a.dg.length) 8=true then
if Aq (a.AM.length) 8=true then
AU a BQ (A3.mk e a.dg a.AM []) 0
else none
else none
def dH{a r:A3}(h:Hc a=some r):Says prog 213 [.agg (K6 a)] (.agg (NX r)):=by refine kO mix func213 (hn [(1,[5,9,13,18,26]),(3,[24,25,34,35])]) ?_;have a1:=@Sx;have a2:=@Sw;have l1:=iJ λn d=>∃b c,(d 1=bA 7 (K6 a)/\d 2=bA 7 z4/\d 3=bA 7 (NX b)/\d 4=si c)/\AU a n b c=some r;unfold Hc at h;exact walk
end
namespace DH
def J3:=some false
def J2(L1:ka)(b f:Int):=L1 f (A9 (b+1))
def J1(L1:ka)(c:Int)(a:l0)(b:Int)(i:Bool):=if i then
some false
else(gt a c).bind λe=>(G8 e.Op).bind λj=>if !j then
some true
else
if e.Op==5 then
J2 L1 b e.A
else
J2 L1 b (A9 (c+1))
def L1(a:l0)(L1:ka)(c b:Int):=if decide (b<=(a.length:Int))then
if decide (c<0)then
J1 L1 c a b true
else
J1 L1 c a b (decide (c>=(a.length:Int)))
else
J3
def AU(a:l0):Nat->Int->Int->ABm Bool
|0,_,_=>none
|n+1,c,b=>L1 a (AU a n) c b
end DH
section
open DH
def DH(a:l0)(d:Int):=AU a BQ d 0
def Zz{a:l0}{d:Int}{r:Bool}(h:DH a d=some r):Says prog 210 [vS 6 EX a,si d] (sb r):=by refine kO mix func210 hn ?_;have a1:=@P1;have l1:=iJ λn d=>∃c b,(d 0=vS 6 EX a/\d 1=si c/\d 5=si b)/\AU a n c b=some r;unfold DH at h;exact walk
end
namespace DR
def J1:=some false
def L1(a:ABn)(b:jq)(L1:i6)(c:Int):=if decide (c<(b.length:Int))then(gt b c).bind λd=>if d.toList==a.toList then
some true
else
L1 (A9 (c+1))
else
J1
def AU(a:ABn)(b:jq):Nat->Int->ABm Bool
|0,_=>none
|n+1,c=>L1 a b (AU a b n) c
end DR
section
open DR
def DR(a:ABn):=(Kf).bind λb=>AU a b BQ 0
def Tt{a:ABn}{r:Bool}(h:DR a=some r):Says prog 154 [B0 a] (sb r):=by refine kO mix func154 (hn [(3,[7,12,14])]) ?_;have a1:=@VJ;have l1:=iJ λn d=>∃b c,(d 0=B0 a/\d 3=vO 1 eS b/\d 4=si c)/\AU a b n c=some r;unfold DR at h;exact walk
end
namespace HN
def J1:=some true
def L1(a b:iT)(L1:i6)(c:Int):=if decide (c<(if(b.length:Int)>(a.length:Int)then(b.length:Int)else(a.length:Int)))then(Jn a c).bind λd=>(Jn b c).bind λe=>if decide (d>e)then
some false
else
L1 (A9 (c+1))
else
J1
def AU(a b:iT):Nat->Int->ABm Bool
|0,_=>none
|n+1,c=>L1 a b (AU a b n) c
end HN
section
open HN
def HN(a b:iT):=AU a b BQ 0
def jS{a b:iT}{r:Bool}(h:HN a b=some r):Says prog 80 [vS 1 eI a,vS 1 eI b] (sb r):=by refine kO mix func80 hn ?_;have a1:=@oL;have l1:=iJ λn d=>∃c,(d 0=vS 1 eI a/\d 1=vS 1 eI b/\d 5=si c)/\AU a b n c=some r;unfold HN at h;exact walk
end
namespace Hm
def J1(a:j7)(e:Bool):ABm (Int×AZ):=if e then
some ((-1),a.2)
else
some (A9 (a.1-2),a.2)
end Hm
section
open Hm
def Hm(c:AZ)(d:Int)(b:iT):=(Ao c (A9 ((b.length:Int)+2))).bind λa=>if decide ((A9 (a.1-2))<0)then
J1 a true
else(gt b (A9 (a.1-2))).bind λf=>J1 a (f==0)
def aN{c:AZ}{d:Int}{b:iT}{r:j7}(h:Hm c d b=some r):BF prog 133 [bA 2 (Ft c),.agg [.dead,si d,.dead,.dead,.dead,.dead,vS 1 eI b]] (si r.1) [bA 2 (Ft r.2),.dead]:=by refine kL mix func133 (hn [(0,[6]),(1,[3,7,8,16,17,19])] (E:=[(0,(.dP [.bxv ⟨3,[],[1]⟩ 7 1,.o (iK 4 0)]))])) ?_;have a1:=@DD;unfold Hm at h;exact walk
end
namespace Gc
def J1(a:AH)(b:AG)(c:Bool):ABm (Int×Bool):=if c then
some (a.di,false)
else
if a.da==8 then
some (a.di,true)
else
if a.da==17 then(Hl b a.di).bind λd=>some (d,false)
else
some ((-1),false)
end Gc
section
open Gc
def Gc(b:AG)(a:AH):=if a.da==6 then
J1 a b (a.da==6)
else
J1 a b (a.da==10)
def VY{b:AG}{a:AH}{r:md}(h:Gc b a=some r):Says prog 123 [.agg (A0 b),.agg (Am a)] (.Bp [si r.1,sb r.2]):=by refine kO mix func123 (hn [(3,[6,11,15,20])]) ?_;have a1:=@RE;unfold Gc at h;exact walk
end
namespace Gd
def J1(a:AH)(b:AG)(c:Bool):ABm (Int×Bool):=if c then
some (a.di,false)
else
if a.da==9 then
some (a.di,true)
else
if a.da==16 then(Hl b a.di).bind λd=>some (d,false)
else
some ((-1),false)
end Gd
section
open Gd
def Gd(b:AG)(a:AH):=if a.da==7 then
J1 a b (a.da==7)
else
J1 a b (a.da==11)
def Va{b:AG}{a:AH}{r:md}(h:Gd b a=some r):Says prog 124 [.agg (A0 b),.agg (Am a)] (.Bp [si r.1,sb r.2]):=by refine kO mix func124 (hn [(3,[6,11,15,20])]) ?_;have a1:=@RE;unfold Gd at h;exact walk
end
namespace Ht
def J1(c:Bool):ABm Bool:=some c
end Ht
section
open Ht
def Ht(b:AG)(a:AD):=(E7 b a.dc).bind λd=>if d then
if(a.dg.length:Int)==(b.dg.length:Int)then
if(a.AM.length:Int)==(b.AM.length:Int)then
J1 ((a.df.length:Int)==(b.AB.length:Int))
else
J1 false
else
J1 false
else
J1 false
def Sz{b:AG}{a:AD}{r:Bool}(h:Ht b a=some r):Says prog 51 [.agg (A0 b),.agg (Bc a)] (sb r):=by refine kO mix func51 (hn [(2,[13,22,31]),(3,[6,10,19,28])]) ?_;have a1:=@N6;unfold Ht at h;exact walk
end
namespace Ga
def J1(e:Bool):ABm Bool:=some e
end Ga
section
open Ga
def Ga(b:AG)(a c:Int):=(EC a (b.dg.length:Int)).bind λf=>if f then(gt b.dg a).bind λd=>if d.d6==0 then
if d.Ca != 0 then
J1 (d.Ca==c)
else
J1 false
else
J1 false
else
J1 false
def Zy{b:AG}{a c:Int}{r:Bool}(h:Ga b a c=some r):Says prog 237 [.agg (A0 b),si a,si c] (sb r):=by refine kO mix func237 (hn [(3,[8,13,22,31])]) ?_;have a1:=@Q8;unfold Ga at h;exact walk
end
namespace GU
def J1(d:Bool):ABm Bool:=some d
end GU
section
open GU
def GU(b:AG)(a:Int)(c:Bool):=(FL a (b.AK.length:Int)).bind λe=>if e then(gt b.AK a).bind λf=>J1 (f.RW==c)
else
J1 false
def UW{b:AG}{a:Int}{c r:Bool}(h:GU b a c=some r):Says prog 92 [.agg (A0 b),si a,sb c] (sb r):=by refine kO mix func92 (hn [(3,[8,13])]) ?_;have a1:=@UX;unfold GU at h;exact walk
end
namespace Fj
def J1(c:Bool):ABm Bool:=some c
end Fj
section
open Fj
def Fj(b:AF)(a:Int):=(Li a (b.de.df.length:Int)).bind λd=>if d then(gt b.de.df a).bind λe=>J1 (decide (e>=1))
else
J1 false
def aC{b:AF}{a:Int}{r:Bool}(h:Fj b a=some r):Says prog 102 [.agg (A5 b),si a] (sb r):=by refine kO mix func102 (hn [(2,[6,7,12,13])]) ?_;have a1:=@XL;unfold Fj at h;exact walk
end
namespace Hj
def J1(b:Bool):ABm Bool:=some b
end Hj
section
open Hj
def Hj(a:Int):=(GH a).bind λc=>if c then
J1 true
else(IW a).bind λd=>if d then
J1 true
else
J1 (a==95)
def Zp{a:Int}{r:Bool}(h:Hj a=some r):Says prog 155 [.sc (.int .u8 a)] (sb r):=by refine kO mix func155 hn ?_;have a1:=@Py;have a2:=@Zn;unfold Hj at h;exact walk
end
def EK(a:AO)(b:ABn):ABm (Bool×AO):=(Cz a.eb b).bind λc=>some (decide (c>=0),a)
def SU{a:AO}{b:ABn}{r:Bool×AO}(h:EK a b=some r):BF prog 257 [bA 8 (Ch a),B0 b] (sb r.1) [bA 8 (Ch r.2),.dead]:=by refine kL mix func257 (hn [(0,[5,6,7,8])]) ?_;have a1:=@IX;unfold EK at h;exact walk
def NB(b a:Int):ABm (Int×Bool):=if b==4 then
some (A9 (0-a),true)
else
if b==5 then(Ef (a==0)).bind λc=>some (c,true)
else
some (0,false)
def Zw{b a:Int}{r:md}(h:NB b a=some r):Says prog 265 [si b,si a] (.Bp [si r.1,sb r.2]):=by refine kO mix func265 hn ?_;have a1:=@Q7;unfold NB at h;exact walk
def Gt(a:iT)(b:Int):ABm Bool:=(GM a b).bind λc=>some (decide (c>=0))
def NG{a:iT}{b:Int}{r:Bool}(h:Gt a b=some r):Says prog 167 [vS 1 eI a,si b] (sb r):=by refine kO mix func167 hn ?_;have a1:=@YC;unfold Gt at h;exact walk
end Go.Abs
