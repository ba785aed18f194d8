/- Go functions do what typed programs say. -/
import Derived.Test.YtdojkofgkcmagaaGreatDoorWalkB
import Derived.Test.YtdojkofgkcmagaaGreatDoorWalkC
import Derived.Shelf.Slices.SearchI
set_option linter.all false
namespace Go.Abs
open Go.Proofs Tryz
set_option maxRecDepth 1000000
set_option maxHeartbeats 4000000
namespace Cb
def J5:=some true
def J4(L1:ja)(b:Int)(l:Bool):=if l then
some false
else
L1 (A8 (b+1))
def J3(L1:ja)(b:Int)(c:Bool)(a:AE)(e:Bool):=if e then
some false
else
if c then(gt a.dg.df.AA b).bind λq=>(MN q.D7 (a.dc.Al.length:Int)).bind λo=>if !o then
J4 L1 b true
else
J4 L1 b false
else(gt a.dg.df.AA b).bind λs=>J4 L1 b (s.D7 != 0)
def J2(L1:ja)(d:Bool)(b:Int)(a:AE)(c:Bool):=(gt a.dg.df.AA b).bind λf=>if decide (f.dm<0)then
J3 L1 b c a true
else
if decide (f.dm>5)then
J3 L1 b c a true
else(gt a.dg.dh b).bind λp=>if !(d==(p==0))then
J3 L1 b c a true
else
if b==0 then
J3 L1 b c a (f.dm==0)
else
J3 L1 b c a false
def J1(L1:ja)(b:Int)(a:AE)(d:Bool):=(gt a.dg.df.AA b).bind λj=>if j.dm==3 then
J2 L1 d b a true
else
J2 L1 d b a (j.dm==4)
def L1(a:AE)(L1:ja)(b:Int):=if decide (b<(a.dg.df.AA.length:Int))then(gt a.dg.df.AA b).bind λi=>if i.dm==0 then
J1 L1 b a true
else
J1 L1 b a (i.dm==1)
else
J5
def AR(a:AE):Nat->Int->ABi Bool
|0,_=>none
|n+1,b=>L1 a (AR a n) b
end Cb
section
open Cb
def Cb(a:AE):=AR a BQ 0
def Vy{a:AE}{r:Bool}(h:Cb a=some r):Says prog 53 [.agg (Av a)] (sb r):=by refine kO mix func53 (hn [(1,[7,8,9,61,62,89,90])] [(7,1),(8,2),(10,3)]) ?_;have a1:=@Xz;have l1:=i4 λn c=>∃b,(c 1=bA 15 (Av a)/\c 3=vS 3 Ay a.dg.df.AA/\c 4=si b)/\AR a n b=some r;have c3:=iz 3 λd _ _ _ f=>∃b c e,(f 1=bA 15 (Av a)/\f 3=vS 3 Ay a.dg.df.AA/\f 4=si b/\f 6=sb c/\f 81=sb e)/\J3 (AR a d) b c a e=some r;have c2:=iz 2 λe _ _ _ f=>∃d b c,(f 1=bA 15 (Av a)/\f 3=vS 3 Ay a.dg.df.AA/\f 4=si b/\f 5=sb d/\f 6=sb c)/\J2 (AR a e) d b a c=some r;have c1:=iz 1 λc _ _ _ e=>∃b d,(e 1=bA 15 (Av a)/\e 3=vS 3 Ay a.dg.df.AA/\e 4=si b/\e 5=sb d)/\J1 (AR a c) b a d=some r;unfold Cb at h;exact walk
end
namespace CT
def J5(o:i6):ABi (List Int):=some o
def J4(L1:jg)(c:Int)(l:i6):=L1 l (A8 (c+1))
def J3(L1:jg)(e:i6)(c:Int)(p:Bool):=if p then
if Ap (e.length+1) 8=true then
J4 L1 c (e++[c])
else none
else
J4 L1 c e
def L1(b:Int)(a:AE)(d:AH)(L1:jg)(e:i6)(c:Int):=if decide (c<(a.AB.length:Int))then(gt a.AB c).bind λj=>(GQ j d).bind λt=>if t then
if j.dn==d.dn then
if j.db==d.db then
J3 L1 e c (!(decide (c>b)))
else
J3 L1 e c true
else
J3 L1 e c false
else
J3 L1 e c false
else
J5 e
def AR(b:Int)(a:AE)(d:AH):Nat->(List Int)->Int->ABi (List Int)
|0,_,_=>none
|n+1,e,c=>L1 b a d (AR b a d n) e c
def J2(b:Int)(a:AE)(d:AH)(f:i6):=AR b a d BQ f 0
def J1(b:Int)(a:AE)(i:Bool):=if i then
some []
else(gt a.AB b).bind λd=>(HS a d).bind λs=>if s then
J2 b a d [(-1)]
else
J2 b a d []
end CT
section
open CT
def CT(a:AE)(b:Int):=if decide (b<0)then
J1 b a true
else
if decide (b>=(a.AB.length:Int))then
J1 b a true
else(gt a.AB b).bind λu=>(Ib u).bind λq=>J1 b a (!q)
def Mh{a:AE}{b:Int}{r:i6}(h:CT a b=some r):Says prog 32 [.agg (Av a),si b] (vO 1 eI r):=by refine kO mix func32 (hn [(2,[13,19,27,38]),(5,[52,59]),(6,[35,69,74]),(8,[50,57])] [(2,1),(6,2)]) ?_;have:=(by decide:Ap 1 8);have a1:=@QX;have a2:=@XM;have a3:=@Ta;have l1:=i4 λn f=>∃d e c,(f 1=si b/\f 5=bA 7 (Aw d)/\f 6=vO 1 eI e/\f 39=vS 7 Aw a.AB/\f 40=si (a.AB.length:Int)/\f 41=si c)/\AR b a d n e c=some r;have c2:=i5 2 λc=>∃d f,(c 1=si b/\c 2=bA 15 (Av a)/\c 5=bA 7 (Aw d)/\c 6=vO 1 eI f)/\J2 b a d f=some r;have c1:=i5 1 λc=>∃i,(c 1=si b/\c 2=bA 15 (Av a)/\c 26=sb i)/\J1 b a i=some r;unfold CT at h;exact walk
end
namespace DW
def J5(b:AZ)(c:Int)(p:Bool):ABi (Int×AZ):=if p then(Aq b 3).bind λo=>some ((A8 ((A8 (c+1))+o.1)).tmod 4,o.2)
else
some ((-1),b)
def J4(a:Int)(b:AZ)(c:Int)(f:Bool):=if f then
some (0,b)
else
if a==20 then
J5 b c (a==20)
else
J5 b c (a==21)
def J3(a:Int)(b:AZ)(c:Int)(e:Bool):=if e then
some (2,b)
else
if a==16 then
J4 a b c (a==16)
else
if a==17 then
J4 a b c (a==17)
else
if a==18 then
J4 a b c (a==18)
else
if a==19 then
J4 a b c (a==19)
else
if a==22 then
J4 a b c (a==22)
else
J4 a b c (a==23)
def J2(a:Int)(b:AZ)(c:Int)(d:Bool):=if d then(Aq b 2).bind λl=>some (l.1,l.2)
else
if a==8 then
J3 a b c (a==8)
else
if a==9 then
J3 a b c (a==9)
else
if a==10 then
J3 a b c (a==10)
else
J3 a b c (a==11)
def J1(a:Int)(b:AZ)(c:Int)(i:Bool):=if i then(Aq b 8).bind λj=>(gt [0,0,0,1,1,2,3,4] j.1).bind λq=>some (q,j.2)
else
if a==6 then
J2 a b c (a==6)
else
J2 a b c (a==7)
end DW
section
open DW
def DW(b:AZ)(a c:Int):=if a==3 then
J1 a b c (a==3)
else
J1 a b c (a==4)
def Ys{b:AZ}{a c:Int}{r:j9}(h:DW b a c=some r):BM prog 176 [bA 2 (Gg b),si a,si c] (si r.1) [bA 2 (Gg r.2),.dead,.dead]:=by refine kL mix func176 (hn [(0,[12,19,38]),(11,[14])] [(3,1),(6,2),(9,3),(14,4)]) ?_;have a1:=@Dj;have c4:=i5 4 λd=>∃f,(d 0=bA 2 (Gg b)/\d 2=si c/\d 7=si a/\d 26=sb f)/\J4 a b c f=some r;have c3:=i5 3 λd=>∃e,(d 0=bA 2 (Gg b)/\d 2=si c/\d 7=si a/\d 21=sb e)/\J3 a b c e=some r;have c2:=i5 2 λe=>∃d,(e 0=bA 2 (Gg b)/\e 2=si c/\e 7=si a/\e 16=sb d)/\J2 a b c d=some r;have c1:=i5 1 λd=>∃i,(d 0=bA 2 (Gg b)/\d 2=si c/\d 7=si a/\d 8=sb i)/\J1 a b c i=some r;unfold DW at h;exact walk
end
namespace EL
def J2(i:Ab):ABi Ab:=some i
def L2(a:AE)(L2:Ab->Int->ABi Ab)(c:Ab)(e:Int):=if decide (e<(a.dg.AL.length:Int))then(gt a.dg.AL e).bind λo=>if Ap (c.AL.length+1) 16=true then
L2 (Ab.mk c.df c.di (c.AL++[(EO.mk o true)]) c.dt c.Dr c.Nf) (A8 (e+1))
else none
else
J2 c
def Bs(a:AE):Nat->Ab->Int->ABi Ab
|0,_,_=>none
|n+1,c,e=>L2 a (Bs a n) c e
def J1(a:AE)(f:Ab):=Bs a BQ f 0
def L1(a:AE)(L1:Ab->Int->ABi Ab)(b:Ab)(d:Int):=if decide (d<(a.dg.di.length:Int))then(gt a.dg.di d).bind λl=>if Ap (b.di.length+1) 16=true then
L1 (Ab.mk b.df (b.di++[(EO.mk l true)]) b.AL b.dt b.Dr b.Nf) (A8 (d+1))
else none
else
J1 a b
def AR(a:AE):Nat->Ab->Int->ABi Ab
|0,_,_=>none
|n+1,b,d=>L1 a (AR a n) b d
end EL
section
open EL
def EL(a:AE):=(GM a.dg.df).bind λj=>if 0<=(a.AB.length:Int)/\(a.AB.length:Int)<=(a.AB.length:Int)/\Ap a.AB.length 1=true then
if 0<=(a.AB.length:Int)/\(a.AB.length:Int)<=(a.AB.length:Int)/\Ap a.AB.length 8=true then
AR a BQ (Ab.mk j [] [] [] (List.replicate a.AB.length false) (List.replicate a.AB.length (0:Int))) 0
else none
else none
def cH{a:AE}{r:Ab}(h:EL a=some r):Says prog 62 [.agg (Av a)] (.agg (Oz r)):=by refine kO mix func62 (hn [(1,[6,7,10,14,20,21,29,30,40,41,49,50]),(3,[27,28,38,47,48,58,59])]) ?_;have a1:=@Ls;have l2:=i4 λn b=>∃c e,(b 1=bA 15 (Av a)/\b 2=bA 9 z7/\b 3=bA 9 (Oz c)/\b 5=si e)/\Bs a n c e=some r;have l1:=i4 λn c=>∃b d,(c 1=bA 15 (Av a)/\c 2=bA 9 z7/\c 3=bA 9 (Oz b)/\c 4=si d)/\AR a n b d=some r;unfold EL at h;exact walk
end
namespace Dp
def J4(f:Int)(o:kx):ABi (Int×(List AM)):=some (f,o)
def J3(a:kx)(f:Int):=if decide (f>=0)then(gt a f).bind λj=>J4 f (a.set f.toNat (AM.mk 4 j.D7 j.d6))
else
J4 f a
def J2(L1:mr)(b l:Int):=L1 l (A8 (b+1))
def J1(L1:mr)(c b:Int)(p:Bool):=if p then
J2 L1 b b
else
J2 L1 b c
def L1(d:Int)(a:kx)(e:Int)(L1:mr)(c b:Int):=if decide (b<(a.length:Int))then(gt a b).bind λs=>(Gu s d).bind λq=>if q then
if decide (c<0)then
J1 L1 c b true
else
J1 L1 c b (b==e)
else
J1 L1 c b false
else
J3 a c
def AR(d:Int)(a:kx)(e:Int):Nat->Int->Int->ABi (Int×(List AM))
|0,_,_=>none
|n+1,c,b=>L1 d a e (AR d a e n) c b
end Dp
section
open Dp
def Dp(i:Int)(a:kx)(d e:Int):=AR d a e BQ (-1) 0
def W6{i:Int}{a:kx}{d e:Int}{r:Int×(List AM)}(h:Dp i a d e=some r):BM prog 196 [.agg [.dead,si i,.dead,vO 3 Ay a],si d,si e] (si r.1) [.agg [.dead,si i,.dead,vO 3 Ay r.2],.dead,.dead]:=by refine kL mix func196 (hn [(0,[3,10,11,16,34,35,37,38])] (E:=[(0,(.kH [.bxv ⟨3,[],[0]⟩ 4 0,.o (iK 6 0)]))])) ?_;have a1:=@QN;have l1:=i4 λn f=>∃c b us1,(f 0=.agg [.dead,si i,.dead,vO 3 Ay a]/\f 1=si d/\f 2=si e/\f 3=.vb 0 0 us1/\f 7=si c/\f 11=.al 0 [(0,3,0)]/\f 12=si (a.length:Int)/\f 13=si b)/\AR d a e n c b=some r;unfold Dp at h;exact walk
end
namespace CR
def J4:=some true
def J3(L1:ja)(e:Int):=L1 (A8 (e+1))
def J2(L1:ja)(e:Int)(o:Bool):=if o then
some false
else
J3 L1 e
def L1(d:Ab)(b:i6)(a:Int)(c:AE)(L1:ja)(e:Int):=if decide (e<(b.length:Int))then(gt b e).bind λj=>(gt c.dg.dh a).bind λl=>if decide (j<l)then
J3 L1 e
else(E4 c a (A8 (j-l))).bind λi=>if decide (i<0)then
J2 L1 e true
else
if decide (i>=(d.Dr.length:Int))then
J2 L1 e true
else(gt d.Dr i).bind λp=>J2 L1 e (!p)
else
J4
def AR(d:Ab)(b:i6)(a:Int)(c:AE):Nat->Int->ABi Bool
|0,_=>none
|n+1,e=>L1 d b a c (AR d b a c n) e
def J1(d:Ab)(b:i6)(a:Int)(c:AE)(f:Bool):=if f then
some ((b.length:Int)==0)
else
AR d b a c BQ 0
end CR
section
open CR
def CR(c:AE)(d:Ab)(a:Int)(b:i6):=if decide (a<0)then
J1 d b a c true
else
J1 d b a c (decide (a>=(c.dg.dh.length:Int)))
def OI{c:AE}{d:Ab}{a:Int}{b:i6}{r:Bool}(h:CR c d a b=some r):Says prog 67 [.agg (Av c),.agg (G8 d),si a,vS 1 eI b] (sb r):=by refine kO mix func67 (hn [(4,[15,16,34,35,47,48]),(5,[59,65])] [(2,1)]) ?_;have a1:=@Vx;have l1:=i4 λn f=>∃e,(f 2=si a/\f 3=vS 1 eI b/\f 4=bA 15 (Av c)/\f 5=bA 9 (G8 d)/\f 9=si e)/\AR d b a c n e=some r;have c1:=i5 1 λe=>∃f,(e 2=si a/\e 3=vS 1 eI b/\e 4=bA 15 (Av c)/\e 5=bA 9 (G8 d)/\e 20=sb f)/\J1 d b a c f=some r;unfold CR at h;exact walk
end
namespace Dh
def J2(p:kx)(l:Int):ABi (Int×(List AM)):=some (l,p)
def J1(L1:mz)(a:Int)(o:kx)(j:Int):=L1 o j (A8 (a+1))
def L1(c:Int)(b:kx)(L1:mz)(d:kx)(e a:Int):=if decide (a<(b.length:Int))then(gt d a).bind λi=>(Gu i c).bind λq=>if q then
J1 L1 a (d.set a.toNat (AM.mk 4 i.D7 i.d6)) (A8 (e+1))
else
J1 L1 a d e
else
J2 d e
def AR(c:Int)(b:kx):Nat->(List AM)->Int->Int->ABi (Int×(List AM))
|0,_,_,_=>none
|n+1,d,e,a=>L1 c b (AR c b n) d e a
end Dh
section
open Dh
def Dh(f:Int)(b:kx)(c:Int):=AR c b BQ b 0 0
def Sz{f:Int}{b:kx}{c:Int}{r:Int×(List AM)}(h:Dh f b c=some r):BM prog 197 [.agg [.dead,si f,.dead,vO 3 Ay b],si c] (si r.1) [.agg [.dead,si f,.dead,vO 3 Ay r.2],.dead]:=by refine kL mix func197 (hn [(0,[2,8,9,14,19,20,22,23])] (E:=[(0,(.kH [.bxv ⟨2,[],[0]⟩ 4 0,.o (iK 4 0)]))])) ?_;have a1:=@QN;have l1:=i4 λn g=>∃d e a us1,(g 0=.agg [.dead,si f,.dead,vO 3 Ay d]/\g 1=si c/\g 2=.vb 0 0 us1/\g 5=si e/\g 9=.al 0 [(0,3,0)]/\g 10=si (b.length:Int)/\g 11=si a)/\AR c b n d e a=some r;unfold Dh at h;exact walk
end
namespace Fg
def J3(s:AZ)(o:i6):ABi ((List Int)×AZ):=some (o,s)
def J2(L1:lA)(b:Int)(q:AZ)(l:i6):=L1 q l (A8 (b+1))
def J1(L1:lA)(c:i6)(b f:Int)(i:AZ)(p:Bool):=if p then
if Ap (c.length+1) 8=true then
J2 L1 b i (c++[f])
else none
else
J2 L1 b i c
def L1(a:i6)(L1:lA)(d:AZ)(c:i6)(b:Int):=if decide (b<(a.length:Int))then(gt a b).bind λf=>if decide ((A8 (b+3))>=(a.length:Int))then(Aq d 2).bind λj=>J1 L1 c b f j.2 (j.1==1)
else
J1 L1 c b f d false
else
J3 d c
def AR(a:i6):Nat->AZ->(List Int)->Int->ABi ((List Int)×AZ)
|0,_,_,_=>none
|n+1,d,c,b=>L1 a (AR a n) d c b
end Fg
section
open Fg
def Fg(e:AZ)(a:i6):=AR a BQ e [] 0
def gD{e:AZ}{a:i6}{r:(List Int)×AZ}(h:Fg e a=some r):BM prog 178 [bA 2 (Gg e),vO 1 eI a] (vO 1 eI r.1) [bA 2 (Gg r.2),vO 1 eI a]:=by refine kL mix func178 (hn [(0,[21]),(1,[8,13,17]),(5,[25,30])]) ?_;have a1:=@Dj;have l1:=i4 λn e=>∃d c b,(e 0=bA 2 (Gg d)/\e 1=vO 1 eI a/\e 5=vO 1 eI c/\e 8=.al 1 []/\e 9=si (a.length:Int)/\e 10=si b)/\AR a n d c b=some r;unfold Fg at h;exact walk
end
namespace Gw
def J1(d:Int):ABi (Int×Bool):=some (d,true)
def J2(e:Int):ABi (Int×Bool):=some (e,true)
end Gw
section
open Gw
def Gw(c b a:Int):=if c==6 then
some (A8 (b+a),true)
else
if c==7 then
some (A8 (b-a),true)
else
if c==8 then
some (A8 (b*a),true)
else
if c==9 then
if a==0 then
some (0,true)
else
if¬a=0 then
some (A8 (b.tdiv a),true)
else none
else
if c==10 then
if a==0 then
some (0,true)
else
if¬a=0 then
some (b.tmod a,true)
else none
else
if c==11 then(Em (b==a)).bind λf=>some (f,true)
else
if c==12 then(Em (b != a)).bind λi=>some (i,true)
else
if c==13 then(Em (decide (b<a))).bind λj=>some (j,true)
else
if c==14 then(Em (decide (b<=a))).bind λl=>some (l,true)
else
if c==15 then(Em (decide (b>a))).bind λo=>some (o,true)
else
if c==16 then(Em (decide (b>=a))).bind λp=>some (p,true)
else
if c==17 then
if b != 0 then(Em (a != 0)).bind λq=>J1 q
else(Em false).bind λs=>J1 s
else
if c==18 then
if b != 0 then(Em true).bind λt=>J2 t
else(Em (a != 0)).bind λu=>J2 u
else
some (0,false)
def Yg{c b a:Int}{r:mo}(h:Gw c b a=some r):Says prog 267 [si c,si b,si a] (.Bo [si r.1,sb r.2]):=by refine kO mix func267 hn ?_;have a1:=@RX;unfold Gw at h;exact walk
end
namespace G4
def J1(e:Bool):ABi Bool:=some e
def J3(f:Bool):ABi Bool:=some f
def J2(a:AH)(b:AD)(c:Bool):=if c then
some true
else
if a.de==18 then(DD b.df a.dq).bind λd=>if(d.length:Int)==0 then
some (a.dn==(-1))
else
if decide (a.dn>=0)then
if decide (a.dn<(b.df.AA.length:Int))then(HA d a.dn).bind λi=>J3 i
else
J3 false
else
J3 false
else
if a.de==19 then(DD b.df a.dq).bind λj=>some (a.dn==(j.length:Int))
else
some (a.dn==0)
end G4
section
open G4
def G4(b:AD)(a:AH):=if a.de==3 then(gt b.di a.dq).bind λl=>some (a.dn==l)
else
if a.de==23 then(gt b.AL a.dq).bind λo=>some (a.dn==o)
else
if a.de==5 then
if a.dn==0 then
J1 true
else
J1 (a.dn==1)
else
if a.de==4 then
J2 a b (a.de==4)
else
J2 a b (a.de==22)
def cC{b:AD}{a:AH}{r:Bool}(h:G4 b a=some r):Says prog 105 [.agg (Bi b),.agg (Aw a)] (sb r):=by refine kO mix func105 (hn [(2,[12,23,45,62,63,78]),(3,[6,10,14,21,25,32,36,47,53,56,60,70,76,80,85]),(5,[50,69])] [(9,2)]) ?_;have a1:=@Lm;have a2:=@Ms;have c2:=i5 2 λd=>∃c,(d 2=bA 7 (Bi b)/\d 3=bA 7 (Aw a)/\d 7=si a.de/\d 40=sb c)/\J2 a b c=some r;unfold G4 at h;exact walk
end
namespace E1
def J1(d:AD):ABi AD:=some d
def L1(a:AG)(L1:AD->Int->ABi AD)(b:AD)(c:Int):=if decide (c<(a.di.length:Int))then(gt a.di c).bind λf=>if Ap (b.di.length+1) 8=true then
L1 (AD.mk b.df (b.di++[f.dg]) b.AL b.dh) (A8 (c+1))
else none
else
J1 b
def AR(a:AG):Nat->AD->Int->ABi AD
|0,_,_=>none
|n+1,b,c=>L1 a (AR a n) b c
end E1
section
open E1
def E1(a:AG):=(FN a).bind λe=>if 0<=0/\0<=(a.di.length:Int)/\Ap a.di.length 8=true then
if 0<=(a.AL.length:Int)/\(a.AL.length:Int)<=(a.AL.length:Int)/\Ap a.AL.length 8=true then
if 0<=(a.AA.length:Int)/\(a.AA.length:Int)<=(a.AA.length:Int)/\Ap a.AA.length 8=true then
AR a BQ (AD.mk e [] (List.replicate a.AL.length (0:Int)) (List.replicate a.AA.length (0:Int))) 0
else none
else none
else none
end
namespace FO
def J2(a:AY)(d:Int)(i:Bool):ABi Int:=if i then(gt a.ep d).bind λp=>some p.de
else
some 9
def J1(a:AY)(b:ABj)(f:Bool):=if f then
some 8
else(DU a.ep b).bind λd=>if decide (d<0)then(DQ a.AA b).bind λl=>if decide (l>=0)then
some 7
else
some 0
else(gt a.ep d).bind λc=>if c.de==1 then
if c.CM != 0 then
some 2
else
some 1
else
if c.de==2 then
some 1
else
if c.de==3 then
J2 a d (c.de==3)
else
if c.de==4 then
J2 a d (c.de==4)
else
if c.de==5 then
J2 a d (c.de==5)
else
J2 a d (c.de==6)
end FO
section
open FO
def FO(a:AY)(e:Int)(b:ABj):=if decide (e>=0)then
if decide (e<(a.AA.length:Int))then(gt a.AA e).bind λo=>(Cv o.HE b).bind λj=>J1 a b (decide (j>=0))
else
J1 a b false
else
J1 a b false
def Yb{a:AY}{e:Int}{b:ABj}{r:Int}(h:FO a e b=some r):Says prog 279 [.agg (Ct a),si e,B4 b] (si r):=by refine kO mix func279 (hn [(3,[12,18,28,34,39,47,61])] [(2,1)]) ?_;have a1:=@KU;have a2:=@LF;have a3:=@I0;have c1:=i5 1 λc=>∃f,(c 2=B4 b/\c 3=bA 2 (Ct a)/\c 27=sb f)/\J1 a b f=some r;unfold FO at h;exact walk
end
namespace Ey
def J1(a:AQ)(e:List AW):ABi AQ:=(LM a.Br).bind λi=>(Hb a.AA).bind λj=>some (AQ.mk e a.Tx i j)
def L1(a:AQ)(L1:(List AW)->Int->ABi AQ)(c:List AW)(b:Int):=if decide (b<(a.AK.length:Int))then(gt a.AK b).bind λd=>(slices_Clone_int d.Am).bind λf=>(gt c b).bind λl=>L1 (c.set b.toNat (AW.mk d.B6 f)) (A8 (b+1))
else
J1 a c
def AR(a:AQ):Nat->(List AW)->Int->ABi AQ
|0,_,_=>none
|n+1,c,b=>L1 a (AR a n) c b
end Ey
section
open Ey
def Ey(a:AQ):=if 0<=(a.AK.length:Int)/\(a.AK.length:Int)<=(a.AK.length:Int)/\Ap a.AK.length 32=true then
AR a BQ (List.replicate a.AK.length (AW.mk 0 [])) 0
else none
def YU{a r:AQ}(h:Ey a=some r):Says prog 193 [.agg (Hq a)] (.agg (JV r)):=by refine kO mix func193 (hn [(1,[6,7,10,11,16,17,29,30,31,33,34,35,37,38]),(3,[18,26,28]),(5,[20,22,23])]) ?_;have a1:=@Rt;have a2:=@Ln;have a3:=@Mi;have l1:=i4 λn d=>∃c b,(d 1=bA 4 (Hq a)/\d 2=bA 4 z5/\d 3=vO 2 Bu c/\d 11=vS 2 De a.AK/\d 12=si (a.AK.length:Int)/\d 13=si b)/\AR a n c b=some r;unfold Ey at h;exact walk
end
namespace En
def J2(j:i6):ABi (List Int):=some j
def L2(a:i6)(L2:jg)(f:i6)(d:Int):=if decide (d<(a.length:Int))then(gt a d).bind λq=>(FC f q).bind λo=>L2 o (A8 (d+1))
else
J2 f
def Bs(a:i6):Nat->(List Int)->Int->ABi (List Int)
|0,_,_=>none
|n+1,f,d=>L2 a (Bs a n) f d
def J1(a i:i6):=Bs a BQ i 0
def L1(b a:i6)(L1:jg)(e:i6)(c:Int):=if decide (c<(b.length:Int))then(gt b c).bind λp=>(FC e p).bind λl=>L1 l (A8 (c+1))
else
J1 a e
def AR(b a:i6):Nat->(List Int)->Int->ABi (List Int)
|0,_,_=>none
|n+1,e,c=>L1 b a (AR b a n) e c
end En
section
open En
def En(b a:i6):=AR b a BQ [] 0
def Re{b a r:i6}(h:En b a=some r):Says prog 156 [vS 1 eI b,vS 1 eI a] (vO 1 eI r):=by refine kO mix func156 (hn [(5,[14,26,32])]) ?_;have a1:=@mW;have l2:=i4 λn b=>∃f d,(b 1=vS 1 eI a/\b 5=vO 1 eI f/\b 7=si d)/\Bs a n f d=some r;have l1:=i4 λn d=>∃e c,(d 0=vS 1 eI b/\d 1=vS 1 eI a/\d 5=vO 1 eI e/\d 6=si c)/\AR b a n e c=some r;unfold En at h;exact walk
end
namespace Hi
def J1(a:Int)(c:AD)(b:AZ)(e:Bool):ABi (Int×AZ):=if e then(Aq b 3).bind λi=>some (i.1,i.2)
else
if a==5 then(Aq b 2).bind λj=>some (j.1,j.2)
else
if a==18 then(Er c).bind λf=>if decide ((f.length:Int)>0)then(Aq b (f.length:Int)).bind λl=>(gt f l.1).bind λs=>some (s,l.2)
else
some ((-1),b)
else
if a==19 then(Er c).bind λo=>some ((o.length:Int),b)
else
some (0,b)
end Hi
section
open Hi
def Hi(b:AZ)(c:AD)(a d:Int):=if a==3 then(gt c.di d).bind λp=>some (p,b)
else
if a==23 then(gt c.AL 0).bind λq=>some (q,b)
else
if a==4 then
J1 a c b (a==4)
else
J1 a c b (a==22)
def dA{b:AZ}{c:AD}{a d:Int}{r:j9}(h:Hi b c a d=some r):BM prog 177 [bA 2 (Gg b),.agg (Bi c),si a,si d] (si r.1) [bA 2 (Gg r.2),.dead,.dead,.dead]:=by refine kL mix func177 (hn [(0,[27,31,41]),(5,[13,20]),(9,[37,40,42,45])] [(7,1)]) ?_;have a1:=@Dj;have a2:=@XN;have c1:=i5 1 λd=>∃e,(d 0=bA 2 (Gg b)/\d 5=bA 7 (Bi c)/\d 10=si a/\d 24=sb e)/\J1 a c b e=some r;unfold Hi at h;exact walk
end
namespace GO
def J2(a:Ak)(c:Bool):ABi Int:=if c then
some (-1)
else
some a.A
def J1(a:Ak)(b:AN)(d:Bool):=if d then
some a.B
else
if a.Op==7 then(gt b.DH a.C).bind λi=>(Hf i a.N).bind λe=>some (A8 (a.B+e))
else
if a.Op==9 then(gt b.DH a.C).bind λj=>(Hf j a.N).bind λf=>some (A8 (a.A+f))
else
if a.Op==10 then
J2 a (a.Op==10)
else
if a.Op==17 then
J2 a (a.Op==17)
else
if a.Op==18 then
J2 a (a.Op==18)
else
if a.Op==19 then
J2 a (a.Op==19)
else
if a.Op==20 then
J2 a (a.Op==20)
else
J2 a (a.Op==28)
end GO
section
open GO
def GO(a:Ak)(b:AN):=if a.Op==6 then
J1 a b (a.Op==6)
else
J1 a b (a.Op==27)
def Yl{a:Ak}{b:AN}{r:Int}(h:GO a b=some r):Says prog 241 [.agg (Ew a),.agg (GC b)] (si r):=by refine kO mix func241 (hn [(2,[5,10,14,18,22,28,32,36,47]),(3,[16,30])] [(3,1),(10,2)]) ?_;have a1:=@bR;have c2:=i5 2 λb=>∃c,(b 2=bA 6 (Ew a)/\b 40=sb c)/\J2 a c=some r;have c1:=i5 1 λc=>∃d,(c 2=bA 6 (Ew a)/\c 3=bA 4 (GC b)/\c 6=si a.Op/\c 7=sb d)/\J1 a b d=some r;unfold GO at h;exact walk
end
namespace Eo
def J1(d:AD):ABi AD:=some d
def L1(a:AG)(L1:AD->Int->ABi AD)(b:AD)(c:Int):=if decide (c<(a.di.length:Int))then(gt a.di c).bind λf=>if Ap (b.di.length+1) 8=true then
L1 (AD.mk b.df (b.di++[f.dg]) b.AL b.dh) (A8 (c+1))
else none
else
J1 b
def AR(a:AG):Nat->AD->Int->ABi AD
|0,_,_=>none
|n+1,b,c=>L1 a (AR a n) b c
end Eo
section
open Eo
def Eo(a:AG):=(Cx a).bind λe=>if 0<=(a.AL.length:Int)/\(a.AL.length:Int)<=(a.AL.length:Int)/\Ap a.AL.length 8=true then
if 0<=(a.AA.length:Int)/\(a.AA.length:Int)<=(a.AA.length:Int)/\Ap a.AA.length 8=true then
AR a BQ (AD.mk e [] (List.replicate a.AL.length (0:Int)) (List.replicate a.AA.length (0:Int))) 0
else none
else none
def Je{a:AG}{r:AD}(h:Eo a=some r):Says prog 84 [.agg (A5 a)] (.agg (I5 r)):=by refine kO mix func84 (hn [(1,[7,11,17,25]),(3,[23,24,33,34])]) ?_;have a1:=@Rg;have l1:=i4 λn d=>∃b c,(d 1=bA 6 (A5 a)/\d 2=bA 7 z0/\d 3=bA 7 (I5 b)/\d 4=si c)/\AR a n b c=some r;unfold Eo at h;exact walk
end
namespace E9
def J2:=some true
def L1(a:AG)(L1:ja)(b:Int):=if decide (b<(a.Al.length:Int))then(gt a.Al b).bind λf=>(D9 f.dr (a.AK.length:Int)).bind λe=>if !e then
some false
else
L1 (A8 (b+1))
else
J2
def AR(a:AG):Nat->Int->ABi Bool
|0,_=>none
|n+1,b=>L1 a (AR a n) b
def J1(a:AG)(d:Bool):=if d then
some false
else
AR a BQ 0
end E9
section
open E9
def E9(a:AG)(c:AQ):=if(c.AK.length:Int) != (a.AK.length:Int)then
J1 a true
else
if(c.Br.length:Int) != (a.AL.length:Int)then
J1 a true
else
J1 a ((c.AA.length:Int) != (a.AA.length:Int))
def NP{a:AG}{c:AQ}{r:Bool}(h:E9 a c=some r):Says prog 94 [.agg (A5 a),.agg (Hq c)] (sb r):=by refine kO mix func94 (hn [(2,[10,18,27,32,41]),(3,[7,15,24]),(6,[39])] [(2,1)]) ?_;have a1:=@Li;have l1:=i4 λn c=>∃b,(c 2=bA 6 (A5 a)/\c 33=vS 2 Iw a.Al/\c 34=si (a.Al.length:Int)/\c 35=si b)/\AR a n b=some r;have c1:=i5 1 λb=>∃d,(b 2=bA 6 (A5 a)/\b 31=sb d)/\J1 a d=some r;unfold E9 at h;exact walk
end
namespace Fq
def J3:=some true
def J2(L1:ja)(a:Int):=L1 (A8 (a+1))
def J1(L1:ja)(a:Int)(l:Bool):=if l then
some false
else
J2 L1 a
def L1(c:i6)(d:Int)(b:AE)(L1:ja)(a:Int):=if decide (a<(c.length:Int))then(gt c a).bind λf=>(gt b.dg.dh d).bind λi=>if decide (f<i)then
J2 L1 a
else(E4 b d (A8 (f-i))).bind λe=>if decide (e<0)then
J1 L1 a true
else(gt b.AB e).bind λj=>if j.de != 3 then
J1 L1 a (j.de != 23)
else
J1 L1 a false
else
J3
def AR(c:i6)(d:Int)(b:AE):Nat->Int->ABi Bool
|0,_=>none
|n+1,a=>L1 c d b (AR c d b n) a
end Fq
section
open Fq
def Fq(b:AE)(d:Int)(c:i6):=AR c d b BQ 0
def cG{b:AE}{d:Int}{c:i6}{r:Bool}(h:Fq b d c=some r):Says prog 56 [.agg (Av b),si d,vS 1 eI c] (sb r):=by refine kO mix func56 (hn [(3,[19,20,32,33,43,51])]) ?_;have a1:=@Vx;have l1:=i4 λn e=>∃a,(e 1=si d/\e 2=vS 1 eI c/\e 3=bA 15 (Av b)/\e 7=si a)/\AR c d b n a=some r;unfold Fq at h;exact walk
end
namespace Gq
def J1(d:A4):ABi A4:=some d
def L1(a:A4)(L1:oh)(b:A4)(c:Int):=if decide (c<(a.AA.length:Int))then(gt a.AA c).bind λi=>(GL i).bind λf=>if Ap (b.AA.length+1) 64=true then
L1 (A4.mk b.df b.di b.AL (b.AA++[f])) (A8 (c+1))
else none
else
J1 b
def AR(a:A4):Nat->A4->Int->ABi A4
|0,_,_=>none
|n+1,b,c=>L1 a (AR a n) b c
end Gq
section
open Gq
def Gq(a:A4):=(GM a.df).bind λe=>if Ap (a.di.length) 8=true then
if Ap (a.AL.length) 8=true then
AR a BQ (A4.mk e a.di a.AL []) 0
else none
else none
def fQ{a r:A4}(h:Gq a=some r):Says prog 213 [.agg (LY a)] (.agg (N4 r)):=by refine kO mix func213 (hn [(1,[5,9,13,18,26]),(3,[24,25,34,35])]) ?_;have a1:=@Ls;have a2:=@TV;have l1:=i4 λn d=>∃b c,(d 1=bA 7 (LY a)/\d 2=bA 7 z4/\d 3=bA 7 (N4 b)/\d 4=si c)/\AR a n b c=some r;unfold Gq at h;exact walk
end
namespace Cf
def J3:=some false
def J2(L1:ka)(b f:Int):=L1 f (A8 (b+1))
def J1(L1:ka)(c:Int)(a:ma)(b:Int)(i:Bool):=if i then
some false
else(gt a c).bind λe=>(Gx e.Op).bind λj=>if !j then
some true
else
if e.Op==5 then
J2 L1 b e.A
else
J2 L1 b (A8 (c+1))
def L1(a:ma)(L1:ka)(c b:Int):=if decide (b<=(a.length:Int))then
if decide (c<0)then
J1 L1 c a b true
else
J1 L1 c a b (decide (c>=(a.length:Int)))
else
J3
def AR(a:ma):Nat->Int->Int->ABi Bool
|0,_,_=>none
|n+1,c,b=>L1 a (AR a n) c b
end Cf
section
open Cf
def Cf(a:ma)(d:Int):=AR a BQ d 0
def bW{a:ma}{d:Int}{r:Bool}(h:Cf a d=some r):Says prog 210 [vS 6 Ew a,si d] (sb r):=by refine kO mix func210 hn ?_;have a1:=@QT;have l1:=i4 λn d=>∃c b,(d 0=vS 6 Ew a/\d 1=si c/\d 5=si b)/\AR a n c b=some r;unfold Cf at h;exact walk
end
namespace HK
def J2:og:=some (-1)
def J1(L1:l0)(a:Int)(e:Bool):=if e then
some a
else
L1 (A8 (a+1))
def L1(c:Ab)(d:Int)(b:AE)(L1:l0)(a:Int):=if decide (a<(b.AB.length:Int))then(gt b.AB a).bind λi=>if i.db==d then(HA c.dt a).bind λf=>J1 L1 a (!f)
else
J1 L1 a false
else
J2
def AR(c:Ab)(d:Int)(b:AE):Nat->Int->ABi Int
|0,_=>none
|n+1,a=>L1 c d b (AR c d b n) a
end HK
section
open HK
def HK(b:AE)(c:Ab)(d:Int):=AR c d b BQ 0
def Og{b:AE}{c:Ab}{d r:Int}(h:HK b c d=some r):Says prog 24 [.agg (Av b),.agg (G8 c),si d] (si r):=by refine kO mix func24 (hn [(3,[9,15]),(4,[24])]) ?_;have a1:=@Ms;have l1:=i4 λn e=>∃a,(e 2=si d/\e 3=bA 15 (Av b)/\e 4=bA 9 (G8 c)/\e 7=si a)/\AR c d b n a=some r;unfold HK at h;exact walk
end
namespace Dz
def J1:=some false
def L1(a:ABj)(b:jt)(L1:ja)(c:Int):=if decide (c<(b.length:Int))then(gt b c).bind λd=>if d.toList==a.toList then
some true
else
L1 (A8 (c+1))
else
J1
def AR(a:ABj)(b:jt):Nat->Int->ABi Bool
|0,_=>none
|n+1,c=>L1 a b (AR a b n) c
end Dz
section
open Dz
def Dz(a:ABj):=(LB).bind λb=>AR a b BQ 0
def UM{a:ABj}{r:Bool}(h:Dz a=some r):Says prog 154 [B4 a] (sb r):=by refine kO mix func154 (hn [(3,[7,12,14])]) ?_;have a1:=@Vl;have l1:=i4 λn d=>∃b c,(d 0=B4 a/\d 3=vO 1 eS b/\d 4=si c)/\AR a b n c=some r;unfold Dz at h;exact walk
end
namespace PH
def J1:=some true
def L1(a b:i6)(L1:ja)(c:Int):=if decide (c<(if(b.length:Int)>(a.length:Int)then(b.length:Int)else(a.length:Int)))then(Ri a c).bind λd=>(Ri b c).bind λe=>if decide (d>e)then
some false
else
L1 (A8 (c+1))
else
J1
def AR(a b:i6):Nat->Int->ABi Bool
|0,_=>none
|n+1,c=>L1 a b (AR a b n) c
end PH
section
open PH
def PH(a b:i6):=AR a b BQ 0
end
namespace Hh
def J1(a:j9)(e:Bool):ABi (Int×AZ):=if e then
some ((-1),a.2)
else
some (A8 (a.1-2),a.2)
end Hh
section
open Hh
def Hh(c:AZ)(d:Int)(b:i6):=(Aq c (A8 ((b.length:Int)+2))).bind λa=>if decide ((A8 (a.1-2))<0)then
J1 a true
else(gt b (A8 (a.1-2))).bind λf=>J1 a (f==0)
def cW{c:AZ}{d:Int}{b:i6}{r:j9}(h:Hh c d b=some r):BM prog 133 [bA 2 (Gg c),.agg [.dead,si d,.dead,.dead,.dead,.dead,vS 1 eI b]] (si r.1) [bA 2 (Gg r.2),.dead]:=by refine kL mix func133 (hn [(0,[6]),(1,[3,7,8,16,17,19])] (E:=[(0,(.kH [.bxv ⟨3,[],[1]⟩ 7 1,.o (iK 4 0)]))])) ?_;have a1:=@Dj;unfold Hh at h;exact walk
end
namespace IA
def J1(a:AH)(b:AG)(c:Bool):ABi (Int×Bool):=if c then
some (a.dq,false)
else
if a.de==8 then
some (a.dq,true)
else
if a.de==17 then(JC b a.dq).bind λd=>some (d,false)
else
some ((-1),false)
end IA
section
open IA
def IA(b:AG)(a:AH):=if a.de==6 then
J1 a b (a.de==6)
else
J1 a b (a.de==10)
def Vz{b:AG}{a:AH}{r:mo}(h:IA b a=some r):Says prog 123 [.agg (A5 b),.agg (Aw a)] (.Bo [si r.1,sb r.2]):=by refine kO mix func123 (hn [(3,[6,11,15,20])]) ?_;have a1:=@Rk;unfold IA at h;exact walk
end
namespace IB
def J1(a:AH)(b:AG)(c:Bool):ABi (Int×Bool):=if c then
some (a.dq,false)
else
if a.de==9 then
some (a.dq,true)
else
if a.de==16 then(JC b a.dq).bind λd=>some (d,false)
else
some ((-1),false)
end IB
section
open IB
def IB(b:AG)(a:AH):=if a.de==7 then
J1 a b (a.de==7)
else
J1 a b (a.de==11)
def V1{b:AG}{a:AH}{r:mo}(h:IB b a=some r):Says prog 124 [.agg (A5 b),.agg (Aw a)] (.Bo [si r.1,sb r.2]):=by refine kO mix func124 (hn [(3,[6,11,15,20])]) ?_;have a1:=@Rk;unfold IB at h;exact walk
end
namespace Ia
def J1(c:Bool):ABi Bool:=some c
end Ia
section
open Ia
def Ia(b:AG)(a:AD):=(FZ b a.df).bind λd=>if d then
if(a.di.length:Int)==(b.di.length:Int)then
if(a.AL.length:Int)==(b.AL.length:Int)then
J1 ((a.dh.length:Int)==(b.AA.length:Int))
else
J1 false
else
J1 false
else
J1 false
def TY{b:AG}{a:AD}{r:Bool}(h:Ia b a=some r):Says prog 51 [.agg (A5 b),.agg (Bi a)] (sb r):=by refine kO mix func51 (hn [(2,[13,22,31]),(3,[6,10,19,28])]) ?_;have a1:=@Of;unfold Ia at h;exact walk
end
def P2(a:Ab):ABi Ab:=(GM a.df).bind λb=>if Ap (a.di.length) 16=true then
if Ap (a.AL.length) 16=true then
if Ap (a.dt.length) 8=true then
if Ap (a.Dr.length) 1=true then
if Ap (a.Nf.length) 8=true then
some (Ab.mk b a.di a.AL a.dt a.Dr a.Nf)
else none
else none
else none
else none
else none
def fV{a r:Ab}(h:P2 a=some r):Says prog 120 [.agg (G8 a)] (.agg (Oz r)):=by refine kO mix func120 (hn [(1,[3,7,11,15,19,23])]) ?_;have a1:=@Ls;unfold P2 at h;exact walk
end Go.Abs
