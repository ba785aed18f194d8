/- Typed programs of Go functions, and that the functions do what these say. -/
import Derived.Test.YtdojkofgkcmagaaGreatDoorWalkB
import Derived.Test.YtdojkofgkcmagaaGreatDoorWalkC
set_option linter.defProp false
set_option linter.unusedSimpArgs false
set_option linter.unusedVariables false
namespace Go.Abs
open Go.Proofs Tryz
set_option maxRecDepth 1000000
set_option maxHeartbeats 4000000
namespace CQ
def J5:=
some true
def J4(L1:ir)(b:Int)(l:Bool):=
if l then
some false
else
L1 (A6 (b+1))
def J3(L1:ir)(b:Int)(c:Bool)(a:AG)(e:Bool):=
if e then
some false
else
if c then
(gt a.db.de.AA b).bind λq=>
(MA q.Dy (a.cT.Ak.length:Int)).bind λo=>
if !o then
J4 L1 b true
else
J4 L1 b false
else
(gt a.db.de.AA b).bind λs=>
J4 L1 b (s.Dy != 0)
def J2(L1:ir)(d:Bool)(b:Int)(a:AG)(c:Bool):=
(gt a.db.de.AA b).bind λf=>
if decide (f.dg<0)then
J3 L1 b c a true
else
if decide (f.dg>5)then
J3 L1 b c a true
else
(gt a.db.dc b).bind λp=>
if !(d==(p==0))then
J3 L1 b c a true
else
if b==0 then
J3 L1 b c a (f.dg==0)
else
J3 L1 b c a false
def J1(L1:ir)(b:Int)(a:AG)(d:Bool):=
(gt a.db.de.AA b).bind λj=>
if j.dg==3 then
J2 L1 d b a true
else
J2 L1 d b a (j.dg==4)
def L1(a:AG)(L1:ir)(b:Int):=
if decide (b<(a.db.de.AA.length:Int))then
(gt a.db.de.AA b).bind λi=>
if i.dg==0 then
J1 L1 b a true
else
J1 L1 b a (i.dg==1)
else
J5
def AW(a:AG):Nat->Int->ABu Bool
|0,_=>none
|n+1,b=>L1 a (AW a n) b
end CQ
section
open CQ
def CQ(a:AG):=
AW a BT 0
def VJ{a:AG}{r:Bool}(h:CQ a=some r):Says prog 53 [.agg (A4 a)] (sb r):=by refine kO mix func53 (hn [(1,[7,8,9,61,62,89,90])] [(7,1),(8,2),(10,3)]) ?_;have a1:= @Wx;have l1:=im λ_ _ _ _ n c=>∃b,(c 1=bA 15 (A4 a)/\c 3=vS 3 Ap a.db.de.AA/\c 4=si b)/\AW a n b=some r;have c3:=ip 3 λd _ _ _ f=>∃b c e,(f 1=bA 15 (A4 a)/\f 3=vS 3 Ap a.db.de.AA/\f 4=si b/\f 6=sb c/\f 81=sb e)/\J3 (AW a d) b c a e=some r;have c2:=ip 2 λe _ _ _ f=>∃d b c,(f 1=bA 15 (A4 a)/\f 3=vS 3 Ap a.db.de.AA/\f 4=si b/\f 5=sb d/\f 6=sb c)/\J2 (AW a e) d b a c=some r;have c1:=ip 1 λc _ _ _ e=>∃b d,(e 1=bA 15 (A4 a)/\e 3=vS 3 Ap a.db.de.AA/\e 4=si b/\e 5=sb d)/\J1 (AW a c) b a d=some r;unfold CQ at h;exact walk
end
namespace CT
def J5(o:iq):ABu (List Int):=
some o
def J4(L1:iw)(c:Int)(l:iq):=
L1 l (A6 (c+1))
def J3(L1:iw)(e:iq)(c:Int)(p:Bool):=
if p then
if Am (e.length+1) 8=true then
J4 L1 c (e++[c])
else none
else
J4 L1 c e
def L1(b:Int)(a:AG)(d:AH)(L1:iw)(e:iq)(c:Int):=
if decide (c<(a.AB.length:Int))then
(gt a.AB c).bind λj=>
(Hv j d).bind λt=>
if t then
if j.dh==d.dh then
if j.cr==d.cr then
J3 L1 e c (!(decide (c>b)))
else
J3 L1 e c true
else
J3 L1 e c false
else
J3 L1 e c false
else
J5 e
def AW(b:Int)(a:AG)(d:AH):Nat->(List Int)->Int->ABu (List Int)
|0,_,_=>none
|n+1,e,c=>L1 b a d (AW b a d n) e c
def J2(b:Int)(a:AG)(d:AH)(f:iq):=
AW b a d BT f 0
def J1(b:Int)(a:AG)(i:Bool):=
if i then
some []
else
(gt a.AB b).bind λd=>
(HN a d).bind λs=>
if s then
J2 b a d [(-1)]
else
J2 b a d []
end CT
section
open CT
def CT(a:AG)(b:Int):=
if decide (b<0)then
J1 b a true
else
if decide (b>=(a.AB.length:Int))then
J1 b a true
else
(gt a.AB b).bind λu=>
(JL u).bind λq=>
J1 b a (!q)
def Se{a:AG}{b:Int}{r:iq}(h:CT a b=some r):Says prog 32 [.agg (A4 a),si b] (vO 1 eI r):=by
 refine kO mix func32 (hn [(2,[13,19,27,38]),(5,[52,59]),(6,[35,69,74]),(8,[50,57])] [(2,1),(6,2)]) ?_
 have:=(by decide:Am 1 8=true);have a1:= @Xu;have a2:= @WE;have a3:= @dG;have l1:=im λ_ _ _ _ n f=>∃d e c,(f 1=si b/\f 5=bA 7 (A7 d)/\f 6=vO 1 eI e/\f 39=vS 7 A7 a.AB/\f 40=si (a.AB.length:Int)/\f 41=si c)/\AW b a d n e c=some r;have c2:=ip 2 λ_ _ _ _ c=>∃d f,(c 1=si b/\c 2=bA 15 (A4 a)/\c 5=bA 7 (A7 d)/\c 6=vO 1 eI f)/\J2 b a d f=some r;have c1:=ip 1 λ_ _ _ _ c=>∃i,(c 1=si b/\c 2=bA 15 (A4 a)/\c 26=sb i)/\J1 b a i=some r;unfold CT at h;exact walk
end
namespace DE
def J5(b:AX)(c:Int)(p:Bool):ABu (Int×AX):=
if p then
(Al b 3).bind λo=>
some ((A6 ((A6 (c+1))+o.1)).tmod 4,o.2)
else
some ((-1),b)
def J4(a:Int)(b:AX)(c:Int)(f:Bool):=
if f then
some (0,b)
else
if a==20 then
J5 b c (a==20)
else
J5 b c (a==21)
def J3(a:Int)(b:AX)(c:Int)(e:Bool):=
if e then
some (2,b)
else
if a==16 then
J4 a b c (a==16)
else
if a==17 then
J4 a b c (a==17)
else
if a==18 then
J4 a b c (a==18)
else
if a==19 then
J4 a b c (a==19)
else
if a==22 then
J4 a b c (a==22)
else
J4 a b c (a==23)
def J2(a:Int)(b:AX)(c:Int)(d:Bool):=
if d then
(Al b 2).bind λl=>
some (l.1,l.2)
else
if a==8 then
J3 a b c (a==8)
else
if a==9 then
J3 a b c (a==9)
else
if a==10 then
J3 a b c (a==10)
else
J3 a b c (a==11)
def J1(a:Int)(b:AX)(c:Int)(i:Bool):=
if i then
(Al b 8).bind λj=>
(gt [0,0,0,1,1,2,3,4] j.1).bind λq=>
some (q,j.2)
else
if a==6 then
J2 a b c (a==6)
else
J2 a b c (a==7)
end DE
section
open DE
def DE(b:AX)(a c:Int):=
if a==3 then
J1 a b c (a==3)
else
J1 a b c (a==4)
def Xw{b:AX}{a c:Int}{r:jr}(h:DE b a c=some r):BB prog 176 [bA 2 (GO b),si a,si c] (si r.1) [bA 2 (GO r.2),.dead,.dead]:=by refine kL mix func176 (hn [(0,[12,19,38]),(11,[14])] [(3,1),(6,2),(9,3),(14,4)]) ?_;have a1:= @DT;have c4:=ip 4 λ_ _ _ _ d=>∃f,(d 0=bA 2 (GO b)/\d 2=si c/\d 7=si a/\d 26=sb f)/\J4 a b c f=some r;have c3:=ip 3 λ_ _ _ _ d=>∃e,(d 0=bA 2 (GO b)/\d 2=si c/\d 7=si a/\d 21=sb e)/\J3 a b c e=some r;have c2:=ip 2 λ_ _ _ _ e=>∃d,(e 0=bA 2 (GO b)/\e 2=si c/\e 7=si a/\e 16=sb d)/\J2 a b c d=some r;have c1:=ip 1 λ_ _ _ _ d=>∃i,(d 0=bA 2 (GO b)/\d 2=si c/\d 7=si a/\d 8=sb i)/\J1 a b c i=some r;unfold DE at h;exact walk
end
namespace Hg
def J2(i:Ac):ABu Ac:=
some i
def L2(a:AG)(L2:Ac->Int->ABu Ac)(c:Ac)(e:Int):=
if decide (e<(a.db.AL.length:Int))then
(gt a.db.AL e).bind λo=>
if Am (c.AL.length+1) 16=true then
L2 (Ac.mk c.de c.df (c.AL++[(FC.mk o true)]) c.du c.Ej c.Nw) (A6 (e+1))
else none
else
J2 c
def CC(a:AG):Nat->Ac->Int->ABu Ac
|0,_,_=>none
|n+1,c,e=>L2 a (CC a n) c e
def J1(a:AG)(f:Ac):=
CC a BT f 0
def L1(a:AG)(L1:Ac->Int->ABu Ac)(b:Ac)(d:Int):=
if decide (d<(a.db.df.length:Int))then
(gt a.db.df d).bind λl=>
if Am (b.df.length+1) 16=true then
L1 (Ac.mk b.de (b.df++[(FC.mk l true)]) b.AL b.du b.Ej b.Nw) (A6 (d+1))
else none
else
J1 a b
def AW(a:AG):Nat->Ac->Int->ABu Ac
|0,_,_=>none
|n+1,b,d=>L1 a (AW a n) b d
end Hg
section
open Hg
def Hg(a:AG):=
(Fq a.db.de).bind λj=>
if 0<=(a.AB.length:Int)/\(a.AB.length:Int)<=(a.AB.length:Int)/\Am a.AB.length 1=true then
if 0<=(a.AB.length:Int)/\(a.AB.length:Int)<=(a.AB.length:Int)/\Am a.AB.length 8=true then
AW a BT (Ac.mk j [] [] [] (List.replicate a.AB.length false) (List.replicate a.AB.length (0:Int))) 0
else none
else none
def Z9{a:AG}{r:Ac}(h:Hg a=some r):Says prog 62 [.agg (A4 a)] (.agg (OU r)):=by refine kO mix func62 (hn [(1,[6,7,10,14,20,21,29,30,40,41,49,50]),(3,[27,28,38,47,48,58,59])]) ?_;have a1:= @Lj;have l2:=im λ_ _ _ _ n b=>∃c e,(b 1=bA 15 (A4 a)/\b 2=bA 9 z7/\b 3=bA 9 (OU c)/\b 5=si e)/\CC a n c e=some r;have l1:=im λ_ _ _ _ n c=>∃b d,(c 1=bA 15 (A4 a)/\c 2=bA 9 z7/\c 3=bA 9 (OU b)/\c 4=si d)/\AW a n b d=some r;unfold Hg at h;exact walk
end
namespace DZ
def J4(f:Int)(o:ke):ABu (Int×(List AM)):=
some (f,o)
def J3(a:ke)(f:Int):=
if decide (f>=0)then
(gt a f).bind λj=>
J4 f (a.set f.toNat (AM.mk 4 j.Dy j.dy))
else
J4 f a
def J2(L1:ly)(b l:Int):=
L1 l (A6 (b+1))
def J1(L1:ly)(c b:Int)(p:Bool):=
if p then
J2 L1 b b
else
J2 L1 b c
def L1(d:Int)(a:ke)(e:Int)(L1:ly)(c b:Int):=
if decide (b<(a.length:Int))then
(gt a b).bind λs=>
(Gd s d).bind λq=>
if q then
if decide (c<0)then
J1 L1 c b true
else
J1 L1 c b (b==e)
else
J1 L1 c b false
else
J3 a c
def AW(d:Int)(a:ke)(e:Int):Nat->Int->Int->ABu (Int×(List AM))
|0,_,_=>none
|n+1,c,b=>L1 d a e (AW d a e n) c b
end DZ
section
open DZ
def DZ(i:Int)(a:ke)(d e:Int):=
AW d a e BT (-1) 0
def V0{i:Int}{a:ke}{d e:Int}{r:Int×(List AM)}(h:DZ i a d e=some r):BB prog 196 [.agg [.dead,si i,.dead,vO 3 Ap a],si d,si e] (si r.1) [.agg [.dead,si i,.dead,vO 3 Ap r.2],.dead,.dead]:=by refine kL mix func196 (hn [(0,[3,10,11,16,34,35,37,38])] (E:=[(0,(.fR [.bxv ⟨3,[],[0]⟩ 4 0,.o (iK 6 0)]))])) ?_;have a1:= @Pu;have l1:=im λ_ _ _ _ n f=>∃c b us1,(f 0= .agg [.dead,si i,.dead,vO 3 Ap a]/\f 1=si d/\f 2=si e/\f 3= .vb 0 0 us1/\f 7=si c/\f 11= .al 0 [(0,3,0)]/\f 12=si (a.length:Int)/\f 13=si b)/\AW d a e n c b=some r;unfold DZ at h;exact walk
end
namespace EY
def J4:=
some true
def J3(L1:ir)(e:Int):=
L1 (A6 (e+1))
def J2(L1:ir)(e:Int)(o:Bool):=
if o then
some false
else
J3 L1 e
def L1(d:Ac)(b:iq)(a:Int)(c:AG)(L1:ir)(e:Int):=
if decide (e<(b.length:Int))then
(gt b e).bind λj=>
(gt c.db.dc a).bind λl=>
if decide (j<l)then
J3 L1 e
else
(Gx c a (A6 (j-l))).bind λi=>
if decide (i<0)then
J2 L1 e true
else
if decide (i>=(d.Ej.length:Int))then
J2 L1 e true
else
(gt d.Ej i).bind λp=>
J2 L1 e (!p)
else
J4
def AW(d:Ac)(b:iq)(a:Int)(c:AG):Nat->Int->ABu Bool
|0,_=>none
|n+1,e=>L1 d b a c (AW d b a c n) e
def J1(d:Ac)(b:iq)(a:Int)(c:AG)(f:Bool):=
if f then
some ((b.length:Int)==0)
else
AW d b a c BT 0
end EY
section
open EY
def EY(c:AG)(d:Ac)(a:Int)(b:iq):=
if decide (a<0)then
J1 d b a c true
else
J1 d b a c (decide (a>=(c.db.dc.length:Int)))
def Nn{c:AG}{d:Ac}{a:Int}{b:iq}{r:Bool}(h:EY c d a b=some r):Says prog 67 [.agg (A4 c),.agg (IH d),si a,vS 1 eI b] (sb r):=by refine kO mix func67 (hn [(4,[15,16,34,35,47,48]),(5,[59,65])] [(2,1)]) ?_;have a1:= @VH;have l1:=im λ_ _ _ _ n f=>∃e,(f 2=si a/\f 3=vS 1 eI b/\f 4=bA 15 (A4 c)/\f 5=bA 9 (IH d)/\f 9=si e)/\AW d b a c n e=some r;have c1:=ip 1 λ_ _ _ _ e=>∃f,(e 2=si a/\e 3=vS 1 eI b/\e 4=bA 15 (A4 c)/\e 5=bA 9 (IH d)/\e 20=sb f)/\J1 d b a c f=some r;unfold EY at h;exact walk
end
namespace DO
def J2(p:ke)(l:Int):ABu (Int×(List AM)):=
some (l,p)
def J1(L1:mb)(a:Int)(o:ke)(j:Int):=
L1 o j (A6 (a+1))
def L1(c:Int)(b:ke)(L1:mb)(d:ke)(e a:Int):=
if decide (a<(b.length:Int))then
(gt d a).bind λi=>
(Gd i c).bind λq=>
if q then
J1 L1 a (d.set a.toNat (AM.mk 4 i.Dy i.dy)) (A6 (e+1))
else
J1 L1 a d e
else
J2 d e
def AW(c:Int)(b:ke):Nat->(List AM)->Int->Int->ABu (Int×(List AM))
|0,_,_,_=>none
|n+1,d,e,a=>L1 c b (AW c b n) d e a
end DO
section
open DO
def DO(f:Int)(b:ke)(c:Int):=
AW c b BT b 0 0
def SU{f:Int}{b:ke}{c:Int}{r:Int×(List AM)}(h:DO f b c=some r):BB prog 197 [.agg [.dead,si f,.dead,vO 3 Ap b],si c] (si r.1) [.agg [.dead,si f,.dead,vO 3 Ap r.2],.dead]:=by refine kL mix func197 (hn [(0,[2,8,9,14,19,20,22,23])] (E:=[(0,(.fR [.bxv ⟨2,[],[0]⟩ 4 0,.o (iK 4 0)]))])) ?_;have a1:= @Pu;have l1:=im λ_ _ _ _ n g=>∃d e a us1,(g 0= .agg [.dead,si f,.dead,vO 3 Ap d]/\g 1=si c/\g 2= .vb 0 0 us1/\g 5=si e/\g 9= .al 0 [(0,3,0)]/\g 10=si (b.length:Int)/\g 11=si a)/\AW c b n d e a=some r;unfold DO at h;exact walk
end
namespace FA
def J3(s:AX)(o:iq):ABu ((List Int)×AX):=
some (o,s)
def J2(L1:lc)(b:Int)(q:AX)(l:iq):=
L1 q l (A6 (b+1))
def J1(L1:lc)(c:iq)(b f:Int)(i:AX)(p:Bool):=
if p then
if Am (c.length+1) 8=true then
J2 L1 b i (c++[f])
else none
else
J2 L1 b i c
def L1(a:iq)(L1:lc)(d:AX)(c:iq)(b:Int):=
if decide (b<(a.length:Int))then
(gt a b).bind λf=>
if decide ((A6 (b+3))>=(a.length:Int))then
(Al d 2).bind λj=>
J1 L1 c b f j.2 (j.1==1)
else
J1 L1 c b f d false
else
J3 d c
def AW(a:iq):Nat->AX->(List Int)->Int->ABu ((List Int)×AX)
|0,_,_,_=>none
|n+1,d,c,b=>L1 a (AW a n) d c b
end FA
section
open FA
def FA(e:AX)(a:iq):=
AW a BT e [] 0
def dK{e:AX}{a:iq}{r:(List Int)×AX}(h:FA e a=some r):BB prog 178 [bA 2 (GO e),vO 1 eI a] (vO 1 eI r.1) [bA 2 (GO r.2),vO 1 eI a]:=by refine kL mix func178 (hn [(0,[21]),(1,[8,13,17]),(5,[25,30])]) ?_;have a1:= @DT;have l1:=im λ_ _ _ _ n e=>∃d c b,(e 0=bA 2 (GO d)/\e 1=vO 1 eI a/\e 5=vO 1 eI c/\e 8= .al 1 []/\e 9=si (a.length:Int)/\e 10=si b)/\AW a n d c b=some r;unfold FA at h;exact walk
end
namespace Gf
def J1(d:Int):ABu (Int×Bool):=
some (d,true)
def J2(e:Int):ABu (Int×Bool):=
some (e,true)
end Gf
section
open Gf
def Gf(c b a:Int):=
if c==6 then
some (A6 (b+a),true)
else
if c==7 then
some (A6 (b-a),true)
else
if c==8 then
some (A6 (b*a),true)
else
if c==9 then
if a==0 then
some (0,true)
else
if¬a=0 then
some (A6 (b.tdiv a),true)
else none
else
if c==10 then
if a==0 then
some (0,true)
else
if¬a=0 then
some (b.tmod a,true)
else none
else
if c==11 then
(EV (b==a)).bind λf=>
some (f,true)
else
if c==12 then
(EV (b != a)).bind λi=>
some (i,true)
else
if c==13 then
(EV (decide (b<a))).bind λj=>
some (j,true)
else
if c==14 then
(EV (decide (b<=a))).bind λl=>
some (l,true)
else
if c==15 then
(EV (decide (b>a))).bind λo=>
some (o,true)
else
if c==16 then
(EV (decide (b>=a))).bind λp=>
some (p,true)
else
if c==17 then
if b != 0 then
(EV (a != 0)).bind λq=>
J1 q
else
(EV false).bind λs=>
J1 s
else
if c==18 then
if b != 0 then
(EV true).bind λt=>
J2 t
else
(EV (a != 0)).bind λu=>
J2 u
else
some (0,false)
def Xn{c b a:Int}{r:Int×Bool}(h:Gf c b a=some r):Says prog 267 [si c,si b,si a] (.BZ [si r.1,sb r.2]):=by refine kO mix func267 hn ?_;have a1:= @Qy;unfold Gf at h;exact walk
end
namespace Gq
def J1(e:Bool):ABu Bool:=
some e
def J3(f:Bool):ABu Bool:=
some f
def J2(a:AH)(b:AD)(c:Bool):=
if c then
some true
else
if a.da==18 then
(C0 b.de a.dn).bind λd=>
if(d.length:Int)==0 then
some (a.dh==(-1))
else
if decide (a.dh>=0)then
if decide (a.dh<(b.de.AA.length:Int))then
(Gw d a.dh).bind λi=>
J3 i
else
J3 false
else
J3 false
else
if a.da==19 then
(C0 b.de a.dn).bind λj=>
some (a.dh==(j.length:Int))
else
some (a.dh==0)
end Gq
section
open Gq
def Gq(b:AD)(a:AH):=
if a.da==3 then
(gt b.df a.dn).bind λl=>
some (a.dh==l)
else
if a.da==23 then
(gt b.AL a.dn).bind λo=>
some (a.dh==o)
else
if a.da==5 then
if a.dh==0 then
J1 true
else
J1 (a.dh==1)
else
if a.da==4 then
J2 a b (a.da==4)
else
J2 a b (a.da==22)
def Z4{b:AD}{a:AH}{r:Bool}(h:Gq b a=some r):Says prog 105 [.agg (BQ b),.agg (A7 a)] (sb r):=by refine kO mix func105 (hn [(2,[12,23,45,62,63,78]),(3,[6,10,14,21,25,32,36,47,53,56,60,70,76,80,85]),(5,[50,69])] [(9,2)]) ?_;have a1:= @La;have a2:= @Mh;have c2:=ip 2 λ_ _ _ _ d=>∃c,(d 2=bA 7 (BQ b)/\d 3=bA 7 (A7 a)/\d 7=si a.da/\d 40=sb c)/\J2 a b c=some r;unfold Gq at h;exact walk
end
namespace Ei
def J1(d:AD):ABu AD:=
some d
def L1(a:AF)(L1:AD->Int->ABu AD)(b:AD)(c:Int):=
if decide (c<(a.df.length:Int))then
(gt a.df c).bind λf=>
if Am (b.df.length+1) 8=true then
L1 (AD.mk b.de (b.df++[f.db]) b.AL b.dc) (A6 (c+1))
else none
else
J1 b
def AW(a:AF):Nat->AD->Int->ABu AD
|0,_,_=>none
|n+1,b,c=>L1 a (AW a n) b c
end Ei
section
open Ei
def Ei(a:AF):=
(E1 a).bind λe=>
if 0<=0/\0<=(a.df.length:Int)/\Am a.df.length 8=true then
if 0<=(a.AL.length:Int)/\(a.AL.length:Int)<=(a.AL.length:Int)/\Am a.AL.length 8=true then
if 0<=(a.AA.length:Int)/\(a.AA.length:Int)<=(a.AA.length:Int)/\Am a.AA.length 8=true then
AW a BT (AD.mk e [] (List.replicate a.AL.length (0:Int)) (List.replicate a.AA.length (0:Int))) 0
else none
else none
else none
end
namespace E2
def J2(a:AU)(d:Int)(i:Bool):ABu Int:=
if i then
(gt a.d9 d).bind λp=>
some p.da
else
some 9
def J1(a:AU)(b:ABv)(f:Bool):=
if f then
some 8
else
(DD a.d9 b).bind λd=>
if decide (d<0)then
(DB a.AA b).bind λl=>
if decide (l>=0)then
some 7
else
some 0
else
(gt a.d9 d).bind λc=>
if c.da==1 then
if c.B3 != 0 then
some 2
else
some 1
else
if c.da==2 then
some 1
else
if c.da==3 then
J2 a d (c.da==3)
else
if c.da==4 then
J2 a d (c.da==4)
else
if c.da==5 then
J2 a d (c.da==5)
else
J2 a d (c.da==6)
end E2
section
open E2
def E2(a:AU)(e:Int)(b:ABv):=
if decide (e>=0)then
if decide (e<(a.AA.length:Int))then
(gt a.AA e).bind λo=>
(Ch o.G0 b).bind λj=>
J1 a b (decide (j>=0))
else
J1 a b false
else
J1 a b false
def Xi{a:AU}{e:Int}{b:ABv}{r:Int}(h:E2 a e b=some r):Says prog 279 [.agg (Cf a),si e,Bq b] (si r):=by refine kO mix func279 (hn [(3,[12,18,28,34,39,47,61])] [(2,1)]) ?_;have a1:= @KG;have a2:= @K4;have a3:= @Ic;have c1:=ip 1 λ_ _ _ _ c=>∃f,(c 2=Bq b/\c 3=bA 2 (Cf a)/\c 27=sb f)/\J1 a b f=some r;unfold E2 at h;exact walk
end
namespace Ef
def J1(a:AQ)(e:ng):ABu AQ:=
(K9 a.Bp).bind λi=>
(HH a.AA).bind λj=>
some (AQ.mk e a.Tx i j)
def L1(a:AQ)(L1:(List AY)->Int->ABu AQ)(c:ng)(b:Int):=
if decide (b<(a.AK.length:Int))then
(gt a.AK b).bind λd=>
(slices_Clone_int d.An).bind λf=>
(gt c b).bind λl=>
L1 (c.set b.toNat (AY.mk d.B9 f)) (A6 (b+1))
else
J1 a c
def AW(a:AQ):Nat->(List AY)->Int->ABu AQ
|0,_,_=>none
|n+1,c,b=>L1 a (AW a n) c b
end Ef
section
open Ef
def Ef(a:AQ):=
if 0<=(a.AK.length:Int)/\(a.AK.length:Int)<=(a.AK.length:Int)/\Am a.AK.length 32=true then
AW a BT (List.replicate a.AK.length (AY.mk 0 [])) 0
else none
def Xb{a r:AQ}(h:Ef a=some r):Says prog 193 [.agg (He a)] (.agg (JB r)):=by refine kO mix func193 (hn [(1,[6,7,10,11,16,17,29,30,31,33,34,35,37,38]),(3,[18,26,28]),(5,[20,22,23])]) ?_;have a1:= @RG;have a2:= @Lc;have a3:= @Jv;have l1:=im λ_ _ _ _ n d=>∃c b,(d 1=bA 4 (He a)/\d 2=bA 4 z5/\d 3=vO 2 Bf c/\d 11=vS 2 C9 a.AK/\d 12=si (a.AK.length:Int)/\d 13=si b)/\AW a n c b=some r;unfold Ef at h;exact walk
end
namespace EW
def J2(j:iq):ABu (List Int):=
some j
def L2(a:iq)(L2:iw)(f:iq)(d:Int):=
if decide (d<(a.length:Int))then
(gt a d).bind λq=>
(Ex f q).bind λo=>
L2 o (A6 (d+1))
else
J2 f
def CC(a:iq):Nat->(List Int)->Int->ABu (List Int)
|0,_,_=>none
|n+1,f,d=>L2 a (CC a n) f d
def J1(a i:iq):=
CC a BT i 0
def L1(b a:iq)(L1:iw)(e:iq)(c:Int):=
if decide (c<(b.length:Int))then
(gt b c).bind λp=>
(Ex e p).bind λl=>
L1 l (A6 (c+1))
else
J1 a e
def AW(b a:iq):Nat->(List Int)->Int->ABu (List Int)
|0,_,_=>none
|n+1,e,c=>L1 b a (AW b a n) e c
end EW
section
open EW
def EW(b a:iq):=
AW b a BT [] 0
def Q3{b a r:iq}(h:EW b a=some r):Says prog 156 [vS 1 eI b,vS 1 eI a] (vO 1 eI r):=by refine kO mix func156 (hn [(5,[14,26,32])]) ?_;have a1:= @kD;have l2:=im λ_ _ _ _ n b=>∃f d,(b 1=vS 1 eI a/\b 5=vO 1 eI f/\b 7=si d)/\CC a n f d=some r;have l1:=im λ_ _ _ _ n d=>∃e c,(d 0=vS 1 eI b/\d 1=vS 1 eI a/\d 5=vO 1 eI e/\d 6=si c)/\AW b a n e c=some r;unfold EW at h;exact walk
end
namespace HQ
def J1(a:Int)(c:AD)(b:AX)(e:Bool):ABu (Int×AX):=
if e then
(Al b 3).bind λi=>
some (i.1,i.2)
else
if a==5 then
(Al b 2).bind λj=>
some (j.1,j.2)
else
if a==18 then
(Ea c).bind λf=>
if decide ((f.length:Int)>0)then
(Al b (f.length:Int)).bind λl=>
(gt f l.1).bind λs=>
some (s,l.2)
else
some ((-1),b)
else
if a==19 then
(Ea c).bind λo=>
some ((o.length:Int),b)
else
some (0,b)
end HQ
section
open HQ
def HQ(b:AX)(c:AD)(a d:Int):=
if a==3 then
(gt c.df d).bind λp=>
some (p,b)
else
if a==23 then
(gt c.AL 0).bind λq=>
some (q,b)
else
if a==4 then
J1 a c b (a==4)
else
J1 a c b (a==22)
def aN{b:AX}{c:AD}{a d:Int}{r:jr}(h:HQ b c a d=some r):BB prog 177 [bA 2 (GO b),.agg (BQ c),si a,si d] (si r.1) [bA 2 (GO r.2),.dead,.dead,.dead]:=by refine kL mix func177 (hn [(0,[27,31,41]),(5,[13,20]),(9,[37,40,42,45])] [(7,1)]) ?_;have a1:= @DT;have a2:= @WH;have c1:=ip 1 λ_ _ _ _ d=>∃e,(d 0=bA 2 (GO b)/\d 5=bA 7 (BQ c)/\d 10=si a/\d 24=sb e)/\J1 a c b e=some r;unfold HQ at h;exact walk
end
namespace Fu
def J2(a:Ai)(c:Bool):ABu Int:=
if c then
some (-1)
else
some a.A
def J1(a:Ai)(b:AN)(d:Bool):=
if d then
some a.B
else
if a.Op==7 then
(gt b.C3 a.C).bind λi=>
(HK i a.N).bind λe=>
some (A6 (a.B+e))
else
if a.Op==9 then
(gt b.C3 a.C).bind λj=>
(HK j a.N).bind λf=>
some (A6 (a.A+f))
else
if a.Op==10 then
J2 a (a.Op==10)
else
if a.Op==17 then
J2 a (a.Op==17)
else
if a.Op==18 then
J2 a (a.Op==18)
else
if a.Op==19 then
J2 a (a.Op==19)
else
if a.Op==20 then
J2 a (a.Op==20)
else
J2 a (a.Op==28)
end Fu
section
open Fu
def Fu(a:Ai)(b:AN):=
if a.Op==6 then
J1 a b (a.Op==6)
else
J1 a b (a.Op==27)
def Xr{a:Ai}{b:AN}{r:Int}(h:Fu a b=some r):Says prog 241 [.agg (Ed a),.agg (Fh b)] (si r):=by refine kO mix func241 (hn [(2,[5,10,14,18,22,28,32,36,47]),(3,[16,30])] [(3,1),(10,2)]) ?_;have a1:= @Zs;have c2:=ip 2 λ_ _ _ _ b=>∃c,(b 2=bA 6 (Ed a)/\b 40=sb c)/\J2 a c=some r;have c1:=ip 1 λ_ _ _ _ c=>∃d,(c 2=bA 6 (Ed a)/\c 3=bA 4 (Fh b)/\c 6=si a.Op/\c 7=sb d)/\J1 a b d=some r;unfold Fu at h;exact walk
end
namespace EX
def J1(d:AD):ABu AD:=
some d
def L1(a:AF)(L1:AD->Int->ABu AD)(b:AD)(c:Int):=
if decide (c<(a.df.length:Int))then
(gt a.df c).bind λf=>
if Am (b.df.length+1) 8=true then
L1 (AD.mk b.de (b.df++[f.db]) b.AL b.dc) (A6 (c+1))
else none
else
J1 b
def AW(a:AF):Nat->AD->Int->ABu AD
|0,_,_=>none
|n+1,b,c=>L1 a (AW a n) b c
end EX
section
open EX
def EX(a:AF):=
(Ck a).bind λe=>
if 0<=(a.AL.length:Int)/\(a.AL.length:Int)<=(a.AL.length:Int)/\Am a.AL.length 8=true then
if 0<=(a.AA.length:Int)/\(a.AA.length:Int)<=(a.AA.length:Int)/\Am a.AA.length 8=true then
AW a BT (AD.mk e [] (List.replicate a.AL.length (0:Int)) (List.replicate a.AA.length (0:Int))) 0
else none
else none
def JK{a:AF}{r:AD}(h:EX a=some r):Says prog 84 [.agg (Aw a)] (.agg (Ii r)):=by refine kO mix func84 (hn [(1,[7,11,17,25]),(3,[23,24,33,34])]) ?_;have a1:= @Q5;have l1:=im λ_ _ _ _ n d=>∃b c,(d 1=bA 6 (Aw a)/\d 2=bA 7 z0/\d 3=bA 7 (Ii b)/\d 4=si c)/\AW a n b c=some r;unfold EX at h;exact walk
end
namespace ES
def J2:=
some true
def L1(a:AF)(L1:ir)(b:Int):=
if decide (b<(a.Ak.length:Int))then
(gt a.Ak b).bind λf=>
(Da f.dm (a.AK.length:Int)).bind λe=>
if !e then
some false
else
L1 (A6 (b+1))
else
J2
def AW(a:AF):Nat->Int->ABu Bool
|0,_=>none
|n+1,b=>L1 a (AW a n) b
def J1(a:AF)(d:Bool):=
if d then
some false
else
AW a BT 0
end ES
section
open ES
def ES(a:AF)(c:AQ):=
if(c.AK.length:Int) != (a.AK.length:Int)then
J1 a true
else
if(c.Bp.length:Int) != (a.AL.length:Int)then
J1 a true
else
J1 a ((c.AA.length:Int) != (a.AA.length:Int))
def Kv{a:AF}{c:AQ}{r:Bool}(h:ES a c=some r):Says prog 94 [.agg (Aw a),.agg (He c)] (sb r):=by refine kO mix func94 (hn [(2,[10,18,27,32,41]),(3,[7,15,24]),(6,[39])] [(2,1)]) ?_;have a1:= @JZ;have l1:=im λ_ _ _ _ n c=>∃b,(c 2=bA 6 (Aw a)/\c 33=vS 2 IW a.Ak/\c 34=si (a.Ak.length:Int)/\c 35=si b)/\AW a n b=some r;have c1:=ip 1 λ_ _ _ _ b=>∃d,(b 2=bA 6 (Aw a)/\b 31=sb d)/\J1 a d=some r;unfold ES at h;exact walk
end
namespace FM
def J3:=
some true
def J2(L1:ir)(a:Int):=
L1 (A6 (a+1))
def J1(L1:ir)(a:Int)(l:Bool):=
if l then
some false
else
J2 L1 a
def L1(c:iq)(d:Int)(b:AG)(L1:ir)(a:Int):=
if decide (a<(c.length:Int))then
(gt c a).bind λf=>
(gt b.db.dc d).bind λi=>
if decide (f<i)then
J2 L1 a
else
(Gx b d (A6 (f-i))).bind λe=>
if decide (e<0)then
J1 L1 a true
else
(gt b.AB e).bind λj=>
if j.da != 3 then
J1 L1 a (j.da != 23)
else
J1 L1 a false
else
J3
def AW(c:iq)(d:Int)(b:AG):Nat->Int->ABu Bool
|0,_=>none
|n+1,a=>L1 c d b (AW c d b n) a
end FM
section
open FM
def FM(b:AG)(d:Int)(c:iq):=
AW c d b BT 0
def Z8{b:AG}{d:Int}{c:iq}{r:Bool}(h:FM b d c=some r):Says prog 56 [.agg (A4 b),si d,vS 1 eI c] (sb r):=by refine kO mix func56 (hn [(3,[19,20,32,33,43,51])]) ?_;have a1:= @VH;have l1:=im λ_ _ _ _ n e=>∃a,(e 1=si d/\e 2=vS 1 eI c/\e 3=bA 15 (A4 b)/\e 7=si a)/\AW c d b n a=some r;unfold FM at h;exact walk
end
namespace Gb
def J1(d:As):ABu As:=
some d
def L1(a:As)(L1:nk)(b:As)(c:Int):=
if decide (c<(a.AA.length:Int))then
(gt a.AA c).bind λi=>
(Fp i).bind λf=>
if Am (b.AA.length+1) 64=true then
L1 (As.mk b.de b.df b.AL (b.AA++[f])) (A6 (c+1))
else none
else
J1 b
def AW(a:As):Nat->As->Int->ABu As
|0,_,_=>none
|n+1,b,c=>L1 a (AW a n) b c
end Gb
section
open Gb
def Gb(a:As):=
(Fq a.de).bind λe=>
if Am (a.df.length) 8=true then
if Am (a.AL.length) 8=true then
AW a BT (As.mk e a.df a.AL []) 0
else none
else none
def cW{a r:As}(h:Gb a=some r):Says prog 213 [.agg (LO a)] (.agg (Na r)):=by refine kO mix func213 (hn [(1,[5,9,13,18,26]),(3,[24,25,34,35])]) ?_;have a1:= @Lj;have a2:= @Sy;have l1:=im λ_ _ _ _ n d=>∃b c,(d 1=bA 7 (LO a)/\d 2=bA 7 z4/\d 3=bA 7 (Na b)/\d 4=si c)/\AW a n b c=some r;unfold Gb at h;exact walk
end
namespace CW
def J3:=
some false
def J2(L1:jw)(b f:Int):=
L1 f (A6 (b+1))
def J1(L1:jw)(c:Int)(a:li)(b:Int)(i:Bool):=
if i then
some false
else
(gt a c).bind λe=>
(Gg e.Op).bind λj=>
if !j then
some true
else
if e.Op==5 then
J2 L1 b e.A
else
J2 L1 b (A6 (c+1))
def L1(a:li)(L1:jw)(c b:Int):=
if decide (b<=(a.length:Int))then
if decide (c<0)then
J1 L1 c a b true
else
J1 L1 c a b (decide (c>=(a.length:Int)))
else
J3
def AW(a:li):Nat->Int->Int->ABu Bool
|0,_,_=>none
|n+1,c,b=>L1 a (AW a n) c b
end CW
section
open CW
def CW(a:li)(d:Int):=
AW a BT d 0
def Zw{a:li}{d:Int}{r:Bool}(h:CW a d=some r):Says prog 210 [vS 6 Ed a,si d] (sb r):=by refine kO mix func210 hn ?_;have a1:= @P0;have l1:=im λ_ _ _ _ n d=>∃c b,(d 0=vS 6 Ed a/\d 1=si c/\d 5=si b)/\AW a n c b=some r;unfold CW at h;exact walk
end
namespace Gj
def J2:ABu Int:=
some (-1)
def J1(L1:lA)(a:Int)(e:Bool):=
if e then
some a
else
L1 (A6 (a+1))
def L1(c:Ac)(d:Int)(b:AG)(L1:lA)(a:Int):=
if decide (a<(b.AB.length:Int))then
(gt b.AB a).bind λi=>
if i.cr==d then
(Gw c.du a).bind λf=>
J1 L1 a (!f)
else
J1 L1 a false
else
J2
def AW(c:Ac)(d:Int)(b:AG):Nat->Int->ABu Int
|0,_=>none
|n+1,a=>L1 c d b (AW c d b n) a
end Gj
section
open Gj
def Gj(b:AG)(c:Ac)(d:Int):=
AW c d b BT 0
def Ll{b:AG}{c:Ac}{d r:Int}(h:Gj b c d=some r):Says prog 24 [.agg (A4 b),.agg (IH c),si d] (si r):=by refine kO mix func24 (hn [(3,[9,15]),(4,[24])]) ?_;have a1:= @Mh;have l1:=im λ_ _ _ _ n e=>∃a,(e 2=si d/\e 3=bA 15 (A4 b)/\e 4=bA 9 (IH c)/\e 7=si a)/\AW c d b n a=some r;unfold Gj at h;exact walk
end
namespace Dj
def J1:=
some false
def L1(a:ABv)(b:jf)(L1:ir)(c:Int):=
if decide (c<(b.length:Int))then
(gt b c).bind λd=>
if d.toList==a.toList then
some true
else
L1 (A6 (c+1))
else
J1
def AW(a:ABv)(b:jf):Nat->Int->ABu Bool
|0,_=>none
|n+1,c=>L1 a b (AW a b n) c
end Dj
section
open Dj
def Dj(a:ABv):=
(Kz).bind λb=>
AW a b BT 0
def To{a:ABv}{r:Bool}(h:Dj a=some r):Says prog 154 [Bq a] (sb r):=by refine kO mix func154 (hn [(3,[7,12,14])]) ?_;have a1:= @U4;have l1:=im λ_ _ _ _ n d=>∃b c,(d 0=Bq a/\d 3=vO 1 eS b/\d 4=si c)/\AW a b n c=some r;unfold Dj at h;exact walk
end
namespace Oj
def J1:=
some true
def L1(a b:iq)(L1:ir)(c:Int):=
if decide (c<(if(b.length:Int)>(a.length:Int)then(b.length:Int)else(a.length:Int)))then
(Q7 a c).bind λd=>
(Q7 b c).bind λe=>
if decide (d>e)then
some false
else
L1 (A6 (c+1))
else
J1
def AW(a b:iq):Nat->Int->ABu Bool
|0,_=>none
|n+1,c=>L1 a b (AW a b n) c
end Oj
section
open Oj
def Oj(a b:iq):=
AW a b BT 0
end
namespace HO
def J1(a:jr)(e:Bool):ABu (Int×AX):=
if e then
some ((-1),a.2)
else
some (A6 (a.1-2),a.2)
end HO
section
open HO
def HO(c:AX)(d:Int)(b:iq):=
(Al c (A6 ((b.length:Int)+2))).bind λa=>
if decide ((A6 (a.1-2))<0)then
J1 a true
else
(gt b (A6 (a.1-2))).bind λf=>
J1 a (f==0)
def aK{c:AX}{d:Int}{b:iq}{r:jr}(h:HO c d b=some r):BB prog 133 [bA 2 (GO c),.agg [.dead,si d,.dead,.dead,.dead,.dead,vS 1 eI b]] (si r.1) [bA 2 (GO r.2),.dead]:=by refine kL mix func133 (hn [(0,[6]),(1,[3,7,8,16,17,19])] (E:=[(0,(.fR [.bxv ⟨3,[],[1]⟩ 7 1,.o (iK 4 0)]))])) ?_;have a1:= @DT;unfold HO at h;exact walk
end
namespace IB
def J1(c:Bool):ABu Bool:=
some c
end IB
section
open IB
def IB(b:AF)(a:AD):=
(E8 b a.de).bind λd=>
if d then
if(a.df.length:Int)==(b.df.length:Int)then
if(a.AL.length:Int)==(b.AL.length:Int)then
J1 ((a.dc.length:Int)==(b.AA.length:Int))
else
J1 false
else
J1 false
else
J1 false
def S4{b:AF}{a:AD}{r:Bool}(h:IB b a=some r):Says prog 51 [.agg (Aw b),.agg (BQ a)] (sb r):=by refine kO mix func51 (hn [(2,[13,22,31]),(3,[6,10,19,28])]) ?_;have a1:= @OG;unfold IB at h;exact walk
end
def QO(a:Ac):ABu Ac:=
(Fq a.de).bind λb=>
if Am (a.df.length) 16=true then
if Am (a.AL.length) 16=true then
if Am (a.du.length) 8=true then
if Am (a.Ej.length) 1=true then
if Am (a.Nw.length) 8=true then
some (Ac.mk b a.df a.AL a.du a.Ej a.Nw)
else none
else none
else none
else none
else none
def dC{a r:Ac}(h:QO a=some r):Says prog 120 [.agg (IH a)] (.agg (OU r)):=by refine kO mix func120 (hn [(1,[3,7,11,15,19,23])]) ?_;have a1:= @Lj;unfold QO at h;exact walk
end Go.Abs
