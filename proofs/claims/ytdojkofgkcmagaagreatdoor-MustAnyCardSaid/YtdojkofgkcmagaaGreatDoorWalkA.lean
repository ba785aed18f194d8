/- Go functions do what typed programs say. -/
import Derived.Test.YtdojkofgkcmagaaGreatDoorBaseA
import Derived.Shelf.Slices.SearchI
set_option linter.all false
namespace Go.Abs
open Go.Proofs Tryz
set_option maxRecDepth 1000000
set_option maxHeartbeats 4000000
namespace Br
def J6(a:AG)(q:jq):ABm ((List ABn)×Bool):=if Aq (q.length+a.AM.length) 16=true then
if Aq ((q++a.AM).length+a.AB.length) 16=true then
some ((q++a.AM)++a.AB,true)
else none
else none
def L4(a:AG)(L4:jn)(l:jq)(i:Int):=if decide (i<(a.Aj.length:Int))then(gt a.Aj i).bind λw=>if Aq (l.length+1) 16=true then
L4 (l++[w.dq]) (A9 (i+1))
else none
else
J6 a l
def gD(a:AG):Nat->(List ABn)->Int->ABm ((List ABn)×Bool)
|0,_,_=>none
|n+1,l,i=>L4 a (gD a n) l i
def J5(a:AG)(t:jq):ABm ((List ABn)×Bool):=gD a BQ t 0
def L3(a:AG)(L3:jn)(j:jq)(f:Int):=if decide (f<(a.AK.length:Int))then(gt a.AK f).bind λv=>if Aq (j.length+1) 16=true then
L3 (j++[v.dq]) (A9 (f+1))
else none
else
J5 a j
def Fw(a:AG):Nat->(List ABn)->Int->ABm ((List ABn)×Bool)
|0,_,_=>none
|n+1,j,f=>L3 a (Fw a n) j f
def J4(a:AG)(s:jq):=Fw a BQ s 0
def J3(L1:jn)(c:Int)(d:jq)(b:Dy):=L1 (d++[b.dq]) (A9 (c+b.Ca))
def J2(L2:Int->ABm ((List ABn)×Bool))(e:Int)(u:Bool):=if u then
some ([],false)
else
L2 (A9 (e+1))
def L2(L1:jn)(c:Int)(d:jq)(a:AG)(b:Dy)(L2:Int->ABm ((List ABn)×Bool))(e:Int):=if decide (e<b.Ca)then(gt a.dg (A9 (c+e))).bind λo=>if o.d6 != e then
J2 L2 e true
else
if !(o.dq.toList==b.dq.toList)then
J2 L2 e true
else
if o.Ca != b.Ca then
J2 L2 e true
else
if o.de != b.de then
J2 L2 e true
else
J2 L2 e o.Hh
else
J3 L1 c d b
def B9(L1:jn)(c:Int)(d:jq)(a:AG)(b:Dy):Nat->Int->ABm ((List ABn)×Bool)
|0,_=>none
|n+1,e=>L2 L1 c d a b (B9 L1 c d a b n) e
def J1(L1:jn)(c:Int)(d:jq)(a:AG)(b:Dy)(p:Bool):=if p then
some ([],false)
else
B9 L1 c d a b BQ 0
def L1(a:AG)(L1:jn)(d:jq)(c:Int):=if decide (c<(a.dg.length:Int))then(gt a.dg c).bind λb=>if Aq (d.length+1) 16=true then
if b.Ca==0 then
if b.d6 != 0 then
some ([],false)
else
L1 (d++[b.dq]) (A9 (c+1))
else
if decide (b.Ca<1)then
J1 L1 c d a b true
else
if decide (b.Ca>4)then
J1 L1 c d a b true
else
J1 L1 c d a b (decide (b.Ca>(A9 ((a.dg.length:Int)-c))))
else none
else
J4 a d
def AU(a:AG):Nat->(List ABn)->Int->ABm ((List ABn)×Bool)
|0,_,_=>none
|n+1,d,c=>L1 a (AU a n) d c
end Br
section
open Br
def Br(a:AG):=AU a BQ [] 0
def Z0{a:AG}{r:mz}(h:Br a=some r):Says prog 97 [.agg (A0 a)] (.Bp [vO 1 eS r.1,sb r.2]):=by refine kO mix func97 (hn [(1,[12,16,45,58,99,106,115,122,131,135]),(4,[21,105,121,130,134]),(6,[22,26,29,34,38,43,53,72,79,86,95]),(8,[65,70,77,84,91])] [(15,1)]) ?_;have l4:=iJ λn b=>∃l i,(b 1=bA 6 (A0 a)/\b 4=vO 1 eS l/\b 10=si i)/\gD a n l i=some r;have l3:=iJ λn b=>∃j f,(b 1=bA 6 (A0 a)/\b 4=vO 1 eS j/\b 9=si f)/\Fw a n j f=some r;have l1:=iJ λn b=>∃d c,(b 1=bA 6 (A0 a)/\b 4=vO 1 eS d/\b 5=si c)/\AU a n d c=some r;have l2:=iy λf _ _ _ n g=>∃(c:Int)(d:jq)(b:Dy)(e:Int),(g 1=bA 6 (A0 a)/\g 4=.own false 1 ((d++[b.dq]).map eS)/\g 5=si c/\g 6=bA 5 (G5 b)/\g 7=si e)/\B9 (AU a f) c d a b n e=some r;have c1:=iz 1 λe _ _ _ f=>∃(c:Int)(d:jq)(b:Dy)(p:Bool),(f 1=bA 6 (A0 a)/\f 4=.own false 1 ((d++[b.dq]).map eS)/\f 5=si c/\f 6=bA 5 (G5 b)/\f 51=sb p)/\J1 (AU a e) c d a b p=some r;unfold Br at h;exact walk
end
namespace Ac
def J7:=some true
def J6(L1:i6)(c:Int):=L1 (A9 (c+1))
def J5(L2:ka)(i l:Int)(s:Bool):=if s then
some false
else
L2 l (A9 (i+1))
def L2(L1:i6)(a:AH)(f:iT)(b:AD)(c:Int)(L2:ka)(j i:Int):=if decide (i<(f.length:Int))then(gt f i).bind λl=>if decide (l<=j)then
J5 L2 i l true
else(gt b.df a.cT).bind λv=>J5 L2 i l (decide (l>=v))
else
J6 L1 c
def B9(L1:i6)(a:AH)(f:iT)(b:AD)(c:Int):Nat->Int->Int->ABm Bool
|0,_,_=>none
|n+1,j,i=>L2 L1 a f b c (B9 L1 a f b c n) j i
def J4(L1:i6)(a:AH)(f:iT)(b:AD)(c:Int)(q:Bool):=if q then
some false
else
B9 L1 a f b c BQ 0 0
def J3(L1:i6)(d e:Bool)(a:AH)(b:AD)(c:Int)(f:iT):=if decide ((f.length:Int)>0)then
if c==0 then
J4 L1 a f b c (!d)
else
if c==1 then
J4 L1 a f b c (!e)
else
none
else
J4 L1 a f b c false
def L1(d e:Bool)(a:AH)(b:AD)(L1:i6)(c:Int):=if decide (c<2)then
if c==0 then
J3 L1 d e a b c a.D4
else
if c==1 then
J3 L1 d e a b c a.DL
else
none
else
J7
def AU(d e:Bool)(a:AH)(b:AD):Nat->Int->ABm Bool
|0,_=>none
|n+1,c=>L1 d e a b (AU d e a b n) c
def J2(a:AH)(b:AD)(d e:Bool):=AU d e a b BQ 0
def J1(a:AH)(b:AD)(o:Bool):=if a.da==5 then
if a.da==4 then
J2 a b true true
else
J2 a b true (a.da==22)
else
if a.da==4 then
J2 a b o true
else
J2 a b o (a.da==22)
end Ac
section
open Ac
def Ac(p:AG)(b:AD)(a:AH):=if a.da==3 then(gt p.dg a.di).bind λt=>J1 a b (t.Ca != 0)
else
if a.da==4 then(gt p.dg a.di).bind λu=>J1 a b (u.Ca != 0)
else
J1 a b false
def OA{p:AG}{b:AD}{a:AH}{r:Bool}(h:Ac p b a=some r):Says prog 148 [.agg (A0 p),.agg (Bc b),.agg (Am a)] (sb r):=by refine kO mix func148 (hn [(3,[23]),(4,[76]),(5,[14,18,25,32,38,42,47,49,78]),(8,[61])] [(1,1),(2,2),(8,3),(10,4)]) ?_;have l1:=iJ λn f=>∃d e c,(f 4=bA 7 (Bc b)/\f 5=bA 7 (Am a)/\f 8=bA 2 [sb d,sb e]/\f 51=.agg [vS 1 eI a.D4,vS 1 eI a.DL]/\f 52=si c)/\AU d e a b n c=some r;have l2:=iy λg _ _ _ n h=>∃(d e:Bool)(f:iT)(c j i:Int),(h 4=bA 7 (Bc b)/\h 5=bA 7 (Am a)/\h 8=bA 2 [sb d,sb e]/\h 11=si j/\h 51=.agg [vS 1 eI a.D4,vS 1 eI a.DL]/\h 52=si c/\h 65=vS 1 eI f/\h 66=si (f.length:Int)/\h 67=si i)/\B9 (AU d e a b g) a f b c n j i=some r;have c4:=iz 4 λg _ _ _ h=>∃d e f c q,(h 4=bA 7 (Bc b)/\h 5=bA 7 (Am a)/\h 8=bA 2 [sb d,sb e]/\h 10=vS 1 eI f/\h 51=.agg [vS 1 eI a.D4,vS 1 eI a.DL]/\h 52=si c/\h 64=sb q)/\J4 (AU d e a b g) a f b c q=some r;have c3:=iz 3 λg _ _ _ h=>∃d e c f,(h 4=bA 7 (Bc b)/\h 5=bA 7 (Am a)/\h 8=bA 2 [sb d,sb e]/\h 9=si c/\h 10=vS 1 eI f/\h 51=.agg [vS 1 eI a.D4,vS 1 eI a.DL]/\h 52=si c)/\J3 (AU d e a b g) d e a b c f=some r;have c2:=iR 2 λc=>∃d e,(c 4=bA 7 (Bc b)/\c 5=bA 7 (Am a)/\c 8=bA 2 [sb d,sb e])/\J2 a b d e=some r;have c1:=iR 1 λc=>∃o,(c 4=bA 7 (Bc b)/\c 5=bA 7 (Am a)/\c 7=sb o)/\J1 a b o=some r;unfold Ac at h;exact walk
end
namespace Al
def J5(L1:jp)(a:Int)(q:AE):=L1 q (A9 (a+1))
def J4(L1:jp)(b:Int)(c:AE)(a:Int)(l:Bool):=if l then(gt c.d7 a).bind λp=>(gt p b).bind λs=>J5 L1 a (AE.mk c.w c.ef c.ep (c.d7.set a.toNat (p.set b.toNat true)))
else
J5 L1 a c
def J3(L1:jp)(d:AH)(b:Int)(c:AE)(a:Int)(e:AH)(o:Bool):=if o then
J4 L1 b c a o
else
if d.da==23 then
if e.da==22 then
J4 L1 b c a (e.di==d.di)
else
J4 L1 b c a false
else
J4 L1 b c a false
def J2(L1:jp)(d:AH)(b:Int)(c:AE)(a:Int)(e:AH)(j:Bool):=if j then
J4 L1 b c a j
else
if d.da==21 then
if e.da==2 then
J3 L1 d b c a e (e.cT==d.di)
else
J3 L1 d b c a e false
else
J3 L1 d b c a e false
def J1(L1:jp)(d:AH)(b:Int)(c:AE)(a:Int)(e:AH)(i:Bool):=if i then
J4 L1 b c a i
else
if d.da==1 then
if e.da==20 then
J2 L1 d b c a e (e.di==d.cT)
else
J2 L1 d b c a e false
else
J2 L1 d b c a e false
def L1(d:AH)(b:Int)(f:AE)(L1:jp)(c:AE)(a:Int):=if decide (a<(f.w.AA.length:Int))then(gt f.w.AA a).bind λe=>if e.cT==d.cT then
J1 L1 d b c a e (decide (a<b))
else
J1 L1 d b c a e false
else
some c
def AU(d:AH)(b:Int)(f:AE):Nat->AE->Int->ABm AE
|0,_,_=>none
|n+1,c,a=>L1 d b f (AU d b f n) c a
end Al
section
open Al
def Al(f:AE)(b:Int)(d:AH):=AU d b f BQ f 0
def N0{f:AE}{b:Int}{d:AH}{r:AE}(h:Al f b d=some r):BF prog 125 [bA 18 (Bf f),si b,.agg (Am d)] (.Bp []) [bA 18 (Bf r),.dead,.dead]:=by refine kL mix func125 (hn [(0,[8,9,10,11,12,17,18,75,76,77,78,80,81,83]),(5,[22,30,41,45,56,60,71]),(7,[20,34,39,49,54,64,69])] [(6,4),(7,1),(8,2)]) ?_;have l1:=iJ λn e=>∃c a,(e 0=bA 18 (Bf c)/\e 1=si b/\e 5=bA 7 (Am d)/\e 12=vS 7 Am f.w.AA/\e 13=si (f.w.AA.length:Int)/\e 14=si a)/\AU d b f n c a=some r;have c4:=iz 4 λe _ _ _ g=>∃c a l,(g 0=bA 18 (Bf c)/\g 1=si b/\g 5=bA 7 (Am d)/\g 6=si a/\g 12=vS 7 Am f.w.AA/\g 13=si (f.w.AA.length:Int)/\g 14=si a/\g 19=sb l)/\J4 (AU d b f e) b c a l=some r;have c2:=iz 2 λg _ _ _ h=>∃c a e j,(h 0=bA 18 (Bf c)/\h 1=si b/\h 5=bA 7 (Am d)/\h 6=si a/\h 7=bA 7 (Am e)/\h 12=vS 7 Am f.w.AA/\h 13=si (f.w.AA.length:Int)/\h 14=si a/\h 19=sb j)/\J2 (AU d b f g) d b c a e j=some r;have c1:=iz 1 λg _ _ _ h=>∃c a e i,(h 0=bA 18 (Bf c)/\h 1=si b/\h 5=bA 7 (Am d)/\h 6=si a/\h 7=bA 7 (Am e)/\h 12=vS 7 Am f.w.AA/\h 13=si (f.w.AA.length:Int)/\h 14=si a/\h 19=sb i)/\J1 (AU d b f g) d b c a e i=some r;unfold Al at h;exact walk
end
namespace Ad
def J7(c:Int)(a:AE)(o:iT):ABm AE:=if(o.length:Int)==1 then(gt o 0).bind λq=>(gt a.d7 q).bind λs=>(gt s c).bind λac=>some (AE.mk a.w a.ef a.ep (a.d7.set q.toNat (s.set c.toNat true)))
else
some a
def J6(L2:lh)(d:Int)(t:iT):=L2 t (A9 (d+1))
def J5(L2:lh)(e:iT)(d:Int)(w:Bool):=if w then
if Aq (e.length+1) 8=true then
J6 L2 d (e++[d])
else none
else
J6 L2 d e
def J4(L2:lh)(b:AH)(e:iT)(d:Int)(l:AH)(u:Bool):=if u then
if l.di==b.di then
J5 L2 e d (l.cT != b.cT)
else
J5 L2 e d false
else
J5 L2 e d false
def L2(b:AH)(c:Int)(a:AE)(L2:lh)(e:iT)(d:Int):=if decide (d<(a.w.AA.length:Int))then(gt a.w.AA d).bind λl=>if l.da==18 then
J4 L2 b e d l true
else
J4 L2 b e d l (l.da==19)
else
J7 c a e
def B9(b:AH)(c:Int)(a:AE):Nat->(List Int)->Int->ABm AE
|0,_,_=>none
|n+1,e,d=>L2 b c a (B9 b c a n) e d
def J3(b:AH)(c:Int)(a:AE)(y:Bool):=if !y then
some a
else
B9 b c a BQ [] 0
def J2(L1:Bool->Int->ABm AE)(f:Int)(x:Bool):=L1 x (A9 (f+1))
def J1(L1:Bool->Int->ABm AE)(f:Int)(i v:Bool):=if v then
J2 L1 f true
else
J2 L1 f i
def L1(b:AH)(c:Int)(a:AE)(j:iT)(L1:Bool->Int->ABm AE)(i:Bool)(f:Int):=if decide (f<(j.length:Int))then(gt a.ef b.cT).bind λaa=>(gt aa f).bind λp=>if decide (p<c)then(gt a.w.AA p).bind λab=>J1 L1 f i (ab.da==16)
else
J1 L1 f i false
else
J3 b c a i
def AU(b:AH)(c:Int)(a:AE)(j:iT):Nat->Bool->Int->ABm AE
|0,_,_=>none
|n+1,i,f=>L1 b c a j (AU b c a j n) i f
end Ad
section
open Ad
def Ad(a:AE)(c:Int)(b:AH):=if b.da != 17 then
some a
else(gt a.w.de.dc.AB b.cT).bind λz=>(gt a.ef b.cT).bind λj=>AU b c a j BQ (z.dh==3) 0
def NQ{a:AE}{c:Int}{b:AH}{r:AE}(h:Ad a c b=some r):BF prog 127 [bA 18 (Bf a),si c,.agg (Am b)] (.Bp []) [bA 18 (Bf r),.dead,.dead]:=by refine kL mix func127 (hn [(0,[16,17,18,19,20,21,22,25,26,29,30,31,32,35,36,40,46,47,48,49,50,52,53,60,61,62,63,64,69,70,102,103,104,105,109,110,112]),(5,[13,23,33,83,90]),(9,[94,99,106,107]),(11,[71,75,81,88])]) ?_;have l2:=iJ λn f=>∃e d,(f 0=bA 18 (Bf a)/\f 1=si c/\f 5=bA 7 (Am b)/\f 9=vO 1 eI e/\f 64=vS 7 Am a.w.AA/\f 65=si (a.w.AA.length:Int)/\f 66=si d)/\B9 b c a n e d=some r;have l1:=iJ λn d=>∃(j:iT)(i:Bool)(f:Int),(d 0=bA 18 (Bf a)/\d 1=si c/\d 5=bA 7 (Am b)/\d 6=sb i/\d 36=.al 0 [(0,15,18),(b.cT.toNat,0,1)]/\d 37=si (j.length:Int)/\d 38=si f)/\AU b c a j n i f=some r;unfold Ad at h;exact walk
end
namespace BH
def J7(q:iT):ABm (List Int):=some q
def J6(L1:jd)(d:Int)(p:iT):=L1 p (A9 (d+1))
def J5(L1:jd)(e:iT)(d:Int)(s:Bool):=if s then
if Aq (e.length+1) 8=true then
J6 L1 d (e++[d])
else none
else
J6 L1 d e
def J4(L1:jd)(e:iT)(b d:Int)(a i:AH)(o:Bool):=if o then
J6 L1 d e
else
if i.cT != a.cT then
J5 L1 e d true
else
J5 L1 e d (decide (d<b))
def L1(b f:Int)(c:AF)(a:AH)(L1:jd)(e:iT)(d:Int):=if decide (d<(c.AA.length:Int))then(gt c.AA d).bind λi=>if i.da != f then
J4 L1 e b d a i true
else
if i.di != a.di then
J4 L1 e b d a i true
else
J4 L1 e b d a i (i.dm != a.dm)
else
J7 e
def AU(b f:Int)(c:AF)(a:AH):Nat->(List Int)->Int->ABm (List Int)
|0,_,_=>none
|n+1,e,d=>L1 b f c a (AU b f c a n) e d
def J3(b:Int)(c:AF)(a:AH)(j:iT)(f:Int):=AU b f c a BQ j 0
def J2(b:Int)(c:AF)(a:AH)(t:Bool):=if t then
J3 b c a [(-1)] 22
else
J3 b c a [] 22
def J1(b:Int)(c:AF)(l:Bool):=if l then
some []
else(gt c.AA b).bind λa=>if a.da==3 then(gt c.de.dg a.di).bind λu=>if u==a.dm then
J3 b c a [(-1)] 4
else
J3 b c a [] 4
else
if a.da==23 then(gt c.de.dc.Bs a.di).bind λv=>if v then(gt c.de.AM a.di).bind λw=>J2 b c a (w==a.dm)
else
J2 b c a false
else
some []
end BH
section
open BH
def BH(c:AF)(b:Int):=if decide (b<0)then
J1 b c true
else
J1 b c (decide (b>=(c.AA.length:Int)))
def Mz{c:AF}{b:Int}{r:iT}(h:BH c b=some r):Says prog 77 [.agg (A5 c),si b] (vO 1 eI r):=by refine kO mix func77 (hn [(2,[14,19,28,29,43,44,45,52,53,66]),(5,[24,31,35,47,55,59,81,88,94]),(6,[38,63,102,107]),(9,[74,79,86,92])] [(2,1),(7,3),(22,4)]) ?_;have:=(by decide:Aq 1 8);have l1:=iJ λn g=>∃f a e d,(g 1=si b/\g 5=bA 7 (Am a)/\g 6=vO 1 eI e/\g 7=si f/\g 67=vS 7 Am c.AA/\g 68=si (c.AA.length:Int)/\g 69=si d)/\AU b f c a n e d=some r;have c4:=iz 4 λg _ _ _ h=>∃f a e d i o,(h 1=si b/\h 5=bA 7 (Am a)/\h 6=vO 1 eI e/\h 7=si f/\h 8=si d/\h 9=bA 7 (Am i)/\h 67=vS 7 Am c.AA/\h 68=si (c.AA.length:Int)/\h 69=si d/\h 91=sb o)/\J4 (AU b f c a g) e b d a i o=some r;have c3:=iR 3 λd=>∃a j f,(d 1=si b/\d 2=bA 15 (A5 c)/\d 5=bA 7 (Am a)/\d 6=vO 1 eI j/\d 7=si f)/\J3 b c a j f=some r;have c1:=iR 1 λa=>∃l,(a 1=si b/\a 2=bA 15 (A5 c)/\a 18=sb l)/\J1 b c l=some r;unfold BH at h;exact walk
end
namespace BK
def OE(a:AH):ABm Bool:=some (a.dm==0)
def J1(q:Bool):ABm Bool:=some q
def J6(s:Bool):ABm Bool:=some s
def J5(a:AH)(v:Int)(z:Bool):=if z then
J6 true
else
if v==0 then
J6 (a.dm==(-1))
else
J6 false
def J4(L1:lg)(c u:Int)(y:Bool):=L1 u y (A9 (c+1))
def J3(L1:lg)(a:AH)(c e:Int)(i t:Bool):=if t then
if i then
J4 L1 c (A9 (e+1)) true
else
J4 L1 c (A9 (e+1)) (a.dm==c)
else
J4 L1 c e i
def L1(a:AH)(b:AD)(L1:lg)(e:Int)(i:Bool)(c:Int):=if decide (c<(b.dc.AB.length:Int))then(gt b.dc.AB c).bind λl=>if l.dh==3 then
J3 L1 a c e i (l.DS==a.di)
else
J3 L1 a c e i false
else
J5 a e i
def AU(a:AH)(b:AD):Nat->Int->Bool->Int->ABm Bool
|0,_,_,_=>none
|n+1,e,i,c=>L1 a b (AU a b n) e i c
def J9(a:AH)(x:Int):ABm Bool:=some (a.dm==x)
def J8(L2:ka)(d w:Int):=L2 w (A9 (d+1))
def J7(L2:ka)(d f:Int)(p:Bool):=if p then
J8 L2 d (A9 (f+1))
else
J8 L2 d f
def L2(a:AH)(b:AD)(L2:ka)(f d:Int):=if decide (d<(b.dc.AB.length:Int))then(gt b.dc.AB d).bind λo=>if o.dh==3 then
J7 L2 d f (o.DS==a.di)
else
J7 L2 d f false
else
J9 a f
def B9(a:AH)(b:AD):Nat->Int->Int->ABm Bool
|0,_,_=>none
|n+1,f,d=>L2 a b (B9 a b n) f d
def J2(a:AH)(b:AD)(j:Bool):=if j then
some true
else
if a.da==18 then
AU a b BQ 0 false 0
else
if a.da==19 then
B9 a b BQ 0 0
else
OE a
end BK
section
open BK
def BK(b:AD)(a:AH):=if a.da==3 then(gt b.dg a.di).bind λaa=>some (a.dm==aa)
else
if a.da==23 then(gt b.AM a.di).bind λab=>some (a.dm==ab)
else
if a.da==5 then
if a.dm==0 then
J1 true
else
J1 (a.dm==1)
else
if a.da==4 then
J2 a b (a.da==4)
else
J2 a b (a.da==22)
def RT{b:AD}{a:AH}{r:Bool}(h:BK b a=some r):Says prog 149 [.agg (Bc b),.agg (Am a)] (sb r):=by refine kO mix func149 (hn [(2,[18,29,51,52,92,93]),(3,[12,16,20,27,31,38,42,66,74,85,106,113,117]),(8,[60,64]),(11,[100,104])] [(9,2)]) ?_;have l1:=iJ λn d=>∃e i c,(d 3=bA 7 (Am a)/\d 5=si e/\d 6=sb i/\d 53=vS 3 Ax b.dc.AB/\d 54=si (b.dc.AB.length:Int)/\d 55=si c)/\AU a b n e i c=some r;have l2:=iJ λn c=>∃f d,(c 3=bA 7 (Am a)/\c 9=si f/\c 94=vS 3 Ax b.dc.AB/\c 95=si (b.dc.AB.length:Int)/\c 96=si d)/\B9 a b n f d=some r;have c2:=iR 2 λc=>∃j,(c 2=bA 7 (Bc b)/\c 3=bA 7 (Am a)/\c 13=si a.da/\c 46=sb j)/\J2 a b j=some r;unfold BK at h;exact walk
end
namespace Bh
def J2:ABm Int:=some (-1)
def J1(L1:ma)(a:Int)(f:Bool):=if f then
some a
else
L1 (A9 (a+1))
def L1(d:AF)(b:AH)(L1:ma)(a:Int):=if decide (a<(d.AA.length:Int))then(gt d.AA a).bind λc=>if b.da==1 then
if c.da==20 then
if c.di==b.cT then
J1 L1 a true
else
if b.da==21 then
if c.da==2 then
if c.cT==b.di then
J1 L1 a true
else
if b.da==23 then
if c.da==22 then
J1 L1 a (c.di==b.di)
else
J1 L1 a false
else
J1 L1 a false
else
if b.da==23 then
if c.da==22 then
J1 L1 a (c.di==b.di)
else
J1 L1 a false
else
J1 L1 a false
else
if b.da==23 then
if c.da==22 then
J1 L1 a (c.di==b.di)
else
J1 L1 a false
else
J1 L1 a false
else
if b.da==21 then
if c.da==2 then
if c.cT==b.di then
J1 L1 a true
else
if b.da==23 then
if c.da==22 then
J1 L1 a (c.di==b.di)
else
J1 L1 a false
else
J1 L1 a false
else
if b.da==23 then
if c.da==22 then
J1 L1 a (c.di==b.di)
else
J1 L1 a false
else
J1 L1 a false
else
if b.da==23 then
if c.da==22 then
J1 L1 a (c.di==b.di)
else
J1 L1 a false
else
J1 L1 a false
else
if b.da==21 then
if c.da==2 then
if c.cT==b.di then
J1 L1 a true
else
if b.da==23 then
if c.da==22 then
J1 L1 a (c.di==b.di)
else
J1 L1 a false
else
J1 L1 a false
else
if b.da==23 then
if c.da==22 then
J1 L1 a (c.di==b.di)
else
J1 L1 a false
else
J1 L1 a false
else
if b.da==23 then
if c.da==22 then
J1 L1 a (c.di==b.di)
else
J1 L1 a false
else
J1 L1 a false
else
J2
def AU(d:AF)(b:AH):Nat->Int->ABm Int
|0,_=>none
|n+1,a=>L1 d b (AU d b n) a
end Bh
variable{c:AF}{a b:Int}
section
open Bh
def Bh(d:AF)(e:Int):=(gt d.AA e).bind λb=>AU d b BQ 0
theorem X5(h:Bh c a=some b):Says prog 70 [.agg (A5 c),si a] (si b):=by refine kO mix func70 (hn [(2,[8,13]),(5,[21,32,37,48,54,65]),(7,[25,30,41,46,58,63])] [(8,1)]) ?_;have l1:=iJ λn d=>∃r e,(d 5=bA 7 (Am r)/\d 14=vS 7 Am c.AA/\d 15=si (c.AA.length:Int)/\d 16=si e)/\AU c r n e=some b;have c1:=iz 1 λd _ _ _ a=>∃r e f,(a 5=bA 7 (Am r)/\a 6=si e/\a 14=vS 7 Am c.AA/\a 15=si (c.AA.length:Int)/\a 16=si e/\a 69=sb f)/\J1 (AU c r d) e f=some b;unfold Bh at h;exact walk
end
namespace Ah
def J3(l:jq):ABm ((List ABn)×Bool):=some (l,true)
def J2(L1:jn)(c:Int)(d:jq)(b o:Dy):=L1 (d++[b.dq]) (A9 (c+o.Ca))
def L2(L1:jn)(c:Int)(a:nj)(d:jq)(b:Dy)(L2:Dy->Int->ABm ((List ABn)×Bool))(e:Dy)(f:Int):=if decide (f<b.Ca)then(gt a (A9 (c+f))).bind λi=>if !(i.dq.toList==e.dq.toList&&(i.d6==f&&(i.Ca==e.Ca&&(i.Hh==e.Hh&&(i.de==e.de)))))then
some ([],false)
else
L2 (Dy.mk e.dq f e.Ca e.Hh e.de) (A9 (f+1))
else
J2 L1 c d b e
def B9(L1:jn)(c:Int)(a:nj)(d:jq)(b:Dy):Nat->Dy->Int->ABm ((List ABn)×Bool)
|0,_,_=>none
|n+1,e,f=>L2 L1 c a d b (B9 L1 c a d b n) e f
def J1(L1:jn)(c:Int)(a:nj)(d:jq)(b:Dy)(j:Bool):=if j then
some ([],false)
else
B9 L1 c a d b BQ b 0
def L1(a:nj)(L1:jn)(d:jq)(c:Int):=if decide (c<(a.length:Int))then(gt a c).bind λb=>if Aq (d.length+1) 16=true then
if b.Ca==0 then
if b.d6 != 0 then
some ([],false)
else
L1 (d++[b.dq]) (A9 (c+1))
else
if decide (b.Ca<1)then
J1 L1 c a d b true
else
if decide (b.Ca>4)then
J1 L1 c a d b true
else
if b.Hh then
J1 L1 c a d b true
else
J1 L1 c a d b (decide (b.Ca>(A9 ((a.length:Int)-c))))
else none
else
J3 d
def AU(a:nj):Nat->(List ABn)->Int->ABm ((List ABn)×Bool)
|0,_,_=>none
|n+1,d,c=>L1 a (AU a n) d c
end Ah
section
open Ah
def Ah(a:nj):=AU a BQ [] 0
theorem QE{a:nj}{r:mz}(h:Ah a=some r):Says prog 90 [vS 5 G5 a] (.Bp [vO 1 eS r.1,sb r.2]):=by refine kO mix func90 (hn [(4,[16,70]),(6,[17,21,24,29,33,38,42,50,56,67])] [(15,1)]) ?_;have l1:=iJ λn b=>∃d c,(b 0=vS 5 G5 a/\b 4=vO 1 eS d/\b 5=si c)/\AU a n d c=some r;have l2:=iy λg _ _ _ n h=>∃(c:Int)(d:jq)(b e:Dy)(f:Int),(h 0=vS 5 G5 a/\h 4=.own false 1 ((d++[b.dq]).map eS)/\h 5=si c/\h 6=bA 5 (G5 e)/\h 51=si b.Ca/\h 52=si f)/\B9 (AU a g) c a d b n e f=some r;have c1:=iz 1 λe _ _ _ f=>∃(c:Int)(d:jq)(b:Dy)(j:Bool),(f 0=vS 5 G5 a/\f 4=.own false 1 ((d++[b.dq]).map eS)/\f 5=si c/\f 6=bA 5 (G5 b)/\f 49=sb j)/\J1 (AU a e) c a d b j=some r;unfold Ah at h;exact walk
end
namespace BP
def J6:=some true
def J5(L1:i6)(b:Int):=L1 (A9 (b+1))
def J4(L1:i6)(b:Int)(a:AF)(c:AL)(i:Bool):=if i then
some false
else(gt a.db.Aj c.DS).bind λl=>(gt a.de.dc.AK l.dn).bind λo=>if o.Bw==b then
some false
else
J5 L1 b
def J3(L1:i6)(b:Int)(a:AF)(c:AL)(f:Bool):=if f then
if c.DS != 0 then
some false
else
J5 L1 b
else
if decide (c.DS<0)then
J4 L1 b a c true
else
J4 L1 b a c (decide (c.DS>=(a.db.Aj.length:Int)))
def J2(L1:i6)(b:Int)(a:AF)(c:AL)(d:Bool):=(gt a.de.df b).bind λj=>if !((j==0)==d)then
some false
else
if c.dh != 3 then
J3 L1 b a c (c.dh != 4)
else
J3 L1 b a c false
def J1(L1:i6)(b:Int)(a:AF)(c:AL)(e:Bool):=if e then
some false
else
if c.dh==0 then
J2 L1 b a c true
else
J2 L1 b a c (c.dh==1)
def L1(a:AF)(L1:i6)(b:Int):=if decide (b<(a.de.dc.AB.length:Int))then(gt a.de.dc.AB b).bind λc=>if decide (c.dh<0)then
J1 L1 b a c true
else
if decide (c.dh>5)then
J1 L1 b a c true
else
if b==0 then
J1 L1 b a c (c.dh==0)
else
J1 L1 b a c false
else
J6
def AU(a:AF):Nat->Int->ABm Bool
|0,_=>none
|n+1,b=>L1 a (AU a n) b
end BP
section
open BP
def BP(a:AF):=AU a BQ 0
theorem Pm{a:AF}{r:Bool}(h:BP a=some r):Says prog 46 [.agg (A5 a)] (sb r):=by refine kO mix func46 (hn [(1,[6,7,8,41,42,67,68,73,74,75,77,78]),(4,[16,20,28,33,37,50,54,58,61,65,80])] [(8,1),(10,2),(15,3)]) ?_;have l1:=iJ λn c=>∃b,(c 1=bA 15 (A5 a)/\c 9=vS 3 Ax a.de.dc.AB/\c 10=si (a.de.dc.AB.length:Int)/\c 11=si b)/\AU a n b=some r;have c3:=iz 3 λd _ _ _ e=>∃b c f,(e 1=bA 15 (A5 a)/\e 3=si b/\e 4=bA 3 (Ax c)/\e 9=vS 3 Ax a.de.dc.AB/\e 10=si (a.de.dc.AB.length:Int)/\e 11=si b/\e 57=sb f)/\J3 (AU a d) b a c f=some r;have c2:=iz 2 λe _ _ _ f=>∃b c d,(f 1=bA 15 (A5 a)/\f 3=si b/\f 4=bA 3 (Ax c)/\f 5=sb d/\f 9=vS 3 Ax a.de.dc.AB/\f 10=si (a.de.dc.AB.length:Int)/\f 11=si b)/\J2 (AU a e) b a c d=some r;have c1:=iz 1 λd _ _ _ f=>∃b c e,(f 1=bA 15 (A5 a)/\f 3=si b/\f 4=bA 3 (Ax c)/\f 9=vS 3 Ax a.de.dc.AB/\f 10=si (a.de.dc.AB.length:Int)/\f 11=si b/\f 32=sb e)/\J1 (AU a d) b a c e=some r;unfold BP at h;exact walk
end
namespace Au
def J3(L1:jp)(b:Int)(p:AE):=L1 p (A9 (b+1))
def J2(L2:jp)(c:Int)(o:AE):=L2 o (A9 (c+1))
def J1(L3:jp)(e:Int)(l:AE):=L3 l (A9 (e+1))
def L3(L2:jp)(a:AE)(b c:Int)(L3:jp)(d:AE)(e:Int):=if decide (e<(a.d7.length:Int))then(gt d.d7 b).bind λt=>(gt t e).bind λu=>if u then(gt d.d7 c).bind λj=>(gt j e).bind λv=>J1 L3 e (AE.mk d.w d.ef d.ep (d.d7.set c.toNat (j.set e.toNat true)))
else
J1 L3 e d
else
J2 L2 c d
def Fw(L2:jp)(a:AE)(b c:Int):Nat->AE->Int->ABm AE
|0,_,_=>none
|n+1,d,e=>L3 L2 a b c (Fw L2 a b c n) d e
def L2(L1:jp)(a:AE)(b:Int)(L2:jp)(f:AE)(c:Int):=if decide (c<(a.d7.length:Int))then(gt f.d7 c).bind λq=>(gt q b).bind λs=>if !s then
J2 L2 c f
else
Fw L2 a b c BQ f 0
else
J3 L1 b f
def B9(L1:jp)(a:AE)(b:Int):Nat->AE->Int->ABm AE
|0,_,_=>none
|n+1,f,c=>L2 L1 a b (B9 L1 a b n) f c
def L1(a:AE)(L1:jp)(i:AE)(b:Int):=if decide (b<(a.d7.length:Int))then
B9 L1 a b BQ i 0
else
some i
def AU(a:AE):Nat->AE->Int->ABm AE
|0,_,_=>none
|n+1,i,b=>L1 a (AU a n) i b
end Au
section
open Au
def Au(a:AE):=AU a BQ a 0
theorem PN{a r:AE}(h:Au a=some r):BF prog 129 [bA 18 (Bf a)] (.Bp []) [bA 18 (Bf r)]:=by refine kL mix func129 (hn [(0,[6,7,8,9,19,20,21,22,24,25,27,34,35,36,37,39,40,42,44,45,46,47,49,50,52])]) ?_;have l1:=iJ λn c=>∃i b,(c 0=bA 18 (Bf i)/\c 2=si (a.d7.length:Int)/\c 11=si (a.d7.length:Int)/\c 12=si b)/\AU a n i b=some r;have l2:=iy λd _ _ _ n e=>∃b f c,(e 0=bA 18 (Bf f)/\e 2=si (a.d7.length:Int)/\e 3=si b/\e 11=si (a.d7.length:Int)/\e 12=si b/\e 15=si (a.d7.length:Int)/\e 16=si c)/\B9 (AU a d) a b n f c=some r;have l3:=iy λf g _ _ n h=>∃b c d e,(h 0=bA 18 (Bf d)/\h 2=si (a.d7.length:Int)/\h 3=si b/\h 4=si c/\h 11=si (a.d7.length:Int)/\h 12=si b/\h 15=si (a.d7.length:Int)/\h 16=si c/\h 30=si (a.d7.length:Int)/\h 31=si e)/\Fw (B9 (AU a f) a b g) a b c n d e=some r;unfold Au at h;exact walk
end
namespace C6
def J4(q:je):ABm (List (List Int)):=some q
def J3(L1:jy)(b:Int)(p:je):=L1 p (A9 (b+1))
def J2(L2:jy)(e:Int)(o:je):=L2 o (A9 (e+1))
def J1(L2:jy)(a:jo)(f:je)(b e:Int)(s:Bool):=if s then(gt f b).bind λj=>(gt a e).bind λl=>(gt j l.cT).bind λv=>J2 L2 e (f.set b.toNat (j.set l.cT.toNat (A9 (v+1))))
else
J2 L2 e f
def L2(L1:jy)(a:jo)(c:jb)(b:Int)(L2:jy)(f:je)(e:Int):=if decide (e<(a.length:Int))then
if e==b then
J1 L2 a f b e true
else(gt c e).bind λt=>(gt t b).bind λu=>J1 L2 a f b e u
else
J3 L1 b f
def B9(L1:jy)(a:jo)(c:jb)(b:Int):Nat->(List (List Int))->Int->ABm (List (List Int))
|0,_,_=>none
|n+1,f,e=>L2 L1 a c b (B9 L1 a c b n) f e
def L1(a:jo)(c:jb)(d:Int)(L1:jy)(i:je)(b:Int):=if decide (b<(a.length:Int))then
if 0<=d/\d<=d/\Aq d.toNat 8=true then(gt i b).bind λw=>B9 L1 a c b BQ (i.set b.toNat (List.replicate d.toNat (0:Int))) 0
else none
else
J4 i
def AU(a:jo)(c:jb)(d:Int):Nat->(List (List Int))->Int->ABm (List (List Int))
|0,_,_=>none
|n+1,i,b=>L1 a c d (AU a c d n) i b
end C6
section
open C6
def C6(a:jo)(c:jb)(d:Int):=if 0<=(a.length:Int)/\(a.length:Int)<=(a.length:Int)/\Aq a.length 24=true then
AU a c d BQ (List.replicate a.length ([]:List Int)) 0
else none
theorem P4{a:jo}{c:jb}{d:Int}{r:je}(h:C6 a c d=some r):Says prog 38 [vS 7 Am a,vS 1 eLB c,si d] (vO 1 KS r):=by refine kO mix func38 (hn [(7,[18,22,40,42,43,49,52,55])]) ?_;have l1:=iJ λn e=>∃i b,(e 0=vS 7 Am a/\e 1=vS 1 eLB c/\e 2=si d/\e 7=vO 1 KS i/\e 14=si (a.length:Int)/\e 15=si b)/\AU a c d n i b=some r;have l2:=iy λg _ _ _ n h=>∃b f e,(h 0=vS 7 Am a/\h 1=vS 1 eLB c/\h 2=si d/\h 7=vO 1 KS f/\h 8=si b/\h 14=si (a.length:Int)/\h 15=si b/\h 24=si (a.length:Int)/\h 25=si e)/\B9 (AU a c d g) a c b n f e=some r;unfold C6 at h;exact walk
end
end Go.Abs
