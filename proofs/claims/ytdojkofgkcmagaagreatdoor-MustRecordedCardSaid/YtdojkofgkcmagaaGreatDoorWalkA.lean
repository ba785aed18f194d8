/- Go functions do what typed programs say. -/
import Derived.Test.YtdojkofgkcmagaaGreatDoorBaseA
import Derived.Shelf.Slices.SearchI
set_option linter.all false
namespace Go.Abs
open Go.Proofs Tryz
set_option maxRecDepth 1000000
set_option maxHeartbeats 4000000
namespace Bv
def J6(a:AG)(q:jt):ABi ((List ABj)×Bool):=if Ap (q.length+a.AL.length) 16=true then
if Ap ((q++a.AL).length+a.AA.length) 16=true then
some ((q++a.AL)++a.AA,true)
else none
else none
def L4(a:AG)(L4:jq)(l:jt)(i:Int):=if decide (i<(a.Al.length:Int))then(gt a.Al i).bind λw=>if Ap (l.length+1) 16=true then
L4 (l++[w.dv]) (A8 (i+1))
else none
else
J6 a l
def tF(a:AG):Nat->(List ABj)->Int->ABi ((List ABj)×Bool)
|0,_,_=>none
|n+1,l,i=>L4 a (tF a n) l i
def J5(a:AG)(t:jt):ABi ((List ABj)×Bool):=tF a BQ t 0
def L3(a:AG)(L3:jq)(j:jt)(f:Int):=if decide (f<(a.AK.length:Int))then(gt a.AK f).bind λv=>if Ap (j.length+1) 16=true then
L3 (j++[v.dv]) (A8 (f+1))
else none
else
J5 a j
def E3(a:AG):Nat->(List ABj)->Int->ABi ((List ABj)×Bool)
|0,_,_=>none
|n+1,j,f=>L3 a (E3 a n) j f
def J4(a:AG)(s:jt):=E3 a BQ s 0
def J3(L1:jq)(c:Int)(d:jt)(b:ED):=L1 (d++[b.dv]) (A8 (c+b.CM))
def J2(L2:Int->ABi ((List ABj)×Bool))(e:Int)(u:Bool):=if u then
some ([],false)
else
L2 (A8 (e+1))
def L2(L1:jq)(c:Int)(d:jt)(a:AG)(b:ED)(L2:Int->ABi ((List ABj)×Bool))(e:Int):=if decide (e<b.CM)then(gt a.di (A8 (c+e))).bind λo=>if o.d8 != e then
J2 L2 e true
else
if !(o.dv.toList==b.dv.toList)then
J2 L2 e true
else
if o.CM != b.CM then
J2 L2 e true
else
if o.dg != b.dg then
J2 L2 e true
else
J2 L2 e o.II
else
J3 L1 c d b
def Bs(L1:jq)(c:Int)(d:jt)(a:AG)(b:ED):Nat->Int->ABi ((List ABj)×Bool)
|0,_=>none
|n+1,e=>L2 L1 c d a b (Bs L1 c d a b n) e
def J1(L1:jq)(c:Int)(d:jt)(a:AG)(b:ED)(p:Bool):=if p then
some ([],false)
else
Bs L1 c d a b BQ 0
def L1(a:AG)(L1:jq)(d:jt)(c:Int):=if decide (c<(a.di.length:Int))then(gt a.di c).bind λb=>if Ap (d.length+1) 16=true then
if b.CM==0 then
if b.d8 != 0 then
some ([],false)
else
L1 (d++[b.dv]) (A8 (c+1))
else
if decide (b.CM<1)then
J1 L1 c d a b true
else
if decide (b.CM>4)then
J1 L1 c d a b true
else
J1 L1 c d a b (decide (b.CM>(A8 ((a.di.length:Int)-c))))
else none
else
J4 a d
def AR(a:AG):Nat->(List ABj)->Int->ABi ((List ABj)×Bool)
|0,_,_=>none
|n+1,d,c=>L1 a (AR a n) d c
end Bv
section
open Bv
def Bv(a:AG):=AR a BQ [] 0
def bX{a:AG}{r:nd}(h:Bv a=some r):Says prog 97 [.agg (A5 a)] (.Bo [vO 1 eS r.1,sb r.2]):=by refine kO mix func97 (hn [(1,[12,16,45,58,99,106,115,122,131,135]),(4,[21,105,121,130,134]),(6,[22,26,29,34,38,43,53,72,79,86,95]),(8,[65,70,77,84,91])] [(15,1)]) ?_;have l4:=i4 λn b=>∃l i,(b 1=bA 6 (A5 a)/\b 4=vO 1 eS l/\b 10=si i)/\tF a n l i=some r;have l3:=i4 λn b=>∃j f,(b 1=bA 6 (A5 a)/\b 4=vO 1 eS j/\b 9=si f)/\E3 a n j f=some r;have l1:=i4 λn b=>∃d c,(b 1=bA 6 (A5 a)/\b 4=vO 1 eS d/\b 5=si c)/\AR a n d c=some r;have l2:=iy λf _ _ _ n g=>∃(c:Int)(d:jt)(b:ED)(e:Int),(g 1=bA 6 (A5 a)/\g 4=.own false 1 ((d++[b.dv]).map eS)/\g 5=si c/\g 6=bA 5 (Hp b)/\g 7=si e)/\Bs (AR a f) c d a b n e=some r;have c1:=iz 1 λe _ _ _ f=>∃(c:Int)(d:jt)(b:ED)(p:Bool),(f 1=bA 6 (A5 a)/\f 4=.own false 1 ((d++[b.dv]).map eS)/\f 5=si c/\f 6=bA 5 (Hp b)/\f 51=sb p)/\J1 (AR a e) c d a b p=some r;unfold Bv at h;exact walk
end
namespace Ah
def J7:=some true
def J6(L1:ja)(c:Int):=L1 (A8 (c+1))
def J5(L2:ka)(i l:Int)(s:Bool):=if s then
some false
else
L2 l (A8 (i+1))
def L2(L1:ja)(a:AH)(f:i6)(b:AD)(c:Int)(L2:ka)(j i:Int):=if decide (i<(f.length:Int))then(gt f i).bind λl=>if decide (l<=j)then
J5 L2 i l true
else(gt b.dh a.db).bind λv=>J5 L2 i l (decide (l>=v))
else
J6 L1 c
def Bs(L1:ja)(a:AH)(f:i6)(b:AD)(c:Int):Nat->Int->Int->ABi Bool
|0,_,_=>none
|n+1,j,i=>L2 L1 a f b c (Bs L1 a f b c n) j i
def J4(L1:ja)(a:AH)(f:i6)(b:AD)(c:Int)(q:Bool):=if q then
some false
else
Bs L1 a f b c BQ 0 0
def J3(L1:ja)(d e:Bool)(a:AH)(b:AD)(c:Int)(f:i6):=if decide ((f.length:Int)>0)then
if c==0 then
J4 L1 a f b c (!d)
else
if c==1 then
J4 L1 a f b c (!e)
else
none
else
J4 L1 a f b c false
def L1(d e:Bool)(a:AH)(b:AD)(L1:ja)(c:Int):=if decide (c<2)then
if c==0 then
J3 L1 d e a b c a.Dy
else
if c==1 then
J3 L1 d e a b c a.DS
else
none
else
J7
def AR(d e:Bool)(a:AH)(b:AD):Nat->Int->ABi Bool
|0,_=>none
|n+1,c=>L1 d e a b (AR d e a b n) c
def J2(a:AH)(b:AD)(d e:Bool):=AR d e a b BQ 0
def J1(a:AH)(b:AD)(o:Bool):=if a.de==5 then
if a.de==4 then
J2 a b true true
else
J2 a b true (a.de==22)
else
if a.de==4 then
J2 a b o true
else
J2 a b o (a.de==22)
end Ah
section
open Ah
def Ah(p:AG)(b:AD)(a:AH):=if a.de==3 then(gt p.di a.dq).bind λt=>J1 a b (t.CM != 0)
else
if a.de==4 then(gt p.di a.dq).bind λu=>J1 a b (u.CM != 0)
else
J1 a b false
def Ol{p:AG}{b:AD}{a:AH}{r:Bool}(h:Ah p b a=some r):Says prog 148 [.agg (A5 p),.agg (Bi b),.agg (Aw a)] (sb r):=by refine kO mix func148 (hn [(3,[23]),(4,[76]),(5,[14,18,25,32,38,42,47,49,78]),(8,[61])] [(1,1),(2,2),(8,3),(10,4)]) ?_;have l1:=i4 λn f=>∃d e c,(f 4=bA 7 (Bi b)/\f 5=bA 7 (Aw a)/\f 8=bA 2 [sb d,sb e]/\f 51=.agg [vS 1 eI a.Dy,vS 1 eI a.DS]/\f 52=si c)/\AR d e a b n c=some r;have l2:=iy λg _ _ _ n h=>∃(d e:Bool)(f:i6)(c j i:Int),(h 4=bA 7 (Bi b)/\h 5=bA 7 (Aw a)/\h 8=bA 2 [sb d,sb e]/\h 11=si j/\h 51=.agg [vS 1 eI a.Dy,vS 1 eI a.DS]/\h 52=si c/\h 65=vS 1 eI f/\h 66=si (f.length:Int)/\h 67=si i)/\Bs (AR d e a b g) a f b c n j i=some r;have c4:=iz 4 λg _ _ _ h=>∃d e f c q,(h 4=bA 7 (Bi b)/\h 5=bA 7 (Aw a)/\h 8=bA 2 [sb d,sb e]/\h 10=vS 1 eI f/\h 51=.agg [vS 1 eI a.Dy,vS 1 eI a.DS]/\h 52=si c/\h 64=sb q)/\J4 (AR d e a b g) a f b c q=some r;have c3:=iz 3 λg _ _ _ h=>∃d e c f,(h 4=bA 7 (Bi b)/\h 5=bA 7 (Aw a)/\h 8=bA 2 [sb d,sb e]/\h 9=si c/\h 10=vS 1 eI f/\h 51=.agg [vS 1 eI a.Dy,vS 1 eI a.DS]/\h 52=si c)/\J3 (AR d e a b g) d e a b c f=some r;have c2:=i5 2 λc=>∃d e,(c 4=bA 7 (Bi b)/\c 5=bA 7 (Aw a)/\c 8=bA 2 [sb d,sb e])/\J2 a b d e=some r;have c1:=i5 1 λc=>∃o,(c 4=bA 7 (Bi b)/\c 5=bA 7 (Aw a)/\c 7=sb o)/\J1 a b o=some r;unfold Ah at h;exact walk
end
namespace Au
def J5(L1:jr)(a:Int)(q:AF):=L1 q (A8 (a+1))
def J4(L1:jr)(b:Int)(c:AF)(a:Int)(l:Bool):=if l then(gt c.d9 a).bind λp=>(gt p b).bind λs=>J5 L1 a (AF.mk c.w c.ej c.ew (c.d9.set a.toNat (p.set b.toNat true)))
else
J5 L1 a c
def J3(L1:jr)(d:AH)(b:Int)(c:AF)(a:Int)(e:AH)(o:Bool):=if o then
J4 L1 b c a o
else
if d.de==23 then
if e.de==22 then
J4 L1 b c a (e.dq==d.dq)
else
J4 L1 b c a false
else
J4 L1 b c a false
def J2(L1:jr)(d:AH)(b:Int)(c:AF)(a:Int)(e:AH)(j:Bool):=if j then
J4 L1 b c a j
else
if d.de==21 then
if e.de==2 then
J3 L1 d b c a e (e.db==d.dq)
else
J3 L1 d b c a e false
else
J3 L1 d b c a e false
def J1(L1:jr)(d:AH)(b:Int)(c:AF)(a:Int)(e:AH)(i:Bool):=if i then
J4 L1 b c a i
else
if d.de==1 then
if e.de==20 then
J2 L1 d b c a e (e.dq==d.db)
else
J2 L1 d b c a e false
else
J2 L1 d b c a e false
def L1(d:AH)(b:Int)(f:AF)(L1:jr)(c:AF)(a:Int):=if decide (a<(f.w.AB.length:Int))then(gt f.w.AB a).bind λe=>if e.db==d.db then
J1 L1 d b c a e (decide (a<b))
else
J1 L1 d b c a e false
else
some c
def AR(d:AH)(b:Int)(f:AF):Nat->AF->Int->ABi AF
|0,_,_=>none
|n+1,c,a=>L1 d b f (AR d b f n) c a
end Au
section
open Au
def Au(f:AF)(b:Int)(d:AH):=AR d b f BQ f 0
def Oc{f:AF}{b:Int}{d:AH}{r:AF}(h:Au f b d=some r):BM prog 125 [bA 18 (Bw f),si b,.agg (Aw d)] (.Bo []) [bA 18 (Bw r),.dead,.dead]:=by refine kL mix func125 (hn [(0,[8,9,10,11,12,17,18,75,76,77,78,80,81,83]),(5,[22,30,41,45,56,60,71]),(7,[20,34,39,49,54,64,69])] [(6,4),(7,1),(8,2)]) ?_;have l1:=i4 λn e=>∃c a,(e 0=bA 18 (Bw c)/\e 1=si b/\e 5=bA 7 (Aw d)/\e 12=vS 7 Aw f.w.AB/\e 13=si (f.w.AB.length:Int)/\e 14=si a)/\AR d b f n c a=some r;have c4:=iz 4 λe _ _ _ g=>∃c a l,(g 0=bA 18 (Bw c)/\g 1=si b/\g 5=bA 7 (Aw d)/\g 6=si a/\g 12=vS 7 Aw f.w.AB/\g 13=si (f.w.AB.length:Int)/\g 14=si a/\g 19=sb l)/\J4 (AR d b f e) b c a l=some r;have c2:=iz 2 λg _ _ _ h=>∃c a e j,(h 0=bA 18 (Bw c)/\h 1=si b/\h 5=bA 7 (Aw d)/\h 6=si a/\h 7=bA 7 (Aw e)/\h 12=vS 7 Aw f.w.AB/\h 13=si (f.w.AB.length:Int)/\h 14=si a/\h 19=sb j)/\J2 (AR d b f g) d b c a e j=some r;have c1:=iz 1 λg _ _ _ h=>∃c a e i,(h 0=bA 18 (Bw c)/\h 1=si b/\h 5=bA 7 (Aw d)/\h 6=si a/\h 7=bA 7 (Aw e)/\h 12=vS 7 Aw f.w.AB/\h 13=si (f.w.AB.length:Int)/\h 14=si a/\h 19=sb i)/\J1 (AR d b f g) d b c a e i=some r;unfold Au at h;exact walk
end
namespace Ai
def J7(c:Int)(a:AF)(o:i6):ABi AF:=if(o.length:Int)==1 then(gt o 0).bind λq=>(gt a.d9 q).bind λs=>(gt s c).bind λac=>some (AF.mk a.w a.ej a.ew (a.d9.set q.toNat (s.set c.toNat true)))
else
some a
def J6(L2:lv)(d:Int)(t:i6):=L2 t (A8 (d+1))
def J5(L2:lv)(e:i6)(d:Int)(w:Bool):=if w then
if Ap (e.length+1) 8=true then
J6 L2 d (e++[d])
else none
else
J6 L2 d e
def J4(L2:lv)(b:AH)(e:i6)(d:Int)(l:AH)(u:Bool):=if u then
if l.dq==b.dq then
J5 L2 e d (l.db != b.db)
else
J5 L2 e d false
else
J5 L2 e d false
def L2(b:AH)(c:Int)(a:AF)(L2:lv)(e:i6)(d:Int):=if decide (d<(a.w.AB.length:Int))then(gt a.w.AB d).bind λl=>if l.de==18 then
J4 L2 b e d l true
else
J4 L2 b e d l (l.de==19)
else
J7 c a e
def Bs(b:AH)(c:Int)(a:AF):Nat->(List Int)->Int->ABi AF
|0,_,_=>none
|n+1,e,d=>L2 b c a (Bs b c a n) e d
def J3(b:AH)(c:Int)(a:AF)(y:Bool):=if !y then
some a
else
Bs b c a BQ [] 0
def J2(L1:Bool->Int->ABi AF)(f:Int)(x:Bool):=L1 x (A8 (f+1))
def J1(L1:Bool->Int->ABi AF)(f:Int)(i v:Bool):=if v then
J2 L1 f true
else
J2 L1 f i
def L1(b:AH)(c:Int)(a:AF)(j:i6)(L1:Bool->Int->ABi AF)(i:Bool)(f:Int):=if decide (f<(j.length:Int))then(gt a.ej b.db).bind λaa=>(gt aa f).bind λp=>if decide (p<c)then(gt a.w.AB p).bind λab=>J1 L1 f i (ab.de==16)
else
J1 L1 f i false
else
J3 b c a i
def AR(b:AH)(c:Int)(a:AF)(j:i6):Nat->Bool->Int->ABi AF
|0,_,_=>none
|n+1,i,f=>L1 b c a j (AR b c a j n) i f
end Ai
section
open Ai
def Ai(a:AF)(c:Int)(b:AH):=if b.de != 17 then
some a
else(gt a.w.dg.df.AA b.db).bind λz=>(gt a.ej b.db).bind λj=>AR b c a j BQ (z.dm==3) 0
def Nj{a:AF}{c:Int}{b:AH}{r:AF}(h:Ai a c b=some r):BM prog 127 [bA 18 (Bw a),si c,.agg (Aw b)] (.Bo []) [bA 18 (Bw r),.dead,.dead]:=by refine kL mix func127 (hn [(0,[16,17,18,19,20,21,22,25,26,29,30,31,32,35,36,40,46,47,48,49,50,52,53,60,61,62,63,64,69,70,102,103,104,105,109,110,112]),(5,[13,23,33,83,90]),(9,[94,99,106,107]),(11,[71,75,81,88])]) ?_;have l2:=i4 λn f=>∃e d,(f 0=bA 18 (Bw a)/\f 1=si c/\f 5=bA 7 (Aw b)/\f 9=vO 1 eI e/\f 64=vS 7 Aw a.w.AB/\f 65=si (a.w.AB.length:Int)/\f 66=si d)/\Bs b c a n e d=some r;have l1:=i4 λn d=>∃(j:i6)(i:Bool)(f:Int),(d 0=bA 18 (Bw a)/\d 1=si c/\d 5=bA 7 (Aw b)/\d 6=sb i/\d 36=.al 0 [(0,15,18),(b.db.toNat,0,1)]/\d 37=si (j.length:Int)/\d 38=si f)/\AR b c a j n i f=some r;unfold Ai at h;exact walk
end
namespace BN
def J7(q:i6):ABi (List Int):=some q
def J6(L1:jg)(d:Int)(p:i6):=L1 p (A8 (d+1))
def J5(L1:jg)(e:i6)(d:Int)(s:Bool):=if s then
if Ap (e.length+1) 8=true then
J6 L1 d (e++[d])
else none
else
J6 L1 d e
def J4(L1:jg)(e:i6)(b d:Int)(a i:AH)(o:Bool):=if o then
J6 L1 d e
else
if i.db != a.db then
J5 L1 e d true
else
J5 L1 e d (decide (d<b))
def L1(b f:Int)(c:AE)(a:AH)(L1:jg)(e:i6)(d:Int):=if decide (d<(c.AB.length:Int))then(gt c.AB d).bind λi=>if i.de != f then
J4 L1 e b d a i true
else
if i.dq != a.dq then
J4 L1 e b d a i true
else
J4 L1 e b d a i (i.dn != a.dn)
else
J7 e
def AR(b f:Int)(c:AE)(a:AH):Nat->(List Int)->Int->ABi (List Int)
|0,_,_=>none
|n+1,e,d=>L1 b f c a (AR b f c a n) e d
def J3(b:Int)(c:AE)(a:AH)(j:i6)(f:Int):=AR b f c a BQ j 0
def J2(b:Int)(c:AE)(a:AH)(t:Bool):=if t then
J3 b c a [(-1)] 22
else
J3 b c a [] 22
def J1(b:Int)(c:AE)(l:Bool):=if l then
some []
else(gt c.AB b).bind λa=>if a.de==3 then(gt c.dg.di a.dq).bind λu=>if u==a.dn then
J3 b c a [(-1)] 4
else
J3 b c a [] 4
else
if a.de==23 then(gt c.dg.df.Br a.dq).bind λv=>if v then(gt c.dg.AL a.dq).bind λw=>J2 b c a (w==a.dn)
else
J2 b c a false
else
some []
end BN
section
open BN
def BN(c:AE)(b:Int):=if decide (b<0)then
J1 b c true
else
J1 b c (decide (b>=(c.AB.length:Int)))
def NM{c:AE}{b:Int}{r:i6}(h:BN c b=some r):Says prog 77 [.agg (Av c),si b] (vO 1 eI r):=by refine kO mix func77 (hn [(2,[14,19,28,29,43,44,45,52,53,66]),(5,[24,31,35,47,55,59,81,88,94]),(6,[38,63,102,107]),(9,[74,79,86,92])] [(2,1),(7,3),(22,4)]) ?_;have:=(by decide:Ap 1 8);have l1:=i4 λn g=>∃f a e d,(g 1=si b/\g 5=bA 7 (Aw a)/\g 6=vO 1 eI e/\g 7=si f/\g 67=vS 7 Aw c.AB/\g 68=si (c.AB.length:Int)/\g 69=si d)/\AR b f c a n e d=some r;have c4:=iz 4 λg _ _ _ h=>∃f a e d i o,(h 1=si b/\h 5=bA 7 (Aw a)/\h 6=vO 1 eI e/\h 7=si f/\h 8=si d/\h 9=bA 7 (Aw i)/\h 67=vS 7 Aw c.AB/\h 68=si (c.AB.length:Int)/\h 69=si d/\h 91=sb o)/\J4 (AR b f c a g) e b d a i o=some r;have c3:=i5 3 λd=>∃a j f,(d 1=si b/\d 2=bA 15 (Av c)/\d 5=bA 7 (Aw a)/\d 6=vO 1 eI j/\d 7=si f)/\J3 b c a j f=some r;have c1:=i5 1 λa=>∃l,(a 1=si b/\a 2=bA 15 (Av c)/\a 18=sb l)/\J1 b c l=some r;unfold BN at h;exact walk
end
namespace BR
def OS(a:AH):ABi Bool:=some (a.dn==0)
def J1(q:Bool):ABi Bool:=some q
def J6(s:Bool):ABi Bool:=some s
def J5(a:AH)(v:Int)(z:Bool):=if z then
J6 true
else
if v==0 then
J6 (a.dn==(-1))
else
J6 false
def J4(L1:lq)(c u:Int)(y:Bool):=L1 u y (A8 (c+1))
def J3(L1:lq)(a:AH)(c e:Int)(i t:Bool):=if t then
if i then
J4 L1 c (A8 (e+1)) true
else
J4 L1 c (A8 (e+1)) (a.dn==c)
else
J4 L1 c e i
def L1(a:AH)(b:AD)(L1:lq)(e:Int)(i:Bool)(c:Int):=if decide (c<(b.df.AA.length:Int))then(gt b.df.AA c).bind λl=>if l.dm==3 then
J3 L1 a c e i (l.D7==a.dq)
else
J3 L1 a c e i false
else
J5 a e i
def AR(a:AH)(b:AD):Nat->Int->Bool->Int->ABi Bool
|0,_,_,_=>none
|n+1,e,i,c=>L1 a b (AR a b n) e i c
def J9(a:AH)(x:Int):ABi Bool:=some (a.dn==x)
def J8(L2:ka)(d w:Int):=L2 w (A8 (d+1))
def J7(L2:ka)(d f:Int)(p:Bool):=if p then
J8 L2 d (A8 (f+1))
else
J8 L2 d f
def L2(a:AH)(b:AD)(L2:ka)(f d:Int):=if decide (d<(b.df.AA.length:Int))then(gt b.df.AA d).bind λo=>if o.dm==3 then
J7 L2 d f (o.D7==a.dq)
else
J7 L2 d f false
else
J9 a f
def Bs(a:AH)(b:AD):Nat->Int->Int->ABi Bool
|0,_,_=>none
|n+1,f,d=>L2 a b (Bs a b n) f d
def J2(a:AH)(b:AD)(j:Bool):=if j then
some true
else
if a.de==18 then
AR a b BQ 0 false 0
else
if a.de==19 then
Bs a b BQ 0 0
else
OS a
end BR
section
open BR
def BR(b:AD)(a:AH):=if a.de==3 then(gt b.di a.dq).bind λaa=>some (a.dn==aa)
else
if a.de==23 then(gt b.AL a.dq).bind λab=>some (a.dn==ab)
else
if a.de==5 then
if a.dn==0 then
J1 true
else
J1 (a.dn==1)
else
if a.de==4 then
J2 a b (a.de==4)
else
J2 a b (a.de==22)
def Rz{b:AD}{a:AH}{r:Bool}(h:BR b a=some r):Says prog 149 [.agg (Bi b),.agg (Aw a)] (sb r):=by refine kO mix func149 (hn [(2,[18,29,51,52,92,93]),(3,[12,16,20,27,31,38,42,66,74,85,106,113,117]),(8,[60,64]),(11,[100,104])] [(9,2)]) ?_;have l1:=i4 λn d=>∃e i c,(d 3=bA 7 (Aw a)/\d 5=si e/\d 6=sb i/\d 53=vS 3 Ay b.df.AA/\d 54=si (b.df.AA.length:Int)/\d 55=si c)/\AR a b n e i c=some r;have l2:=i4 λn c=>∃f d,(c 3=bA 7 (Aw a)/\c 9=si f/\c 94=vS 3 Ay b.df.AA/\c 95=si (b.df.AA.length:Int)/\c 96=si d)/\Bs a b n f d=some r;have c2:=i5 2 λc=>∃j,(c 2=bA 7 (Bi b)/\c 3=bA 7 (Aw a)/\c 13=si a.de/\c 46=sb j)/\J2 a b j=some r;unfold BR at h;exact walk
end
namespace EA
def J2:og:=some (-1)
def J1(L1:l0)(a:Int)(f:Bool):=if f then
some a
else
L1 (A8 (a+1))
def L1(d:AE)(b:AH)(L1:l0)(a:Int):=if decide (a<(d.AB.length:Int))then(gt d.AB a).bind λc=>if b.de==1 then
if c.de==20 then
if c.dq==b.db then
J1 L1 a true
else
if b.de==21 then
if c.de==2 then
if c.db==b.dq then
J1 L1 a true
else
if b.de==23 then
if c.de==22 then
J1 L1 a (c.dq==b.dq)
else
J1 L1 a false
else
J1 L1 a false
else
if b.de==23 then
if c.de==22 then
J1 L1 a (c.dq==b.dq)
else
J1 L1 a false
else
J1 L1 a false
else
if b.de==23 then
if c.de==22 then
J1 L1 a (c.dq==b.dq)
else
J1 L1 a false
else
J1 L1 a false
else
if b.de==21 then
if c.de==2 then
if c.db==b.dq then
J1 L1 a true
else
if b.de==23 then
if c.de==22 then
J1 L1 a (c.dq==b.dq)
else
J1 L1 a false
else
J1 L1 a false
else
if b.de==23 then
if c.de==22 then
J1 L1 a (c.dq==b.dq)
else
J1 L1 a false
else
J1 L1 a false
else
if b.de==23 then
if c.de==22 then
J1 L1 a (c.dq==b.dq)
else
J1 L1 a false
else
J1 L1 a false
else
if b.de==21 then
if c.de==2 then
if c.db==b.dq then
J1 L1 a true
else
if b.de==23 then
if c.de==22 then
J1 L1 a (c.dq==b.dq)
else
J1 L1 a false
else
J1 L1 a false
else
if b.de==23 then
if c.de==22 then
J1 L1 a (c.dq==b.dq)
else
J1 L1 a false
else
J1 L1 a false
else
if b.de==23 then
if c.de==22 then
J1 L1 a (c.dq==b.dq)
else
J1 L1 a false
else
J1 L1 a false
else
J2
def AR(d:AE)(b:AH):Nat->Int->ABi Int
|0,_=>none
|n+1,a=>L1 d b (AR d b n) a
end EA
variable{b:AE}{f r:Int}
section
open EA
def EA(d:AE)(e:Int):=(gt d.AB e).bind λb=>AR d b BQ 0
theorem Yp(h:EA b f=some r):Says prog 70 [.agg (Av b),si f] (si r):=by refine kO mix func70 (hn [(2,[8,13]),(5,[21,32,37,48,54,65]),(7,[25,30,41,46,58,63])] [(8,1)]) ?_;have l1:=i4 λn c=>∃d a,(c 5=bA 7 (Aw d)/\c 14=vS 7 Aw b.AB/\c 15=si (b.AB.length:Int)/\c 16=si a)/\AR b d n a=some r;have c1:=iz 1 λc _ _ _ f=>∃d a e,(f 5=bA 7 (Aw d)/\f 6=si a/\f 14=vS 7 Aw b.AB/\f 15=si (b.AB.length:Int)/\f 16=si a/\f 69=sb e)/\J1 (AR b d c) a e=some r;unfold EA at h;exact walk
end
namespace Ad
def J3(l:jt):ABi ((List ABj)×Bool):=some (l,true)
def J2(L1:jq)(c:Int)(d:jt)(b o:ED):=L1 (d++[b.dv]) (A8 (c+o.CM))
def L2(L1:jq)(c:Int)(a:nk)(d:jt)(b:ED)(L2:ED->Int->ABi ((List ABj)×Bool))(e:ED)(f:Int):=if decide (f<b.CM)then(gt a (A8 (c+f))).bind λi=>if !(i.dv.toList==e.dv.toList&&(i.d8==f&&(i.CM==e.CM&&(i.II==e.II&&(i.dg==e.dg)))))then
some ([],false)
else
L2 (ED.mk e.dv f e.CM e.II e.dg) (A8 (f+1))
else
J2 L1 c d b e
def Bs(L1:jq)(c:Int)(a:nk)(d:jt)(b:ED):Nat->ED->Int->ABi ((List ABj)×Bool)
|0,_,_=>none
|n+1,e,f=>L2 L1 c a d b (Bs L1 c a d b n) e f
def J1(L1:jq)(c:Int)(a:nk)(d:jt)(b:ED)(j:Bool):=if j then
some ([],false)
else
Bs L1 c a d b BQ b 0
def L1(a:nk)(L1:jq)(d:jt)(c:Int):=if decide (c<(a.length:Int))then(gt a c).bind λb=>if Ap (d.length+1) 16=true then
if b.CM==0 then
if b.d8 != 0 then
some ([],false)
else
L1 (d++[b.dv]) (A8 (c+1))
else
if decide (b.CM<1)then
J1 L1 c a d b true
else
if decide (b.CM>4)then
J1 L1 c a d b true
else
if b.II then
J1 L1 c a d b true
else
J1 L1 c a d b (decide (b.CM>(A8 ((a.length:Int)-c))))
else none
else
J3 d
def AR(a:nk):Nat->(List ABj)->Int->ABi ((List ABj)×Bool)
|0,_,_=>none
|n+1,d,c=>L1 a (AR a n) d c
end Ad
section
open Ad
def Ad(a:nk):=AR a BQ [] 0
theorem Qe{a:nk}{r:nd}(h:Ad a=some r):Says prog 90 [vS 5 Hp a] (.Bo [vO 1 eS r.1,sb r.2]):=by refine kO mix func90 (hn [(4,[16,70]),(6,[17,21,24,29,33,38,42,50,56,67])] [(15,1)]) ?_;have l1:=i4 λn b=>∃d c,(b 0=vS 5 Hp a/\b 4=vO 1 eS d/\b 5=si c)/\AR a n d c=some r;have l2:=iy λg _ _ _ n h=>∃(c:Int)(d:jt)(b e:ED)(f:Int),(h 0=vS 5 Hp a/\h 4=.own false 1 ((d++[b.dv]).map eS)/\h 5=si c/\h 6=bA 5 (Hp e)/\h 51=si b.CM/\h 52=si f)/\Bs (AR a g) c a d b n e f=some r;have c1:=iz 1 λe _ _ _ f=>∃(c:Int)(d:jt)(b:ED)(j:Bool),(f 0=vS 5 Hp a/\f 4=.own false 1 ((d++[b.dv]).map eS)/\f 5=si c/\f 6=bA 5 (Hp b)/\f 49=sb j)/\J1 (AR a e) c a d b j=some r;unfold Ad at h;exact walk
end
namespace BX
def J6:=some true
def J5(L1:ja)(b:Int):=L1 (A8 (b+1))
def J4(L1:ja)(b:Int)(a:AE)(c:AM)(i:Bool):=if i then
some false
else(gt a.dc.Al c.D7).bind λl=>(gt a.dg.df.AK l.dr).bind λo=>if o.B6==b then
some false
else
J5 L1 b
def J3(L1:ja)(b:Int)(a:AE)(c:AM)(f:Bool):=if f then
if c.D7 != 0 then
some false
else
J5 L1 b
else
if decide (c.D7<0)then
J4 L1 b a c true
else
J4 L1 b a c (decide (c.D7>=(a.dc.Al.length:Int)))
def J2(L1:ja)(b:Int)(a:AE)(c:AM)(d:Bool):=(gt a.dg.dh b).bind λj=>if !((j==0)==d)then
some false
else
if c.dm != 3 then
J3 L1 b a c (c.dm != 4)
else
J3 L1 b a c false
def J1(L1:ja)(b:Int)(a:AE)(c:AM)(e:Bool):=if e then
some false
else
if c.dm==0 then
J2 L1 b a c true
else
J2 L1 b a c (c.dm==1)
def L1(a:AE)(L1:ja)(b:Int):=if decide (b<(a.dg.df.AA.length:Int))then(gt a.dg.df.AA b).bind λc=>if decide (c.dm<0)then
J1 L1 b a c true
else
if decide (c.dm>5)then
J1 L1 b a c true
else
if b==0 then
J1 L1 b a c (c.dm==0)
else
J1 L1 b a c false
else
J6
def AR(a:AE):Nat->Int->ABi Bool
|0,_=>none
|n+1,b=>L1 a (AR a n) b
end BX
section
open BX
def BX(a:AE):=AR a BQ 0
theorem QD{a:AE}{r:Bool}(h:BX a=some r):Says prog 46 [.agg (Av a)] (sb r):=by refine kO mix func46 (hn [(1,[6,7,8,41,42,67,68,73,74,75,77,78]),(4,[16,20,28,33,37,50,54,58,61,65,80])] [(8,1),(10,2),(15,3)]) ?_;have l1:=i4 λn c=>∃b,(c 1=bA 15 (Av a)/\c 9=vS 3 Ay a.dg.df.AA/\c 10=si (a.dg.df.AA.length:Int)/\c 11=si b)/\AR a n b=some r;have c3:=iz 3 λd _ _ _ e=>∃b c f,(e 1=bA 15 (Av a)/\e 3=si b/\e 4=bA 3 (Ay c)/\e 9=vS 3 Ay a.dg.df.AA/\e 10=si (a.dg.df.AA.length:Int)/\e 11=si b/\e 57=sb f)/\J3 (AR a d) b a c f=some r;have c2:=iz 2 λe _ _ _ f=>∃b c d,(f 1=bA 15 (Av a)/\f 3=si b/\f 4=bA 3 (Ay c)/\f 5=sb d/\f 9=vS 3 Ay a.dg.df.AA/\f 10=si (a.dg.df.AA.length:Int)/\f 11=si b)/\J2 (AR a e) b a c d=some r;have c1:=iz 1 λd _ _ _ f=>∃b c e,(f 1=bA 15 (Av a)/\f 3=si b/\f 4=bA 3 (Ay c)/\f 9=vS 3 Ay a.dg.df.AA/\f 10=si (a.dg.df.AA.length:Int)/\f 11=si b/\f 32=sb e)/\J1 (AR a d) b a c e=some r;unfold BX at h;exact walk
end
namespace Ax
def J3(L1:jr)(b:Int)(p:AF):=L1 p (A8 (b+1))
def J2(L2:jr)(c:Int)(o:AF):=L2 o (A8 (c+1))
def J1(L3:jr)(e:Int)(l:AF):=L3 l (A8 (e+1))
def L3(L2:jr)(a:AF)(b c:Int)(L3:jr)(d:AF)(e:Int):=if decide (e<(a.d9.length:Int))then(gt d.d9 b).bind λt=>(gt t e).bind λu=>if u then(gt d.d9 c).bind λj=>(gt j e).bind λv=>J1 L3 e (AF.mk d.w d.ej d.ew (d.d9.set c.toNat (j.set e.toNat true)))
else
J1 L3 e d
else
J2 L2 c d
def E3(L2:jr)(a:AF)(b c:Int):Nat->AF->Int->ABi AF
|0,_,_=>none
|n+1,d,e=>L3 L2 a b c (E3 L2 a b c n) d e
def L2(L1:jr)(a:AF)(b:Int)(L2:jr)(f:AF)(c:Int):=if decide (c<(a.d9.length:Int))then(gt f.d9 c).bind λq=>(gt q b).bind λs=>if !s then
J2 L2 c f
else
E3 L2 a b c BQ f 0
else
J3 L1 b f
def Bs(L1:jr)(a:AF)(b:Int):Nat->AF->Int->ABi AF
|0,_,_=>none
|n+1,f,c=>L2 L1 a b (Bs L1 a b n) f c
def L1(a:AF)(L1:jr)(i:AF)(b:Int):=if decide (b<(a.d9.length:Int))then
Bs L1 a b BQ i 0
else
some i
def AR(a:AF):Nat->AF->Int->ABi AF
|0,_,_=>none
|n+1,i,b=>L1 a (AR a n) i b
end Ax
section
open Ax
def Ax(a:AF):=AR a BQ a 0
theorem Pr{a r:AF}(h:Ax a=some r):BM prog 129 [bA 18 (Bw a)] (.Bo []) [bA 18 (Bw r)]:=by refine kL mix func129 (hn [(0,[6,7,8,9,19,20,21,22,24,25,27,34,35,36,37,39,40,42,44,45,46,47,49,50,52])]) ?_;have l1:=i4 λn c=>∃i b,(c 0=bA 18 (Bw i)/\c 2=si (a.d9.length:Int)/\c 11=si (a.d9.length:Int)/\c 12=si b)/\AR a n i b=some r;have l2:=iy λd _ _ _ n e=>∃b f c,(e 0=bA 18 (Bw f)/\e 2=si (a.d9.length:Int)/\e 3=si b/\e 11=si (a.d9.length:Int)/\e 12=si b/\e 15=si (a.d9.length:Int)/\e 16=si c)/\Bs (AR a d) a b n f c=some r;have l3:=iy λf g _ _ n h=>∃b c d e,(h 0=bA 18 (Bw d)/\h 2=si (a.d9.length:Int)/\h 3=si b/\h 4=si c/\h 11=si (a.d9.length:Int)/\h 12=si b/\h 15=si (a.d9.length:Int)/\h 16=si c/\h 30=si (a.d9.length:Int)/\h 31=si e)/\E3 (Bs (AR a f) a b g) a b c n d e=some r;unfold Ax at h;exact walk
end
namespace Da
def J1(q:nl)(p:Int):ABi ((List Eb)×Int):=some (q,p)
def L1(R100:ku)(b:kf)(a:Int)(L1:(List Eb)->Int->Int->ABi ((List Eb)×Int))(e:nl)(d c:Int):=if decide (c<(b.length:Int))then(gt b c).bind λj=>if Ap (e.length+1) 24=true then(R100 (e++[(Eb.mk a d j.Gd)]) a (A8 (d+1)) j.dz).bind λl=>(R100 l.1 a l.2 j.ed).bind λo=>L1 o.1 o.2 (A8 (c+1))
else none
else
J1 e d
def AR(R100:ku)(b:kf)(a:Int):Nat->(List Eb)->Int->Int->ABi ((List Eb)×Int)
|0,_,_,_=>none
|n+1,e,d,c=>L1 R100 b a (AR R100 b a n) e d c
end Da
variable{d:ku}{a:nl}{c:kf}
section
open Da
def Da(R100:ku)(i:nl)(a f:Int)(b:kf):=AR R100 b a BQ i f 0
theorem bY(H100:∀{x0 x1 x2 x3 i},d x0 x1 x2 x3=some i->Says prog 221 [vO 3 G9 x0,si x1,si x2,vS 11 BV x3] (.Bo [vO 3 G9 i.1,si i.2])){i:(List Eb)×Int}(h:Da d a r f c=some i):Says prog 221 [vO 3 G9 a,si r,si f,vS 11 BV c] (.Bo [vO 3 G9 i.1,si i.2]):=by refine kO mix func221 (hn [(0,[17,31,43,54]),(2,[19,28,33,45,55]),(39,[30,40,41]),(51,[42,52,53])]) ?_;have a1:=@H100;have l1:=i4 λn f=>∃e R100 b,(f 0=vO 3 G9 e/\f 1=si r/\f 2=si R100/\f 3=vS 11 BV c/\f 10=si b)/\AR d c r n e R100 b=some i;unfold Da at h;exact walk
end
def Vv:Nat->((List Eb)->Int->Int->(List AU)->ABi ((List Eb)×Int))
|0=>(λ_ _ _ _=>none)
|n+1=>Da ((Vv n))
def HZ(n:Nat):(List Eb)->Int->Int->(List AU)->ABi ((List Eb)×Int):=(Vv n)
theorem Yh(n:Nat):(∀{x0 x1 x2 x3 r},(HZ n) x0 x1 x2 x3=some r->Says prog 221 [vO 3 G9 x0,si x1,si x2,vS 11 BV x3] (.Bo [vO 3 G9 r.1,si r.2])):=by induction n with|zero=>exactλh=>DT h|succ n ih=>exactλh=>bY ih h
def Yi{n:Nat}:∀{x0 x1 x2 x3 r},(HZ n) x0 x1 x2 x3=some r->Says prog 221 [vO 3 G9 x0,si x1,si x2,vS 11 BV x3] (.Bo [vO 3 G9 r.1,si r.2]):=(Yh n)
namespace Oi
def J2(j:i6):ABi (List Int):=some j
def L2(a:jl)(L2:jg)(b:i6)(e:Int):=if decide (e<(a.length:Int))then(gt a e).bind λi=>if Ap (b.length+i.length) 8=true then
L2 (b++i) (A8 (e+1))
else none
else
J2 b
def Bs(a:jl):Nat->(List Int)->Int->ABi (List Int)
|0,_,_=>none
|n+1,b,e=>L2 a (Bs a n) b e
def J1(a:jl)(l:Int):=(sQ l).bind λo=>Bs a BQ o 0
def L1(a:jl)(L1:Int->Int->ABi (List Int))(c d:Int):=if decide (d<(a.length:Int))then(gt a d).bind λf=>if decide ((A8 (c+(f.length:Int)))<0)then
none
else
L1 (A8 (c+(f.length:Int))) (A8 (d+1))
else
J1 a c
def AR(a:jl):Nat->Int->Int->ABi (List Int)
|0,_,_=>none
|n+1,c,d=>L1 a (AR a n) c d
end Oi
section
open Oi
def Oi(a:jl):=AR a BQ 0 0
end
namespace DO
def J4(t:i6):ABi (List Int):=some t
def J3(L1:jg)(c:Int)(s:i6):=L1 s (A8 (c+1))
def J2(L2:mg)(e:Int)(q:i6)(o:Int):=L2 q o (A8 (e+1))
def J1(L2:mg)(f e:Int)(p:i6):=J2 L2 e p (A8 (f+1))
def L2(L1:jg)(c b:Int)(a:AE)(j:Int)(L2:mg)(i:i6)(f e:Int):=if decide (e<(a.AB.length:Int))then(gt a.AB e).bind λv=>if v.db != b then
J2 L2 e i f
else
if f==j then
if Ap (i.length+1) 8=true then
J1 L2 f e (i++[e])
else none
else
J1 L2 f e i
else
J3 L1 c i
def Bs(L1:jg)(c b:Int)(a:AE)(j:Int):Nat->(List Int)->Int->Int->ABi (List Int)
|0,_,_,_=>none
|n+1,i,f,e=>L2 L1 c b a j (Bs L1 c b a j n) i f e
def L1(d:i6)(b:Int)(a:AE)(L1:jg)(l:i6)(c:Int):=if decide (c<(d.length:Int))then(gt d c).bind λj=>(gt a.dg.dh b).bind λu=>Bs L1 c b a j BQ l u 0
else
J4 l
def AR(d:i6)(b:Int)(a:AE):Nat->(List Int)->Int->ABi (List Int)
|0,_,_=>none
|n+1,l,c=>L1 d b a (AR d b a n) l c
end DO
section
open DO
def DO(a:AE)(b:Int)(d:i6):=AR d b a BQ [] 0
theorem Yn{a:AE}{b:Int}{d r:i6}(h:DO a b d=some r):Says prog 122 [.agg (Av a),si b,vS 1 eI d] (vO 1 eI r):=by refine kO mix func122 (hn [(3,[19,20,25]),(7,[40,48]),(12,[33])]) ?_;have l1:=i4 λn e=>∃l c,(e 1=si b/\e 3=bA 15 (Av a)/\e 7=vO 1 eI l/\e 13=vS 1 eI d/\e 14=si (d.length:Int)/\e 15=si c)/\AR d b a n l c=some r;have l2:=iy λg _ _ _ n h=>∃c j i f e,(h 1=si b/\h 3=bA 15 (Av a)/\h 7=vO 1 eI i/\h 9=si j/\h 10=si f/\h 13=vS 1 eI d/\h 14=si (d.length:Int)/\h 15=si c/\h 26=vS 7 Aw a.AB/\h 27=si (a.AB.length:Int)/\h 28=si e)/\Bs (AR d b a g) c b a j n i f e=some r;unfold DO at h;exact walk
end
end Go.Abs
