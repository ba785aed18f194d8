/- Typed programs of Go functions, and that the functions do what these say. -/
import Derived.Test.YtdojkofgkcmagaaGreatDoorBaseA
set_option linter.defProp false
set_option linter.unusedSimpArgs false
set_option linter.unusedVariables false
namespace Go.Abs
open Go.Proofs Tryz
set_option maxRecDepth 1000000
set_option maxHeartbeats 4000000
namespace Bg
def J6(a:AF)(q:jf):ABu ((List ABv)×Bool):=
if Am (q.length+a.AL.length) 16=true then
if Am ((q++a.AL).length+a.AA.length) 16=true then
some ((q++a.AL)++a.AA,true)
else none
else none
def L4(a:AF)(L4:je)(l:jf)(i:Int):=
if decide (i<(a.Ak.length:Int))then
(gt a.Ak i).bind λw=>
if Am (l.length+1) 16=true then
L4 (l++[w.di]) (A6 (i+1))
else none
else
J6 a l
def L4r(a:AF):Nat->(List ABv)->Int->ABu ((List ABv)×Bool)
|0,_,_=>none
|n+1,l,i=>L4 a (L4r a n) l i
def J5(a:AF)(t:jf):=
L4r a BT t 0
def L3(a:AF)(L3:je)(j:jf)(f:Int):=
if decide (f<(a.AK.length:Int))then
(gt a.AK f).bind λv=>
if Am (j.length+1) 16=true then
L3 (j++[v.di]) (A6 (f+1))
else none
else
J5 a j
def Gc(a:AF):Nat->(List ABv)->Int->ABu ((List ABv)×Bool)
|0,_,_=>none
|n+1,j,f=>L3 a (Gc a n) j f
def J4(a:AF)(s:jf):=
Gc a BT s 0
def J3(L1:je)(c:Int)(d:jf)(b:Du):=
L1 (d++[b.di]) (A6 (c+b.B3))
def J2(L2:Int->ABu ((List ABv)×Bool))(e:Int)(u:Bool):=
if u then
some ([],false)
else
L2 (A6 (e+1))
def L2(L1:je)(c:Int)(d:jf)(a:AF)(b:Du)(L2:Int->ABu ((List ABv)×Bool))(e:Int):=
if decide (e<b.B3)then
(gt a.df (A6 (c+e))).bind λo=>
if o.dz != e then
J2 L2 e true
else
if !(o.di.toList==b.di.toList)then
J2 L2 e true
else
if o.B3 != b.B3 then
J2 L2 e true
else
if o.db != b.db then
J2 L2 e true
else
J2 L2 e o.Hk
else
J3 L1 c d b
def CC(L1:je)(c:Int)(d:jf)(a:AF)(b:Du):Nat->Int->ABu ((List ABv)×Bool)
|0,_=>none
|n+1,e=>L2 L1 c d a b (CC L1 c d a b n) e
def J1(L1:je)(c:Int)(d:jf)(a:AF)(b:Du)(p:Bool):=
if p then
some ([],false)
else
CC L1 c d a b BT 0
def L1(a:AF)(L1:je)(d:jf)(c:Int):=
if decide (c<(a.df.length:Int))then
(gt a.df c).bind λb=>
if Am (d.length+1) 16=true then
if b.B3==0 then
if b.dz != 0 then
some ([],false)
else
L1 (d++[b.di]) (A6 (c+1))
else
if decide (b.B3<1)then
J1 L1 c d a b true
else
if decide (b.B3>4)then
J1 L1 c d a b true
else
J1 L1 c d a b (decide (b.B3>(A6 ((a.df.length:Int)-c))))
else none
else
J4 a d
def AW(a:AF):Nat->(List ABv)->Int->ABu ((List ABv)×Bool)
|0,_,_=>none
|n+1,d,c=>L1 a (AW a n) d c
end Bg
section
open Bg
def Bg(a:AF):=
AW a BT [] 0
def Zx{a:AF}{r:mn}(h:Bg a=some r):Says prog 97 [.agg (Aw a)] (.BZ [vO 1 eS r.1,sb r.2]):=by refine kO mix func97 (hn [(1,[12,16,45,58,99,106,115,122,131,135]),(4,[21,105,121,130,134]),(6,[22,26,29,34,38,43,53,72,79,86,95]),(8,[65,70,77,84,91])] [(15,1)]) ?_;have l4:=im λ_ _ _ _ n b=>∃l i,(b 1=bA 6 (Aw a)/\b 4=vO 1 eS l/\b 10=si i)/\L4r a n l i=some r;have l3:=im λ_ _ _ _ n b=>∃j f,(b 1=bA 6 (Aw a)/\b 4=vO 1 eS j/\b 9=si f)/\Gc a n j f=some r;have l1:=im λ_ _ _ _ n b=>∃d c,(b 1=bA 6 (Aw a)/\b 4=vO 1 eS d/\b 5=si c)/\AW a n d c=some r;have l2:=im λf _ _ _ n g=>∃(c:Int)(d:jf)(b:Du)(e:Int),(g 1=bA 6 (Aw a)/\g 4= .own false 1 ((d++[b.di]).map eS)/\g 5=si c/\g 6=bA 5 (HV b)/\g 7=si e)/\CC (AW a f) c d a b n e=some r;have c1:=ip 1 λe _ _ _ f=>∃(c:Int)(d:jf)(b:Du)(p:Bool),(f 1=bA 6 (Aw a)/\f 4= .own false 1 ((d++[b.di]).map eS)/\f 5=si c/\f 6=bA 5 (HV b)/\f 51=sb p)/\J1 (AW a e) c d a b p=some r;unfold Bg at h;exact walk
end
namespace Ae
def J7:=
some true
def J6(L1:ir)(c:Int):=
L1 (A6 (c+1))
def J5(L2:jw)(i l:Int)(s:Bool):=
if s then
some false
else
L2 l (A6 (i+1))
def L2(L1:ir)(a:AH)(f:iq)(b:AD)(c:Int)(L2:jw)(j i:Int):=
if decide (i<(f.length:Int))then
(gt f i).bind λl=>
if decide (l<=j)then
J5 L2 i l true
else
(gt b.dc a.cr).bind λv=>
J5 L2 i l (decide (l>=v))
else
J6 L1 c
def CC(L1:ir)(a:AH)(f:iq)(b:AD)(c:Int):Nat->Int->Int->ABu Bool
|0,_,_=>none
|n+1,j,i=>L2 L1 a f b c (CC L1 a f b c n) j i
def J4(L1:ir)(a:AH)(f:iq)(b:AD)(c:Int)(q:Bool):=
if q then
some false
else
CC L1 a f b c BT 0 0
def J3(L1:ir)(d e:Bool)(a:AH)(b:AD)(c:Int)(f:iq):=
if decide ((f.length:Int)>0)then
if c==0 then
J4 L1 a f b c (!d)
else
if c==1 then
J4 L1 a f b c (!e)
else
none
else
J4 L1 a f b c false
def L1(d e:Bool)(a:AH)(b:AD)(L1:ir)(c:Int):=
if decide (c<2)then
if c==0 then
J3 L1 d e a b c a.EA
else
if c==1 then
J3 L1 d e a b c a.DW
else
none
else
J7
def AW(d e:Bool)(a:AH)(b:AD):Nat->Int->ABu Bool
|0,_=>none
|n+1,c=>L1 d e a b (AW d e a b n) c
def J2(a:AH)(b:AD)(d e:Bool):=
AW d e a b BT 0
def J1(a:AH)(b:AD)(o:Bool):=
if a.da==5 then
if a.da==4 then
J2 a b true true
else
J2 a b true (a.da==22)
else
if a.da==4 then
J2 a b o true
else
J2 a b o (a.da==22)
end Ae
section
open Ae
def Ae(p:AF)(b:AD)(a:AH):=
if a.da==3 then
(gt p.df a.dn).bind λt=>
J1 a b (t.B3 != 0)
else
if a.da==4 then
(gt p.df a.dn).bind λu=>
J1 a b (u.B3 != 0)
else
J1 a b false
def OK{p:AF}{b:AD}{a:AH}{r:Bool}(h:Ae p b a=some r):Says prog 148 [.agg (Aw p),.agg (BQ b),.agg (A7 a)] (sb r):=by refine kO mix func148 (hn [(3,[23]),(4,[76]),(5,[14,18,25,32,38,42,47,49,78]),(8,[61])] [(1,1),(2,2),(8,3),(10,4)]) ?_;have l1:=im λ_ _ _ _ n f=>∃d e c,(f 4=bA 7 (BQ b)/\f 5=bA 7 (A7 a)/\f 8=bA 2 [sb d,sb e]/\f 51= .agg [vS 1 eI a.EA,vS 1 eI a.DW]/\f 52=si c)/\AW d e a b n c=some r;have l2:=im λg _ _ _ n h=>∃(d e:Bool)(f:iq)(c j i:Int),(h 4=bA 7 (BQ b)/\h 5=bA 7 (A7 a)/\h 8=bA 2 [sb d,sb e]/\h 11=si j/\h 51= .agg [vS 1 eI a.EA,vS 1 eI a.DW]/\h 52=si c/\h 65=vS 1 eI f/\h 66=si (f.length:Int)/\h 67=si i)/\CC (AW d e a b g) a f b c n j i=some r;have c4:=ip 4 λg _ _ _ h=>∃d e f c q,(h 4=bA 7 (BQ b)/\h 5=bA 7 (A7 a)/\h 8=bA 2 [sb d,sb e]/\h 10=vS 1 eI f/\h 51= .agg [vS 1 eI a.EA,vS 1 eI a.DW]/\h 52=si c/\h 64=sb q)/\J4 (AW d e a b g) a f b c q=some r;have c3:=ip 3 λg _ _ _ h=>∃d e c f,(h 4=bA 7 (BQ b)/\h 5=bA 7 (A7 a)/\h 8=bA 2 [sb d,sb e]/\h 9=si c/\h 10=vS 1 eI f/\h 51= .agg [vS 1 eI a.EA,vS 1 eI a.DW]/\h 52=si c)/\J3 (AW d e a b g) d e a b c f=some r;have c2:=ip 2 λ_ _ _ _ c=>∃d e,(c 4=bA 7 (BQ b)/\c 5=bA 7 (A7 a)/\c 8=bA 2 [sb d,sb e])/\J2 a b d e=some r;have c1:=ip 1 λ_ _ _ _ c=>∃o,(c 4=bA 7 (BQ b)/\c 5=bA 7 (A7 a)/\c 7=sb o)/\J1 a b o=some r;unfold Ae at h;exact walk
end
namespace Bv
def J5(L1:jg)(a:Int)(q:AE):=
L1 q (A6 (a+1))
def J4(L1:jg)(b:Int)(c:AE)(a:Int)(l:Bool):=
if l then
(gt c.d4 a).bind λp=>
(gt p b).bind λs=>
J5 L1 a (AE.mk c.w c.eb c.ef (c.d4.set a.toNat (p.set b.toNat true)))
else
J5 L1 a c
def J3(L1:jg)(d:AH)(b:Int)(c:AE)(a:Int)(e:AH)(o:Bool):=
if o then
J4 L1 b c a o
else
if d.da==23 then
if e.da==22 then
J4 L1 b c a (e.dn==d.dn)
else
J4 L1 b c a false
else
J4 L1 b c a false
def J2(L1:jg)(d:AH)(b:Int)(c:AE)(a:Int)(e:AH)(j:Bool):=
if j then
J4 L1 b c a j
else
if d.da==21 then
if e.da==2 then
J3 L1 d b c a e (e.cr==d.dn)
else
J3 L1 d b c a e false
else
J3 L1 d b c a e false
def J1(L1:jg)(d:AH)(b:Int)(c:AE)(a:Int)(e:AH)(i:Bool):=
if i then
J4 L1 b c a i
else
if d.da==1 then
if e.da==20 then
J2 L1 d b c a e (e.dn==d.cr)
else
J2 L1 d b c a e false
else
J2 L1 d b c a e false
def L1(d:AH)(b:Int)(f:AE)(L1:jg)(c:AE)(a:Int):=
if decide (a<(f.w.AB.length:Int))then
(gt f.w.AB a).bind λe=>
if e.cr==d.cr then
J1 L1 d b c a e (decide (a<b))
else
J1 L1 d b c a e false
else
some c
def AW(d:AH)(b:Int)(f:AE):Nat->AE->Int->ABu AE
|0,_,_=>none
|n+1,c,a=>L1 d b f (AW d b f n) c a
end Bv
section
open Bv
def Bv(f:AE)(b:Int)(d:AH):=
AW d b f BT f 0
def OC{f:AE}{b:Int}{d:AH}{r:AE}(h:Bv f b d=some r):BB prog 125 [bA 18 (Bh f),si b,.agg (A7 d)] (.BZ []) [bA 18 (Bh r),.dead,.dead]:=by refine kL mix func125 (hn [(0,[8,9,10,11,12,17,18,75,76,77,78,80,81,83]),(5,[22,30,41,45,56,60,71]),(7,[20,34,39,49,54,64,69])] [(6,4),(7,1),(8,2)]) ?_;have l1:=im λ_ _ _ _ n e=>∃c a,(e 0=bA 18 (Bh c)/\e 1=si b/\e 5=bA 7 (A7 d)/\e 12=vS 7 A7 f.w.AB/\e 13=si (f.w.AB.length:Int)/\e 14=si a)/\AW d b f n c a=some r;have c4:=ip 4 λe _ _ _ g=>∃c a l,(g 0=bA 18 (Bh c)/\g 1=si b/\g 5=bA 7 (A7 d)/\g 6=si a/\g 12=vS 7 A7 f.w.AB/\g 13=si (f.w.AB.length:Int)/\g 14=si a/\g 19=sb l)/\J4 (AW d b f e) b c a l=some r;have c2:=ip 2 λg _ _ _ h=>∃c a e j,(h 0=bA 18 (Bh c)/\h 1=si b/\h 5=bA 7 (A7 d)/\h 6=si a/\h 7=bA 7 (A7 e)/\h 12=vS 7 A7 f.w.AB/\h 13=si (f.w.AB.length:Int)/\h 14=si a/\h 19=sb j)/\J2 (AW d b f g) d b c a e j=some r;have c1:=ip 1 λg _ _ _ h=>∃c a e i,(h 0=bA 18 (Bh c)/\h 1=si b/\h 5=bA 7 (A7 d)/\h 6=si a/\h 7=bA 7 (A7 e)/\h 12=vS 7 A7 f.w.AB/\h 13=si (f.w.AB.length:Int)/\h 14=si a/\h 19=sb i)/\J1 (AW d b f g) d b c a e i=some r;unfold Bv at h;exact walk
end
namespace Bb
def J7(c:Int)(a:AE)(o:iq):ABu AE:=
if(o.length:Int)==1 then
(gt o 0).bind λq=>
(gt a.d4 q).bind λs=>
(gt s c).bind λac=>
some (AE.mk a.w a.eb a.ef (a.d4.set q.toNat (s.set c.toNat true)))
else
some a
def J6(L2:kx)(d:Int)(t:iq):=
L2 t (A6 (d+1))
def J5(L2:kx)(e:iq)(d:Int)(w:Bool):=
if w then
if Am (e.length+1) 8=true then
J6 L2 d (e++[d])
else none
else
J6 L2 d e
def J4(L2:kx)(b:AH)(e:iq)(d:Int)(l:AH)(u:Bool):=
if u then
if l.dn==b.dn then
J5 L2 e d (l.cr != b.cr)
else
J5 L2 e d false
else
J5 L2 e d false
def L2(b:AH)(c:Int)(a:AE)(L2:kx)(e:iq)(d:Int):=
if decide (d<(a.w.AB.length:Int))then
(gt a.w.AB d).bind λl=>
if l.da==18 then
J4 L2 b e d l true
else
J4 L2 b e d l (l.da==19)
else
J7 c a e
def CC(b:AH)(c:Int)(a:AE):Nat->(List Int)->Int->ABu AE
|0,_,_=>none
|n+1,e,d=>L2 b c a (CC b c a n) e d
def J3(b:AH)(c:Int)(a:AE)(y:Bool):=
if !y then
some a
else
CC b c a BT [] 0
def J2(L1:Bool->Int->ABu AE)(f:Int)(x:Bool):=
L1 x (A6 (f+1))
def J1(L1:Bool->Int->ABu AE)(f:Int)(i v:Bool):=
if v then
J2 L1 f true
else
J2 L1 f i
def L1(b:AH)(c:Int)(a:AE)(j:iq)(L1:Bool->Int->ABu AE)(i:Bool)(f:Int):=
if decide (f<(j.length:Int))then
(gt a.eb b.cr).bind λaa=>
(gt aa f).bind λp=>
if decide (p<c)then
(gt a.w.AB p).bind λab=>
J1 L1 f i (ab.da==16)
else
J1 L1 f i false
else
J3 b c a i
def AW(b:AH)(c:Int)(a:AE)(j:iq):Nat->Bool->Int->ABu AE
|0,_,_=>none
|n+1,i,f=>L1 b c a j (AW b c a j n) i f
end Bb
section
open Bb
def Bb(a:AE)(c:Int)(b:AH):=
if b.da != 17 then
some a
else
(gt a.w.db.de.AA b.cr).bind λz=>
(gt a.eb b.cr).bind λj=>
AW b c a j BT (z.dg==3) 0
def NQ{a:AE}{c:Int}{b:AH}{r:AE}(h:Bb a c b=some r):BB prog 127 [bA 18 (Bh a),si c,.agg (A7 b)] (.BZ []) [bA 18 (Bh r),.dead,.dead]:=by refine kL mix func127 (hn [(0,[16,17,18,19,20,21,22,25,26,29,30,31,32,35,36,40,46,47,48,49,50,52,53,60,61,62,63,64,69,70,102,103,104,105,109,110,112]),(5,[13,23,33,83,90]),(9,[94,99,106,107]),(11,[71,75,81,88])]) ?_;have l2:=im λ_ _ _ _ n f=>∃e d,(f 0=bA 18 (Bh a)/\f 1=si c/\f 5=bA 7 (A7 b)/\f 9=vO 1 eI e/\f 64=vS 7 A7 a.w.AB/\f 65=si (a.w.AB.length:Int)/\f 66=si d)/\CC b c a n e d=some r;have l1:=im λ_ _ _ _ n d=>∃(j:iq)(i:Bool)(f:Int),(d 0=bA 18 (Bh a)/\d 1=si c/\d 5=bA 7 (A7 b)/\d 6=sb i/\d 36= .al 0 [(0,15,18),(b.cr.toNat,0,1)]/\d 37=si (j.length:Int)/\d 38=si f)/\AW b c a j n i f=some r;unfold Bb at h;exact walk
end
namespace Bi
def J7(q:iq):ABu (List Int):=
some q
def J6(L1:iw)(d:Int)(p:iq):=
L1 p (A6 (d+1))
def J5(L1:iw)(e:iq)(d:Int)(s:Bool):=
if s then
if Am (e.length+1) 8=true then
J6 L1 d (e++[d])
else none
else
J6 L1 d e
def J4(L1:iw)(e:iq)(b d:Int)(a i:AH)(o:Bool):=
if o then
J6 L1 d e
else
if i.cr != a.cr then
J5 L1 e d true
else
J5 L1 e d (decide (d<b))
def L1(b f:Int)(c:AG)(a:AH)(L1:iw)(e:iq)(d:Int):=
if decide (d<(c.AB.length:Int))then
(gt c.AB d).bind λi=>
if i.da != f then
J4 L1 e b d a i true
else
if i.dn != a.dn then
J4 L1 e b d a i true
else
J4 L1 e b d a i (i.dh != a.dh)
else
J7 e
def AW(b f:Int)(c:AG)(a:AH):Nat->(List Int)->Int->ABu (List Int)
|0,_,_=>none
|n+1,e,d=>L1 b f c a (AW b f c a n) e d
def J3(b:Int)(c:AG)(a:AH)(j:iq)(f:Int):=
AW b f c a BT j 0
def J2(b:Int)(c:AG)(a:AH)(t:Bool):=
if t then
J3 b c a [(-1)] 22
else
J3 b c a [] 22
def J1(b:Int)(c:AG)(l:Bool):=
if l then
some []
else
(gt c.AB b).bind λa=>
if a.da==3 then
(gt c.db.df a.dn).bind λu=>
if u==a.dh then
J3 b c a [(-1)] 4
else
J3 b c a [] 4
else
if a.da==23 then
(gt c.db.de.Bp a.dn).bind λv=>
if v then
(gt c.db.AL a.dn).bind λw=>
J2 b c a (w==a.dh)
else
J2 b c a false
else
some []
end Bi
section
open Bi
def Bi(c:AG)(b:Int):=
if decide (b<0)then
J1 b c true
else
J1 b c (decide (b>=(c.AB.length:Int)))
def M7{c:AG}{b:Int}{r:iq}(h:Bi c b=some r):Says prog 77 [.agg (A4 c),si b] (vO 1 eI r):=by
 refine kO mix func77 (hn [(2,[14,19,28,29,43,44,45,52,53,66]),(5,[24,31,35,47,55,59,81,88,94]),(6,[38,63,102,107]),(9,[74,79,86,92])] [(2,1),(7,3),(22,4)]) ?_
 have:=(by decide:Am 1 8=true);have l1:=im λ_ _ _ _ n g=>∃f a e d,(g 1=si b/\g 5=bA 7 (A7 a)/\g 6=vO 1 eI e/\g 7=si f/\g 67=vS 7 A7 c.AB/\g 68=si (c.AB.length:Int)/\g 69=si d)/\AW b f c a n e d=some r;have c4:=ip 4 λg _ _ _ h=>∃f a e d i o,(h 1=si b/\h 5=bA 7 (A7 a)/\h 6=vO 1 eI e/\h 7=si f/\h 8=si d/\h 9=bA 7 (A7 i)/\h 67=vS 7 A7 c.AB/\h 68=si (c.AB.length:Int)/\h 69=si d/\h 91=sb o)/\J4 (AW b f c a g) e b d a i o=some r;have c3:=ip 3 λ_ _ _ _ d=>∃a j f,(d 1=si b/\d 2=bA 15 (A4 c)/\d 5=bA 7 (A7 a)/\d 6=vO 1 eI j/\d 7=si f)/\J3 b c a j f=some r;have c1:=ip 1 λ_ _ _ _ a=>∃l,(a 1=si b/\a 2=bA 15 (A4 c)/\a 18=sb l)/\J1 b c l=some r;unfold Bi at h;exact walk
end
namespace BE
def QP(a:AH):ABu Bool:=
some (a.dh==0)
def J1(q:Bool):ABu Bool:=
some q
def J6(s:Bool):ABu Bool:=
some s
def J5(a:AH)(v:Int)(z:Bool):=
if z then
J6 true
else
if v==0 then
J6 (a.dh==(-1))
else
J6 false
def J4(L1:kq)(c u:Int)(y:Bool):=
L1 u y (A6 (c+1))
def J3(L1:kq)(a:AH)(c e:Int)(i t:Bool):=
if t then
if i then
J4 L1 c (A6 (e+1)) true
else
J4 L1 c (A6 (e+1)) (a.dh==c)
else
J4 L1 c e i
def L1(a:AH)(b:AD)(L1:kq)(e:Int)(i:Bool)(c:Int):=
if decide (c<(b.de.AA.length:Int))then
(gt b.de.AA c).bind λl=>
if l.dg==3 then
J3 L1 a c e i (l.Dy==a.dn)
else
J3 L1 a c e i false
else
J5 a e i
def AW(a:AH)(b:AD):Nat->Int->Bool->Int->ABu Bool
|0,_,_,_=>none
|n+1,e,i,c=>L1 a b (AW a b n) e i c
def J9(a:AH)(x:Int):ABu Bool:=
some (a.dh==x)
def J8(L2:jw)(d w:Int):=
L2 w (A6 (d+1))
def J7(L2:jw)(d f:Int)(p:Bool):=
if p then
J8 L2 d (A6 (f+1))
else
J8 L2 d f
def L2(a:AH)(b:AD)(L2:jw)(f d:Int):=
if decide (d<(b.de.AA.length:Int))then
(gt b.de.AA d).bind λo=>
if o.dg==3 then
J7 L2 d f (o.Dy==a.dn)
else
J7 L2 d f false
else
J9 a f
def CC(a:AH)(b:AD):Nat->Int->Int->ABu Bool
|0,_,_=>none
|n+1,f,d=>L2 a b (CC a b n) f d
def J2(a:AH)(b:AD)(j:Bool):=
if j then
some true
else
if a.da==18 then
AW a b BT 0 false 0
else
if a.da==19 then
CC a b BT 0 0
else
QP a
end BE
section
open BE
def BE(b:AD)(a:AH):=
if a.da==3 then
(gt b.df a.dn).bind λaa=>
some (a.dh==aa)
else
if a.da==23 then
(gt b.AL a.dn).bind λab=>
some (a.dh==ab)
else
if a.da==5 then
if a.dh==0 then
J1 true
else
J1 (a.dh==1)
else
if a.da==4 then
J2 a b (a.da==4)
else
J2 a b (a.da==22)
def RN{b:AD}{a:AH}{r:Bool}(h:BE b a=some r):Says prog 149 [.agg (BQ b),.agg (A7 a)] (sb r):=by refine kO mix func149 (hn [(2,[18,29,51,52,92,93]),(3,[12,16,20,27,31,38,42,66,74,85,106,113,117]),(8,[60,64]),(11,[100,104])] [(9,2)]) ?_;have l1:=im λ_ _ _ _ n d=>∃e i c,(d 3=bA 7 (A7 a)/\d 5=si e/\d 6=sb i/\d 53=vS 3 Ap b.de.AA/\d 54=si (b.de.AA.length:Int)/\d 55=si c)/\AW a b n e i c=some r;have l2:=im λ_ _ _ _ n c=>∃f d,(c 3=bA 7 (A7 a)/\c 9=si f/\c 94=vS 3 Ap b.de.AA/\c 95=si (b.de.AA.length:Int)/\c 96=si d)/\CC a b n f d=some r;have c2:=ip 2 λ_ _ _ _ c=>∃j,(c 2=bA 7 (BQ b)/\c 3=bA 7 (A7 a)/\c 13=si a.da/\c 46=sb j)/\J2 a b j=some r;unfold BE at h;exact walk
end
namespace Aa
def J3(l:jf):ABu ((List ABv)×Bool):=
some (l,true)
def J2(L1:je)(c:Int)(d:jf)(b o:Du):=
L1 (d++[b.di]) (A6 (c+o.B3))
def L2(L1:je)(c:Int)(a:mt)(d:jf)(b:Du)(L2:Du->Int->ABu ((List ABv)×Bool))(e:Du)(f:Int):=
if decide (f<b.B3)then
(gt a (A6 (c+f))).bind λi=>
if !(i.di.toList==e.di.toList&&(i.dz==f&&(i.B3==e.B3&&(i.Hk==e.Hk&&(i.db==e.db)))))then
some ([],false)
else
L2 (Du.mk e.di f e.B3 e.Hk e.db) (A6 (f+1))
else
J2 L1 c d b e
def CC(L1:je)(c:Int)(a:mt)(d:jf)(b:Du):Nat->Du->Int->ABu ((List ABv)×Bool)
|0,_,_=>none
|n+1,e,f=>L2 L1 c a d b (CC L1 c a d b n) e f
def J1(L1:je)(c:Int)(a:mt)(d:jf)(b:Du)(j:Bool):=
if j then
some ([],false)
else
CC L1 c a d b BT b 0
def L1(a:mt)(L1:je)(d:jf)(c:Int):=
if decide (c<(a.length:Int))then
(gt a c).bind λb=>
if Am (d.length+1) 16=true then
if b.B3==0 then
if b.dz != 0 then
some ([],false)
else
L1 (d++[b.di]) (A6 (c+1))
else
if decide (b.B3<1)then
J1 L1 c a d b true
else
if decide (b.B3>4)then
J1 L1 c a d b true
else
if b.Hk then
J1 L1 c a d b true
else
J1 L1 c a d b (decide (b.B3>(A6 ((a.length:Int)-c))))
else none
else
J3 d
def AW(a:mt):Nat->(List ABv)->Int->ABu ((List ABv)×Bool)
|0,_,_=>none
|n+1,d,c=>L1 a (AW a n) d c
end Aa
section
open Aa
def Aa(a:mt):=
AW a BT [] 0
def P9{a:mt}{r:mn}(h:Aa a=some r):Says prog 90 [vS 5 HV a] (.BZ [vO 1 eS r.1,sb r.2]):=by refine kO mix func90 (hn [(4,[16,70]),(6,[17,21,24,29,33,38,42,50,56,67])] [(15,1)]) ?_;have l1:=im λ_ _ _ _ n b=>∃d c,(b 0=vS 5 HV a/\b 4=vO 1 eS d/\b 5=si c)/\AW a n d c=some r;have l2:=im λg _ _ _ n h=>∃(c:Int)(d:jf)(b e:Du)(f:Int),(h 0=vS 5 HV a/\h 4= .own false 1 ((d++[b.di]).map eS)/\h 5=si c/\h 6=bA 5 (HV e)/\h 51=si b.B3/\h 52=si f)/\CC (AW a g) c a d b n e f=some r;have c1:=ip 1 λe _ _ _ f=>∃(c:Int)(d:jf)(b:Du)(j:Bool),(f 0=vS 5 HV a/\f 4= .own false 1 ((d++[b.di]).map eS)/\f 5=si c/\f 6=bA 5 (HV b)/\f 49=sb j)/\J1 (AW a e) c a d b j=some r;unfold Aa at h;exact walk
end
namespace BM
def J6:=
some true
def J5(L1:ir)(b:Int):=
L1 (A6 (b+1))
def J4(L1:ir)(b:Int)(a:AG)(c:AM)(i:Bool):=
if i then
some false
else
(gt a.cT.Ak c.Dy).bind λl=>
(gt a.db.de.AK l.dm).bind λo=>
if o.B9==b then
some false
else
J5 L1 b
def J3(L1:ir)(b:Int)(a:AG)(c:AM)(f:Bool):=
if f then
if c.Dy != 0 then
some false
else
J5 L1 b
else
if decide (c.Dy<0)then
J4 L1 b a c true
else
J4 L1 b a c (decide (c.Dy>=(a.cT.Ak.length:Int)))
def J2(L1:ir)(b:Int)(a:AG)(c:AM)(d:Bool):=
(gt a.db.dc b).bind λj=>
if !((j==0)==d)then
some false
else
if c.dg != 3 then
J3 L1 b a c (c.dg != 4)
else
J3 L1 b a c false
def J1(L1:ir)(b:Int)(a:AG)(c:AM)(e:Bool):=
if e then
some false
else
if c.dg==0 then
J2 L1 b a c true
else
J2 L1 b a c (c.dg==1)
def L1(a:AG)(L1:ir)(b:Int):=
if decide (b<(a.db.de.AA.length:Int))then
(gt a.db.de.AA b).bind λc=>
if decide (c.dg<0)then
J1 L1 b a c true
else
if decide (c.dg>5)then
J1 L1 b a c true
else
if b==0 then
J1 L1 b a c (c.dg==0)
else
J1 L1 b a c false
else
J6
def AW(a:AG):Nat->Int->ABu Bool
|0,_=>none
|n+1,b=>L1 a (AW a n) b
end BM
section
open BM
def BM(a:AG):=
AW a BT 0
def Ph{a:AG}{r:Bool}(h:BM a=some r):Says prog 46 [.agg (A4 a)] (sb r):=by refine kO mix func46 (hn [(1,[6,7,8,41,42,67,68,73,74,75,77,78]),(4,[16,20,28,33,37,50,54,58,61,65,80])] [(8,1),(10,2),(15,3)]) ?_;have l1:=im λ_ _ _ _ n c=>∃b,(c 1=bA 15 (A4 a)/\c 9=vS 3 Ap a.db.de.AA/\c 10=si (a.db.de.AA.length:Int)/\c 11=si b)/\AW a n b=some r;have c3:=ip 3 λd _ _ _ e=>∃b c f,(e 1=bA 15 (A4 a)/\e 3=si b/\e 4=bA 3 (Ap c)/\e 9=vS 3 Ap a.db.de.AA/\e 10=si (a.db.de.AA.length:Int)/\e 11=si b/\e 57=sb f)/\J3 (AW a d) b a c f=some r;have c2:=ip 2 λe _ _ _ f=>∃b c d,(f 1=bA 15 (A4 a)/\f 3=si b/\f 4=bA 3 (Ap c)/\f 5=sb d/\f 9=vS 3 Ap a.db.de.AA/\f 10=si (a.db.de.AA.length:Int)/\f 11=si b)/\J2 (AW a e) b a c d=some r;have c1:=ip 1 λd _ _ _ f=>∃b c e,(f 1=bA 15 (A4 a)/\f 3=si b/\f 4=bA 3 (Ap c)/\f 9=vS 3 Ap a.db.de.AA/\f 10=si (a.db.de.AA.length:Int)/\f 11=si b/\f 32=sb e)/\J1 (AW a d) b a c e=some r;unfold BM at h;exact walk
end
namespace CF
def J3(L1:jg)(b:Int)(p:AE):=
L1 p (A6 (b+1))
def J2(L2:jg)(c:Int)(o:AE):=
L2 o (A6 (c+1))
def J1(L3:jg)(e:Int)(l:AE):=
L3 l (A6 (e+1))
def L3(L2:jg)(a:AE)(b c:Int)(L3:jg)(d:AE)(e:Int):=
if decide (e<(a.d4.length:Int))then
(gt d.d4 b).bind λt=>
(gt t e).bind λu=>
if u then
(gt d.d4 c).bind λj=>
(gt j e).bind λv=>
J1 L3 e (AE.mk d.w d.eb d.ef (d.d4.set c.toNat (j.set e.toNat true)))
else
J1 L3 e d
else
J2 L2 c d
def Gc(L2:jg)(a:AE)(b c:Int):Nat->AE->Int->ABu AE
|0,_,_=>none
|n+1,d,e=>L3 L2 a b c (Gc L2 a b c n) d e
def L2(L1:jg)(a:AE)(b:Int)(L2:jg)(f:AE)(c:Int):=
if decide (c<(a.d4.length:Int))then
(gt f.d4 c).bind λq=>
(gt q b).bind λs=>
if !s then
J2 L2 c f
else
Gc L2 a b c BT f 0
else
J3 L1 b f
def CC(L1:jg)(a:AE)(b:Int):Nat->AE->Int->ABu AE
|0,_,_=>none
|n+1,f,c=>L2 L1 a b (CC L1 a b n) f c
def L1(a:AE)(L1:jg)(i:AE)(b:Int):=
if decide (b<(a.d4.length:Int))then
CC L1 a b BT i 0
else
some i
def AW(a:AE):Nat->AE->Int->ABu AE
|0,_,_=>none
|n+1,i,b=>L1 a (AW a n) i b
end CF
section
open CF
def CF(a:AE):=
AW a BT a 0
def PM{a r:AE}(h:CF a=some r):BB prog 129 [bA 18 (Bh a)] (.BZ []) [bA 18 (Bh r)]:=by refine kL mix func129 (hn [(0,[6,7,8,9,19,20,21,22,24,25,27,34,35,36,37,39,40,42,44,45,46,47,49,50,52])]) ?_;have l1:=im λ_ _ _ _ n c=>∃i b,(c 0=bA 18 (Bh i)/\c 2=si (a.d4.length:Int)/\c 11=si (a.d4.length:Int)/\c 12=si b)/\AW a n i b=some r;have l2:=im λd _ _ _ n e=>∃b f c,(e 0=bA 18 (Bh f)/\e 2=si (a.d4.length:Int)/\e 3=si b/\e 11=si (a.d4.length:Int)/\e 12=si b/\e 15=si (a.d4.length:Int)/\e 16=si c)/\CC (AW a d) a b n f c=some r;have l3:=im λf g _ _ n h=>∃b c d e,(h 0=bA 18 (Bh d)/\h 2=si (a.d4.length:Int)/\h 3=si b/\h 4=si c/\h 11=si (a.d4.length:Int)/\h 12=si b/\h 15=si (a.d4.length:Int)/\h 16=si c/\h 30=si (a.d4.length:Int)/\h 31=si e)/\Gc (CC (AW a f) a b g) a b c n d e=some r;unfold CF at h;exact walk
end
namespace DH
def J1(q:mu)(p:Int):ABu ((List EG)×Int):=
some (q,p)
def L1(R100:jK)(b:ju)(a:Int)(L1:(List EG)->Int->Int->ABu ((List EG)×Int))(e:mu)(d c:Int):=
if decide (c<(b.length:Int))then
(gt b c).bind λj=>
if Am (e.length+1) 24=true then
(R100 (e++[(EG.mk a d j.GH)]) a (A6 (d+1)) j.dx).bind λl=>
(R100 l.1 a l.2 j.d7).bind λo=>
L1 o.1 o.2 (A6 (c+1))
else none
else
J1 e d
def AW(R100:jK)(b:ju)(a:Int):Nat->(List EG)->Int->Int->ABu ((List EG)×Int)
|0,_,_,_=>none
|n+1,e,d,c=>L1 R100 b a (AW R100 b a n) e d c
end DH
variable{f:jK}{d:mu}{a b:Int}{e:ju}{c:(List EG)×Int}
section
open DH
def DH(R100:jK)(i:mu)(a f:Int)(b:ju):=
AW R100 b a BT i f 0
theorem Zy(H100:∀{x0 x1 x2 x3 c},f x0 x1 x2 x3=some c->Says prog 221 [vO 3 Gu x0,si x1,si x2,vS 11 BJ x3] (.BZ [vO 3 Gu c.1,si c.2]))(h:DH f d a b e=some c):Says prog 221 [vO 3 Gu d,si a,si b,vS 11 BJ e] (.BZ [vO 3 Gu c.1,si c.2]):=by refine kO mix func221 (hn [(0,[17,31,43,54]),(2,[19,28,33,45,55]),(39,[30,40,41]),(51,[42,52,53])]) ?_;have a1:= @H100;have l1:=im λ_ _ _ _ n b=>∃R100 i r,(b 0=vO 3 Gu R100/\b 1=si a/\b 2=si i/\b 3=vS 11 BJ e/\b 10=si r)/\AW f e a n R100 i r=some c;unfold DH at h;exact walk
end
def VF:Nat->((List EG)->Int->Int->(List AR)->ABu ((List EG)×Int))
|0=>(λ_ _ _ _=>none)
|n+1=>DH ((VF n))
def HG(n:Nat):(List EG)->Int->Int->(List AR)->ABu ((List EG)×Int):=(VF n)
theorem Xo(n:Nat):(∀{x0 x1 x2 x3 r},(HG n) x0 x1 x2 x3=some r->Says prog 221 [vO 3 Gu x0,si x1,si x2,vS 11 BJ x3] (.BZ [vO 3 Gu r.1,si r.2])):=by
  induction n with
  |zero=>exactλh=>Et h
  |succ n ih=>exactλh=>Zy ih h
def Xp{n:Nat}:∀{x0 x1 x2 x3 r},(HG n) x0 x1 x2 x3=some r->Says prog 221 [vO 3 Gu x0,si x1,si x2,vS 11 BJ x3] (.BZ [vO 3 Gu r.1,si r.2]):=(Xo n)
def f115c:IC:=(Ra 2 [.o (.mv (.c (.own false 1 [])))]
(Ra 0 [.K 3 0]
(Sq (Ra 9 [.C 0,.Z 9,.Y 0]
(Bl 0 (Ra 12 [.O .lss 11 10]
(Sq (cX 12 0)
(Sq (Bk 1 (Ra 13 [.I 1 9 11,.L 13,.M 5 14]
(Ra 15 [.C 3,.C 5,.Z 16,.O .add 15 17,.M 3 18]
(Ra 19 [.C 3,.P .lss 19 0]
(Ci 20 .bad)))))
(Rc 22 [.P .add 11 1,.w 11,.C 22]))))))
(Ra 23 [.C 3,.o (.call 168 [.c (.sc (.slice none 0 0)),.t 23] 2),.b 6 [31,35] (.mv (.t 24))]
(Sq (Ra 25 [.C 0,.Z 25,.Y 0]
(Bl 2 (Ra 28 [.O .lss 27 26]
(Sq (cX 28 2)
(Sq (Bk 3 (Ra 29 [.I 1 25 27,.L 29,.M 8 30]
(Rc 31 [.y 6 (.cp (.t 6)),.C 8,.o (.app 1 8 (.t 31) (.t 32)),.b 6 [31,35] (.mv (.t 33))])))
(Rc 34 [.P .add 27 1,.w 27,.C 34]))))))
(Rb 35 [.y 6 (.cp (.t 6)),.M 2 35]))))))
def f115g:Gi:=⟨[(31,[6]),(35,[6])]⟩
def f115r:List RV:=[.tmp 2]
namespace Iu
def J2(j:iq):ABu (List Int):=
some j
def L2(a:jb)(L2:iw)(b:iq)(e:Int):=
if decide (e<(a.length:Int))then
(gt a e).bind λi=>
if Am (b.length+i.length) 8=true then
L2 (b++i) (A6 (e+1))
else none
else
J2 b
def CC(a:jb):Nat->(List Int)->Int->ABu (List Int)
|0,_,_=>none
|n+1,b,e=>L2 a (CC a n) b e
def J1(a:jb)(l:Int):=
(W6 l).bind λo=>
CC a BT o 0
def L1(a:jb)(L1:Int->Int->ABu (List Int))(c d:Int):=
if decide (d<(a.length:Int))then
(gt a d).bind λf=>
if decide ((A6 (c+(f.length:Int)))<0)then
none
else
L1 (A6 (c+(f.length:Int))) (A6 (d+1))
else
J1 a c
def AW(a:jb):Nat->Int->Int->ABu (List Int)
|0,_,_=>none
|n+1,c,d=>L1 a (AW a n) c d
end Iu
section
open Iu
def Iu(a:jb):=
AW a BT 0 0
theorem WJ{a:jb}{r:iq}(h:Iu a=some r):Says prog 115 [vS 1 bJ a] (vO 1 eI r):=by refine wO mix func115 (I:=⟨f115c,f115g,f115r⟩) ?_;simp only[f115c,f115g,f115r];have a1:= @aV;have l2:=im λ_ _ _ _ n c=>∃b e,(c 6=vO 1 eI b/\c 25=vS 1 bJ a/\c 26=si (a.length:Int)/\c 27=si e)/\CC a n b e=some r;have l1:=im λ_ _ _ _ n b=>∃c d,(b 0=vS 1 bJ a/\b 3=si c/\b 9=vS 1 bJ a/\b 10=si (a.length:Int)/\b 11=si d)/\AW a n c d=some r;unfold Iu at h;exact walk
end
namespace Jd
def J4(t:iq):ABu (List Int):=
some t
def J3(L1:iw)(c:Int)(s:iq):=
L1 s (A6 (c+1))
def J2(L2:lq)(e:Int)(q:iq)(o:Int):=
L2 q o (A6 (e+1))
def J1(L2:lq)(f e:Int)(p:iq):=
J2 L2 e p (A6 (f+1))
def L2(L1:iw)(c b:Int)(a:AG)(j:Int)(L2:lq)(i:iq)(f e:Int):=
if decide (e<(a.AB.length:Int))then
(gt a.AB e).bind λv=>
if v.cr != b then
J2 L2 e i f
else
if f==j then
if Am (i.length+1) 8=true then
J1 L2 f e (i++[e])
else none
else
J1 L2 f e i
else
J3 L1 c i
def CC(L1:iw)(c b:Int)(a:AG)(j:Int):Nat->(List Int)->Int->Int->ABu (List Int)
|0,_,_,_=>none
|n+1,i,f,e=>L2 L1 c b a j (CC L1 c b a j n) i f e
def L1(d:iq)(b:Int)(a:AG)(L1:iw)(l:iq)(c:Int):=
if decide (c<(d.length:Int))then
(gt d c).bind λj=>
(gt a.db.dc b).bind λu=>
CC L1 c b a j BT l u 0
else
J4 l
def AW(d:iq)(b:Int)(a:AG):Nat->(List Int)->Int->ABu (List Int)
|0,_,_=>none
|n+1,l,c=>L1 d b a (AW d b a n) l c
end Jd
section
open Jd
def Jd(a:AG)(b:Int)(d:iq):=
AW d b a BT [] 0
end
end Go.Abs
