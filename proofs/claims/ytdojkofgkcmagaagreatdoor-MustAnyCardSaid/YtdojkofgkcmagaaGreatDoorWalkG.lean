/- Go functions do what typed programs say. -/
import Derived.Test.YtdojkofgkcmagaaGreatDoorWalkA
import Derived.Test.YtdojkofgkcmagaaGreatDoorWalkD
import Derived.Test.YtdojkofgkcmagaaGreatDoorWalkE
import Derived.Shelf.Slices.SearchI
set_option linter.all false
namespace Go.Abs
open Go.Proofs Tryz
set_option maxRecDepth 1000000
set_option maxHeartbeats 100000000
namespace BE
def gN(ad:kw):ABm (List AY):=some ad
def P9(L3:jl)(b:Int)(ac:kw):=L3 ac (A9 (b+1))
def OE(L3:jl)(p a b:Int)(j:md)(i:AH)(x:kw):=if p==a then
if Aq (x.length+1) 32=true then
P9 L3 b (x++[(AY.mk i.cT b (-1) j.2)])
else none
else
P9 L3 b x
def J9(L4:jl)(o:Int)(al:kw):=L4 al (A9 (o+1))
def J8(L4:jl)(q:kw)(o b:Int)(ao:Bool):=if ao then(gt q o).bind λy=>J9 L4 o (q.set o.toNat (AY.mk y.cT y.YM b y.ei))
else
J9 L4 o q
def L4(L3:jl)(p a:Int)(f:kw)(b:Int)(j:md)(i:AH)(L4:jl)(q:kw)(o:Int):=if decide (o<(f.length:Int))then(gt q o).bind λaa=>if aa.cT==i.cT then
J8 L4 q o b (decide (aa.e7<0))
else
J8 L4 q o b false
else
OE L3 p a b j i q
def gD(L3:jl)(p a:Int)(f:kw)(b:Int)(j:md)(i:AH):Nat->(List AY)->Int->ABm (List AY)
|0,_,_=>none
|n+1,q,o=>L4 L3 p a f b j i (gD L3 p a f b j i n) q o
def J7(L3:jl)(a:Int)(f:kw)(b:Int)(j:md)(i:AH)(p w:Int):=if w==a then
gD L3 p a f b j i BQ f 0
else
OE L3 p a b j i f
def J6(L3:jl)(a:Int)(f:kw)(b:Int)(j:md)(i:AH)(z:Int):=if i.da==13 then
J7 L3 a f b j i z a
else
J7 L3 a f b j i z (-1)
def L3(d:jo)(a:Int)(e:AG)(L3:jl)(f:kw)(b:Int):=if decide (b<(d.length:Int))then(gt d b).bind λi=>(Gc e i).bind λj=>(Gd e i).bind λap=>if a==(e.AK.length:Int)then
if i.da==12 then
J6 L3 a f b j i a
else
J6 L3 a f b j i (-1)
else
J7 L3 a f b j i j.1 ap.1
else
gN f
def Fw(d:jo)(a:Int)(e:AG):Nat->(List AY)->Int->ABm (List AY)
|0,_,_=>none
|n+1,f,b=>L3 d a e (Fw d a e n) f b
def J5(d:jo)(a:Int)(e:AG)(aj:kw):=Fw d a e BQ aj 0
def J4(L1:jl)(c:Int)(ai:kw):=L1 ai (A9 (c+1))
def J1(L1:jl)(c:Int)(ab:kw):=J4 L1 c ab
def J3(L2:jl)(t:Int)(af:kw):=L2 af (A9 (t+1))
def L2(L1:jl)(c:Int)(u:AQ)(L2:jl)(v:kw)(t:Int):=if decide (t<(u.Ae.length:Int))then(gt u.Ae t).bind λau=>if au==c then
if Aq (v.length+1) 32=true then
J3 L2 t (v++[(AY.mk c (-1) (-1) true)])
else none
else
J3 L2 t v
else
J4 L1 c v
def B9(L1:jl)(c:Int)(u:AQ):Nat->(List AY)->Int->ABm (List AY)
|0,_,_=>none
|n+1,v,t=>L2 L1 c u (B9 L1 c u n) v t
def J2(L1:jl)(a:Int)(l:AP)(c:Int)(ae:kw):=(gt l.AK a).bind λu=>B9 L1 c u BQ ae 0
def L1(d:jo)(a:Int)(l:AP)(e:AG)(L1:jl)(s:kw)(c:Int):=if decide (c<(l.AB.length:Int))then
if a==(e.AK.length:Int)then
if l.Tx==c then
if Aq (s.length+1) 32=true then
J1 L1 c (s++[(AY.mk c (-1) (-1) false)])
else none
else
J1 L1 c s
else(gt l.AK a).bind λaq=>if aq.Bw==c then
if Aq (s.length+1) 32=true then
J2 L1 a l c (s++[(AY.mk c (-1) (-1) false)])
else none
else
J2 L1 a l c s
else
J5 d a e s
def AU(d:jo)(a:Int)(l:AP)(e:AG):Nat->(List AY)->Int->ABm (List AY)
|0,_,_=>none
|n+1,s,c=>L1 d a l e (AU d a l e n) s c
end BE
variable{e:AG}{d:AP}{f:jo}{a:Int}{b:kw}
section
open BE
def BE(e:AG)(l:AP)(d:jo)(a:Int):=AU d a l e BQ [] 0
theorem Vb(h:BE e d f a=some b):Says prog 74 [.agg (A0 e),.agg (HI d),vS 7 Am f,si a] (vO 4 FM b):=by refine kO mix func74 (hn [(4,[27,94]),(5,[20,31,40,53]),(9,[35,48,67,109,114,116,117,123,125,126,130,133,134,139,148]),(14,[98,102,119,140])] [(28,7)]) ?_;have a1:=@VY;have a2:=@Va;have l3:=iJ λn c=>∃l r,(c 3=si a/\c 4=bA 6 (A0 e)/\c 9=vO 4 FM l/\c 74=vS 7 Am f/\c 75=si (f.length:Int)/\c 76=si r)/\Fw f a e n l r=some b;have l4:=iy λ_ _ c _ n g=>∃(p:Int)(l:kw)(r:Int)(j:md)(i:AH)(q:kw)(o:Int),(g 3=si a/\g 4=bA 6 (A0 e)/\g 9=vO 4 FM q/\g 13=si r/\g 14=bA 7 (Am i)/\g 15=si p/\g 16=sb j.2/\g 74=vS 7 Am f/\g 75=si (f.length:Int)/\g 76=si r/\g 110=si (l.length:Int)/\g 111=si o)/\gD (Fw f a e c) p a l r j i n q o=some b;have l1:=iJ λn r=>∃s c,(r 2=vS 7 Am f/\r 3=si a/\r 4=bA 6 (A0 e)/\r 5=bA 4 (HI d)/\r 9=vO 4 FM s/\r 22=si (d.AB.length:Int)/\r 23=si c)/\AU f a d e n s c=some b;have l2:=iy λr _ _ _ n l=>∃(c:Int)(u:AQ)(v:kw)(t:Int),(l 2=vS 7 Am f/\l 3=si a/\l 4=bA 6 (A0 e)/\l 5=bA 4 (HI d)/\l 9=vO 4 FM v/\l 10=si c/\l 22=si (d.AB.length:Int)/\l 23=si c/\l 58=vS 1 eI u.Ae/\l 59=si (u.Ae.length:Int)/\l 60=si t)/\B9 (AU f a d e r) c u n v t=some b;have c7:=iz 7 λ_ _ c _ g=>∃(l:kw)(r:Int)(j:md)(i:AH)(p w:Int),(g 3=si a/\g 4=bA 6 (A0 e)/\g 9=vO 4 FM l/\g 13=si r/\g 14=bA 7 (Am i)/\g 15=si p/\g 16=sb j.2/\g 17=si w/\g 74=vS 7 Am f/\g 75=si (f.length:Int)/\g 76=si r)/\J7 (Fw f a e c) a l r j i p w=some b;unfold BE at h;exact walk
end
namespace Ib
def J2(i:AF):ABm AF:=if Aq (i.AA.length+2) 88=true then
some (AF.mk i.db i.eu i.de (i.AA++[(AH.mk 1 3 0 1 6 [] []),(AH.mk 1 5 (-1) 1 7 [1] [])]))
else none
def L2(c:Int)(L2:AF->Int->ABm AF)(b:AF)(f:Int):=if decide (f<c)then
if Aq (b.AA.length+1) 88=true then
L2 (AF.mk b.db b.eu b.de (b.AA++[(AH.mk (A9 (2*f)) 4 0 1 (A9 (12*f)) [] [])])) (A9 (f+1))
else none
else
J2 b
def B9(c:Int):Nat->AF->Int->ABm AF
|0,_,_=>none
|n+1,b,f=>L2 c (B9 c n) b f
def J1(c:Int)(j:AF):=B9 c BQ (AF.mk j.db (j.de.df.length:Int) j.de j.AA) 0
def L1(c:Int)(e:AD)(L1:AF->Int->ABm AF)(a:AF)(d:Int):=if decide (d<(e.df.length:Int))then(gt a.de.df d).bind λp=>(gt a.de.dc.AB d).bind λo=>L1 (AF.mk a.db a.eu (AD.mk (AP.mk a.de.dc.AK a.de.dc.Tx a.de.dc.Bs (a.de.dc.AB.set d.toNat (AL.mk 2 o.DS o.dy))) a.de.dg a.de.AM (a.de.df.set d.toNat 1)) a.AA) (A9 (d+1))
else
J1 c a
def AU(c:Int)(e:AD):Nat->AF->Int->ABm AF
|0,_,_=>none
|n+1,a,d=>L1 c e (AU c e n) a d
end Ib
section
open Ib
def Ib(c:Int):=(Gj).bind λl=>(E5 l).bind λe=>AU c e BQ (AF.mk l 0 e []) 0
theorem Xg{c:Int}{r:AF}(h:Ib c=some r):Says prog 76 [si c] (.agg (A5 r)):=by refine kF mix func76 (hn [(3,[8,9,11,12,13,14,19,20,21,23,24,25,26,27,29,30,32,33,34,36,42,43,51,52,53,54,56,57,58,59])] (Z:=[(14,false,3,[(0,7,0)]),(14,false,3,[(0,9,0)]),(14,false,3,[(0,10,0)]),(14,false,3,[(0,11,0)]),(14,false,3,[(0,12,0)]),(14,false,3,[(0,13,0)])]) (E:=[(14,(.gz false 3 [(0,13,0)] (.gz false 3 [(0,12,0)] (.gz false 3 [(0,11,0)] (.gz false 3 [(0,10,0)] (.gz false 3 [(0,9,0)] (.gz false 3 [(0,7,0)] (.drw (Jc [6,7,8,9,10,11] (.fork 0 12 (Jc [0] (.fork 1 12 (Jc [1] (.fork 2 12 (Jc [2] (.fork 3 12 (Jc [3] (.fork 4 12 (Jc [4] (.fork 5 12 (Jc [5,12,13,14] .leaf) (Jc [12,5,13,14] .leaf))) (Jc [12,4,5,13,14] .leaf))) (.fork 4 12 (Jc [4] (.fork 5 12 (Jc [5,12,3,13,14] .leaf) (Jc [12,3,5,13,14] .leaf))) (Jc [12,3,4,5,13,14] .leaf)))) (.fork 4 12 (Jc [4] (.fork 5 12 (Jc [5,12,2,3,13,14] .leaf) (Jc [12,2,3,5,13,14] .leaf))) (Jc [12,2,3,4,5,13,14] .leaf)))) (.fork 2 12 (Jc [2] (.fork 3 12 (Jc [3] (.fork 4 12 (Jc [4] (.fork 5 12 (Jc [5,12,1,13,14] .leaf) (Jc [12,1,5,13,14] .leaf))) (Jc [12,1,4,5,13,14] .leaf))) (.fork 4 12 (Jc [4] (.fork 5 12 (Jc [5,12,1,3,13,14] .leaf) (Jc [12,1,3,5,13,14] .leaf))) (Jc [12,1,3,4,5,13,14] .leaf)))) (.fork 4 12 (Jc [4] (.fork 5 12 (Jc [5,12,1,2,3,13,14] .leaf) (Jc [12,1,2,3,5,13,14] .leaf))) (Jc [12,1,2,3,4,5,13,14] .leaf))))) (.fork 2 12 (Jc [2] (.fork 3 12 (Jc [3] (.fork 4 12 (Jc [4] (.fork 5 12 (Jc [5,12,0,1,13,14] .leaf) (Jc [12,0,1,5,13,14] .leaf))) (Jc [12,0,1,4,5,13,14] .leaf))) (.fork 4 12 (Jc [4] (.fork 5 12 (Jc [5,12,0,1,3,13,14] .leaf) (Jc [12,0,1,3,5,13,14] .leaf))) (Jc [12,0,1,3,4,5,13,14] .leaf)))) (.fork 4 12 (Jc [4] (.fork 5 12 (Jc [5,12,0,1,2,3,13,14] .leaf) (Jc [12,0,1,2,3,5,13,14] .leaf))) (Jc [12,0,1,2,3,4,5,13,14] .leaf))))) [KK 52 3 0 3,i1 53 3 (.ld true 6 (.t 52)),KK 54 3 6 3,iL 55 54,KK 56 3 7 3,i1 57 3 (.ld true 7 (.t 56)),KK 58 3 14 3,Un 59 3 58,i0 60 (.UG z3 [(0,1,.c (si 1)),(1,1,.c (si 3)),(3,1,.c (si 1)),(4,1,.c (si 6))]),i0 61 (.Ot 1 [[si 0]] [(0,.c (si 1))]),i0 62 (.UG z3 [(0,1,.c (si 1)),(1,1,.c (si 5)),(2,1,.c (si (-1))),(3,1,.c (si 1)),(4,1,.c (si 7)),(5,1,.t 61)]),i0 63 (.Ot 7 [z3,z3] [(0,.t 60),(1,.t 62)]),i0 64 (.app 7 88 (.t 59) (.t 63)),i0 65 (.UG z2 [(0,6,.t 53),(6,1,.t 55),(7,7,.t 57),(14,1,.t 64)]),iS 15 2 65]))))))))])) ?_;have a1:=@RL;have a2:=@JF;have l2:=iJ λn a=>∃(b:AF)(f:Int),(a 0=si c/\a 2=bA 15 z2/\a 3=bA 15 [vS 5 G5 b.db.dg,vS 2 IE b.db.AK,vS 2 ID b.db.Aj,vS 1 eS b.db.AM,vS 1 eS b.db.AB,vS 3 GP b.db.Bu,si b.eu,vO 2 B3 b.de.dc.AK,si b.de.dc.Tx,vO 1 eB b.de.dc.Bs,vO 3 Ax b.de.dc.AB,vO 1 eI b.de.dg,vO 1 eI b.de.AM,vO 1 eI b.de.df,vO 7 Ix b.AA]/\a 5=si f)/\B9 c n b f=some r;have l1:=iJ λn b=>∃(e:AD)(a:AF)(d:Int),(b 0=si c/\b 2=bA 15 z2/\b 3=bA 15 [vS 5 G5 a.db.dg,vS 2 IE a.db.AK,vS 2 ID a.db.Aj,vS 1 eS a.db.AM,vS 1 eS a.db.AB,vS 3 GP a.db.Bu,si a.eu,vO 2 B3 a.de.dc.AK,si a.de.dc.Tx,vO 1 eB a.de.dc.Bs,vO 3 Ax a.de.dc.AB,vO 1 eI a.de.dg,vO 1 eI a.de.AM,vO 1 eI a.de.df,vO 7 Ix a.AA]/\b 15=si (e.df.length:Int)/\b 16=si d)/\AU c e n a d=some r;unfold Ib at h;exact walk
end
namespace BC
def J8:=some true
def J7(L3:i6)(d:Int)(p:Bool):=if p then
some false
else
L3 (A9 (d+1))
def J6(L3:i6)(d:Int)(a:AF)(f:AL)(o:Bool):=if o then
some false
else
if f.dh==3 then(gt a.db.Aj f.DS).bind λz=>(gt a.de.dc.AK z.dn).bind λaa=>J7 L3 d (aa.Bw==d)
else
if f.dh==4 then(gt a.db.Aj f.DS).bind λab=>(gt a.de.dc.AK ab.dn).bind λac=>J7 L3 d (ac.Bw==d)
else
J7 L3 d false
def L3(a:AF)(L3:i6)(d:Int):=if decide (d<(a.de.dc.AB.length:Int))then(gt a.de.dc.AB d).bind λf=>if f.dy then(Fj a d).bind λv=>J6 L3 d a f (!v)
else
J6 L3 d a f false
else
J8
def Fw(a:AF):Nat->Int->ABm Bool
|0,_=>none
|n+1,d=>L3 a (Fw a n) d
def J5(a:AF)(j:Bool):=if j then
some false
else
Fw a BQ 0
def J4(a:AF):=if a.de.dc.Tx != (-1)then(Fj a a.de.dc.Tx).bind λu=>J5 a (!u)
else
J5 a false
def J3(L1:i6)(b:Int):=L1 (A9 (b+1))
def J2(L2:i6)(e:Int)(q:Bool):=if q then
some false
else
L2 (A9 (e+1))
def L2(L1:i6)(b:Int)(a:AF)(c:AQ)(L2:i6)(e:Int):=if decide (e<(c.Ae.length:Int))then(gt c.Ae e).bind λl=>(Fj a l).bind λt=>if !t then
J2 L2 e true
else
if decide (e>0)then(gt c.Ae (A9 (e-1))).bind λy=>J2 L2 e (decide (l<=y))
else
J2 L2 e false
else
J3 L1 b
def B9(L1:i6)(b:Int)(a:AF)(c:AQ):Nat->Int->ABm Bool
|0,_=>none
|n+1,e=>L2 L1 b a c (B9 L1 b a c n) e
def J1(L1:i6)(b:Int)(a:AF)(c:AQ)(i:Bool):=if i then
some false
else
B9 L1 b a c BQ 0
def L1(a:AF)(L1:i6)(b:Int):=if decide (b<(a.de.dc.AK.length:Int))then(gt a.de.dc.AK b).bind λc=>if c.Bw != (-1)then(Fj a c.Bw).bind λs=>if !s then
J1 L1 b a c true
else
if decide ((c.Ae.length:Int)>0)then(gt a.db.AK b).bind λw=>if !w.RW then
J1 L1 b a c true
else
J1 L1 b a c (c.Bw != (-1))
else
J1 L1 b a c false
else
if decide ((c.Ae.length:Int)>0)then(gt a.db.AK b).bind λx=>if !x.RW then
J1 L1 b a c true
else
J1 L1 b a c (c.Bw != (-1))
else
J1 L1 b a c false
else
J4 a
def AU(a:AF):Nat->Int->ABm Bool
|0,_=>none
|n+1,b=>L1 a (AU a n) b
end BC
section
open BC
def BC(a:AF):=AU a BQ 0
theorem Wm{a:AF}{r:Bool}(h:BC a=some r):Says prog 54 [.agg (A5 a)] (sb r):=by refine kO mix func54 (hn [(1,[9,10,40,41,129,130]),(3,[13,19,88,93,99,105,127]),(5,[24,29,35,49,56,63,74,79]),(8,[110,118,122,132])] [(9,1),(18,5)]) ?_;have a1:=@aC;have l3:=iJ λn b=>∃d,(b 1=bA 15 (A5 a)/\b 3=bA 4 (HI a.de.dc)/\b 7=si d)/\Fw a n d=some r;have l1:=iJ λn c=>∃b,(c 1=bA 15 (A5 a)/\c 3=bA 4 (HI a.de.dc)/\c 4=si b)/\AU a n b=some r;have l2:=iy λd _ _ _ n f=>∃b c e,(f 1=bA 15 (A5 a)/\f 3=bA 4 (HI a.de.dc)/\f 4=si b/\f 5=bA 2 (C5 c)/\f 6=si e)/\B9 (AU a d) b a c n e=some r;have c5:=iR 5 λb=>∃j,(b 1=bA 15 (A5 a)/\b 3=bA 4 (HI a.de.dc)/\b 97=sb j)/\J5 a j=some r;have c1:=iz 1 λd _ _ _ e=>∃b c i,(e 1=bA 15 (A5 a)/\e 3=bA 4 (HI a.de.dc)/\e 4=si b/\e 5=bA 2 (C5 c)/\e 54=sb i)/\J1 (AU a d) b a c i=some r;unfold BC at h;exact walk
end
namespace Cs
def J2(q:Bool):ABm Bool:=some q
def J3(s:Bool):ABm Bool:=some s
def J4(t:Bool):ABm Bool:=some t
def J7(u:Bool):ABm Bool:=some u
def J8(v:Bool):ABm Bool:=some v
def J6(a b:Int)(c:AP)(d:Int)(e:AG)(j:Bool):=if j then(gt e.Aj b).bind λap=>(gt c.AK ap.dn).bind λaq=>some (aq.Bw==d)
else
if a==20 then
if b != d then(gt c.AB b).bind λac=>J7 (ac.dh==0)
else
J7 false
else
if a==21 then
if b != d then(gt c.AB b).bind λad=>J8 (ad.dh==5)
else
J8 false
else
if a==22 then(gt c.Bs b).bind λae=>some (!ae)
else
if a==23 then(gt c.Bs b).bind λaf=>some af
else
some true
def J5(a b:Int)(c:AP)(d:Int)(e:AG)(f:AL)(i:Bool):=if i then(gt c.AK b).bind λal=>some (al.Bw==d)
else
if a==9 then(gt c.AK b).bind λao=>(HM ao.Ae d).bind λaa=>some aa
else
if a==12 then
some (c.Tx==(-1))
else
if a==13 then
some (c.Tx==d)
else
if a==14 then
some (!f.dy)
else
if a==15 then
some f.dy
else
if a==16 then
J6 a b c d e (a==16)
else
if a==18 then
J6 a b c d e (a==18)
else
J6 a b c d e (a==19)
def J1(a b:Int)(c:AP)(d:Int)(e:AG)(l:Bool):=if l then
some false
else(gt c.AB d).bind λf=>if a==1 then
some (f.dh==1)
else
if a==17 then
if f.dh==4 then
if f.DS==b then(gt e.Aj b).bind λab=>(gt c.AK ab.dn).bind λai=>J2 (ai.Bw==(-1))
else
J2 false
else
J2 false
else
if f.dh != 2 then
some false
else
if a==6 then(gt c.AK b).bind λaj=>some (aj.Bw==(-1))
else
if a==10 then(gt c.AK b).bind λo=>if o.Bw==(-1)then
J3 ((o.Ae.length:Int)==0)
else
J3 false
else
if a==8 then(gt c.AK b).bind λp=>if p.Bw==(-1)then(HM p.Ae d).bind λz=>J4 (!z)
else
J4 false
else
if a==7 then
J5 a b c d e f (a==7)
else
J5 a b c d e f (a==11)
end Cs
section
open Cs
def Cs(e:AG)(c:AP)(d a b:Int):=(E7 e c).bind λw=>if !w then
J1 a b c d e true
else(IL d (e.AB.length:Int)).bind λx=>if !x then
J1 a b c d e true
else(JD e a b).bind λy=>J1 a b c d e (!y)
theorem Of{e:AG}{c:AP}{d a b:Int}{r:Bool}(h:Cs e c d a b=some r):Says prog 66 [.agg (A0 e),.agg (HI c),si d,si a,si b] (sb r):=by refine kO mix func66 (hn [(5,[18,56,166]),(6,[31,54,73,82,90,101,109,122,132,142,147,164,183,197,207,215]),(11,[39,44,48,67,153,158])] [(2,1),(22,5),(35,6)]) ?_;have a1:=@PY;have a2:=@N6;have a3:=@XH;have a4:=@Z4;have c6:=iR 6 λf=>∃j,(f 2=si d/\f 4=si b/\f 5=bA 6 (A0 e)/\f 6=bA 4 (HI c)/\f 70=si a/\f 160=sb j)/\J6 a b c d e j=some r;have c5:=iR 5 λg=>∃f i,(g 2=si d/\g 4=si b/\g 5=bA 6 (A0 e)/\g 6=bA 4 (HI c)/\g 11=bA 3 (Ax f)/\g 70=si a/\g 119=sb i)/\J5 a b c d e f i=some r;have c1:=iR 1 λf=>∃l,(f 2=si d/\f 3=si a/\f 4=si b/\f 5=bA 6 (A0 e)/\f 6=bA 4 (HI c)/\f 30=sb l)/\J1 a b c d e l=some r;unfold Cs at h;exact walk
end
namespace En
def J6(aa:AZ)(w:AH):ABm (AH×AZ):=some (w,aa)
def J5(e:AH)(b:je)(p:AZ)(a:j7)(z:Bool):=if z then(gt b a.1).bind λae=>(Gf p ae).bind λv=>J6 v.2 (AH.mk e.cT e.da e.di e.dm e.d8 e.D4 v.1)
else
J6 p e
def J4(b:je)(a:j7)(p:AZ)(e:AH):=if e.da==4 then
J5 e b p a true
else
J5 e b p a (e.da==22)
def J3(c:AH)(b:je)(a j l:j7)(y:Bool):=if y then(gt b a.1).bind λad=>(Gf l.2 ad).bind λu=>J4 b a u.2 (AH.mk c.cT c.da j.1 l.1 c.d8 u.1 c.DL)
else
J4 b a l.2 (AH.mk c.cT c.da j.1 l.1 c.d8 c.D4 c.DL)
def J2(b:je)(f:AD)(a i:j7)(d:AG)(c:AH):=(ED i.2 c.da a.1).bind λj=>(Hx j.2 f c.da j.1).bind λl=>if c.da==5 then
J3 c b a j l true
else
if c.da==3 then(gt d.dg j.1).bind λab=>J3 c b a j l (decide (ab.Ca>0))
else
if c.da==4 then(gt d.dg j.1).bind λac=>J3 c b a j l (decide (ac.Ca>0))
else
J3 c b a j l false
def J1(b:je)(f:AD)(a i:j7)(d:AG)(o:Int)(x:Bool):=if x then
J2 b f a i d (AH.mk a.1 o 0 0 (-1) [] [])
else
J2 b f a i d (AH.mk a.1 o 0 0 (A9 ((A9 (a.1*6))+i.1)) [] [])
end En
section
open En
def En(q:AZ)(f:AD)(d:AG)(b:je):=(Ao q 4).bind λa=>(Oj).bind λs=>(Ao a.2 (s.length:Int)).bind λt=>(gt s t.1).bind λo=>(Ao t.2 6).bind λi=>if o==1 then
J1 b f a i d o true
else
J1 b f a i d o (o==2)
theorem aO{q:AZ}{f:AD}{d:AG}{b:je}{r:AH×AZ}(h:En q f d b=some r):BF prog 134 [bA 2 (Ft q),.agg (Bc f),.agg (A0 d),vO 1 KS b] (.agg (Ix r.1)) [bA 2 (Ft r.2),.dead,.dead,vO 1 KS b]:=by refine kL mix func134 (hn [(0,[12,17,38,44,75,90]),(3,[76,78,79,91,93,94]),(6,[65]),(10,[16,18,21]),(11,[29,33,37,39,43,46,48,51,52,56,60,67,81,82,86,96,97])] [(4,2)] (E:=[(3,(.iH [(0,10,11,25)] [iC 15 9,i1 16 10 (.cp (.t 10)),i1 17 0 (.cp (.t 0)),i1 18 10 (.cp (.t 10)),iZ 19 18,i0 20 (.YR 132 [] (.t 17) none [.t 19]),qK 21 10 1 16 20,iL 22 21,iC 23 9,iP 24 .mul 23 6,i0 25 .fl,i0 26 (.YR 132 [] (.t 0) none [.c (si 6)]),iO 27 .add 24 26,i0 28 (.UG z3 [(0,1,.t 15),(1,1,.t 22),(4,1,.t 27)]),⟨some ⟨11,[29,33,37,39,43,46,48,51,52,56,60,67,81,82,86,96,97],[]⟩,.bx 7 (.c (.agg z3)),none⟩,iS 7 11 28])),(9,(.dP [.o (i1 75 0 (.cp (.t 0))),.o (i1 76 3 (.cp (.t 3))),.o (iC 77 9),.o (qK 78 3 1 76 77),.o (Un 79 3 78),.lb (some ⟨80,[],[]⟩) 178 (.t 75) [] (.t 79),.o (KK 81 11 5 11),.o (iS 1 81 80)])),(11,(.dP [.o (i1 90 0 (.cp (.t 0))),.o (i1 91 3 (.cp (.t 3))),.o (iC 92 9),.o (qK 93 3 1 91 92),.o (Un 94 3 93),.lb (some ⟨95,[],[]⟩) 178 (.t 90) [] (.t 94),.o (KK 96 11 6 11),.o (iS 1 96 95)]))])) ?_;have a1:=@DD;have a2:=@aP;have a3:=@YB;have a4:=@aQ;have a5:=@dU;have c2:=iR 2 λe=>∃(a i:j7)(c:AH),(e 0=bA 2 (Ft i.2)/\e 3=vO 1 KS b/\e 5=bA 7 (Bc f)/\e 6=bA 6 (A0 d)/\e 8=bA 7 z3/\e 9=si a.1/\e 11=bA 7 (Ix c))/\J2 b f a i d c=some r;unfold En at h;exact walk
end
namespace Ab
def J1(i:Bool):ABm Bool:=some i
def J2(j:Bool):ABm Bool:=some j
def J4(l:Bool):ABm Bool:=some l
def J6(o:Bool):ABm Bool:=some o
def J9(p:Bool):ABm Bool:=some p
def OE(q:Bool):ABm Bool:=some q
def J8(a:An)(b:AG)(c:Bool):=if c then(EC a.A (b.AB.length:Int)).bind λz=>some z
else
if a.Op==26 then(EC a.A (b.AM.length:Int)).bind λaa=>some aa
else
if a.Op==27 then(EC a.B (b.AM.length:Int)).bind λab=>some ab
else
if a.Op==3 then
if a.N==4 then
J9 true
else
J9 (a.N==5)
else
if a.Op==4 then
if decide (a.N>=6)then
OE (decide (a.N<=18))
else
OE false
else
some true
def J7(a:An)(b:AG)(f:Bool):=if f then(EC a.A (b.Aj.length:Int)).bind λy=>some y
else
if a.Op==24 then
J8 a b (a.Op==24)
else
J8 a b (a.Op==25)
def J5(a:An)(b:AG)(e:Bool):=if e then(EC a.A (b.AK.length:Int)).bind λx=>if x then(gt b.AK a.A).bind λaf=>J6 af.RW
else
J6 false
else
if a.Op==21 then
J7 a b (a.Op==21)
else
if a.Op==22 then
J7 a b (a.Op==22)
else
J7 a b (a.Op==23)
def J3(a:An)(b:AG)(d:Bool):=if d then(EC a.A (b.AK.length:Int)).bind λw=>if w then(gt b.AK a.A).bind λae=>J4 (!ae.RW)
else
J4 false
else
if a.Op==13 then
J5 a b (a.Op==13)
else
if a.Op==14 then
J5 a b (a.Op==14)
else
if a.Op==15 then
J5 a b (a.Op==15)
else
J5 a b (a.Op==16)
end Ab
section
open Ab
def Ab(b:AG)(a:An):=if a.Op==6 then(EC a.B (b.dg.length:Int)).bind λs=>if s then(gt b.dg a.B).bind λac=>J1 (ac.Ca==0)
else
J1 false
else
if a.Op==8 then(EC a.A (b.dg.length:Int)).bind λt=>if t then(gt b.dg a.A).bind λad=>J2 (ad.Ca==0)
else
J2 false
else
if a.Op==7 then(Ga b a.B a.N).bind λu=>some u
else
if a.Op==9 then(Ga b a.A a.N).bind λv=>some v
else
if a.Op==11 then
J3 a b (a.Op==11)
else
J3 a b (a.Op==12)
theorem Wi{b:AG}{a:An}{r:Bool}(h:Ab b a=some r):Says prog 209 [.agg (A0 b),.agg (EX a)] (sb r):=by refine kO mix func209 (hn [(2,[11,16,29,34,64,69,85,90,104,113,121,129]),(3,[5,9,18,27,36,46,48,54,56,62,71,83,92,102,111,119,127,135,139,145,149])] [(11,3),(14,5),(19,7),(23,8)]) ?_;have a1:=@Q8;have a2:=@Zy;have c8:=iR 8 λd=>∃c,(d 2=bA 6 (A0 b)/\d 3=bA 6 (EX a)/\d 6=si a.Op/\d 108=sb c)/\J8 a b c=some r;have c7:=iR 7 λc=>∃f,(c 2=bA 6 (A0 b)/\c 3=bA 6 (EX a)/\c 6=si a.Op/\c 98=sb f)/\J7 a b f=some r;have c5:=iR 5 λc=>∃e,(c 2=bA 6 (A0 b)/\c 3=bA 6 (EX a)/\c 6=si a.Op/\c 78=sb e)/\J5 a b e=some r;have c3:=iR 3 λc=>∃d,(c 2=bA 6 (A0 b)/\c 3=bA 6 (EX a)/\c 6=si a.Op/\c 59=sb d)/\J3 a b d=some r;unfold Ab at h;exact walk
end
namespace BB
def J3(L1:li)(a:Int)(y:AE)(x:iT):=L1 y x (A9 (a+1))
def J2(L2:lh)(f:Int)(w:iT):=L2 w (A9 (f+1))
def L2(L1:li)(a:Int)(e:(List Int)×AE)(L2:lh)(i:iT)(f:Int):=if decide (f<(e.1.length:Int))then(gt e.1 f).bind λv=>(Gt i v).bind λz=>if !z then
if Aq (i.length+1) 8=true then
J2 L2 f (i++[v])
else none
else
J2 L2 f i
else
J3 L1 a e.2 i
def B9(L1:li)(a:Int)(e:(List Int)×AE):Nat->(List Int)->Int->ABm AE
|0,_,_=>none
|n+1,i,f=>L2 L1 a e (B9 L1 a e n) i f
def J1(L1:li)(b a:Int)(d:iT)(c:AE)(j:iT)(p:Bool):=if p then
J3 L1 a c d
else(gt j 0).bind λq=>(gt c.d7 q).bind λt=>(gt t b).bind λac=>(gt c.w.AA q).bind λu=>(B7 (AE.mk c.w c.ef c.ep (c.d7.set q.toNat (t.set b.toNat true))) u.cT u.DL).bind λe=>B9 L1 a e BQ d 0
def L1(b:Int)(L1:li)(c:AE)(d:iT)(a:Int):=if decide (a<(d.length:Int))then(gt d a).bind λaa=>(BH c.w aa).bind λj=>if(j.length:Int) != 1 then
J1 L1 b a d c j true
else(gt j 0).bind λab=>J1 L1 b a d c j (decide (ab<0))
else
some c
def AU(b:Int):Nat->AE->(List Int)->Int->ABm AE
|0,_,_,_=>none
|n+1,c,d,a=>L1 b (AU b n) c d a
end BB
section
open BB
def BB(o:AE)(b:Int)(l:AH):=(B7 o l.cT l.D4).bind λs=>AU b BQ s.2 s.1 0
theorem PO{o:AE}{b:Int}{l:AH}{r:AE}(h:BB o b l=some r):BF prog 126 [bA 18 (Bf o),si b,.agg (Am l)] (.Bp []) [bA 18 (Bf r),.dead,.dead]:=by refine kL mix func126 (hn [(0,[12,24,25,26,27,42,43,44,45,49,50,52,53,54,55,56,57,61,62,63]),(5,[13,15]),(6,[19,28,30,74,78]),(8,[33,37,38,46,47,58,59]),(9,[64,66,67]),(68,[72])] [(8,1)]) ?_;have a1:=@PR;have a2:=@Mz;have a3:=@NG;have l1:=iJ λn e=>∃c d a,(e 0=bA 18 (Bf c)/\e 1=si b/\e 6=vO 1 eI d/\e 7=si a)/\AU b n c d a=some r;have l2:=iy λc _ _ _ n d=>∃(a:Int)(e:(List Int)×AE) (i:iT) (f:Int),(d 0=bA 18 (Bf e.2)/\d 1=si b/\d 6=vO 1 eI i/\d 7=si a/\d 68=vO 1 eI e.1/\d 69=si (e.1.length:Int)/\d 70=si f)/\B9 (AU b c) a e n i f=some r;have c1:=iz 1 λe _ _ _ f=>∃a d c j p,(f 0=bA 18 (Bf c)/\f 1=si b/\f 6=vO 1 eI d/\f 7=si a/\f 8=vO 1 eI j/\f 41=sb p)/\J1 (AU b e) b a d c j p=some r;unfold BB at h;exact walk
end
namespace GO
def J3(a:An)(b:AN)(t:Int)(l:Bool)(e:iT):ABm (AN×Bool):=if Aq (e.length) 8=true then(gt b.Dk a.A).bind λad=>(gt b.Dq a.A).bind λac=>some ((AN.mk (A9 (b.PC+1)) (b.Dk.set a.A.toNat t) (b.Dq.set a.A.toNat e) b.AA),l)
else none
def J2(a:An)(b:AN):=if a.Op==5 then
some ((AN.mk a.A b.Dk b.Dq b.AA),true)
else
if a.Op==1 then
J3 a b a.N true []
else
if a.Op==2 then(gt b.Dk a.B).bind λu=>(gt b.Dq a.B).bind λv=>J3 a b u true v
else
if a.Op==3 then(FW a.N).bind λp=>(gt b.Dk a.B).bind λw=>(NB p w).bind λf=>(gt b.Dq a.B).bind λx=>J3 a b f.1 f.2 x
else(FW a.N).bind λq=>(gt b.Dk a.B).bind λy=>(gt b.Dk a.C).bind λz=>(HT q y z).bind λi=>(gt b.Dq a.B).bind λaa=>(gt b.Dq a.C).bind λab=>(ER aa ab).bind λs=>J3 a b i.1 i.2 s
def J1(L1:Int->ABm (AN×Bool))(c:Int)(o:Bool):=if o then
some ((AN.mk 0 [] [] 0),false)
else
L1 (A9 (c+1))
def L1(a:An)(b:AN)(d:iT)(L1:Int->ABm (AN×Bool))(c:Int):=if decide (c<(d.length:Int))then(gt d c).bind λj=>if decide (j<0)then
J1 L1 c true
else
J1 L1 c (decide (j>=(b.Dk.length:Int)))
else
J2 a b
def AU(a:An)(b:AN)(d:iT):Nat->Int->ABm (AN×Bool)
|0,_=>none
|n+1,c=>L1 a b d (AU a b d n) c
end GO
section
open GO
def GO(a:An)(b:AN):=(Aw a).bind λd=>AU a b d BQ 0
theorem dG{a:An}{b:AN}{r:AN×Bool}(h:GO a b=some r):Says prog 243 [.agg (EX a),.agg (CP b)] (.Bp [.agg (CP r.1),sb r.2]):=by refine kO mix func243 (hn [(2,[35,38,43,49,58,64,71,77,83,89,96,101,110,116,120]),(3,[29,30,41,42,45,47,48,51,56,57,60,61,62,63,66,67,73,74,81,82,85,87,88,91,92,99,100,103,108,109,112,113,114,115,118,119,126,127,128,131,132]),(6,[14,19,21,25,27]),(10,[124])] (F:=[10]) (E:=[(22,(.pg true 3 [(0,2,0)] (Rc 114 [.F 1 3,.y 3 (.Zd (.t 114)),.f 1 2,.F 2 3,.y 3 (.Zd (.t 118)),.f 1 2,.C 8,.o (.Ot 1 [] []),.y 10 (.cp (.t 10)),.o (.app 1 8 (.t 123) (.t 124)),.J 3 1 115 117,.x ⟨none,.YV (.t 126) (.t 122),none⟩,.J 3 1 119 121,.S 1 127 125])))])) ?_;have a1:=@KF;have a2:=@VW;have a3:=@Zw;have a4:=@Xx;have a5:=@RA;have l1:=iJ λn e=>∃d c,(e 2=bA 6 (EX a)/\e 3=bA 4 (CP b)/\e 4=bA 4 z9/\e 6=vO 1 eI d/\e 7=si c)/\AU a b d n c=some r;unfold GO at h;exact walk
end
namespace EZ
def J1(o:Bool):ABm Bool:=some o
def J2(p:Bool):ABm Bool:=some p
def J5(q:Bool):ABm Bool:=some q
def J6(s:Bool):ABm Bool:=some s
def J4(a c:Int)(b:AP)(d:Int)(e:AG)(f:Bool):=if f then(gt e.Aj c).bind λad=>(gt b.AK ad.dn).bind λae=>some (ae.Bw==d)
else
if a==20 then
if c != d then(gt b.AB c).bind λaf=>J5 (af.dh==0)
else
J5 false
else
if a==21 then
if c != d then(gt b.AB c).bind λw=>J6 (w.dh==5)
else
J6 false
else
if a==22 then(gt b.Bs c).bind λx=>some (!x)
else
if a==23 then(gt b.Bs c).bind λy=>some y
else
some true
def J3(a c:Int)(b:AP)(d:Int)(e:AG)(i:Bool):=if i then(gt b.AK c).bind λz=>some (z.Bw==d)
else
if a==9 then(gt b.AK c).bind λaa=>(Gt aa.Ae d).bind λu=>some u
else
if a==12 then
some (b.Tx==(-1))
else
if a==13 then
some (b.Tx==d)
else
if a==14 then(gt b.AB d).bind λab=>some (!ab.dy)
else
if a==15 then(gt b.AB d).bind λac=>some ac.dy
else
if a==16 then
J4 a c b d e (a==16)
else
if a==18 then
J4 a c b d e (a==18)
else
J4 a c b d e (a==19)
end EZ
section
open EZ
def EZ(e:AG)(b:AP)(d a c:Int):=if a==6 then(gt b.AK c).bind λv=>some (v.Bw==(-1))
else
if a==10 then(gt b.AK c).bind λj=>if j.Bw==(-1)then
J1 ((j.Ae.length:Int)==0)
else
J1 false
else
if a==8 then(gt b.AK c).bind λl=>if l.Bw==(-1)then(Gt l.Ae d).bind λt=>J2 (!t)
else
J2 false
else
if a==7 then
J3 a c b d e (a==7)
else
J3 a c b d e (a==11)
theorem Xm{e:AG}{b:AP}{d a c:Int}{r:Bool}(h:EZ e b d a c=some r):Says prog 192 [.agg (A0 e),.agg (HI b),si d,si a,si c] (sb r):=by refine kO mix func192 (hn [(5,[115]),(6,[14,23,31,42,50,63,73,83,88,94,103,113,132,146,156,164])] [(9,3),(22,4)]) ?_;have a1:=@NG;have c4:=iR 4 λg=>∃f,(g 2=si d/\g 4=si c/\g 5=bA 6 (A0 e)/\g 6=bA 4 (HI b)/\g 11=si a/\g 109=sb f)/\J4 a c b d e f=some r;have c3:=iR 3 λf=>∃i,(f 2=si d/\f 4=si c/\f 5=bA 6 (A0 e)/\f 6=bA 4 (HI b)/\f 11=si a/\f 60=sb i)/\J3 a c b d e i=some r;unfold EZ at h;exact walk
end
namespace Ba
def J3(a i:AE):ABm AE:=if decide (a.w.de.dc.Tx>=0)then(Ak i a.w.de.dc.Tx (a.w.de.dc.AK.length:Int) false).bind λq=>some q
else
some i
def J2(L1:jp)(b:Int)(l:AE):=L1 l (A9 (b+1))
def L2(L1:jp)(b:Int)(c:AQ)(L2:jp)(f:AE)(e:Int):=if decide (e<(c.Ae.length:Int))then(gt c.Ae e).bind λs=>(Ak f s b true).bind λp=>L2 p (A9 (e+1))
else
J2 L1 b f
def B9(L1:jp)(b:Int)(c:AQ):Nat->AE->Int->ABm AE
|0,_,_=>none
|n+1,f,e=>L2 L1 b c (B9 L1 b c n) f e
def J1(L1:jp)(b:Int)(c:AQ)(j:AE):=B9 L1 b c BQ j 0
def L1(a:AE)(L1:jp)(d:AE)(b:Int):=if decide (b<(a.w.de.dc.AK.length:Int))then(gt a.w.de.dc.AK b).bind λc=>if decide (c.Bw>=0)then(Ak d c.Bw b false).bind λo=>J1 L1 b c o
else
J1 L1 b c d
else
J3 a d
def AU(a:AE):Nat->AE->Int->ABm AE
|0,_,_=>none
|n+1,d,b=>L1 a (AU a n) d b
end Ba
section
open Ba
def Ba(a:AE):=AU a BQ a 0
theorem QJ{a r:AE}(h:Ba a=some r):BF prog 128 [bA 18 (Bf a)] (.Bp []) [bA 18 (Bf r)]:=by refine kL mix func128 (hn [(0,[7,8,9,10,11,12,24,36,45]),(2,[13,14,19,20,42,46,48,49]),(4,[21,25,29,30,34])]) ?_;have a1:=@Nz;have l1:=iJ λn c=>∃d b,(c 0=bA 18 (Bf d)/\c 2=bA 4 (HI a.w.de.dc)/\c 14=vS 2 C5 a.w.de.dc.AK/\c 15=si (a.w.de.dc.AK.length:Int)/\c 16=si b)/\AU a n d b=some r;have l2:=iy λd _ _ _ n g=>∃(b:Int)(c:AQ)(f:AE)(e:Int),(g 0=bA 18 (Bf f)/\g 2=bA 4 (HI a.w.de.dc)/\g 3=si b/\g 14=vS 2 C5 a.w.de.dc.AK/\g 15=si (a.w.de.dc.AK.length:Int)/\g 16=si b/\g 30=vS 1 eI c.Ae/\g 31=si (c.Ae.length:Int)/\g 32=si e)/\B9 (AU a d) b c n f e=some r;unfold Ba at h;exact walk
end
namespace CS
def J4(t:iT):ABm (List Int):=some t
def J3(L1:jd)(a:Int)(s:iT):=L1 s (A9 (a+1))
def J2(L2:jd)(d:Int)(q:iT):=L2 q (A9 (d+1))
def L2(L1:jd)(a:Int)(e:iT)(L2:jd)(f:iT)(d:Int):=if decide (d<(e.length:Int))then(gt e d).bind λp=>(Iq f p).bind λw=>if !w then
if Aq (f.length+1) 8=true then
J2 L2 d (f++[p])
else none
else
J2 L2 d f
else
J3 L1 a f
def B9(L1:jd)(a:Int)(e:iT):Nat->(List Int)->Int->ABm (List Int)
|0,_,_=>none
|n+1,f,d=>L2 L1 a e (B9 L1 a e n) f d
def J1(L1:jd)(a:Int)(c i:iT)(b:AF)(u:Bool):=if u then
J3 L1 a c
else(gt i 0).bind λz=>(gt b.AA z).bind λo=>(CZ b o.cT o.DL).bind λe=>B9 L1 a e BQ c 0
def L1(b:AF)(L1:jd)(c:iT)(a:Int):=if decide (a<(c.length:Int))then(gt c a).bind λx=>(Bm b x).bind λi=>if(i.length:Int) != 1 then
J1 L1 a c i b true
else(gt i 0).bind λy=>J1 L1 a c i b (decide (y<0))
else
J4 c
def AU(b:AF):Nat->(List Int)->Int->ABm (List Int)
|0,_,_=>none
|n+1,c,a=>L1 b (AU b n) c a
end CS
variable{g:AF}{c:iT}
section
open CS
def CS(b:AF)(j:Int):=(gt b.AA j).bind λl=>(CZ b l.cT l.D4).bind λv=>AU b BQ v 0
theorem X4(h:CS g a=some c):Says prog 71 [.agg (A5 g),si a] (vO 1 eI c):=by refine kO mix func71 (hn [(2,[11,17,46,54]),(5,[25,31,33,68,72,77]),(7,[36,40,41,48,49,56,57]),(62,[66])]) ?_;have a1:=@X3;have a2:=@Jg;have a3:=@jT;have l1:=iJ λn d=>∃r j,(d 2=bA 15 (A5 g)/\d 5=vO 1 eI r/\d 6=si j)/\AU g n r j=some c;have l2:=iy λr _ _ _ n b=>∃(j:Int)(e f:iT)(d:Int),(b 2=bA 15 (A5 g)/\b 5=vO 1 eI f/\b 6=si j/\b 62=vO 1 eI e/\b 63=si (e.length:Int)/\b 64=si d)/\B9 (AU g r) j e n f d=some c;unfold CS at h;exact walk
end
end Go.Abs
