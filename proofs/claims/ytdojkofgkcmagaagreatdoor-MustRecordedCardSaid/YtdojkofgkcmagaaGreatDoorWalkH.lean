/- Go functions do what typed programs say. -/
import Derived.Test.YtdojkofgkcmagaaGreatDoorWalkA
import Derived.Test.YtdojkofgkcmagaaGreatDoorWalkD
import Derived.Test.YtdojkofgkcmagaaGreatDoorWalkE
import Derived.Test.YtdojkofgkcmagaaGreatDoorWalkF
import Derived.Shelf.Slices.SearchI
set_option linter.all false
namespace Go.Abs
open Go.Proofs Tryz
set_option maxRecDepth 1000000
set_option maxHeartbeats 4000000
namespace DA
def gN(ad:li):ABi (List Ae):=some ad
def Qu(L3:jo)(b:Int)(ac:li):=L3 ac (A8 (b+1))
def OS(L3:jo)(p a b:Int)(j:mo)(i:AH)(x:li):=if p==a then
if Ap (x.length+1) 32=true then
Qu L3 b (x++[(Ae.mk i.db b (-1) j.2)])
else none
else
Qu L3 b x
def J9(L4:jo)(o:Int)(al:li):=L4 al (A8 (o+1))
def J8(L4:jo)(q:li)(o b:Int)(ao:Bool):=if ao then(gt q o).bind λy=>J9 L4 o (q.set o.toNat (Ae.mk y.db y.e6 b y.eM))
else
J9 L4 o q
def L4(L3:jo)(p a:Int)(f:li)(b:Int)(j:mo)(i:AH)(L4:jo)(q:li)(o:Int):=if decide (o<(f.length:Int))then(gt q o).bind λaa=>if aa.db==i.db then
J8 L4 q o b (decide (aa.e7<0))
else
J8 L4 q o b false
else
OS L3 p a b j i q
def tF(L3:jo)(p a:Int)(f:li)(b:Int)(j:mo)(i:AH):Nat->(List Ae)->Int->ABi (List Ae)
|0,_,_=>none
|n+1,q,o=>L4 L3 p a f b j i (tF L3 p a f b j i n) q o
def J7(L3:jo)(a:Int)(f:li)(b:Int)(j:mo)(i:AH)(p w:Int):=if w==a then
tF L3 p a f b j i BQ f 0
else
OS L3 p a b j i f
def J6(L3:jo)(a:Int)(f:li)(b:Int)(j:mo)(i:AH)(z:Int):=if i.de==13 then
J7 L3 a f b j i z a
else
J7 L3 a f b j i z (-1)
def L3(d:js)(a:Int)(e:AG)(L3:jo)(f:li)(b:Int):=if decide (b<(d.length:Int))then(gt d b).bind λi=>(IA e i).bind λj=>(IB e i).bind λap=>if a==(e.AK.length:Int)then
if i.de==12 then
J6 L3 a f b j i a
else
J6 L3 a f b j i (-1)
else
J7 L3 a f b j i j.1 ap.1
else
gN f
def E3(d:js)(a:Int)(e:AG):Nat->(List Ae)->Int->ABi (List Ae)
|0,_,_=>none
|n+1,f,b=>L3 d a e (E3 d a e n) f b
def J5(d:js)(a:Int)(e:AG)(aj:li):=E3 d a e BQ aj 0
def J4(L1:jo)(c:Int)(ai:li):=L1 ai (A8 (c+1))
def J1(L1:jo)(c:Int)(ab:li):=J4 L1 c ab
def J3(L2:jo)(t:Int)(af:li):=L2 af (A8 (t+1))
def L2(L1:jo)(c:Int)(u:AW)(L2:jo)(v:li)(t:Int):=if decide (t<(u.Am.length:Int))then(gt u.Am t).bind λau=>if au==c then
if Ap (v.length+1) 32=true then
J3 L2 t (v++[(Ae.mk c (-1) (-1) true)])
else none
else
J3 L2 t v
else
J4 L1 c v
def Bs(L1:jo)(c:Int)(u:AW):Nat->(List Ae)->Int->ABi (List Ae)
|0,_,_=>none
|n+1,v,t=>L2 L1 c u (Bs L1 c u n) v t
def J2(L1:jo)(a:Int)(l:AQ)(c:Int)(ae:li):=(gt l.AK a).bind λu=>Bs L1 c u BQ ae 0
def L1(d:js)(a:Int)(l:AQ)(e:AG)(L1:jo)(s:li)(c:Int):=if decide (c<(l.AA.length:Int))then
if a==(e.AK.length:Int)then
if l.Tx==c then
if Ap (s.length+1) 32=true then
J1 L1 c (s++[(Ae.mk c (-1) (-1) false)])
else none
else
J1 L1 c s
else(gt l.AK a).bind λaq=>if aq.B6==c then
if Ap (s.length+1) 32=true then
J2 L1 a l c (s++[(Ae.mk c (-1) (-1) false)])
else none
else
J2 L1 a l c s
else
J5 d a e s
def AR(d:js)(a:Int)(l:AQ)(e:AG):Nat->(List Ae)->Int->ABi (List Ae)
|0,_,_=>none
|n+1,s,c=>L1 d a l e (AR d a l e n) s c
end DA
variable{e:AG}{d:AQ}{f:js}{a:Int}{b:li}
section
open DA
def DA(e:AG)(l:AQ)(d:js)(a:Int):=AR d a l e BQ [] 0
theorem V2(h:DA e d f a=some b):Says prog 74 [.agg (A5 e),.agg (Hq d),vS 7 Aw f,si a] (vO 4 GA b):=by refine kO mix func74 (hn [(4,[27,94]),(5,[20,31,40,53]),(9,[35,48,67,109,114,116,117,123,125,126,130,133,134,139,148]),(14,[98,102,119,140])] [(28,7)]) ?_;have a1:=@Vz;have a2:=@V1;have l3:=i4 λn c=>∃l r,(c 3=si a/\c 4=bA 6 (A5 e)/\c 9=vO 4 GA l/\c 74=vS 7 Aw f/\c 75=si (f.length:Int)/\c 76=si r)/\E3 f a e n l r=some b;have l4:=iy λ_ _ c _ n g=>∃(p:Int)(l:li)(r:Int)(j:mo)(i:AH)(q:li)(o:Int),(g 3=si a/\g 4=bA 6 (A5 e)/\g 9=vO 4 GA q/\g 13=si r/\g 14=bA 7 (Aw i)/\g 15=si p/\g 16=sb j.2/\g 74=vS 7 Aw f/\g 75=si (f.length:Int)/\g 76=si r/\g 110=si (l.length:Int)/\g 111=si o)/\tF (E3 f a e c) p a l r j i n q o=some b;have l1:=i4 λn r=>∃s c,(r 2=vS 7 Aw f/\r 3=si a/\r 4=bA 6 (A5 e)/\r 5=bA 4 (Hq d)/\r 9=vO 4 GA s/\r 22=si (d.AA.length:Int)/\r 23=si c)/\AR f a d e n s c=some b;have l2:=iy λr _ _ _ n l=>∃(c:Int)(u:AW)(v:li)(t:Int),(l 2=vS 7 Aw f/\l 3=si a/\l 4=bA 6 (A5 e)/\l 5=bA 4 (Hq d)/\l 9=vO 4 GA v/\l 10=si c/\l 22=si (d.AA.length:Int)/\l 23=si c/\l 58=vS 1 eI u.Am/\l 59=si (u.Am.length:Int)/\l 60=si t)/\Bs (AR f a d e r) c u n v t=some b;have c7:=iz 7 λ_ _ c _ g=>∃(l:li)(r:Int)(j:mo)(i:AH)(p w:Int),(g 3=si a/\g 4=bA 6 (A5 e)/\g 9=vO 4 GA l/\g 13=si r/\g 14=bA 7 (Aw i)/\g 15=si p/\g 16=sb j.2/\g 17=si w/\g 74=vS 7 Aw f/\g 75=si (f.length:Int)/\g 76=si r)/\J7 (E3 f a e c) a l r j i p w=some b;unfold DA at h;exact walk
end
namespace I7
def J2(i:AE):ABi AE:=if Ap (i.AB.length+2) 88=true then
some (AE.mk i.dc i.eO i.dg (i.AB++[(AH.mk 1 3 0 1 6 [] []),(AH.mk 1 5 (-1) 1 7 [1] [])]))
else none
def L2(c:Int)(L2:AE->Int->ABi AE)(b:AE)(f:Int):=if decide (f<c)then
if Ap (b.AB.length+1) 88=true then
L2 (AE.mk b.dc b.eO b.dg (b.AB++[(AH.mk (A8 (2*f)) 4 0 1 (A8 (12*f)) [] [])])) (A8 (f+1))
else none
else
J2 b
def Bs(c:Int):Nat->AE->Int->ABi AE
|0,_,_=>none
|n+1,b,f=>L2 c (Bs c n) b f
def J1(c:Int)(j:AE):=Bs c BQ (AE.mk j.dc (j.dg.dh.length:Int) j.dg j.AB) 0
def L1(c:Int)(e:AD)(L1:AE->Int->ABi AE)(a:AE)(d:Int):=if decide (d<(e.dh.length:Int))then(gt a.dg.dh d).bind λp=>(gt a.dg.df.AA d).bind λo=>L1 (AE.mk a.dc a.eO (AD.mk (AQ.mk a.dg.df.AK a.dg.df.Tx a.dg.df.Br (a.dg.df.AA.set d.toNat (AM.mk 2 o.D7 o.d6))) a.dg.di a.dg.AL (a.dg.dh.set d.toNat 1)) a.AB) (A8 (d+1))
else
J1 c a
def AR(c:Int)(e:AD):Nat->AE->Int->ABi AE
|0,_,_=>none
|n+1,a,d=>L1 c e (AR c e n) a d
end I7
section
open I7
def I7(c:Int):=(G6).bind λl=>(Eo l).bind λe=>AR c e BQ (AE.mk l 0 e []) 0
theorem YO{c:Int}{r:AE}(h:I7 c=some r):Says prog 76 [si c] (.agg (Av r)):=by refine kF mix func76 (hn [(3,[8,9,11,12,13,14,19,20,21,23,24,25,26,27,29,30,32,33,34,36,42,43,51,52,53,54,56,57,58,59])] (Z:=[(14,false,3,[(0,7,0)]),(14,false,3,[(0,9,0)]),(14,false,3,[(0,10,0)]),(14,false,3,[(0,11,0)]),(14,false,3,[(0,12,0)]),(14,false,3,[(0,13,0)])]) (E:=[(14,(.gz false 3 [(0,13,0)] (.gz false 3 [(0,12,0)] (.gz false 3 [(0,11,0)] (.gz false 3 [(0,10,0)] (.gz false 3 [(0,9,0)] (.gz false 3 [(0,7,0)] (.drw (Kj [6,7,8,9,10,11] (.fork 0 12 (Kj [0] (.fork 1 12 (Kj [1] (.fork 2 12 (Kj [2] (.fork 3 12 (Kj [3] (.fork 4 12 (Kj [4] (.fork 5 12 (Kj [5,12,13,14] .leaf) (Kj [12,5,13,14] .leaf))) (Kj [12,4,5,13,14] .leaf))) (.fork 4 12 (Kj [4] (.fork 5 12 (Kj [5,12,3,13,14] .leaf) (Kj [12,3,5,13,14] .leaf))) (Kj [12,3,4,5,13,14] .leaf)))) (.fork 4 12 (Kj [4] (.fork 5 12 (Kj [5,12,2,3,13,14] .leaf) (Kj [12,2,3,5,13,14] .leaf))) (Kj [12,2,3,4,5,13,14] .leaf)))) (.fork 2 12 (Kj [2] (.fork 3 12 (Kj [3] (.fork 4 12 (Kj [4] (.fork 5 12 (Kj [5,12,1,13,14] .leaf) (Kj [12,1,5,13,14] .leaf))) (Kj [12,1,4,5,13,14] .leaf))) (.fork 4 12 (Kj [4] (.fork 5 12 (Kj [5,12,1,3,13,14] .leaf) (Kj [12,1,3,5,13,14] .leaf))) (Kj [12,1,3,4,5,13,14] .leaf)))) (.fork 4 12 (Kj [4] (.fork 5 12 (Kj [5,12,1,2,3,13,14] .leaf) (Kj [12,1,2,3,5,13,14] .leaf))) (Kj [12,1,2,3,4,5,13,14] .leaf))))) (.fork 2 12 (Kj [2] (.fork 3 12 (Kj [3] (.fork 4 12 (Kj [4] (.fork 5 12 (Kj [5,12,0,1,13,14] .leaf) (Kj [12,0,1,5,13,14] .leaf))) (Kj [12,0,1,4,5,13,14] .leaf))) (.fork 4 12 (Kj [4] (.fork 5 12 (Kj [5,12,0,1,3,13,14] .leaf) (Kj [12,0,1,3,5,13,14] .leaf))) (Kj [12,0,1,3,4,5,13,14] .leaf)))) (.fork 4 12 (Kj [4] (.fork 5 12 (Kj [5,12,0,1,2,3,13,14] .leaf) (Kj [12,0,1,2,3,5,13,14] .leaf))) (Kj [12,0,1,2,3,4,5,13,14] .leaf))))) [Ko 52 3 0 3,i1 53 3 (.ld true 6 (.t 52)),Ko 54 3 6 3,iL 55 54,Ko 56 3 7 3,i1 57 3 (.ld true 7 (.t 56)),Ko 58 3 14 3,We 59 3 58,i0 60 (.To z3 [(0,1,.c (si 1)),(1,1,.c (si 3)),(3,1,.c (si 1)),(4,1,.c (si 6))]),i0 61 (.Ox 1 [[si 0]] [(0,.c (si 1))]),i0 62 (.To z3 [(0,1,.c (si 1)),(1,1,.c (si 5)),(2,1,.c (si (-1))),(3,1,.c (si 1)),(4,1,.c (si 7)),(5,1,.t 61)]),i0 63 (.Ox 7 [z3,z3] [(0,.t 60),(1,.t 62)]),i0 64 (.app 7 88 (.t 59) (.t 63)),i0 65 (.To z2 [(0,6,.t 53),(6,1,.t 55),(7,7,.t 57),(14,1,.t 64)]),iS 15 2 65]))))))))])) ?_;have a1:=@Rr;have a2:=@Je;have l2:=i4 λn a=>∃(b:AE)(f:Int),(a 0=si c/\a 2=bA 15 z2/\a 3=bA 15 [vS 5 Hp b.dc.di,vS 2 Ix b.dc.AK,vS 2 Iw b.dc.Al,vS 1 eS b.dc.AL,vS 1 eS b.dc.AA,vS 3 G9 b.dc.Bt,si b.eO,vO 2 Bu b.dg.df.AK,si b.dg.df.Tx,vO 1 eB b.dg.df.Br,vO 3 Ay b.dg.df.AA,vO 1 eI b.dg.di,vO 1 eI b.dg.AL,vO 1 eI b.dg.dh,vO 7 JN b.AB]/\a 5=si f)/\Bs c n b f=some r;have l1:=i4 λn b=>∃(e:AD)(a:AE)(d:Int),(b 0=si c/\b 2=bA 15 z2/\b 3=bA 15 [vS 5 Hp a.dc.di,vS 2 Ix a.dc.AK,vS 2 Iw a.dc.Al,vS 1 eS a.dc.AL,vS 1 eS a.dc.AA,vS 3 G9 a.dc.Bt,si a.eO,vO 2 Bu a.dg.df.AK,si a.dg.df.Tx,vO 1 eB a.dg.df.Br,vO 3 Ay a.dg.df.AA,vO 1 eI a.dg.di,vO 1 eI a.dg.AL,vO 1 eI a.dg.dh,vO 7 JN a.AB]/\b 15=si (e.dh.length:Int)/\b 16=si d)/\AR c e n a d=some r;unfold I7 at h;exact walk
end
namespace BI
def J8:=some true
def J7(L3:ja)(d:Int)(p:Bool):=if p then
some false
else
L3 (A8 (d+1))
def J6(L3:ja)(d:Int)(a:AE)(f:AM)(o:Bool):=if o then
some false
else
if f.dm==3 then(gt a.dc.Al f.D7).bind λz=>(gt a.dg.df.AK z.dr).bind λaa=>J7 L3 d (aa.B6==d)
else
if f.dm==4 then(gt a.dc.Al f.D7).bind λab=>(gt a.dg.df.AK ab.dr).bind λac=>J7 L3 d (ac.B6==d)
else
J7 L3 d false
def L3(a:AE)(L3:ja)(d:Int):=if decide (d<(a.dg.df.AA.length:Int))then(gt a.dg.df.AA d).bind λf=>if f.d6 then(Gc a d).bind λv=>J6 L3 d a f (!v)
else
J6 L3 d a f false
else
J8
def E3(a:AE):Nat->Int->ABi Bool
|0,_=>none
|n+1,d=>L3 a (E3 a n) d
def J5(a:AE)(j:Bool):=if j then
some false
else
E3 a BQ 0
def J4(a:AE):=if a.dg.df.Tx != (-1)then(Gc a a.dg.df.Tx).bind λu=>J5 a (!u)
else
J5 a false
def J3(L1:ja)(b:Int):=L1 (A8 (b+1))
def J2(L2:ja)(e:Int)(q:Bool):=if q then
some false
else
L2 (A8 (e+1))
def L2(L1:ja)(b:Int)(a:AE)(c:AW)(L2:ja)(e:Int):=if decide (e<(c.Am.length:Int))then(gt c.Am e).bind λl=>(Gc a l).bind λt=>if !t then
J2 L2 e true
else
if decide (e>0)then(gt c.Am (A8 (e-1))).bind λy=>J2 L2 e (decide (l<=y))
else
J2 L2 e false
else
J3 L1 b
def Bs(L1:ja)(b:Int)(a:AE)(c:AW):Nat->Int->ABi Bool
|0,_=>none
|n+1,e=>L2 L1 b a c (Bs L1 b a c n) e
def J1(L1:ja)(b:Int)(a:AE)(c:AW)(i:Bool):=if i then
some false
else
Bs L1 b a c BQ 0
def L1(a:AE)(L1:ja)(b:Int):=if decide (b<(a.dg.df.AK.length:Int))then(gt a.dg.df.AK b).bind λc=>if c.B6 != (-1)then(Gc a c.B6).bind λs=>if !s then
J1 L1 b a c true
else
if decide ((c.Am.length:Int)>0)then(gt a.dc.AK b).bind λw=>if !w.RW then
J1 L1 b a c true
else
J1 L1 b a c (c.B6 != (-1))
else
J1 L1 b a c false
else
if decide ((c.Am.length:Int)>0)then(gt a.dc.AK b).bind λx=>if !x.RW then
J1 L1 b a c true
else
J1 L1 b a c (c.B6 != (-1))
else
J1 L1 b a c false
else
J4 a
def AR(a:AE):Nat->Int->ABi Bool
|0,_=>none
|n+1,b=>L1 a (AR a n) b
end BI
section
open BI
def BI(a:AE):=AR a BQ 0
theorem XL{a:AE}{r:Bool}(h:BI a=some r):Says prog 54 [.agg (Av a)] (sb r):=by refine kO mix func54 (hn [(1,[9,10,40,41,129,130]),(3,[13,19,88,93,99,105,127]),(5,[24,29,35,49,56,63,74,79]),(8,[110,118,122,132])] [(9,1),(18,5)]) ?_;have a1:=@cF;have l3:=i4 λn b=>∃d,(b 1=bA 15 (Av a)/\b 3=bA 4 (Hq a.dg.df)/\b 7=si d)/\E3 a n d=some r;have l1:=i4 λn c=>∃b,(c 1=bA 15 (Av a)/\c 3=bA 4 (Hq a.dg.df)/\c 4=si b)/\AR a n b=some r;have l2:=iy λd _ _ _ n f=>∃b c e,(f 1=bA 15 (Av a)/\f 3=bA 4 (Hq a.dg.df)/\f 4=si b/\f 5=bA 2 (De c)/\f 6=si e)/\Bs (AR a d) b a c n e=some r;have c5:=i5 5 λb=>∃j,(b 1=bA 15 (Av a)/\b 3=bA 4 (Hq a.dg.df)/\b 97=sb j)/\J5 a j=some r;have c1:=iz 1 λd _ _ _ e=>∃b c i,(e 1=bA 15 (Av a)/\e 3=bA 4 (Hq a.dg.df)/\e 4=si b/\e 5=bA 2 (De c)/\e 54=sb i)/\J1 (AR a d) b a c i=some r;unfold BI at h;exact walk
end
namespace C2
def J2(q:Bool):ABi Bool:=some q
def J3(s:Bool):ABi Bool:=some s
def J4(t:Bool):ABi Bool:=some t
def J7(u:Bool):ABi Bool:=some u
def J8(v:Bool):ABi Bool:=some v
def J6(a b:Int)(c:AQ)(d:Int)(e:AG)(j:Bool):=if j then(gt e.Al b).bind λap=>(gt c.AK ap.dr).bind λaq=>some (aq.B6==d)
else
if a==20 then
if b != d then(gt c.AA b).bind λac=>J7 (ac.dm==0)
else
J7 false
else
if a==21 then
if b != d then(gt c.AA b).bind λad=>J8 (ad.dm==5)
else
J8 false
else
if a==22 then(gt c.Br b).bind λae=>some (!ae)
else
if a==23 then(gt c.Br b).bind λaf=>some af
else
some true
def J5(a b:Int)(c:AQ)(d:Int)(e:AG)(f:AM)(i:Bool):=if i then(gt c.AK b).bind λal=>some (al.B6==d)
else
if a==9 then(gt c.AK b).bind λao=>(HA ao.Am d).bind λaa=>some aa
else
if a==12 then
some (c.Tx==(-1))
else
if a==13 then
some (c.Tx==d)
else
if a==14 then
some (!f.d6)
else
if a==15 then
some f.d6
else
if a==16 then
J6 a b c d e (a==16)
else
if a==18 then
J6 a b c d e (a==18)
else
J6 a b c d e (a==19)
def J1(a b:Int)(c:AQ)(d:Int)(e:AG)(l:Bool):=if l then
some false
else(gt c.AA d).bind λf=>if a==1 then
some (f.dm==1)
else
if a==17 then
if f.dm==4 then
if f.D7==b then(gt e.Al b).bind λab=>(gt c.AK ab.dr).bind λai=>J2 (ai.B6==(-1))
else
J2 false
else
J2 false
else
if f.dm != 2 then
some false
else
if a==6 then(gt c.AK b).bind λaj=>some (aj.B6==(-1))
else
if a==10 then(gt c.AK b).bind λo=>if o.B6==(-1)then
J3 ((o.Am.length:Int)==0)
else
J3 false
else
if a==8 then(gt c.AK b).bind λp=>if p.B6==(-1)then(HA p.Am d).bind λz=>J4 (!z)
else
J4 false
else
if a==7 then
J5 a b c d e f (a==7)
else
J5 a b c d e f (a==11)
end C2
section
open C2
def C2(e:AG)(c:AQ)(d a b:Int):=(FZ e c).bind λw=>if !w then
J1 a b c d e true
else(Ip d (e.AA.length:Int)).bind λx=>if !x then
J1 a b c d e true
else(Jd e a b).bind λy=>J1 a b c d e (!y)
theorem Ll{e:AG}{c:AQ}{d a b:Int}{r:Bool}(h:C2 e c d a b=some r):Says prog 66 [.agg (A5 e),.agg (Hq c),si d,si a,si b] (sb r):=by refine kO mix func66 (hn [(5,[18,56,166]),(6,[31,54,73,82,90,101,109,122,132,142,147,164,183,197,207,215]),(11,[39,44,48,67,153,158])] [(2,1),(22,5),(35,6)]) ?_;have a1:=@Ms;have a2:=@Of;have a3:=@Xw;have a4:=@b6;have c6:=i5 6 λf=>∃j,(f 2=si d/\f 4=si b/\f 5=bA 6 (A5 e)/\f 6=bA 4 (Hq c)/\f 70=si a/\f 160=sb j)/\J6 a b c d e j=some r;have c5:=i5 5 λg=>∃f i,(g 2=si d/\g 4=si b/\g 5=bA 6 (A5 e)/\g 6=bA 4 (Hq c)/\g 11=bA 3 (Ay f)/\g 70=si a/\g 119=sb i)/\J5 a b c d e f i=some r;have c1:=i5 1 λf=>∃l,(f 2=si d/\f 3=si a/\f 4=si b/\f 5=bA 6 (A5 e)/\f 6=bA 4 (Hq c)/\f 30=sb l)/\J1 a b c d e l=some r;unfold C2 at h;exact walk
end
namespace Dv
def J6(aa:AZ)(w:AH):ABi (AH×AZ):=some (w,aa)
def J5(e:AH)(b:jl)(p:AZ)(a:j9)(z:Bool):=if z then(gt b a.1).bind λae=>(Fg p ae).bind λv=>J6 v.2 (AH.mk e.db e.de e.dq e.dn e.d7 e.Dy v.1)
else
J6 p e
def J4(b:jl)(a:j9)(p:AZ)(e:AH):=if e.de==4 then
J5 e b p a true
else
J5 e b p a (e.de==22)
def J3(c:AH)(b:jl)(a j l:j9)(y:Bool):=if y then(gt b a.1).bind λad=>(Fg l.2 ad).bind λu=>J4 b a u.2 (AH.mk c.db c.de j.1 l.1 c.d7 u.1 c.DS)
else
J4 b a l.2 (AH.mk c.db c.de j.1 l.1 c.d7 c.Dy c.DS)
def J2(b:jl)(f:AD)(a i:j9)(d:AG)(c:AH):=(DW i.2 c.de a.1).bind λj=>(Hi j.2 f c.de j.1).bind λl=>if c.de==5 then
J3 c b a j l true
else
if c.de==3 then(gt d.di j.1).bind λab=>J3 c b a j l (decide (ab.CM>0))
else
if c.de==4 then(gt d.di j.1).bind λac=>J3 c b a j l (decide (ac.CM>0))
else
J3 c b a j l false
def J1(b:jl)(f:AD)(a i:j9)(d:AG)(o:Int)(x:Bool):=if x then
J2 b f a i d (AH.mk a.1 o 0 0 (-1) [] [])
else
J2 b f a i d (AH.mk a.1 o 0 0 (A8 ((A8 (a.1*6))+i.1)) [] [])
end Dv
section
open Dv
def Dv(q:AZ)(f:AD)(d:AG)(b:jl):=(Aq q 4).bind λa=>(OK).bind λs=>(Aq a.2 (s.length:Int)).bind λt=>(gt s t.1).bind λo=>(Aq t.2 6).bind λi=>if o==1 then
J1 b f a i d o true
else
J1 b f a i d o (o==2)
theorem cY{q:AZ}{f:AD}{d:AG}{b:jl}{r:AH×AZ}(h:Dv q f d b=some r):BM prog 134 [bA 2 (Gg q),.agg (Bi f),.agg (A5 d),vO 1 OX b] (.agg (JN r.1)) [bA 2 (Gg r.2),.dead,.dead,vO 1 OX b]:=by refine kL mix func134 (hn [(0,[12,17,38,44,75,90]),(3,[76,78,79,91,93,94]),(6,[65]),(10,[16,18,21]),(11,[29,33,37,39,43,46,48,51,52,56,60,67,81,82,86,96,97])] [(4,2)] (E:=[(3,(.l7 [(0,10,11,25)] [iC 15 9,i1 16 10 (.cp (.t 10)),i1 17 0 (.cp (.t 0)),i1 18 10 (.cp (.t 10)),iZ 19 18,i0 20 (.W0 132 [] (.t 17) none [.t 19]),xN 21 10 1 16 20,iL 22 21,iC 23 9,iP 24 .mul 23 6,i0 25 .fl,i0 26 (.W0 132 [] (.t 0) none [.c (si 6)]),iO 27 .add 24 26,i0 28 (.To z3 [(0,1,.t 15),(1,1,.t 22),(4,1,.t 27)]),⟨some ⟨11,[29,33,37,39,43,46,48,51,52,56,60,67,81,82,86,96,97],[]⟩,.bx 7 (.c (.agg z3)),none⟩,iS 7 11 28])),(9,(.kH [.o (i1 75 0 (.cp (.t 0))),.o (i1 76 3 (.cp (.t 3))),.o (iC 77 9),.o (xN 78 3 1 76 77),.o (We 79 3 78),.lb (some ⟨80,[],[]⟩) 178 (.t 75) [] (.t 79),.o (Ko 81 11 5 11),.o (iS 1 81 80)])),(11,(.kH [.o (i1 90 0 (.cp (.t 0))),.o (i1 91 3 (.cp (.t 3))),.o (iC 92 9),.o (xN 93 3 1 91 92),.o (We 94 3 93),.lb (some ⟨95,[],[]⟩) 178 (.t 90) [] (.t 94),.o (Ko 96 11 6 11),.o (iS 1 96 95)]))])) ?_;have a1:=@Dj;have a2:=@cZ;have a3:=@Ys;have a4:=@dA;have a5:=@gD;have c2:=i5 2 λe=>∃(a i:j9)(c:AH),(e 0=bA 2 (Gg i.2)/\e 3=vO 1 OX b/\e 5=bA 7 (Bi f)/\e 6=bA 6 (A5 d)/\e 8=bA 7 z3/\e 9=si a.1/\e 11=bA 7 (JN c))/\J2 b f a i d c=some r;unfold Dv at h;exact walk
end
namespace AO
def J1(i:Bool):ABi Bool:=some i
def J2(j:Bool):ABi Bool:=some j
def J4(l:Bool):ABi Bool:=some l
def J6(o:Bool):ABi Bool:=some o
def J9(p:Bool):ABi Bool:=some p
def OS(q:Bool):ABi Bool:=some q
def J8(a:Ak)(b:AG)(c:Bool):=if c then(EE a.A (b.AA.length:Int)).bind λz=>some z
else
if a.Op==26 then(EE a.A (b.AL.length:Int)).bind λaa=>some aa
else
if a.Op==27 then(EE a.B (b.AL.length:Int)).bind λab=>some ab
else
if a.Op==3 then
if a.N==4 then
J9 true
else
J9 (a.N==5)
else
if a.Op==4 then
if decide (a.N>=6)then
OS (decide (a.N<=18))
else
OS false
else
some true
def J7(a:Ak)(b:AG)(f:Bool):=if f then(EE a.A (b.Al.length:Int)).bind λy=>some y
else
if a.Op==24 then
J8 a b (a.Op==24)
else
J8 a b (a.Op==25)
def J5(a:Ak)(b:AG)(e:Bool):=if e then(EE a.A (b.AK.length:Int)).bind λx=>if x then(gt b.AK a.A).bind λaf=>J6 af.RW
else
J6 false
else
if a.Op==21 then
J7 a b (a.Op==21)
else
if a.Op==22 then
J7 a b (a.Op==22)
else
J7 a b (a.Op==23)
def J3(a:Ak)(b:AG)(d:Bool):=if d then(EE a.A (b.AK.length:Int)).bind λw=>if w then(gt b.AK a.A).bind λae=>J4 (!ae.RW)
else
J4 false
else
if a.Op==13 then
J5 a b (a.Op==13)
else
if a.Op==14 then
J5 a b (a.Op==14)
else
if a.Op==15 then
J5 a b (a.Op==15)
else
J5 a b (a.Op==16)
end AO
section
open AO
def AO(b:AG)(a:Ak):=if a.Op==6 then(EE a.B (b.di.length:Int)).bind λs=>if s then(gt b.di a.B).bind λac=>J1 (ac.CM==0)
else
J1 false
else
if a.Op==8 then(EE a.A (b.di.length:Int)).bind λt=>if t then(gt b.di a.A).bind λad=>J2 (ad.CM==0)
else
J2 false
else
if a.Op==7 then(Fm b a.B a.N).bind λu=>some u
else
if a.Op==9 then(Fm b a.A a.N).bind λv=>some v
else
if a.Op==11 then
J3 a b (a.Op==11)
else
J3 a b (a.Op==12)
theorem XG{b:AG}{a:Ak}{r:Bool}(h:AO b a=some r):Says prog 209 [.agg (A5 b),.agg (Ew a)] (sb r):=by refine kO mix func209 (hn [(2,[11,16,29,34,64,69,85,90,104,113,121,129]),(3,[5,9,18,27,36,46,48,54,56,62,71,83,92,102,111,119,127,135,139,145,149])] [(11,3),(14,5),(19,7),(23,8)]) ?_;have a1:=@RY;have a2:=@bV;have c8:=i5 8 λd=>∃c,(d 2=bA 6 (A5 b)/\d 3=bA 6 (Ew a)/\d 6=si a.Op/\d 108=sb c)/\J8 a b c=some r;have c7:=i5 7 λc=>∃f,(c 2=bA 6 (A5 b)/\c 3=bA 6 (Ew a)/\c 6=si a.Op/\c 98=sb f)/\J7 a b f=some r;have c5:=i5 5 λc=>∃e,(c 2=bA 6 (A5 b)/\c 3=bA 6 (Ew a)/\c 6=si a.Op/\c 78=sb e)/\J5 a b e=some r;have c3:=i5 3 λc=>∃d,(c 2=bA 6 (A5 b)/\c 3=bA 6 (Ew a)/\c 6=si a.Op/\c 59=sb d)/\J3 a b d=some r;unfold AO at h;exact walk
end
namespace BF
def J3(L1:lw)(a:Int)(y:AF)(x:i6):=L1 y x (A8 (a+1))
def J2(L2:lv)(f:Int)(w:i6):=L2 w (A8 (f+1))
def L2(L1:lw)(a:Int)(e:(List Int)×AF)(L2:lv)(i:i6)(f:Int):=if decide (f<(e.1.length:Int))then(gt e.1 f).bind λv=>(HM i v).bind λz=>if !z then
if Ap (i.length+1) 8=true then
J2 L2 f (i++[v])
else none
else
J2 L2 f i
else
J3 L1 a e.2 i
def Bs(L1:lw)(a:Int)(e:(List Int)×AF):Nat->(List Int)->Int->ABi AF
|0,_,_=>none
|n+1,i,f=>L2 L1 a e (Bs L1 a e n) i f
def J1(L1:lw)(b a:Int)(d:i6)(c:AF)(j:i6)(p:Bool):=if p then
J3 L1 a c d
else(gt j 0).bind λq=>(gt c.d9 q).bind λt=>(gt t b).bind λac=>(gt c.w.AB q).bind λu=>(B9 (AF.mk c.w c.ej c.ew (c.d9.set q.toNat (t.set b.toNat true))) u.db u.DS).bind λe=>Bs L1 a e BQ d 0
def L1(b:Int)(L1:lw)(c:AF)(d:i6)(a:Int):=if decide (a<(d.length:Int))then(gt d a).bind λaa=>(BN c.w aa).bind λj=>if(j.length:Int) != 1 then
J1 L1 b a d c j true
else(gt j 0).bind λab=>J1 L1 b a d c j (decide (ab<0))
else
some c
def AR(b:Int):Nat->AF->(List Int)->Int->ABi AF
|0,_,_,_=>none
|n+1,c,d,a=>L1 b (AR b n) c d a
end BF
section
open BF
def BF(o:AF)(b:Int)(l:AH):=(B9 o l.db l.Dy).bind λs=>AR b BQ s.2 s.1 0
theorem Ps{o:AF}{b:Int}{l:AH}{r:AF}(h:BF o b l=some r):BM prog 126 [bA 18 (Bw o),si b,.agg (Aw l)] (.Bo []) [bA 18 (Bw r),.dead,.dead]:=by refine kL mix func126 (hn [(0,[12,24,25,26,27,42,43,44,45,49,50,52,53,54,55,56,57,61,62,63]),(5,[13,15]),(6,[19,28,30,74,78]),(8,[33,37,38,46,47,58,59]),(9,[64,66,67]),(68,[72])] [(8,1)]) ?_;have a1:=@Pt;have a2:=@NM;have a3:=@NV;have l1:=i4 λn e=>∃c d a,(e 0=bA 18 (Bw c)/\e 1=si b/\e 6=vO 1 eI d/\e 7=si a)/\AR b n c d a=some r;have l2:=iy λc _ _ _ n d=>∃(a:Int)(e:(List Int)×AF) (i:i6) (f:Int),(d 0=bA 18 (Bw e.2)/\d 1=si b/\d 6=vO 1 eI i/\d 7=si a/\d 68=vO 1 eI e.1/\d 69=si (e.1.length:Int)/\d 70=si f)/\Bs (AR b c) a e n i f=some r;have c1:=iz 1 λe _ _ _ f=>∃a d c j p,(f 0=bA 18 (Bw c)/\f 1=si b/\f 6=vO 1 eI d/\f 7=si a/\f 8=vO 1 eI j/\f 41=sb p)/\J1 (AR b e) b a d c j p=some r;unfold BF at h;exact walk
end
namespace E7
def J3(a:Ak)(b:AN)(t:Int)(l:Bool)(e:i6):ABi (AN×Bool):=if Ap (e.length) 8=true then(gt b.DH a.A).bind λad=>(gt b.C9 a.A).bind λac=>some ((AN.mk (A8 (b.PC+1)) (b.DH.set a.A.toNat t) (b.C9.set a.A.toNat e) b.AB),l)
else none
def J2(a:Ak)(b:AN):=if a.Op==5 then
some ((AN.mk a.A b.DH b.C9 b.AB),true)
else
if a.Op==1 then
J3 a b a.N true []
else
if a.Op==2 then(gt b.DH a.B).bind λu=>(gt b.C9 a.B).bind λv=>J3 a b u true v
else
if a.Op==3 then(FK a.N).bind λp=>(gt b.DH a.B).bind λw=>(ML p w).bind λf=>(gt b.C9 a.B).bind λx=>J3 a b f.1 f.2 x
else(FK a.N).bind λq=>(gt b.DH a.B).bind λy=>(gt b.DH a.C).bind λz=>(Gw q y z).bind λi=>(gt b.C9 a.B).bind λaa=>(gt b.C9 a.C).bind λab=>(En aa ab).bind λs=>J3 a b i.1 i.2 s
def J1(L1:Int->ABi (AN×Bool))(c:Int)(o:Bool):=if o then
some ((AN.mk 0 [] [] 0),false)
else
L1 (A8 (c+1))
def L1(a:Ak)(b:AN)(d:i6)(L1:Int->ABi (AN×Bool))(c:Int):=if decide (c<(d.length:Int))then(gt d c).bind λj=>if decide (j<0)then
J1 L1 c true
else
J1 L1 c (decide (j>=(b.DH.length:Int)))
else
J2 a b
def AR(a:Ak)(b:AN)(d:i6):Nat->Int->ABi (AN×Bool)
|0,_=>none
|n+1,c=>L1 a b d (AR a b d n) c
end E7
section
open E7
def E7(a:Ak)(b:AN):=(Af a).bind λd=>AR a b d BQ 0
theorem fP{a:Ak}{b:AN}{r:AN×Bool}(h:E7 a b=some r):Says prog 243 [.agg (Ew a),.agg (CW b)] (.Bo [.agg (CW r.1),sb r.2]):=by refine kO mix func243 (hn [(2,[35,38,43,49,58,64,71,77,83,89,96,101,110,116,120]),(3,[29,30,41,42,45,47,48,51,56,57,60,61,62,63,66,67,73,74,81,82,85,87,88,91,92,99,100,103,108,109,112,113,114,115,118,119,126,127,128,131,132]),(6,[14,19,21,25,27]),(10,[124])] (F:=[10]) (E:=[(22,(.pg true 3 [(0,2,0)] (Rc 114 [.F 1 3,.y 3 (.aR (.t 114)),.f 1 2,.F 2 3,.y 3 (.aR (.t 118)),.f 1 2,.C 8,.o (.Ox 1 [] []),.y 10 (.cp (.t 10)),.o (.app 1 8 (.t 123) (.t 124)),.J 3 1 115 117,.x ⟨none,.ZE (.t 126) (.t 122),none⟩,.J 3 1 119 121,.S 1 127 125])))])) ?_;have a1:=@Kc;have a2:=@Vw;have a3:=@bT;have a4:=@Yg;have a5:=@Re;have l1:=i4 λn e=>∃d c,(e 2=bA 6 (Ew a)/\e 3=bA 4 (CW b)/\e 4=bA 4 z9/\e 6=vO 1 eI d/\e 7=si c)/\AR a b d n c=some r;unfold E7 at h;exact walk
end
namespace Ez
def J1(o:Bool):ABi Bool:=some o
def J2(p:Bool):ABi Bool:=some p
def J5(q:Bool):ABi Bool:=some q
def J6(s:Bool):ABi Bool:=some s
def J4(a c:Int)(b:AQ)(d:Int)(e:AG)(f:Bool):=if f then(gt e.Al c).bind λad=>(gt b.AK ad.dr).bind λae=>some (ae.B6==d)
else
if a==20 then
if c != d then(gt b.AA c).bind λaf=>J5 (af.dm==0)
else
J5 false
else
if a==21 then
if c != d then(gt b.AA c).bind λw=>J6 (w.dm==5)
else
J6 false
else
if a==22 then(gt b.Br c).bind λx=>some (!x)
else
if a==23 then(gt b.Br c).bind λy=>some y
else
some true
def J3(a c:Int)(b:AQ)(d:Int)(e:AG)(i:Bool):=if i then(gt b.AK c).bind λz=>some (z.B6==d)
else
if a==9 then(gt b.AK c).bind λaa=>(HM aa.Am d).bind λu=>some u
else
if a==12 then
some (b.Tx==(-1))
else
if a==13 then
some (b.Tx==d)
else
if a==14 then(gt b.AA d).bind λab=>some (!ab.d6)
else
if a==15 then(gt b.AA d).bind λac=>some ac.d6
else
if a==16 then
J4 a c b d e (a==16)
else
if a==18 then
J4 a c b d e (a==18)
else
J4 a c b d e (a==19)
end Ez
section
open Ez
def Ez(e:AG)(b:AQ)(d a c:Int):=if a==6 then(gt b.AK c).bind λv=>some (v.B6==(-1))
else
if a==10 then(gt b.AK c).bind λj=>if j.B6==(-1)then
J1 ((j.Am.length:Int)==0)
else
J1 false
else
if a==8 then(gt b.AK c).bind λl=>if l.B6==(-1)then(HM l.Am d).bind λt=>J2 (!t)
else
J2 false
else
if a==7 then
J3 a c b d e (a==7)
else
J3 a c b d e (a==11)
theorem YV{e:AG}{b:AQ}{d a c:Int}{r:Bool}(h:Ez e b d a c=some r):Says prog 192 [.agg (A5 e),.agg (Hq b),si d,si a,si c] (sb r):=by refine kO mix func192 (hn [(5,[115]),(6,[14,23,31,42,50,63,73,83,88,94,103,113,132,146,156,164])] [(9,3),(22,4)]) ?_;have a1:=@NV;have c4:=i5 4 λg=>∃f,(g 2=si d/\g 4=si c/\g 5=bA 6 (A5 e)/\g 6=bA 4 (Hq b)/\g 11=si a/\g 109=sb f)/\J4 a c b d e f=some r;have c3:=i5 3 λf=>∃i,(f 2=si d/\f 4=si c/\f 5=bA 6 (A5 e)/\f 6=bA 4 (Hq b)/\f 11=si a/\f 60=sb i)/\J3 a c b d e i=some r;unfold Ez at h;exact walk
end
namespace Bf
def J3(a i:AF):ABi AF:=if decide (a.w.dg.df.Tx>=0)then(As i a.w.dg.df.Tx (a.w.dg.df.AK.length:Int) false).bind λq=>some q
else
some i
def J2(L1:jr)(b:Int)(l:AF):=L1 l (A8 (b+1))
def L2(L1:jr)(b:Int)(c:AW)(L2:jr)(f:AF)(e:Int):=if decide (e<(c.Am.length:Int))then(gt c.Am e).bind λs=>(As f s b true).bind λp=>L2 p (A8 (e+1))
else
J2 L1 b f
def Bs(L1:jr)(b:Int)(c:AW):Nat->AF->Int->ABi AF
|0,_,_=>none
|n+1,f,e=>L2 L1 b c (Bs L1 b c n) f e
def J1(L1:jr)(b:Int)(c:AW)(j:AF):=Bs L1 b c BQ j 0
def L1(a:AF)(L1:jr)(d:AF)(b:Int):=if decide (b<(a.w.dg.df.AK.length:Int))then(gt a.w.dg.df.AK b).bind λc=>if decide (c.B6>=0)then(As d c.B6 b false).bind λo=>J1 L1 b c o
else
J1 L1 b c d
else
J3 a d
def AR(a:AF):Nat->AF->Int->ABi AF
|0,_,_=>none
|n+1,d,b=>L1 a (AR a n) d b
end Bf
section
open Bf
def Bf(a:AF):=AR a BQ a 0
theorem Qi{a r:AF}(h:Bf a=some r):BM prog 128 [bA 18 (Bw a)] (.Bo []) [bA 18 (Bw r)]:=by refine kL mix func128 (hn [(0,[7,8,9,10,11,12,24,36,45]),(2,[13,14,19,20,42,46,48,49]),(4,[21,25,29,30,34])]) ?_;have a1:=@Ob;have l1:=i4 λn c=>∃d b,(c 0=bA 18 (Bw d)/\c 2=bA 4 (Hq a.w.dg.df)/\c 14=vS 2 De a.w.dg.df.AK/\c 15=si (a.w.dg.df.AK.length:Int)/\c 16=si b)/\AR a n d b=some r;have l2:=iy λd _ _ _ n g=>∃(b:Int)(c:AW)(f:AF)(e:Int),(g 0=bA 18 (Bw f)/\g 2=bA 4 (Hq a.w.dg.df)/\g 3=si b/\g 14=vS 2 De a.w.dg.df.AK/\g 15=si (a.w.dg.df.AK.length:Int)/\g 16=si b/\g 30=vS 1 eI c.Am/\g 31=si (c.Am.length:Int)/\g 32=si e)/\Bs (AR a d) b c n f e=some r;unfold Bf at h;exact walk
end
namespace DG
def J4(t:i6):ABi (List Int):=some t
def J3(L1:jg)(a:Int)(s:i6):=L1 s (A8 (a+1))
def J2(L2:jg)(d:Int)(q:i6):=L2 q (A8 (d+1))
def L2(L1:jg)(a:Int)(e:i6)(L2:jg)(f:i6)(d:Int):=if decide (d<(e.length:Int))then(gt e d).bind λp=>(Iq f p).bind λw=>if !w then
if Ap (f.length+1) 8=true then
J2 L2 d (f++[p])
else none
else
J2 L2 d f
else
J3 L1 a f
def Bs(L1:jg)(a:Int)(e:i6):Nat->(List Int)->Int->ABi (List Int)
|0,_,_=>none
|n+1,f,d=>L2 L1 a e (Bs L1 a e n) f d
def J1(L1:jg)(a:Int)(c i:i6)(b:AE)(u:Bool):=if u then
J3 L1 a c
else(gt i 0).bind λz=>(gt b.AB z).bind λo=>(DO b o.db o.DS).bind λe=>Bs L1 a e BQ c 0
def L1(b:AE)(L1:jg)(c:i6)(a:Int):=if decide (a<(c.length:Int))then(gt c a).bind λx=>(CT b x).bind λi=>if(i.length:Int) != 1 then
J1 L1 a c i b true
else(gt i 0).bind λy=>J1 L1 a c i b (decide (y<0))
else
J4 c
def AR(b:AE):Nat->(List Int)->Int->ABi (List Int)
|0,_,_=>none
|n+1,c,a=>L1 b (AR b n) c a
end DG
variable{g:AE}{c:i6}
section
open DG
def DG(b:AE)(j:Int):=(gt b.AB j).bind λl=>(DO b l.db l.Dy).bind λv=>AR b BQ v 0
theorem Yo(h:DG g a=some c):Says prog 71 [.agg (Av g),si a] (vO 1 eI c):=by refine kO mix func71 (hn [(2,[11,17,46,54]),(5,[25,31,33,68,72,77]),(7,[36,40,41,48,49,56,57]),(62,[66])]) ?_;have a1:=@Yn;have a2:=@Mh;have a3:=@V3;have l1:=i4 λn d=>∃r j,(d 2=bA 15 (Av g)/\d 5=vO 1 eI r/\d 6=si j)/\AR g n r j=some c;have l2:=iy λr _ _ _ n b=>∃(j:Int)(e f:i6)(d:Int),(b 2=bA 15 (Av g)/\b 5=vO 1 eI f/\b 6=si j/\b 62=vO 1 eI e/\b 63=si (e.length:Int)/\b 64=si d)/\Bs (AR g r) j e n f d=some c;unfold DG at h;exact walk
end
end Go.Abs
