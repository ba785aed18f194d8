/- Go functions do what typed programs say. -/
import Derived.Test.YtdojkofgkcmagaaGreatDoorWalkT
import Derived.Shelf.Slices.SearchI
set_option linter.all false
namespace Go.Abs
open Go.Proofs Tryz
set_option maxRecDepth 1000000
set_option maxHeartbeats 4000000
namespace C7
def J7:ABi Bool:=(Fk).bind λac=>some ac
def J6(L1:ja)(a:Int):=L1 (A8 (a+1))
def J5(L1:ja)(a:Int)(v:Bool):=if v then
some false
else
J6 L1 a
def J4(L1:ja)(a:Int)(c:kh)(d:i6)(u:Int):=if decide (a<(c.2.Dr.length:Int))then(gt c.2.Dr a).bind λae=>if ae then(Iq d u).bind λab=>J5 L1 a (!ab)
else
J5 L1 a false
else
J5 L1 a false
def J3(L3:ka)(i t:Int):=L3 t (A8 (i+1))
def L3(L1:ja)(a:Int)(b:AE)(c:kh)(d:i6)(e:AH)(L3:ka)(j i:Int):=if decide (i<(c.2.dt.length:Int))then(gt c.2.dt i).bind λq=>if q==a then
J4 L1 a c d j
else(gt b.AB q).bind λad=>(GQ ad e).bind λaa=>if aa then
J3 L3 i q
else
J3 L3 i j
else
J4 L1 a c d j
def E3(L1:ja)(a:Int)(b:AE)(c:kh)(d:i6)(e:AH):Nat->Int->Int->ABi Bool
|0,_,_=>none
|n+1,j,i=>L3 L1 a b c d e (E3 L1 a b c d e n) j i
def J2(L1:ja)(a:Int)(b:AE)(c:kh)(d:i6)(e:AH):=E3 L1 a b c d e BQ (-1) 0
def J1(L2:ja)(f:Int)(w:Bool):=if w then
some false
else
L2 (A8 (f+1))
def L2(L1:ja)(a:Int)(b:AE)(c:kh)(d:i6)(e:AH)(L2:ja)(f:Int):=if decide (f<(d.length:Int))then(gt d f).bind λp=>if decide (p>=(b.AB.length:Int))then
J1 L2 f true
else
if decide (p>=0)then(gt b.AB p).bind λs=>(GQ s e).bind λz=>if !z then
J1 L2 f true
else
J1 L2 f (s.dn != e.dn)
else
J1 L2 f false
else
J2 L1 a b c d e
def Bs(L1:ja)(a:Int)(b:AE)(c:kh)(d:i6)(e:AH):Nat->Int->ABi Bool
|0,_=>none
|n+1,f=>L2 L1 a b c d e (Bs L1 a b c d e n) f
def L1(b:AE)(c:kh)(L1:ja)(a:Int):=if decide (a<(b.AB.length:Int))then(gt b.AB a).bind λe=>(Ib e).bind λy=>if !y then
J6 L1 a
else(LO b a).bind λd=>Bs L1 a b c d e BQ 0
else
J7
def AR(b:AE)(c:kh):Nat->Int->ABi Bool
|0,_=>none
|n+1,a=>L1 b c (AR b c n) a
end C7
variable{o:Ke}{a:i6}{r:Bool}
section
open C7
def C7(o:Ke)(l:i6):=if decide ((l.length:Int)>60)then(Fk).bind λx=>some x
else(Ef o 16).bind λb=>(D5 b l).bind λc=>AR b c BQ 0
theorem eG(h:C7 o a=some r):Says prog 11 [.agg (Xd o),vS 1 eI a] (sb r):=by refine kO mix func11 (hn [(5,[28,49,57,66,89]),(7,[79,99,104]),(9,[72]),(10,[42,46,111])]) ?_;have a1:=@K0;have a2:=@IV;have a3:=@TZ;have a4:=@Ta;have a5:=@UG;have a6:=@V3;have a7:=@QX;have l1:=i4 λn d=>∃(b:AE)(c:kh)(l:Int),(d 5=bA 15 (Av b)/\d 7=bA 9 (G8 c.2)/\d 29=vS 7 Aw b.AB/\d 30=si (b.AB.length:Int)/\d 31=si l)/\AR b c n l=some r;have l3:=iy λf _ _ _ n g=>∃(b:AE)(c:kh)(l:Int)(d:i6)(e:AH)(j i:Int),(g 5=bA 15 (Av b)/\g 7=bA 9 (G8 c.2)/\g 8=si l/\g 9=bA 7 (Aw e)/\g 10=vO 1 eI d/\g 13=si j/\g 29=vS 7 Aw b.AB/\g 30=si (b.AB.length:Int)/\g 31=si l/\g 80=vS 1 eI c.2.dt/\g 81=si (c.2.dt.length:Int)/\g 82=si i)/\E3 (AR b c f) l b c d e n j i=some r;have l2:=iy λg _ _ _ n h=>∃(b:AE)(c:kh)(l:Int)(d:i6)(e:AH)(f:Int),(h 5=bA 15 (Av b)/\h 7=bA 9 (G8 c.2)/\h 8=si l/\h 9=bA 7 (Aw e)/\h 10=vO 1 eI d/\h 29=vS 7 Aw b.AB/\h 30=si (b.AB.length:Int)/\h 31=si l/\h 42=.al 10 []/\h 43=si (d.length:Int)/\h 44=si f)/\Bs (AR b c g) l b c d e n f=some r;unfold C7 at h;exact walk
end
namespace Df
def J5:ABi Bool:=(Fk).bind λp=>some p
def J4(L1:ja)(b:Int):=L1 (A8 (b+1))
def J3(L2:ja)(c:Int):=L2 (A8 (c+1))
def J2(L3:ja)(e:Int)(j:Bool):=if j then
some false
else
L3 (A8 (e+1))
def L3(L2:ja)(b c:Int)(a:AE)(d:Bool)(L3:ja)(e:Int):=if decide (e<(a.AB.length:Int))then
if d then(Co a c e).bind λl=>if l then(Co a b e).bind λo=>J2 L3 e (!o)
else
J2 L3 e false
else
J2 L3 e false
else
J3 L2 c
def E3(L2:ja)(b c:Int)(a:AE)(d:Bool):Nat->Int->ABi Bool
|0,_=>none
|n+1,e=>L3 L2 b c a d (E3 L2 b c a d n) e
def J1(L2:ja)(b c:Int)(a:AE)(d f:Bool):=if f then
some false
else
E3 L2 b c a d BQ 0
def L2(L1:ja)(b:Int)(a:AE)(L2:ja)(c:Int):=if decide (c<(a.AB.length:Int))then(Co a b c).bind λd=>if d then
if decide (b>=c)then
J1 L2 b c a d true
else
if decide (b<c)then(gt a.AB b).bind λq=>(gt a.AB c).bind λs=>if q.db==s.db then
J1 L2 b c a d false
else
J1 L2 b c a d false
else
J1 L2 b c a d false
else
if decide (b<c)then(gt a.AB b).bind λt=>(gt a.AB c).bind λu=>if t.db==u.db then
J1 L2 b c a d true
else
J1 L2 b c a d false
else
J1 L2 b c a d false
else
J4 L1 b
def Bs(L1:ja)(b:Int)(a:AE):Nat->Int->ABi Bool
|0,_=>none
|n+1,c=>L2 L1 b a (Bs L1 b a n) c
def L1(a:AE)(L1:ja)(b:Int):=if decide (b<(a.AB.length:Int))then
Bs L1 b a BQ 0
else
J5
def AR(a:AE):Nat->Int->ABi Bool
|0,_=>none
|n+1,b=>L1 a (AR a n) b
end Df
section
open Df
def Df(i:Ke):=(Ef i 10).bind λa=>AR a BQ 0
theorem dT(h:Df o=some r):Says prog 8 [.agg (Xd o)] (sb r):=by refine kO mix func8 (hn [(3,[10,16,37,43,56])] [(15,1)]) ?_;have a1:=@IV;have a2:=@K0;have a3:=@K6;have l1:=i4 λn c=>∃(a:AE)(b:Int),(c 3=bA 15 (Av a)/\c 12=si (a.AB.length:Int)/\c 13=si b)/\AR a n b=some r;have l2:=iy λd _ _ _ n e=>∃(a:AE)(b c:Int),(e 3=bA 15 (Av a)/\e 4=si b/\e 12=si (a.AB.length:Int)/\e 13=si b/\e 18=si (a.AB.length:Int)/\e 19=si c)/\Bs (AR a d) b a n c=some r;have l3:=iy λf g _ _ n h=>∃(a:AE)(b c:Int)(d:Bool)(e:Int),(h 3=bA 15 (Av a)/\h 4=si b/\h 5=si c/\h 6=sb d/\h 12=si (a.AB.length:Int)/\h 13=si b/\h 18=si (a.AB.length:Int)/\h 19=si c/\h 58=si (a.AB.length:Int)/\h 59=si e)/\E3 (Bs (AR a f) b a g) b c a d n e=some r;have c1:=iz 1 λe g _ _ h=>∃(a:AE)(b c:Int)(d f:Bool),(h 3=bA 15 (Av a)/\h 4=si b/\h 5=si c/\h 6=sb d/\h 12=si (a.AB.length:Int)/\h 13=si b/\h 18=si (a.AB.length:Int)/\h 19=si c/\h 55=sb f)/\J1 (Bs (AR a e) b a g) b c a d f=some r;unfold Df at h;exact walk
end
namespace Cj
def J5:ABi Bool:=(Fk).bind λt=>some t
def J4(L1:ja)(b:Int):=L1 (A8 (b+1))
def J3(L2:ja)(d:Int):=L2 (A8 (d+1))
def J2(L2:ja)(d:Int)(p:Bool):=if !p then
some false
else
J3 L2 d
def J1(L3:Bool->Int->ABi Bool)(f:Int)(o:Bool):=L3 o (A8 (f+1))
def L3(L2:ja)(b d:Int)(a:kh)(L3:Bool->Int->ABi Bool)(i:Bool)(f:Int):=if decide (f<((a.2.dt.take b.toNat).length:Int))then(gt (a.2.dt.take b.toNat) f).bind λu=>if i then
J1 L3 f true
else
J1 L3 f (u==d)
else
J2 L2 d i
def E3(L2:ja)(b d:Int)(a:kh):Nat->Bool->Int->ABi Bool
|0,_,_=>none
|n+1,i,f=>L3 L2 b d a (E3 L2 b d a n) i f
def L2(L1:ja)(b:Int)(c:AE)(a:kh)(e:Int)(L2:ja)(d:Int):=if decide (d<(c.AB.length:Int))then(Co c d e).bind λs=>if !s then
J3 L2 d
else
if 0<=b/\b.toNat<=a.2.dt.length then
E3 L2 b d a BQ false 0
else none
else
J4 L1 b
def Bs(L1:ja)(b:Int)(c:AE)(a:kh)(e:Int):Nat->Int->ABi Bool
|0,_=>none
|n+1,d=>L2 L1 b c a e (Bs L1 b c a e n) d
def L1(c:AE)(a:kh)(L1:ja)(b:Int):=if decide (b<(a.2.dt.length:Int))then(gt a.2.dt b).bind λe=>Bs L1 b c a e BQ 0
else
J5
def AR(c:AE)(a:kh):Nat->Int->ABi Bool
|0,_=>none
|n+1,b=>L1 c a (AR c a n) b
end Cj
section
open Cj
def Cj(l:Ke)(j:i6):=if decide ((j.length:Int)>60)then(Fk).bind λq=>some q
else(Ef l 14).bind λc=>(D5 c j).bind λa=>AR c a BQ 0
theorem mG(h:Cj o a=some r):Says prog 7 [.agg (Xd o),vS 1 eI a] (sb r):=by refine kO mix func7 (hn [(5,[34]),(7,[26,45])]) ?_;have a1:=@K0;have a2:=@IV;have a3:=@TZ;have a4:=@K6;have l1:=i4 λn d=>∃(c:AE)(j:kh)(b:Int),(d 5=bA 15 (Av c)/\d 7=bA 9 (G8 j.2)/\d 27=vS 1 eI j.2.dt/\d 28=si (j.2.dt.length:Int)/\d 29=si b)/\AR c j n b=some r;have l2:=iy λf _ _ _ n g=>∃(c:AE)(j:kh)(b e d:Int),(g 5=bA 15 (Av c)/\g 7=bA 9 (G8 j.2)/\g 8=si b/\g 9=si e/\g 27=vS 1 eI j.2.dt/\g 28=si (j.2.dt.length:Int)/\g 29=si b/\g 36=si (c.AB.length:Int)/\g 37=si d)/\Bs (AR c j f) b c j e n d=some r;have l3:=iy λg h _ _ n a=>∃(c:AE)(j:kh)(b e d:Int)(i:Bool)(f:Int),(a 5=bA 15 (Av c)/\a 7=bA 9 (G8 j.2)/\a 8=si b/\a 9=si e/\a 10=si d/\a 11=sb i/\a 27=vS 1 eI j.2.dt/\a 28=si (j.2.dt.length:Int)/\a 29=si b/\a 36=si (c.AB.length:Int)/\a 37=si d/\a 48=.sl false 1 ((j.2.dt.take b.toNat).map eI)/\a 49=si ((j.2.dt.take b.toNat).length:Int)/\a 50=si f)/\E3 (Bs (AR c j g) b c j e h) b d j n i f=some r;unfold Cj at h;exact walk
end
namespace Ld
def J5:ABi Bool:=(Fk).bind λs=>some s
def J4(L1:ja)(b:Int):=L1 (A8 (b+1))
def J3(L1:ja)(b:Int)(c:jl)(l:i6):=(gt c b).bind λu=>(P3 l u).bind λq=>if !q then
some false
else
J4 L1 b
def J2(L2:nh)(d:Int)(j:i6):=L2 j (A8 (d+1))
def J1(L2:nh)(e:i6)(d:Int)(a:AE)(o:Bool):=if o then(gt a.AB d).bind λi=>(gt e i.db).bind λt=>J2 L2 d (e.set i.db.toNat (A8 (t+1)))
else
J2 L2 d e
def L2(L1:ja)(b:Int)(a:AE)(c:jl)(L2:nh)(e:i6)(d:Int):=if decide (d<(a.AB.length:Int))then
if d==b then
J1 L2 e d a true
else(Co a d b).bind λp=>J1 L2 e d a p
else
J3 L1 b c e
def Bs(L1:ja)(b:Int)(a:AE)(c:jl):Nat->(List Int)->Int->ABi Bool
|0,_,_=>none
|n+1,e,d=>L2 L1 b a c (Bs L1 b a c n) e d
def L1(a:AE)(c:jl)(L1:ja)(b:Int):=if decide (b<(a.AB.length:Int))then
if 0<=(a.dc.AA.length:Int)/\(a.dc.AA.length:Int)<=(a.dc.AA.length:Int)/\Ap a.dc.AA.length 8=true then
Bs L1 b a c BQ (List.replicate a.dc.AA.length (0:Int)) 0
else none
else
J5
def AR(a:AE)(c:jl):Nat->Int->ABi Bool
|0,_=>none
|n+1,b=>L1 a c (AR a c n) b
end Ld
section
open Ld
def Ld(f:Ke):=(Ef f 12).bind λa=>(rG a).bind λc=>if(c.length:Int) != (a.AB.length:Int)then
some false
else
AR a c BQ 0
end
namespace FU
def J3(f:Bool):ABi Bool:=some f
def J2(a:AE):=(Co a (-1) 0).bind λj=>if !j then(Co a 0 (a.AB.length:Int)).bind λl=>if !l then(Co a (a.AB.length:Int) 0).bind λo=>if !o then(Co a 0 (-1)).bind λp=>if !p then(Fk).bind λq=>J3 q
else
J3 false
else
J3 false
else
J3 false
else
J3 false
def J1(L1:ja)(c:Int):=L1 (A8 (c+1))
def L2(L1:ja)(c:Int)(a:AE)(b:jf)(L2:ja)(d:Int):=if decide (d<(b.length:Int))then(Co a c d).bind λi=>(gt b c).bind λs=>(gt s d).bind λt=>if !(i==t)then
some false
else
L2 (A8 (d+1))
else
J1 L1 c
def Bs(L1:ja)(c:Int)(a:AE)(b:jf):Nat->Int->ABi Bool
|0,_=>none
|n+1,d=>L2 L1 c a b (Bs L1 c a b n) d
def L1(a:AE)(b:jf)(L1:ja)(c:Int):=if decide (c<(b.length:Int))then
Bs L1 c a b BQ 0
else
J2 a
def AR(a:AE)(b:jf):Nat->Int->ABi Bool
|0,_=>none
|n+1,c=>L1 a b (AR a b n) c
end FU
section
open FU
def FU(e:Ke):=(Ef e 12).bind λa=>(CL a).bind λb=>AR a b BQ 0
theorem gQ(h:FU o=some r):Says prog 6 [.agg (Xd o)] (sb r):=by refine kO mix func6 (hn [(3,[12]),(4,[15,20,29,31,32,34])]) ?_;have a1:=@IV;have a2:=@fX;have a3:=@K6;have a4:=@K0;have l1:=i4 λn d=>∃(a:AE)(b:jf)(c:Int),(d 3=bA 15 (Av a)/\d 4=vO 1 Kn b/\d 5=si (a.AB.length:Int)/\d 16=si (b.length:Int)/\d 17=si c)/\AR a b n c=some r;have l2:=iy λo _ _ _ n f=>∃(a:AE)(b:jf)(c d:Int),(f 3=bA 15 (Av a)/\f 4=vO 1 Kn b/\f 5=si (a.AB.length:Int)/\f 6=si c/\f 16=si (b.length:Int)/\f 17=si c/\f 21=si (b.length:Int)/\f 22=si d)/\Bs (AR a b o) c a b n d=some r;unfold FU at h;exact walk
end
end Go.Abs
