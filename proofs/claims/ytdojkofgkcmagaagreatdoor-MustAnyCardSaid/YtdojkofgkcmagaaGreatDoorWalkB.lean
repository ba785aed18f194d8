/- Go functions do what typed programs say. -/
import Derived.Test.YtdojkofgkcmagaaGreatDoorBaseA
import Derived.Shelf.Slices.SearchI
set_option linter.all false
namespace Go.Abs
open Go.Proofs Tryz
set_option maxRecDepth 1000000
set_option maxHeartbeats 4000000
namespace EH
def J1(q:ns)(p:Int):ABm ((List EF)×Int):=some (q,p)
def L1(R100:km)(b:kh)(a:Int)(L1:(List EF)->Int->Int->ABm ((List EF)×Int))(e:ns)(d c:Int):=if decide (c<(b.length:Int))then(gt b c).bind λj=>if Aq (e.length+1) 24=true then(R100 (e++[(EF.mk a d j.Fq)]) a (A9 (d+1)) j.dz).bind λl=>(R100 l.1 a l.2 j.ea).bind λo=>L1 o.1 o.2 (A9 (c+1))
else none
else
J1 e d
def AU(R100:km)(b:kh)(a:Int):Nat->(List EF)->Int->Int->ABm ((List EF)×Int)
|0,_,_,_=>none
|n+1,e,d,c=>L1 R100 b a (AU R100 b a n) e d c
end EH
variable{k:km}{d:ns}{r f:Int}{a:kh}
section
open EH
def EH(R100:km)(i:ns)(a f:Int)(b:kh):=AU R100 b a BQ i f 0
theorem Z1(H100:∀{x0 x1 x2 x3 b},k x0 x1 x2 x3=some b->Says prog 221 [vO 3 GP x0,si x1,si x2,vS 11 BM x3] (.Bp [vO 3 GP b.1,si b.2])){b:(List EF)×Int}(h:EH k d r f a=some b):Says prog 221 [vO 3 GP d,si r,si f,vS 11 BM a] (.Bp [vO 3 GP b.1,si b.2]):=by refine kO mix func221 (hn [(0,[17,31,43,54]),(2,[19,28,33,45,55]),(39,[30,40,41]),(51,[42,52,53])]) ?_;have a1:=@H100;have l1:=iJ λn f=>∃e i c,(f 0=vO 3 GP e/\f 1=si r/\f 2=si i/\f 3=vS 11 BM a/\f 10=si c)/\AU k a r n e i c=some b;unfold EH at h;exact walk
end
def VV:Nat->((List EF)->Int->Int->(List AX)->ABm ((List EF)×Int))
|0=>(λ_ _ _ _=>none)
|n+1=>EH ((VV n))
def Ig(n:Nat):(List EF)->Int->Int->(List AX)->ABm ((List EF)×Int):=(VV n)
theorem Xy(n:Nat):(∀{x0 x1 x2 x3 r},(Ig n) x0 x1 x2 x3=some r->Says prog 221 [vO 3 GP x0,si x1,si x2,vS 11 BM x3] (.Bp [vO 3 GP r.1,si r.2])):=by induction n with|zero=>exactλh=>Cy h|succ n ih=>exactλh=>Z1 ih h
def Xz{n:Nat}:∀{x0 x1 x2 x3 r},(Ig n) x0 x1 x2 x3=some r->Says prog 221 [vO 3 GP x0,si x1,si x2,vS 11 BM x3] (.Bp [vO 3 GP r.1,si r.2]):=(Xy n)
namespace N8
def J2(j:iT):ABm (List Int):=some j
def L2(a:je)(L2:jd)(b:iT)(e:Int):=if decide (e<(a.length:Int))then(gt a e).bind λi=>if Aq (b.length+i.length) 8=true then
L2 (b++i) (A9 (e+1))
else none
else
J2 b
def B9(a:je):Nat->(List Int)->Int->ABm (List Int)
|0,_,_=>none
|n+1,b,e=>L2 a (B9 a n) b e
def J1(a:je)(l:Int):=(pP l).bind λo=>B9 a BQ o 0
def L1(a:je)(L1:Int->Int->ABm (List Int))(c d:Int):=if decide (d<(a.length:Int))then(gt a d).bind λf=>if decide ((A9 (c+(f.length:Int)))<0)then
none
else
L1 (A9 (c+(f.length:Int))) (A9 (d+1))
else
J1 a c
def AU(a:je):Nat->Int->Int->ABm (List Int)
|0,_,_=>none
|n+1,c,d=>L1 a (AU a n) c d
end N8
section
open N8
def N8(a:je):=AU a BQ 0 0
end
namespace CZ
def J4(t:iT):ABm (List Int):=some t
def J3(L1:jd)(c:Int)(s:iT):=L1 s (A9 (c+1))
def J2(L2:lA)(e:Int)(q:iT)(o:Int):=L2 q o (A9 (e+1))
def J1(L2:lA)(f e:Int)(p:iT):=J2 L2 e p (A9 (f+1))
def L2(L1:jd)(c b:Int)(a:AF)(j:Int)(L2:lA)(i:iT)(f e:Int):=if decide (e<(a.AA.length:Int))then(gt a.AA e).bind λv=>if v.cT != b then
J2 L2 e i f
else
if f==j then
if Aq (i.length+1) 8=true then
J1 L2 f e (i++[e])
else none
else
J1 L2 f e i
else
J3 L1 c i
def B9(L1:jd)(c b:Int)(a:AF)(j:Int):Nat->(List Int)->Int->Int->ABm (List Int)
|0,_,_,_=>none
|n+1,i,f,e=>L2 L1 c b a j (B9 L1 c b a j n) i f e
def L1(d:iT)(b:Int)(a:AF)(L1:jd)(l:iT)(c:Int):=if decide (c<(d.length:Int))then(gt d c).bind λj=>(gt a.de.df b).bind λu=>B9 L1 c b a j BQ l u 0
else
J4 l
def AU(d:iT)(b:Int)(a:AF):Nat->(List Int)->Int->ABm (List Int)
|0,_,_=>none
|n+1,l,c=>L1 d b a (AU d b a n) l c
end CZ
section
open CZ
def CZ(a:AF)(b:Int)(d:iT):=AU d b a BQ [] 0
theorem X3{a:AF}{b:Int}{d r:iT}(h:CZ a b d=some r):Says prog 122 [.agg (A5 a),si b,vS 1 eI d] (vO 1 eI r):=by refine kO mix func122 (hn [(3,[19,20,25]),(7,[40,48]),(12,[33])]) ?_;have l1:=iJ λn e=>∃l c,(e 1=si b/\e 3=bA 15 (A5 a)/\e 7=vO 1 eI l/\e 13=vS 1 eI d/\e 14=si (d.length:Int)/\e 15=si c)/\AU d b a n l c=some r;have l2:=iy λg _ _ _ n h=>∃c j i f e,(h 1=si b/\h 3=bA 15 (A5 a)/\h 7=vO 1 eI i/\h 9=si j/\h 10=si f/\h 13=vS 1 eI d/\h 14=si (d.length:Int)/\h 15=si c/\h 26=vS 7 Am a.AA/\h 27=si (a.AA.length:Int)/\h 28=si e)/\B9 (AU d b a g) c b a j n i f e=some r;unfold CZ at h;exact walk
end
namespace DW
def J4(o:AP):ABm AP:=some o
def J3(L3:ml)(c:Int)(b:AP)(p:AL):=if Aq (b.AB.length+1) 24=true then
L3 (AP.mk b.AK b.Tx b.Bs (b.AB++[p])) (A9 (c+1))
else none
def L3(a:AG)(L3:ml)(b:AP)(c:Int):=if decide (c<(a.AB.length:Int))then
if c==0 then
J3 L3 c b (AL.mk 1 0 false)
else
J3 L3 c b (AL.mk 0 0 false)
else
J4 b
def Fw(a:AG):Nat->AP->Int->ABm AP
|0,_,_=>none
|n+1,b,c=>L3 a (Fw a n) b c
def J2(a:AG)(l:AP):=Fw a BQ l 0
def L2(a:AG)(L2:ml)(e:AP)(i:Int):=if decide (i<(a.AM.length:Int))then
if Aq (e.Bs.length+1) 1=true then
L2 (AP.mk e.AK e.Tx (e.Bs++[false]) e.AB) (A9 (i+1))
else none
else
J2 a e
def B9(a:AG):Nat->AP->Int->ABm AP
|0,_,_=>none
|n+1,e,i=>L2 a (B9 a n) e i
def J1(a:AG)(j:AP):=B9 a BQ j 0
def L1(a:AG)(L1:ml)(d:AP)(f:Int):=if decide (f<(a.AK.length:Int))then
if Aq (d.AK.length+1) 32=true then
L1 (AP.mk (d.AK++[(AQ.mk (-1) [])]) d.Tx d.Bs d.AB) (A9 (f+1))
else none
else
J1 a d
def AU(a:AG):Nat->AP->Int->ABm AP
|0,_,_=>none
|n+1,d,f=>L1 a (AU a n) d f
end DW
section
open DW
def DW(a:AG):=AU a BQ (AP.mk [] (-1) [] []) 0
theorem RD{a:AG}{r:AP}(h:DW a=some r):Says prog 135 [.agg (A0 a)] (.agg (I9 r)):=by refine kO mix func135 (hn [(1,[10,23,35]),(3,[16,17,21,29,30,33,45,46,50,51]),(7,[44])]) ?_;have l3:=iJ λn d=>∃b c,(d 1=bA 6 (A0 a)/\d 2=bA 4 z6/\d 3=bA 4 (I9 b)/\d 6=si c)/\Fw a n b c=some r;have l2:=iJ λn b=>∃e i,(b 1=bA 6 (A0 a)/\b 2=bA 4 z6/\b 3=bA 4 (I9 e)/\b 5=si i)/\B9 a n e i=some r;have l1:=iJ λn b=>∃d f,(b 1=bA 6 (A0 a)/\b 2=bA 4 z6/\b 3=bA 4 (I9 d)/\b 4=si f)/\AU a n d f=some r;unfold DW at h;exact walk
end
namespace DX
def J5:=some true
def J4(L1:i6)(a:Int):=L1 (A9 (a+1))
def J3(L1:i6)(a:Int)(s:Bool):=if !s then
some false
else
J4 L1 a
def J2(L2:lg)(f o:Int)(q:Bool):=L2 o q (A9 (f+1))
def J1(L2:lg)(f i:Int)(p:Bool):=J2 L2 f (A9 (i+1)) p
def L2(L1:i6)(c a:Int)(d:jo)(b:iT)(e:Int)(L2:lg)(i:Int)(j:Bool)(f:Int):=if decide (f<c)then(gt d f).bind λl=>if l.cT != e then
J2 L2 f i j
else
if j then
J1 L2 f i true
else(gt b a).bind λt=>if i==t then
if l.da==3 then
J1 L2 f i true
else
J1 L2 f i (l.da==23)
else
J1 L2 f i false
else
J3 L1 a j
def B9(L1:i6)(c a:Int)(d:jo)(b:iT)(e:Int):Nat->Int->Bool->Int->ABm Bool
|0,_,_,_=>none
|n+1,i,j,f=>L2 L1 c a d b e (B9 L1 c a d b e n) i j f
def L1(c:Int)(d:jo)(b:iT)(e:Int)(L1:i6)(a:Int):=if decide (a<(b.length:Int))then
B9 L1 c a d b e BQ 0 false 0
else
J5
def AU(c:Int)(d:jo)(b:iT)(e:Int):Nat->Int->ABm Bool
|0,_=>none
|n+1,a=>L1 c d b e (AU c d b e n) a
end DX
section
open DX
def DX(d:jo)(c e:Int)(b:iT):=AU c d b e BQ 0
theorem Z7{d:jo}{c e:Int}{b:iT}{r:Bool}(h:DX d c e b=some r):Says prog 141 [vS 7 Am d,si c,si e,vS 1 eI b] (sb r):=by refine kO mix func141 hn ?_;have l1:=iJ λn f=>∃a,(f 0=vS 7 Am d/\f 1=si c/\f 2=si e/\f 3=vS 1 eI b/\f 9=si a)/\AU c d b e n a=some r;have l2:=iy λg _ _ _ n h=>∃a i j f,(h 0=vS 7 Am d/\h 1=si c/\h 2=si e/\h 3=vS 1 eI b/\h 9=si a/\h 10=si i/\h 11=sb j/\h 12=si f)/\B9 (AU c d b e g) c a d b e n i j f=some r;unfold DX at h;exact walk
end
namespace Bq
def J4:=some true
def J3(L1:i6)(b:Int):=L1 (A9 (b+1))
def J2(L2:i6)(e:Int)(i:Bool):=if i then
some false
else
L2 (A9 (e+1))
def L2(L1:i6)(d:iT)(a:kj)(b:Int)(L2:i6)(e:Int):=if decide (e<(d.length:Int))then(gt d e).bind λf=>if decide (f<0)then
J2 L2 e true
else
if decide (f>=(a.length:Int))then
J2 L2 e true
else(gt a f).bind λj=>J2 L2 e (!j)
else
J3 L1 b
def B9(L1:i6)(d:iT)(a:kj)(b:Int):Nat->Int->ABm Bool
|0,_=>none
|n+1,e=>L2 L1 d a b (B9 L1 d a b n) e
def J1(L1:i6)(a:kj)(b:Int)(d:iT):=B9 L1 d a b BQ 0
def L1(c:AH)(a:kj)(L1:i6)(b:Int):=if decide (b<2)then
if b==0 then
J1 L1 a b c.D4
else
if b==1 then
J1 L1 a b c.DL
else
none
else
J4
def AU(c:AH)(a:kj):Nat->Int->ABm Bool
|0,_=>none
|n+1,b=>L1 c a (AU c a n) b
end Bq
section
open Bq
def Bq(a:kj)(c:AH):=AU c a BQ 0
end
namespace Gj
def J2(f:AG):ABm AG:=some f
def J1(L1:kv)(a:Int)(e:AG):=L1 e (A9 (a+1))
def L2(L1:kv)(a:Int)(L2:kv)(b:AG)(c:Int):=if decide (c<6)then
if Aq (b.Bu.length+1) 24=true then
L2 (AG.mk b.dg b.AK b.Aj b.AM b.AB (b.Bu++[(EF.mk a c (A9 ((A9 ((A9 (10*a))+c))+1)))])) (A9 (c+1))
else none
else
J1 L1 a b
def B9(L1:kv)(a:Int):Nat->AG->Int->ABm AG
|0,_,_=>none
|n+1,b,c=>L2 L1 a (B9 L1 a n) b c
def L1(L1:kv)(d:AG)(a:Int):=if decide (a<4)then
B9 L1 a BQ d 0
else
J2 d
def AU:Nat->AG->Int->ABm AG
|0,_,_=>none
|n+1,d,a=>L1 (AU n) d a
end Gj
section
open Gj
def Gj:=AU BQ (AG.mk [(Dy.mk (⟨#[120]⟩:ABn) 0 0 false 0),(Dy.mk (⟨#[121]⟩:ABn) 0 0 false 1),(Dy.mk (⟨#[118]⟩:ABn) 0 0 true 0),(Dy.mk (⟨#[113]⟩:ABn) 0 2 false 0),(Dy.mk (⟨#[113]⟩:ABn) 1 2 false 0)] [(KH.mk (⟨#[109]⟩:ABn) false),(KH.mk (⟨#[110]⟩:ABn) false),(KH.mk (⟨#[114]⟩:ABn) true)] [(Rf.mk (⟨#[99]⟩:ABn) 0)] [(⟨#[102]⟩:ABn)] [(⟨#[109,97,105,110]⟩:ABn),(⟨#[116,49]⟩:ABn),(⟨#[116,50]⟩:ABn),(⟨#[116,51]⟩:ABn)] []) 0
theorem RL{r:AG}(h:Gj=some r):Says prog 81 [] (.agg (MR r)):=by refine kO mix func81 (hn [(1,[19,20,29,30,41,43])]) ?_;have l1:=iJ λn b=>∃d a,(b 0=bA 6 z8/\b 1=bA 6 (MR d)/\b 21=si 4/\b 22=si a)/\AU n d a=some r;have l2:=iy λd _ _ _ n e=>∃a b c,(e 0=bA 6 z8/\e 1=bA 6 (MR b)/\e 2=si a/\e 3=si c/\e 21=si 4/\e 22=si a)/\B9 (AU d) a n b c=some r;unfold Gj at h;exact walk
end
namespace B7
def J3(a:AE)(l:iT):ABm ((List Int)×AE):=some (l,a)
def J2(L1:lz)(c:Int)(j:iT):=L1 j (A9 (c+1))
def J1(L1:lz)(e:iT)(a:AE)(c b f i:Int)(o:Bool):=if o then(gt a.ef b).bind λq=>(gt q (A9 (f-i))).bind λs=>if Aq (e.length+1) 8=true then
J2 L1 c (e++[s])
else none
else
J2 L1 c e
def L1(d:iT)(a:AE)(b:Int)(L1:lz)(e:iT)(c:Int):=if decide (c<(d.length:Int))then(gt d c).bind λf=>(gt a.w.de.df b).bind λi=>if decide ((A9 (f-i))>=0)then(gt a.ef b).bind λp=>J1 L1 e a c b f i (decide ((A9 (f-i))<(p.length:Int)))
else
J1 L1 e a c b f i false
else
J3 a e
def AU(d:iT)(a:AE)(b:Int):Nat->(List Int)->Int->ABm ((List Int)×AE)
|0,_,_=>none
|n+1,e,c=>L1 d a b (AU d a b n) e c
end B7
section
open B7
def B7(a:AE)(b:Int)(d:iT):=AU d a b BQ [] 0
theorem PR{a:AE}{b:Int}{d:iT}{r:(List Int)×AE}(h:B7 a b d=some r):BF prog 173 [bA 18 (Bf a),si b,vS 1 eI d] (vO 1 eI r.1) [bA 18 (Bf r.2),.dead,.dead]:=by refine kL mix func173 (hn [(0,[17,18,19,20,21,22,24,31,32,33,34,36,37,42,43,44,45,47,48,50]),(7,[41,55])]) ?_;have l1:=iJ λn f=>∃e c,(f 0=bA 18 (Bf a)/\f 1=si b/\f 7=vO 1 eI e/\f 10=vS 1 eI d/\f 11=si (d.length:Int)/\f 12=si c)/\AU d a b n e c=some r;unfold B7 at h;exact walk
end
namespace HD
def J1(i f:Int):ABm (Int×Int):=some (i,A9 (f+1))
def L1(R100:nf)(a:BU)(L1:Int->Int->Int->ABm (Int×Int))(d b c:Int):=if decide (c<(a.L.length:Int))then(gt a.L c).bind λj=>(R100 j).bind λe=>L1 (A9 (d+e.1)) (if e.2>b then e.2 else b) (A9 (c+1))
else
J1 d b
def AU(R100:nf)(a:BU):Nat->Int->Int->Int->ABm (Int×Int)
|0,_,_,_=>none
|n+1,d,b,c=>L1 R100 a (AU R100 a n) d b c
end HD
variable{j:nf}{e:BU}{c:Int×Int}
section
open HD
def HD(R100:nf)(a:BU):=AU R100 a BQ 1 0 0
theorem Zs(H100:∀{x0 c},j x0=some c->Says prog 280 [.agg [si x0.Op,si x0.N,B0 x0.dq,vS 4 BT x0.L]] (.Bp [si c.1,si c.2]))(h:HD j e=some c):Says prog 280 [.agg [si e.Op,si e.N,B0 e.dq,vS 4 BT e.L]] (.Bp [si c.1,si c.2]):=by refine kO mix func280 (hn [(1,[10,17])]) ?_;have a1:=@H100;have l1:=iJ λn a=>∃d b r,(a 1=bA 4 [si e.Op,si e.N,B0 e.dq,vS 4 BT e.L]/\a 4=si d/\a 5=si b/\a 6=si r)/\AU j e n d b r=some c;unfold HD at h;exact walk
end
def VM:Nat->(BU->ABm (Int×Int))
|0=>(λ_=>none)
|n+1=>HD ((VM n))
def Lq(n:Nat):BU->ABm (Int×Int):=(VM n)
theorem Xt(n:Nat):(∀{x0 r},(Lq n) x0=some r->Says prog 280 [.agg [si x0.Op,si x0.N,B0 x0.dq,vS 4 BT x0.L]] (.Bp [si r.1,si r.2])):=by induction n with|zero=>exactλh=>Cy h|succ n ih=>exactλh=>Zs ih h
def Xu{n:Nat}:∀{x0 r},(Lq n) x0=some r->Says prog 280 [.agg [si x0.Op,si x0.N,B0 x0.dq,vS 4 BT x0.L]] (.Bp [si r.1,si r.2]):=(Xt n)
namespace Fl
def J2(f:AP):ABm AP:=some f
def J1(d:AP):=if decide ((d.AB.length:Int)>0)then(gt d.AB 0).bind λe=>J2 (AP.mk d.AK d.Tx d.Bs (d.AB.set 0 (AL.mk 1 e.DS e.dy)))
else
J2 d
def L1(a:AG)(L1:ml)(b:AP)(c:Int):=if decide (c<(a.AK.length:Int))then(gt b.AK c).bind λi=>L1 (AP.mk (b.AK.set c.toNat (AQ.mk (-1) i.Ae)) b.Tx b.Bs b.AB) (A9 (c+1))
else
J1 b
def AU(a:AG):Nat->AP->Int->ABm AP
|0,_,_=>none
|n+1,b,c=>L1 a (AU a n) b c
end Fl
section
open Fl
def Fl(a:AG):=if 0<=(a.AK.length:Int)/\(a.AK.length:Int)<=(a.AK.length:Int)/\Aq a.AK.length 32=true then
if 0<=(a.AM.length:Int)/\(a.AM.length:Int)<=(a.AM.length:Int)/\Aq a.AM.length 1=true then
if 0<=(a.AB.length:Int)/\(a.AB.length:Int)<=(a.AB.length:Int)/\Aq a.AB.length 24=true then
AU a BQ (AP.mk (List.replicate a.AK.length (AQ.mk 0 [])) (-1) (List.replicate a.AM.length false) (List.replicate a.AB.length (AL.mk 0 0 false))) 0
else none
else none
else none
end
namespace EG
def J1(e:Int):ABm Int:=some e
def L1(R100:ng)(a:kh)(L1:mr)(c b:Int):=if decide (b<(a.length:Int))then(gt a b).bind λd=>(R100 d.dz).bind λf=>(R100 d.ea).bind λi=>L1 (A9 ((A9 (c+f))+i)) (A9 (b+1))
else
J1 c
def AU(R100:ng)(a:kh):Nat->Int->Int->ABm Int
|0,_,_=>none
|n+1,c,b=>L1 R100 a (AU R100 a n) c b
end EG
variable{i:ng}
section
open EG
def EG(R100:ng)(a:kh):=AU R100 a BQ (a.length:Int) 0
theorem Zr(H100:∀{x0 r},i x0=some r->Says prog 218 [vS 11 BM x0] (si r))(h:EG i a=some r):Says prog 218 [vS 11 BM a] (si r):=by refine kO mix func218 hn ?_;have a1:=@H100;have l1:=iJ λn d=>∃c b,(d 0=vS 11 BM a/\d 3=si c/\d 4=si b)/\AU i a n c b=some r;unfold EG at h;exact walk
end
def VL:Nat->((List AX)->ABm Int)
|0=>(λ_=>none)
|n+1=>EG ((VL n))
def Ie(n:Nat):(List AX)->ABm Int:=(VL n)
theorem Xp(n:Nat):(∀{x0 r},(Ie n) x0=some r->Says prog 218 [vS 11 BM x0] (si r)):=by induction n with|zero=>exactλh=>Cy h|succ n ih=>exactλh=>Zr ih h
def Xq{n:Nat}:∀{x0 r},(Ie n) x0=some r->Says prog 218 [vS 11 BM x0] (si r):=(Xp n)
namespace Et
def J3(c:Int)(a:iT)(b:Int)(f:Bool):ABm (List Int):=if f then
some a
else
if 0<=c/\c.toNat<=a.length then
if Aq ((a.take c.toNat).length) 8=true then
if Aq ((a.take c.toNat).length+1) 8=true then
if 0<=c/\c.toNat<=a.length then
if Aq (((a.take c.toNat)++[b]).length+((a.drop c.toNat).take (a.length-c.toNat)).length) 8=true then
some (((a.take c.toNat)++[b])++((a.drop c.toNat).take (a.length-c.toNat)))
else none
else none
else none
else none
else none
def J2(a:iT)(b c:Int):=if decide (c<(a.length:Int))then(gt a c).bind λj=>J3 c a b (j==b)
else
J3 c a b false
def J1(L1:Int->ABm (List Int))(d:Int)(a:iT)(b:Int)(e:Bool):=if e then
L1 (A9 (d+1))
else
J2 a b d
def L1(a:iT)(b:Int)(L1:Int->ABm (List Int))(d:Int):=if decide (d<(a.length:Int))then(gt a d).bind λi=>J1 L1 d a b (decide (i<b))
else
J1 L1 d a b false
def AU(a:iT)(b:Int):Nat->Int->ABm (List Int)
|0,_=>none
|n+1,d=>L1 a b (AU a b n) d
end Et
section
open Et
def Et(a:iT)(b:Int):=AU a b BQ 0
theorem jO{a:iT}{b:Int}{r:iT}(h:Et a b=some r):Says prog 200 [vO 1 eI a,si b] (vO 1 eI r):=by refine kO mix func200 (hn [(0,[8,12,14,22,26,28,33,35,44]),(6,[39,43])]) ?_;have l1:=iJ λn c=>∃d,(c 0=vO 1 eI a/\c 1=si b/\c 5=si d)/\AU a b n d=some r;unfold Et at h;exact walk
end
namespace CL
def J2(a:Bi):ABm (Bool×Bi):=some (false,a)
def J1(L1:Int->ABm (Bool×Bi))(b:Int)(a:Bi)(i:Bool):=if i then
some (true,a)
else
L1 (A9 (b+1))
def L1(d e:Int)(c:ABn)(a:Bi)(L1:Int->ABm (Bool×Bi))(b:Int):=if decide (b<(a.HQ.length:Int))then(gt a.HQ b).bind λf=>if f.Op==d then
if c.toList==(⟨#[]⟩:ABn).toList then
J1 L1 b a true
else
J1 L1 b a (f.dq.toList==c.toList)
else
if f.Op==e then
if c.toList==(⟨#[]⟩:ABn).toList then
J1 L1 b a true
else
J1 L1 b a (f.dq.toList==c.toList)
else
J1 L1 b a false
else
J2 a
def AU(d e:Int)(c:ABn)(a:Bi):Nat->Int->ABm (Bool×Bi)
|0,_=>none
|n+1,b=>L1 d e c a (AU d e c a n) b
end CL
section
open CL
def CL(a:Bi)(d e:Int)(c:ABn):=AU d e c a BQ 0
theorem Q6{a:Bi}{d e:Int}{c:ABn}{r:mg}(h:CL a d e c=some r):BF prog 269 [bA 6 (Hr a),si d,si e,B0 c] (sb r.1) [bA 6 (Hr r.2),.dead,.dead,.dead]:=by refine kL mix func269 (hn [(0,[12,13,14,15,20,21,22,23,25,26]),(10,[27,32,41])]) ?_;have l1:=iJ λn f=>∃b,(f 0=bA 6 (Hr a)/\f 1=si d/\f 2=si e/\f 3=B0 c/\f 9=si b)/\AU d e c a n b=some r;unfold CL at h;exact walk
end
namespace Cj
def J3:=some true
def J2(L1:nh)(b:Int)(d:EF)(j f:Int):=if d.ew != f then
some false
else
L1 j (A9 (f+1)) (A9 (b+1))
def J1(L1:nh)(e b c:Int)(d:EF)(i:Bool):=if i then
some false
else
if decide (d.cT>c)then
J2 L1 b d d.cT 0
else
J2 L1 b d c e
def L1(a:AG)(L1:nh)(c e b:Int):=if decide (b<(a.Bu.length:Int))then(gt a.Bu b).bind λd=>if decide (d.cT<c)then
J1 L1 e b c d true
else
J1 L1 e b c d (decide (d.cT>=(a.AB.length:Int)))
else
J3
def AU(a:AG):Nat->Int->Int->Int->ABm Bool
|0,_,_,_=>none
|n+1,c,e,b=>L1 a (AU a n) c e b
end Cj
section
open Cj
def Cj(a:AG):=AU a BQ 0 0 0
theorem QG{a:AG}{r:Bool}(h:Cj a=some r):Says prog 93 [.agg (A0 a)] (sb r):=by refine kO mix func93 (hn [(1,[7,21]),(6,[14,19,26,30,32])]) ?_;have l1:=iJ λn d=>∃c e b,(d 1=bA 6 (A0 a)/\d 3=si c/\d 4=si e/\d 8=vS 3 GP a.Bu/\d 9=si (a.Bu.length:Int)/\d 10=si b)/\AU a n c e b=some r;unfold Cj at h;exact walk
end
namespace FK
def J4(e:iT):ABm (List Int):=some e
def J3(a:iT)(c b:Int)(f:Bool):=if f then(gt (a.take c.toNat++(List.replicate c.toNat (0:Int)).drop a.length) b).bind λj=>J4 ((a.take c.toNat++(List.replicate c.toNat (0:Int)).drop a.length).set b.toNat (A9 (j+1)))
else
J4 (a.take c.toNat++(List.replicate c.toNat (0:Int)).drop a.length)
def J2(a:iT)(d:Bool)(b c:Int):=if 0<=c/\c<=c/\Aq c.toNat 8=true then
if d then(gt (a.take c.toNat++(List.replicate c.toNat (0:Int)).drop a.length) b).bind λi=>J3 a c b (decide (i<9223372036854775807))
else
J3 a c b false
else none
def J1(a:iT)(b:Int)(d:Bool):=if d then
J2 a d b (if(A9 (b+1))>(a.length:Int)then(A9 (b+1))else(a.length:Int))
else
J2 a d b (a.length:Int)
end FK
section
open FK
def FK(a:iT)(b:Int):=if decide (b>=0)then
J1 a b (decide (b<4))
else
J1 a b false
theorem cK{a:iT}{b:Int}{r:iT}(h:FK a b=some r):Says prog 130 [vS 1 eI a,si b] (vO 1 eI r):=by refine kO mix func130 (hn [(7,[23,28,30,34,36,39,40])] (E:=[(6,(.dP [.o (i1 23 7 (.cp (.t 7))),.o (iC 24 0),.cpy (some ⟨25,[],[]⟩) (.t 23) (.t 24)]))])) ?_;unfold FK at h;exact walk
end
namespace Aw
def J3(a:An)(d:Bool):ABm (List Int):=if d then
some [a.B]
else
if a.Op==9 then
some [a.B,a.C]
else
some []
def J2(a:An)(b:Bool):=if b then
some [a.A,a.B]
else
if a.Op==4 then
some [a.A,a.B,a.C]
else
if a.Op==7 then
some [a.A,a.C]
else
if a.Op==8 then
J3 a (a.Op==8)
else
J3 a (a.Op==26)
def J1(a:An)(c:Bool):=if c then
some [a.A]
else
if a.Op==2 then
J2 a (a.Op==2)
else
J2 a (a.Op==3)
end Aw
section
open Aw
def Aw(a:An):=if a.Op==1 then
J1 a (a.Op==1)
else
if a.Op==6 then
J1 a (a.Op==6)
else
if a.Op==10 then
J1 a (a.Op==10)
else
J1 a (a.Op==27)
theorem KF{a:An}{r:iT}(h:Aw a=some r):Says prog 185 [.agg (EX a)] (vO 1 eI r):=by refine kO mix func185 (hn [(1,[3,10,16,18,23,25,27,32,34,40,45,47])] [(3,1),(8,2)]) ?_;have c2:=iR 2 λc=>∃b,(c 1=bA 6 (EX a)/\c 4=si a.Op/\c 13=sb b)/\J2 a b=some r;have c1:=iR 1 λb=>∃c,(b 1=bA 6 (EX a)/\b 4=si a.Op/\b 5=sb c)/\J1 a c=some r;unfold Aw at h;exact walk
end
namespace C4
def J3(i:iT):ABm (List Int):=some i
def J2(L1:jd)(a:Int)(f:iT):=L1 f (A9 (a+1))
def J1(L1:jd)(a:Int)(b:iT)(j:Bool):=if j then
if Aq (b.length+1) 8=true then
J2 L1 a (b++[a])
else none
else
J2 L1 a b
def L1(d:Int)(c:AP)(L1:jd)(b:iT)(a:Int):=if decide (a<(c.AB.length:Int))then(gt c.AB a).bind λe=>if e.dh==3 then
J1 L1 a b (e.DS==d)
else
J1 L1 a b false
else
J3 b
def AU(d:Int)(c:AP):Nat->(List Int)->Int->ABm (List Int)
|0,_,_=>none
|n+1,b,a=>L1 d c (AU d c n) b a
end C4
section
open C4
def C4(c:AP)(d:Int):=AU d c BQ [] 0
theorem Og{c:AP}{d:Int}{r:iT}(h:C4 c d=some r):Says prog 119 [.agg (HI c),si d] (vO 1 eI r):=by refine kO mix func119 (hn [(2,[8,14,22]),(5,[31,35])]) ?_;have l1:=iJ λn e=>∃b a,(e 1=si d/\e 2=bA 4 (HI c)/\e 5=vO 1 eI b/\e 6=si a)/\AU d c n b a=some r;unfold C4 at h;exact walk
end
namespace E7
def J3(f:Bool):ABm Bool:=some f
def J2(b:AP)(a:AG):=if(b.AK.length:Int)==(a.AK.length:Int)then
if(b.Bs.length:Int)==(a.AM.length:Int)then
J3 ((b.AB.length:Int)==(a.AB.length:Int))
else
J3 false
else
J3 false
def J1(L1:i6)(c:Int)(e:Bool):=if e then
some false
else
L1 (A9 (c+1))
def L1(b:AP)(a:AG)(L1:i6)(c:Int):=if decide (c<(a.Aj.length:Int))then(gt a.Aj c).bind λd=>if decide (d.dn<0)then
J1 L1 c true
else
J1 L1 c (decide (d.dn>=(a.AK.length:Int)))
else
J2 b a
def AU(b:AP)(a:AG):Nat->Int->ABm Bool
|0,_=>none
|n+1,c=>L1 b a (AU b a n) c
end E7
section
open E7
def E7(a:AG)(b:AP):=AU b a BQ 0
theorem N6{a:AG}{b:AP}{r:Bool}(h:E7 a b=some r):Says prog 100 [.agg (A0 a),.agg (HI b)] (sb r):=by refine kO mix func100 (hn [(2,[7,13,21,27,35,43,52]),(3,[32,40,49])]) ?_;have l1:=iJ λn d=>∃c,(d 2=bA 6 (A0 a)/\d 3=bA 4 (HI b)/\d 5=si c)/\AU b a n c=some r;unfold E7 at h;exact walk
end
namespace G0
def J1(e:AN):ABm AN:=some e
def L1(a:AN)(L1:AN->Int->ABm AN)(b:AN)(c:Int):=if decide (c<(a.Dq.length:Int))then(gt a.Dq c).bind λd=>if Aq (d.length) 8=true then
if Aq (b.Dq.length+1) 24=true then
L1 (AN.mk b.PC b.Dk (b.Dq++[d]) b.AA) (A9 (c+1))
else none
else none
else
J1 b
def AU(a:AN):Nat->AN->Int->ABm AN
|0,_,_=>none
|n+1,b,c=>L1 a (AU a n) b c
end G0
section
open G0
def G0(a:AN):=if Aq (a.Dk.length) 8=true then
AU a BQ (AN.mk a.PC a.Dk [] a.AA) 0
else none
theorem Sw{a r:AN}(h:G0 a=some r):Says prog 242 [.agg (FN a)] (.agg (CP r)):=by refine kO mix func242 (hn [(1,[5,7,10,15,24]),(3,[21,22,32,33])] (Z:=[(6,true,3,[(0,2,0)])])) ?_;have l1:=iJ λn d=>∃(b:AN)(c:Int),(d 1=bA 4 (FN a)/\d 2=bA 4 z9/\d 3=bA 4 [si b.PC,vO 1 eI b.Dk,vO 1 KS b.Dq,si b.AA]/\d 4=si c)/\AU a n b c=some r;unfold G0 at h;exact walk
end
def f166c:IC:=(.seq (.dO [⟨some ⟨2,[],[]⟩,.mv (.c (.own false 3 [])),none⟩])
(.seq (.seq (.dP [.o ⟨some ⟨3,[],[]⟩,.cp (.t 0),none⟩,
.jE ⟨4,[],[]⟩ false (.t 3)])
(.cond (.t 4) (.seq (.dO [⟨some ⟨2,[],[]⟩,.mv (.c (.own false 3 [])),none⟩])
.ret) .skip))
(.seq (.dO [⟨some ⟨5,[],[]⟩,.Ot 3 [] [],none⟩,
⟨some ⟨6,[],[]⟩,.cp (.t 0),none⟩,
⟨some ⟨7,[],[]⟩,.app 3 24 (.t 5) (.t 6),none⟩,
⟨some ⟨2,[],[]⟩,.mv (.t 7),none⟩])
.ret)))
def f166g:Gi:=⟨[]⟩
def f166r:List RV:=[.tmp 2]
def f166:FI:=⟨f166c,f166g,f166r⟩
theorem chk166:Nt prog Tryz.f166 f166:=by kernel_rfl
def HA(l:kr):ABm (List AL):=if Aq l.length 24=true then some l else none
theorem LJ{l r:kr}(h:HA l=some r):Says prog 166 [vS 3 Ax l] (vO 3 Ax r):=by obtain⟨g,h⟩:=LU h;obtain rfl:=AAO h;refine Pe mix func166 chk166 (AAV (by kernel_rfl)) rfl ?_;simp only[f166,f166c,f166g,f166r];simp +decide only[go_sem,g];intro b hb;cases b with|true=>have hl:l=[]:=(by simpa using hb rfl);subst hl;simp +decide only[go_sem,g]|false=>simp +decide only[go_sem,g]
namespace Dw
def J2(a:AF)(b:AH):ABm (Int×Bool):=(gt a.de.dc.AB b.cT).bind λi=>if i.dh==3 then
some (A9 ((-1)-b.cT),true)
else
some (0,false)
def J1(L1:Int->ABm (Int×Bool))(c:Int)(f:Bool):=if f then
some (c,true)
else
L1 (A9 (c-1))
def L1(a:AF)(b:AH)(L1:Int->ABm (Int×Bool))(c:Int):=if decide (c>=0)then(gt a.AA c).bind λe=>if e.cT==b.cT then
J1 L1 c (e.da==16)
else
J1 L1 c false
else
J2 a b
def AU(a:AF)(b:AH):Nat->Int->ABm (Int×Bool)
|0,_=>none
|n+1,c=>L1 a b (AU a b n) c
end Dw
variable{g:AF}{b:md}
section
open Dw
def Dw(a:AF)(d:Int):=(gt a.AA d).bind λb=>AU a b BQ (A9 (d-1))
theorem X6(h:Dw g r=some b):Says prog 72 [.agg (A5 g),si r] (.Bp [si b.1,sb b.2]):=by refine kO mix func72 (hn [(2,[8,20,29,38,39,40])]) ?_;have l1:=iJ λn r=>∃(d:AH)(c:Int),(r 2=bA 15 (A5 g)/\r 6=si d.cT/\r 7=si c)/\AU g d n c=some b;unfold Dw at h;exact walk
end
namespace CT
def J3(i:Bool):ABm Bool:=some i
def J2(a:AF)(e:Int):=if a.eu==e then
J3 (decide ((A9 (e+(a.AA.length:Int)))<=400))
else
J3 false
def J1(L1:ka)(c b d:Int)(f:Bool):=if f then
some false
else
L1 (A9 (c+d)) (A9 (b+1))
def L1(a:AF)(L1:ka)(c b:Int):=if decide (b<(a.de.df.length:Int))then(gt a.de.df b).bind λd=>if decide (d<0)then
J1 L1 c b d true
else
J1 L1 c b d (decide (d>400))
else
J2 a c
def AU(a:AF):Nat->Int->Int->ABm Bool
|0,_,_=>none
|n+1,c,b=>L1 a (AU a n) c b
end CT
section
open CT
def CT(a:AF):=AU a BQ 0 0
theorem Vt{a:AF}{r:Bool}(h:CT a=some r):Says prog 45 [.agg (A5 a)] (sb r):=by refine kO mix func45 (hn [(1,[6,7,24,30])]) ?_;have l1:=iJ λn d=>∃c b,(d 1=bA 15 (A5 a)/\d 3=si c/\d 8=vS 1 eI a.de.df/\d 9=si (a.de.df.length:Int)/\d 10=si b)/\AU a n c b=some r;unfold CT at h;exact walk
end
namespace FZ
def J3(i:Bool):ABm Bool:=some i
def J2(a:AF)(d:Int):=if a.eu==d then
J3 (decide ((A9 (d+(a.AA.length:Int)))<=400))
else
J3 false
def J1(L1:ka)(b c:Int)(a:AF)(f:Bool):=if f then
some false
else(gt a.de.df b).bind λj=>L1 (A9 (c+j)) (A9 (b+1))
def L1(a:AF)(L1:ka)(c b:Int):=if decide (b<(a.de.df.length:Int))then(gt a.de.df b).bind λe=>if decide (e<0)then
J1 L1 b c a true
else
J1 L1 b c a (decide (e>400))
else
J2 a c
def AU(a:AF):Nat->Int->Int->ABm Bool
|0,_,_=>none
|n+1,c,b=>L1 a (AU a n) c b
end FZ
section
open FZ
def FZ(a:AF):=AU a BQ 0 0
theorem X2{a:AF}{r:Bool}(h:FZ a=some r):Says prog 52 [.agg (A5 a)] (sb r):=by refine kO mix func52 (hn [(1,[6,7,13,14,21,22,30,31,37,43])]) ?_;have l1:=iJ λn d=>∃c b,(d 1=bA 15 (A5 a)/\d 3=si c/\d 4=si b)/\AU a n c b=some r;unfold FZ at h;exact walk
end
end Go.Abs
