/- Go functions do what typed programs say. -/
import Derived.Test.YtdojkofgkcmagaaGreatDoorBaseA
import Derived.Shelf.Slices.SearchI
set_option linter.all false
namespace Go.Abs
open Go.Proofs Tryz
set_option maxRecDepth 1000000
set_option maxHeartbeats 4000000
namespace FA
def J2(e:iT):ABm (List Int):=some e
def J1(L1:jd)(b:Int)(d:iT):=L1 d (A9 (b+1))
def L1(a:AD)(L1:jd)(c:iT)(b:Int):=if decide (b<(a.dc.AB.length:Int))then(gt a.dc.AB b).bind λf=>if f.dh==3 then
if Aq (c.length+1) 8=true then
J1 L1 b (c++[b])
else none
else
J1 L1 b c
else
J2 c
def AU(a:AD):Nat->(List Int)->Int->ABm (List Int)
|0,_,_=>none
|n+1,c,b=>L1 a (AU a n) c b
end FA
section
open FA
def FA(a:AD):=AU a BQ [] 0
def Wp{a:AD}{r:iT}(h:FA a=some r):Says prog 208 [.agg (Bc a)] (vO 1 eI r):=by refine kO mix func208 (hn [(1,[6,7]),(3,[18,23]),(5,[15])]) ?_;have l1:=iJ λn d=>∃c b,(d 3=vO 1 eI c/\d 8=vS 3 Ax a.dc.AB/\d 9=si (a.dc.AB.length:Int)/\d 10=si b)/\AU a n c b=some r;unfold FA at h;exact walk
end
def f151c:IC:=(.seq (.dO [⟨some ⟨2,[],[]⟩,.mv (.c (.own false 1 [])),none⟩])
(.seq (.seq (.dP [.o ⟨some ⟨3,[],[]⟩,.cp (.t 0),none⟩,
.jE ⟨4,[],[]⟩ false (.t 3)])
(.cond (.t 4) (.seq (.dO [⟨some ⟨2,[],[]⟩,.mv (.c (.own false 1 [])),none⟩])
.ret) .skip))
(.seq (.dO [⟨some ⟨5,[],[]⟩,.Ot 1 [] [],none⟩,
⟨some ⟨6,[],[]⟩,.cp (.t 0),none⟩,
⟨some ⟨7,[],[]⟩,.app 1 8 (.t 5) (.t 6),none⟩,
⟨some ⟨2,[],[]⟩,.mv (.t 7),none⟩])
.ret)))
def f151g:Gi:=⟨[]⟩
def f151r:List RV:=[.tmp 2]
def f151:FI:=⟨f151c,f151g,f151r⟩
def chk151:Nt prog Tryz.f151 f151:=by kernel_rfl
def Ii(l:iT):ABm (List Int):=if Aq l.length 8=true then some l else none
def QQ{l r:iT}(h:Ii l=some r):Says prog 151 [vS 1 eI l] (vO 1 eI r):=by obtain⟨g,h⟩:=LU h;obtain rfl:=AAO h;refine Pe mix func151 chk151 (AAV (by kernel_rfl)) rfl ?_;simp only[f151,f151c,f151g,f151r];simp +decide only[go_sem,g];intro b hb;cases b with|true=>have hl:l=[]:=(by simpa using hb rfl);subst hl;simp +decide only[go_sem,g]|false=>simp +decide only[go_sem,g]
def f165c:IC:=(.seq (.dO [⟨some ⟨2,[],[]⟩,.mv (.c (.own false 1 [])),none⟩])
(.seq (.seq (.dP [.o ⟨some ⟨3,[],[]⟩,.cp (.t 0),none⟩,
.jE ⟨4,[],[]⟩ false (.t 3)])
(.cond (.t 4) (.seq (.dO [⟨some ⟨2,[],[]⟩,.mv (.c (.own false 1 [])),none⟩])
.ret) .skip))
(.seq (.dO [⟨some ⟨5,[],[]⟩,.Ot 1 [] [],none⟩,
⟨some ⟨6,[],[]⟩,.cp (.t 0),none⟩,
⟨some ⟨7,[],[]⟩,.app 1 1 (.t 5) (.t 6),none⟩,
⟨some ⟨2,[],[]⟩,.mv (.t 7),none⟩])
.ret)))
def f165g:Gi:=⟨[]⟩
def f165r:List RV:=[.tmp 2]
def f165:FI:=⟨f165c,f165g,f165r⟩
def chk165:Nt prog Tryz.f165 f165:=by kernel_rfl
def Kl(l:kj):ABm (List Bool):=if Aq l.length 1=true then some l else none
def RM{l r:kj}(h:Kl l=some r):Says prog 165 [vS 1 eB l] (vO 1 eB r):=by obtain⟨g,h⟩:=LU h;obtain rfl:=AAO h;refine Pe mix func165 chk165 (AAV (by kernel_rfl)) rfl ?_;simp only[f165,f165c,f165g,f165r];simp +decide only[go_sem,g];intro b hb;cases b with|true=>have hl:l=[]:=(by simpa using hb rfl);subst hl;simp +decide only[go_sem,g]|false=>simp +decide only[go_sem,g]
def f152c:IC:=(.seq (.dO [⟨some ⟨2,[],[]⟩,.mv (.c (.own false 1 [])),none⟩])
(.seq (.seq (.dP [.o ⟨some ⟨3,[],[]⟩,.cp (.t 0),none⟩,
.jE ⟨4,[],[]⟩ false (.t 3)])
(.cond (.t 4) (.seq (.dO [⟨some ⟨2,[],[]⟩,.mv (.c (.own false 1 [])),none⟩])
.ret) .skip))
(.seq (.dO [⟨some ⟨5,[],[]⟩,.Ot 1 [] [],none⟩,
⟨some ⟨6,[],[]⟩,.cp (.t 0),none⟩,
⟨some ⟨7,[],[]⟩,.app 1 8 (.t 5) (.t 6),none⟩,
⟨some ⟨2,[],[]⟩,.mv (.t 7),none⟩])
.ret)))
def f152g:Gi:=⟨[]⟩
def f152r:List RV:=[.tmp 2]
def f152:FI:=⟨f152c,f152g,f152r⟩
def chk152:Nt prog Tryz.f152 f152:=by kernel_rfl
def slices_Clone_int(l:iT):ABm (List Int):=if Aq l.length 8=true then some l else none
def MJ{l r:iT}(h:slices_Clone_int l=some r):Says prog 152 [vS 1 eI l] (vO 1 eI r):=by obtain⟨g,h⟩:=LU h;obtain rfl:=AAO h;refine Pe mix func152 chk152 (AAV (by kernel_rfl)) rfl ?_;simp only[f152,f152c,f152g,f152r];simp +decide only[go_sem,g];intro b hb;cases b with|true=>have hl:l=[]:=(by simpa using hb rfl);subst hl;simp +decide only[go_sem,g]|false=>simp +decide only[go_sem,g]
namespace Gr
def J1(e:AP):ABm AP:=some e
def L1(a:AP)(L1:ml)(b:AP)(c:Int):=if decide (c<(a.AK.length:Int))then(gt a.AK c).bind λd=>if Aq (d.Ae.length) 8=true then
if Aq (b.AK.length+1) 32=true then
L1 (AP.mk (b.AK++[d]) b.Tx b.Bs b.AB) (A9 (c+1))
else none
else none
else
J1 b
def AU(a:AP):Nat->AP->Int->ABm AP
|0,_,_=>none
|n+1,b,c=>L1 a (AU a n) b c
end Gr
section
open Gr
def Gr(a:AP):=if Aq (a.Bs.length) 1=true then
if Aq (a.AB.length) 24=true then
AU a BQ (AP.mk [] a.Tx a.Bs a.AB) 0
else none
else none
def Sx{a r:AP}(h:Gr a=some r):Says prog 118 [.agg (HI a)] (.agg (I9 r)):=by refine kO mix func118 (hn [(1,[5,8,12,17,25,32]),(3,[23,24,42,43])]) ?_;have l1:=iJ λn d=>∃b c,(d 1=bA 4 (HI a)/\d 2=bA 4 z6/\d 3=bA 4 (I9 b)/\d 4=si c)/\AU a n b c=some r;unfold Gr at h;exact walk
end
namespace ES
def J2(i:iT):ABm (List Int):=some i
def J1(L1:jd)(b:Int)(f:iT):=L1 f (A9 (b+1))
def L1(a:iT)(c:Int)(L1:jd)(d:iT)(b:Int):=if decide (b<(a.length:Int))then(gt a b).bind λe=>if e != c then
if Aq (d.length+1) 8=true then
J1 L1 b (d++[e])
else none
else
J1 L1 b d
else
J2 d
def AU(a:iT)(c:Int):Nat->(List Int)->Int->ABm (List Int)
|0,_,_=>none
|n+1,d,b=>L1 a c (AU a c n) d b
end ES
section
open ES
def ES(a:iT)(c:Int):=AU a c BQ [] 0
def Wj{a:iT}{c:Int}{r:iT}(h:ES a c=some r):Says prog 157 [vS 1 eI a,si c] (vO 1 eI r):=by refine kO mix func157 (hn [(5,[19,26])]) ?_;have l1:=iJ λn e=>∃d b,(e 0=vS 1 eI a/\e 1=si c/\e 5=vO 1 eI d/\e 6=si b)/\AU a c n d b=some r;unfold ES at h;exact walk
end
def Kf:ABm (List ABn):=some [(⟨#[118,97,114]⟩:ABn),(⟨#[118,111,108,97,116,105,108,101]⟩:ABn),(⟨#[109,117,116,101,120]⟩:ABn),(⟨#[114,119,108,111,99,107]⟩:ABn),(⟨#[99,111,110,100]⟩:ABn),(⟨#[102,117,116,117,114,101]⟩:ABn),(⟨#[116,104,114,101,97,100]⟩:ABn),(⟨#[105,102]⟩:ABn),(⟨#[101,108,115,101]⟩:ABn),(⟨#[119,104,105,108,101]⟩:ABn),(⟨#[108,111,99,107]⟩:ABn),(⟨#[114,101,97,100]⟩:ABn),(⟨#[119,114,105,116,101]⟩:ABn),(⟨#[116,114,97,110,115,97,99,116,105,111,110]⟩:ABn),(⟨#[97,116,111,109,105,99]⟩:ABn),(⟨#[119,97,105,116]⟩:ABn),(⟨#[110,111,116,105,102,121]⟩:ABn),(⟨#[110,111,116,105,102,121,97,108,108]⟩:ABn),(⟨#[115,112,97,119,110]⟩:ABn),(⟨#[106,111,105,110]⟩:ABn),(⟨#[115,101,116]⟩:ABn),(⟨#[103,101,116]⟩:ABn)]
def VJ{r:jq}(h:Kf=some r):Says prog 198 [] (vO 1 eS r):=by refine kO mix func198 hn ?_;unfold Kf at h;exact walk
namespace D5
def J2:=some true
def J1(L1:i6)(a:Int)(e:Bool):=if e then
some false
else
L1 (A9 (a+1))
def L1(c:Int)(b:iT)(L1:i6)(a:Int):=if decide (a<(b.length:Int))then(gt b a).bind λd=>if decide (d<1)then
J1 L1 a true
else
if decide (d>=c)then
J1 L1 a true
else
if decide (a>0)then(gt b (A9 (a-1))).bind λf=>J1 L1 a (decide (d<=f))
else
J1 L1 a false
else
J2
def AU(c:Int)(b:iT):Nat->Int->ABm Bool
|0,_=>none
|n+1,a=>L1 c b (AU c b n) a
end D5
section
open D5
def D5(b:iT)(c:Int):=AU c b BQ 0
def Wl{b:iT}{c:Int}{r:Bool}(h:D5 b c=some r):Says prog 104 [vS 1 eI b,si c] (sb r):=by refine kO mix func104 hn ?_;have l1:=iJ λn d=>∃a,(d 0=vS 1 eI b/\d 1=si c/\d 5=si a)/\AU c b n a=some r;unfold D5 at h;exact walk
end
namespace B8
def J2:=some true
def J1(L1:i6)(b:Int)(c:Bool):=if c then
some false
else
L1 (A9 (b+1))
def L1(a:AD)(L1:i6)(b:Int):=if decide (b<(a.dc.Bs.length:Int))then(gt a.dc.Bs b).bind λd=>if !d then(gt a.AM b).bind λe=>J1 L1 b (e != 0)
else
J1 L1 b false
else
J2
def AU(a:AD):Nat->Int->ABm Bool
|0,_=>none
|n+1,b=>L1 a (AU a n) b
end B8
section
open B8
def B8(a:AD):=AU a BQ 0
def Pk{a:AD}{r:Bool}(h:B8 a=some r):Says prog 48 [.agg (Bc a)] (sb r):=by refine kO mix func48 (hn [(1,[5,6,17])]) ?_;have l1:=iJ λn c=>∃b,(c 1=bA 7 (Bc a)/\c 7=vS 1 eB a.dc.Bs/\c 8=si (a.dc.Bs.length:Int)/\c 9=si b)/\AU a n b=some r;unfold B8 at h;exact walk
end
namespace GC
def J1(e:nd):ABm (List DK):=some e
def L1(a:iT)(L1:(List DK)->Int->ABm (List DK))(c:nd)(b:Int):=if decide (b<(a.length:Int))then(gt a b).bind λd=>if Aq (c.length+1) 16=true then
L1 (c++[(DK.mk ((A9 d).tmod 4) (A9 (((A9 ((A9 d).tdiv 4)).tmod 5)-1)))]) (A9 (b+1))
else none
else
J1 c
def AU(a:iT):Nat->(List DK)->Int->ABm (List DK)
|0,_,_=>none
|n+1,c,b=>L1 a (AU a n) c b
end GC
section
open GC
def GC(a:iT):=AU a BQ [] 0
def Xh{a:iT}{r:nd}(h:GC a=some r):Says prog 87 [vS 1 lG a] (vO 2 Ju r):=by refine kO mix func87 (hn [(3,[11,29])]) ?_;have l1:=iJ λn d=>∃c b,(d 0=vS 1 lG a/\d 3=vO 2 Ju c/\d 4=si b)/\AU a n c b=some r;unfold GC at h;exact walk
end
namespace DE
def J1(a:BX):ABm (Int×BX):=some ((-1),a)
def L1(a:BX)(b:ABn)(L1:Int->ABm (Int×BX))(c:Int):=if decide (c<(a.w.Aj.length:Int))then(gt a.w.Aj c).bind λd=>if d.dq.toList==b.toList then
some (c,a)
else
L1 (A9 (c+1))
else
J1 a
def AU(a:BX)(b:ABn):Nat->Int->ABm (Int×BX)
|0,_=>none
|n+1,c=>L1 a b (AU a b n) c
end DE
section
open DE
def DE(a:BX)(b:ABn):=AU a b BQ 0
def VS{a:BX}{b:ABn}{r:Int×BX}(h:DE a b=some r):BF prog 252 [bA 10 (Ee a),B0 b] (si r.1) [bA 10 (Ee r.2),.dead]:=by refine kL mix func252 (hn [(0,[7,8,9,10,11,16,17,18,19,20,22,23])]) ?_;have l1:=iJ λn d=>∃c,(d 0=bA 10 (Ee a)/\d 1=B0 b/\d 5=si c)/\AU a b n c=some r;unfold DE at h;exact walk
end
namespace IM
def J2:ABm Int:=some (-1)
def J1(L1:mr)(a f:Int):=L1 f (A9 (a+1))
def L1(c:Int)(b:AF)(L1:mr)(d a:Int):=if decide (a<(b.AA.length:Int))then(gt b.AA a).bind λi=>if i.cT==c then
if d==0 then
some a
else
J1 L1 a (A9 (d-1))
else
J1 L1 a d
else
J2
def AU(c:Int)(b:AF):Nat->Int->Int->ABm Int
|0,_,_=>none
|n+1,d,a=>L1 c b (AU c b n) d a
end IM
section
open IM
def IM(b:AF)(c e:Int):=AU c b BQ e 0
def jR{b:AF}{c e r:Int}(h:IM b c e=some r):Says prog 107 [.agg (A5 b),si c,si e] (si r):=by refine kO mix func107 (hn [(3,[9,15])]) ?_;have l1:=iJ λn e=>∃d a,(e 1=si c/\e 2=si d/\e 3=bA 15 (A5 b)/\e 7=si a)/\AU c b n d a=some r;unfold IM at h;exact walk
end
namespace CM
def J1(c:Bool):ABm Bool:=some c
end CM
section
open CM
def CM(b:Int)(a:AF):=if decide (b>=0)then
if decide (b<(a.de.df.length:Int))then(gt a.de.df b).bind λd=>J1 (decide (d>=1))
else
J1 false
else
J1 false
def OB{b:Int}{a:AF}{r:Bool}(h:CM b a=some r):Says prog 95 [si b,.fp [vS 5 G5 a.db.dg,vS 2 IE a.db.AK,vS 2 ID a.db.Aj,vS 1 eS a.db.AM,vS 1 eS a.db.AB,vS 3 GP a.db.Bu,si a.eu,vS 2 C5 a.de.dc.AK,si a.de.dc.Tx,vS 1 eB a.de.dc.Bs,vS 3 Ax a.de.dc.AB,vS 1 eI a.de.dg,vS 1 eI a.de.AM,vS 1 eI a.de.df,vS 7 Am a.AA]] (sb r):=by refine kO mix func95 hn ?_;unfold CM at h;exact walk
end
namespace Io
def J1:=some true
def L1(a b:iT)(L1:i6)(c:Int):=if decide (c<(a.length:Int))then(gt a c).bind λd=>(gt b c).bind λe=>if d != e then
some false
else
L1 (A9 (c+1))
else
J1
def AU(a b:iT):Nat->Int->ABm Bool
|0,_=>none
|n+1,c=>L1 a b (AU a b n) c
end Io
section
open Io
def Io(a b:iT):=if(a.length:Int) != (b.length:Int)then
some false
else
AU a b BQ 0
def aE{a b:iT}{r:Bool}(h:Io a b=some r):Says prog 30 [vS 1 eI a,vS 1 eI b] (sb r):=by refine kO mix func30 hn ?_;have l1:=iJ λn d=>∃c,(d 0=vS 1 eI a/\d 1=vS 1 eI b/\d 12=si (a.length:Int)/\d 13=si c)/\AU a b n c=some r;unfold Io at h;exact walk
end
namespace GF
def J1(a:AH)(b:AG)(c:Bool):ABm Int:=if c then
some a.di
else
if a.da==16 then(gt b.Aj a.di).bind λd=>some d.dn
else
if a.da==13 then
some (b.AK.length:Int)
else
some (-1)
end GF
section
open GF
def GF(b:AG)(a:AH):=if a.da==7 then
J1 a b (a.da==7)
else
if a.da==9 then
J1 a b (a.da==9)
else
J1 a b (a.da==11)
def WZ{b:AG}{a:AH}{r:Int}(h:GF b a=some r):Says prog 206 [.agg (A0 b),.agg (Am a)] (si r):=by refine kO mix func206 (hn [(2,[15,24]),(3,[5,11,17])] [(3,1)]) ?_;have c1:=iR 1 λd=>∃c,(d 2=bA 6 (A0 b)/\d 3=bA 7 (Am a)/\d 6=si a.da/\d 7=sb c)/\J1 a b c=some r;unfold GF at h;exact walk
end
namespace GD
def J1(a:AH)(b:AG)(c:Bool):ABm Int:=if c then
some a.di
else
if a.da==17 then(gt b.Aj a.di).bind λd=>some d.dn
else
if a.da==12 then
some (b.AK.length:Int)
else
some (-1)
end GD
section
open GD
def GD(b:AG)(a:AH):=if a.da==6 then
J1 a b (a.da==6)
else
if a.da==8 then
J1 a b (a.da==8)
else
J1 a b (a.da==10)
def WY{b:AG}{a:AH}{r:Int}(h:GD b a=some r):Says prog 207 [.agg (A0 b),.agg (Am a)] (si r):=by refine kO mix func207 (hn [(2,[15,24]),(3,[5,11,17])] [(3,1)]) ?_;have c1:=iR 1 λd=>∃c,(d 2=bA 6 (A0 b)/\d 3=bA 7 (Am a)/\d 6=si a.da/\d 7=sb c)/\J1 a b c=some r;unfold GD at h;exact walk
end
namespace DO
def J1:ABm Int:=some (-1)
def L1(a:List DB)(b:ABn)(L1:ma)(c:Int):=if decide (c<(a.length:Int))then(gt a c).bind λd=>if d.dq.toList==b.toList then
some c
else
L1 (A9 (c+1))
else
J1
def AU(a:List DB)(b:ABn):Nat->Int->ABm Int
|0,_=>none
|n+1,c=>L1 a b (AU a b n) c
end DO
section
open DO
def DO(a:List DB)(b:ABn):=AU a b BQ 0
def Kg{a:List DB}{b:ABn}{r:Int}(h:DO a b=some r):Says prog 247 [vS 4 JO a,B0 b] (si r):=by refine kO mix func247 hn ?_;have l1:=iJ λn d=>∃c,(d 0=vS 4 JO a/\d 1=B0 b/\d 5=si c)/\AU a b n c=some r;unfold DO at h;exact walk
end
namespace Ce
def J1:ABm Int:=some (-1)
def L1(b:ABn)(a:AG)(L1:ma)(c:Int):=if decide (c<(a.dg.length:Int))then(gt a.dg c).bind λd=>if d.dq.toList==b.toList then
some c
else
L1 (A9 (c+1))
else
J1
def AU(b:ABn)(a:AG):Nat->Int->ABm Int
|0,_=>none
|n+1,c=>L1 b a (AU b a n) c
end Ce
section
open Ce
def Ce(a:AG)(b:ABn):=AU b a BQ 0
def P0{a:AG}{b:ABn}{r:Int}(h:Ce a b=some r):Says prog 274 [.agg (A0 a),B0 b] (si r):=by refine kO mix func274 (hn [(2,[7,13])]) ?_;have l1:=iJ λn d=>∃c,(d 1=B0 b/\d 2=bA 6 (A0 a)/\d 5=si c)/\AU b a n c=some r;unfold Ce at h;exact walk
end
namespace D2
def J1:=some false
def L1(a:ABn)(L1:i6)(b:Int):=if decide (b<22)then
if b<22 then(gt Mq b).bind λc=>if a.toList==c.toList then
some true
else
L1 (A9 (b+1))
else none
else
J1
def AU(a:ABn):Nat->Int->ABm Bool
|0,_=>none
|n+1,b=>L1 a (AU a n) b
end D2
variable{g:ABn}{a:Bool}
section
open D2
def D2(a:ABn):=AU a BQ 0
theorem T6(h:D2 g=some a):Says prog 190 [B0 g] (sb a):=by refine kO mix func190 (hn (E:=[(1,(.dP [.gld ⟨5,[],[]⟩ 0 22,.o (iU 6 0)]))])) ?_;have l1:=iJ λn c=>∃b,(c 0=B0 g/\c 5=.agg (Mq.map B0)/\c 6=si b)/\AU g n b=some a;unfold D2 at h;exact walk
end
namespace FC
def J1:ABm Int:=some (-1)
def L1(a:Int)(b:jo)(L1:ma)(c:Int):=if decide (c>=0)then(gt b c).bind λd=>(gt b a).bind λe=>if d.cT==e.cT then
some c
else
L1 (A9 (c-1))
else
J1
def AU(a:Int)(b:jo):Nat->Int->ABm Int
|0,_=>none
|n+1,c=>L1 a b (AU a b n) c
end FC
variable{f:jo}{d r:Int}
section
open FC
def FC(b:jo)(a:Int):=AU a b BQ (A9 (a-1))
theorem VZ(h:FC f d=some r):Says prog 69 [vS 7 Am f,si d] (si r):=by refine kO mix func69 hn ?_;have l1:=iJ λn a=>∃c,(a 0=vS 7 Am f/\a 1=si d/\a 5=si c)/\AU d f n c=some r;unfold FC at h;exact walk
end
namespace DZ
def J1:ABm Int:=some (-1)
def L1(a:m9)(b:ABn)(L1:ma)(c:Int):=if decide (c<(a.length:Int))then(gt a c).bind λd=>if d.dq.toList==b.toList then
some c
else
L1 (A9 (c+1))
else
J1
def AU(a:m9)(b:ABn):Nat->Int->ABm Int
|0,_=>none
|n+1,c=>L1 a b (AU a b n) c
end DZ
section
open DZ
def DZ(a:m9)(b:ABn):=AU a b BQ 0
theorem Jx{a:m9}{b:ABn}{r:Int}(h:DZ a b=some r):Says prog 246 [vS 6 Kb a,B0 b] (si r):=by refine kO mix func246 hn ?_;have l1:=iJ λn d=>∃c,(d 0=vS 6 Kb a/\d 1=B0 b/\d 5=si c)/\AU a b n c=some r;unfold DZ at h;exact walk
end
namespace Er
def J1:ABm Int:=some (-1)
def L1(a:List KH)(b:ABn)(L1:ma)(c:Int):=if decide (c<(a.length:Int))then(gt a c).bind λd=>if d.dq.toList==b.toList then
some c
else
L1 (A9 (c+1))
else
J1
def AU(a:List KH)(b:ABn):Nat->Int->ABm Int
|0,_=>none
|n+1,c=>L1 a b (AU a b n) c
end Er
section
open Er
def Er(a:List KH)(b:ABn):=AU a b BQ 0
theorem P2{a:List KH}{b:ABn}{r:Int}(h:Er a b=some r):Says prog 220 [vS 2 IE a,B0 b] (si r):=by refine kO mix func220 hn ?_;have l1:=iJ λn d=>∃c,(d 0=vS 2 IE a/\d 1=B0 b/\d 5=si c)/\AU a b n c=some r;unfold Er at h;exact walk
end
namespace Cz
def J1:ABm Int:=some (-1)
def L1(a:jq)(b:ABn)(L1:ma)(c:Int):=if decide (c<(a.length:Int))then(gt a c).bind λd=>if d.toList==b.toList then
some c
else
L1 (A9 (c+1))
else
J1
def AU(a:jq)(b:ABn):Nat->Int->ABm Int
|0,_=>none
|n+1,c=>L1 a b (AU a b n) c
end Cz
section
open Cz
def Cz(a:jq)(b:ABn):=AU a b BQ 0
theorem IX{a:jq}{b:ABn}{r:Int}(h:Cz a b=some r):Says prog 99 [vS 1 eS a,B0 b] (si r):=by refine kO mix func99 hn ?_;have l1:=iJ λn d=>∃c,(d 0=vS 1 eS a/\d 1=B0 b/\d 5=si c)/\AU a b n c=some r;unfold Cz at h;exact walk
end
namespace Iq
def J1:=some false
def L1(a:iT)(b:Int)(L1:i6)(c:Int):=if decide (c<(a.length:Int))then(gt a c).bind λd=>if d==b then
some true
else
L1 (A9 (c+1))
else
J1
def AU(a:iT)(b:Int):Nat->Int->ABm Bool
|0,_=>none
|n+1,c=>L1 a b (AU a b n) c
end Iq
section
open Iq
def Iq(a:iT)(b:Int):=AU a b BQ 0
theorem jT{a:iT}{b:Int}{r:Bool}(h:Iq a b=some r):Says prog 35 [vS 1 eI a,si b] (sb r):=by refine kO mix func35 hn ?_;have l1:=iJ λn d=>∃c,(d 1=si b/\d 7=vS 1 eI a/\d 8=si (a.length:Int)/\d 9=si c)/\AU a b n c=some r;unfold Iq at h;exact walk
end
namespace GM
def J1:ABm Int:=some (-1)
def L1(a:iT)(b:Int)(L1:ma)(c:Int):=if decide (c<(a.length:Int))then(gt a c).bind λd=>if b==d then
some c
else
L1 (A9 (c+1))
else
J1
def AU(a:iT)(b:Int):Nat->Int->ABm Int
|0,_=>none
|n+1,c=>L1 a b (AU a b n) c
end GM
section
open GM
def GM(a:iT)(b:Int):=AU a b BQ 0
theorem YC{a:iT}{b r:Int}(h:GM a b=some r):Says prog 201 [vS 1 eI a,si b] (si r):=by refine kO mix func201 hn ?_;have l1:=iJ λn d=>∃c,(d 0=vS 1 eI a/\d 1=si b/\d 7=si (a.length:Int)/\d 8=si c)/\AU a b n c=some r;unfold GM at h;exact walk
end
namespace Dg
def J2(d:Bool):ABm Bool:=some d
def J1(a:AH)(b:AG)(c:Bool):=if c then
some (a.d8==(-1))
else
if decide (a.d8>=0)then
if decide (a.d8<(b.Bu.length:Int))then(gt b.Bu a.d8).bind λe=>J2 (e.cT==a.cT)
else
J2 false
else
J2 false
end Dg
section
open Dg
def Dg(b:AG)(a:AH):=if a.da==1 then
J1 a b true
else
J1 a b (a.da==2)
theorem RS{b:AG}{a:AH}{r:Bool}(h:Dg b a=some r):Says prog 147 [.agg (A0 b),.agg (Am a)] (sb r):=by refine kO mix func147 (hn [(2,[22,28]),(3,[5,9,13,16,20,30,35])]) ?_;unfold Dg at h;exact walk
end
namespace FB
def J3(d:Bool):ABm Int:=if d then
some 2
else
some (-1)
def J2(a:Int)(c:Bool):=if c then
some 1
else
if decide (a>=6)then
J3 (decide (a<=18))
else
J3 false
def J1(a:Int)(b:Bool):=if b then
some 0
else
if decide (a>=3)then
J2 a (decide (a<=5))
else
J2 a false
end FB
section
open FB
def FB(a:Int):=if a==1 then
J1 a true
else
J1 a (a==2)
theorem VK{a r:Int}(h:FB a=some r):Says prog 282 [si a] (si r):=by refine kO mix func282 (hn (Q:=[(2,1)])) ?_;have c1:=iR 1 λc=>∃b,(c 0=si a/\c 3=sb b)/\J1 a b=some r;unfold FB at h;exact walk
end
namespace HM
def J1:=some false
def L1(a:iT)(b:Int)(L1:i6)(c:Int):=if decide (c<(a.length:Int))then(gt a c).bind λd=>if d==b then
some true
else
L1 (A9 (c+1))
else
J1
def AU(a:iT)(b:Int):Nat->Int->ABm Bool
|0,_=>none
|n+1,c=>L1 a b (AU a b n) c
end HM
section
open HM
def HM(a:iT)(b:Int):=AU a b BQ 0
theorem PY{a:iT}{b:Int}{r:Bool}(h:HM a b=some r):Says prog 65 [vS 1 eI a,si b] (sb r):=by refine kO mix func65 hn ?_;have l1:=iJ λn d=>∃c,(d 0=vS 1 eI a/\d 1=si b/\d 5=si c)/\AU a b n c=some r;unfold HM at h;exact walk
end
namespace Ao
def J1(b:Int)(a:AZ)(c:Bool):ABm (Int×AZ):=if c then
some (0,a)
else(gt a.L (A9 ((A9 (a.At+1))-1))).bind λd=>if¬b=0 then
some ((A9 d).tmod b,(AZ.mk a.L (A9 (a.At+1))))
else none
end Ao
section
open Ao
def Ao(a:AZ)(b:Int):=if decide (a.At>=(a.L.length:Int))then
J1 b a true
else
J1 b a (decide (b<1))
theorem DD{a:AZ}{b:Int}{r:j7}(h:Ao a b=some r):BF prog 132 [bA 2 (Ft a),si b] (si r.1) [bA 2 (Ft r.2),.dead]:=by refine kL mix func132 (hn [(0,[5,6,7,9,10,11,12,19,20,21,24,25,26,27,28,29,30,31,32,35])]) ?_;unfold Ao at h;exact walk
end
def HG:ABm (List E1):=some [(E1.mk 1 0 (⟨#[120]⟩:ABn) 0 0 (⟨#[]⟩:ABn)),(E1.mk 1 0 (⟨#[121]⟩:ABn) 0 1 (⟨#[]⟩:ABn)),(E1.mk 2 0 (⟨#[118]⟩:ABn) 0 0 (⟨#[]⟩:ABn)),(E1.mk 1 0 (⟨#[113]⟩:ABn) 2 0 (⟨#[]⟩:ABn)),(E1.mk 3 0 (⟨#[109]⟩:ABn) 0 0 (⟨#[]⟩:ABn)),(E1.mk 3 0 (⟨#[110]⟩:ABn) 0 0 (⟨#[]⟩:ABn)),(E1.mk 4 0 (⟨#[114]⟩:ABn) 0 0 (⟨#[]⟩:ABn)),(E1.mk 5 0 (⟨#[99]⟩:ABn) 0 0 (⟨#[109]⟩:ABn)),(E1.mk 6 0 (⟨#[102]⟩:ABn) 0 0 (⟨#[]⟩:ABn))]
variable{b:m9}
theorem Sp(h:HG=some b):Says prog 186 [] (vO 6 Kb b):=by refine kO mix func186 hn ?_;unfold HG at h;exact walk
def BV(a:BX)(b:An):ABm BX:=if Aq (a.dt.length+1) 48=true then
some (BX.mk a.w a.dr (a.dt++[(An.mk b.Op b.A b.B b.C b.N a.dx)]) a.dx a.next)
else none
theorem HK{a:BX}{b:An}{r:BX}(h:BV a b=some r):BF prog 184 [bA 10 (Ee a),.agg (EX b)] (.Bp []) [bA 10 (Ee r),.dead]:=by refine kL mix func184 (hn [(0,[4,5,6,10,11,12,13,17,18]),(3,[8])] (E:=[(2,(.iH [(0,0,8,9)] [i0 9 .fl,i1 10 0 (.cp (.t 0)),i1 11 0 (.I6 (.t 10)),KK 12 0 7 11,Un 13 0 12,iA 14 6 3,i0 15 (.Ot 6 [z17] [(0,.t 14)]),i0 16 (.app 6 48 (.t 13) (.t 15)),i1 17 0 (.I6 (.t 0)),KK 18 0 7 17,iS 1 18 16]))])) ?_;unfold BV at h;exact walk
namespace GL
def J1(c:Bool):ABm Bool:=some c
end GL
section
open GL
def GL(b:AF)(a:AH):=if a.da==23 then(gt b.de.dc.Bs a.di).bind λd=>if d then(gt b.de.AM a.di).bind λe=>J1 (e==a.dm)
else
J1 false
else(gt b.de.dg a.di).bind λf=>some (f==a.dm)
theorem Wn{b:AF}{a:AH}{r:Bool}(h:GL b a=some r):Says prog 78 [.agg (A5 b),.agg (Am a)] (sb r):=by refine kO mix func78 (hn [(2,[8,9,10,17,18,28,29]),(3,[5,12,20,24,31,35])]) ?_;unfold GL at h;exact walk
end
namespace Ge
def J1(f:Bool):ABm Bool:=some f
end Ge
variable{e:AF}{c:Int}
section
open Ge
def Ge(e:AF)(d b c:Int):=(gt e.AA d).bind λa=>if a.da==18 then
if a.di==b then
J1 (a.cT != c)
else
J1 false
else
if a.da==19 then
if a.di==b then
J1 (a.cT != c)
else
J1 false
else
J1 false
theorem Vc(h:Ge e d r c=some a):Says prog 73 [.agg (A5 e),si d,si r,si c] (sb a):=by refine kO mix func73 (hn [(4,[10]),(9,[15,19,24,30])]) ?_;unfold Ge at h;exact walk
end
namespace G9
def J1(c:Bool):ABm Bool:=some c
end G9
section
open G9
def G9(b a:AH):=if b.di==a.di then
if b.da==4 then
if a.da==3 then
J1 true
else
if b.da==22 then
J1 (a.da==23)
else
J1 false
else
if b.da==22 then
J1 (a.da==23)
else
J1 false
else
J1 false
theorem X7{b a:AH}{r:Bool}(h:G9 b a=some r):Says prog 34 [.agg (Am b),.agg (Am a)] (sb r):=by refine kO mix func34 (hn [(2,[5,11,20]),(3,[7,15,24])]) ?_;unfold G9 at h;exact walk
end
namespace Iz
def J1(b:Bool):ABm Bool:=some b
end Iz
section
open Iz
def Iz(a:BU):=if a.Op==0 then
if a.N==0 then
if a.dq.toList==(⟨#[]⟩:ABn).toList then
J1 ((a.L.length:Int)==0)
else
J1 false
else
J1 false
else
J1 false
theorem Zq{a:BU}{r:Bool}(h:Iz a=some r):Says prog 278 [.agg [si a.Op,si a.N,B0 a.dq,vS 4 BT a.L]] (sb r):=by refine kO mix func278 (hn [(1,[3,7,12,17])]) ?_;unfold Iz at h;exact walk
end
namespace GH
def J1(b:Bool):ABm Bool:=some b
end GH
section
open GH
def GH(a:Int):=if decide (a>=97)then
if decide (a<=122)then
J1 true
else
if decide (a>=65)then
J1 (decide (a<=90))
else
J1 false
else
if decide (a>=65)then
J1 (decide (a<=90))
else
J1 false
theorem Py{a:Int}{r:Bool}(h:GH a=some r):Says prog 153 [.sc (.int .u8 a)] (sb r):=by refine kO mix func153 hn ?_;unfold GH at h;exact walk
end
namespace Hl
def J1(a:Int)(b:AG)(c:Bool):ABm Int:=if c then
some (-1)
else(gt b.Aj a).bind λd=>some d.dn
end Hl
section
open Hl
def Hl(b:AG)(a:Int):=if decide (a<0)then
J1 a b true
else
J1 a b (decide (a>=(b.Aj.length:Int)))
theorem RE{b:AG}{a r:Int}(h:Hl b a=some r):Says prog 172 [.agg (A0 b),si a] (si r):=by refine kO mix func172 (hn [(2,[9,14])]) ?_;unfold Hl at h;exact walk
end
namespace JE
def J1(a:Int)(b:Bool):ABm Int:=if b then
some 0
else(gt [3,3,4,4,5,6,7,8,9,10,11,12,13,14,15,16,18,19,20,21,22,23,2] (A9 (a-6))).bind λc=>some c
end JE
section
open JE
def JE(a:Int):=if decide (a<6)then
J1 a true
else
J1 a (decide (a>28))
theorem dM{a r:Int}(h:JE a=some r):Says prog 240 [si a] (si r):=by refine kO mix func240 (hn [(3,[11,14])]) ?_;unfold JE at h;exact walk
end
def F8(b:ABn)(a:BU):ABm AX:=some (AX.mk 1 0 b (⟨#[]⟩:ABn) [] a [] [])
theorem Qt{b:ABn}{a:BU}{r:AX}(h:F8 b a=some r):Says prog 188 [B0 b,.agg [si a.Op,si a.N,B0 a.dq,vS 4 BT a.L]] (.agg [si r.Op,si r.Fq,B0 r.dq,B0 r.e6,vS 4 BT r.d6,si r.du.Op,si r.du.N,B0 r.du.dq,vS 4 BT r.du.L,vS 11 BM r.dz,vS 11 BM r.ea]):=by refine kF mix func188 hn ?_;unfold F8 at h;exact walk
namespace Jn
def J1(b:iT)(a:Int)(c:Bool):ABm Int:=if c then
some 0
else(gt b a).bind λd=>some d
end Jn
section
open Jn
def Jn(b:iT)(a:Int):=if decide (a<0)then
J1 b a true
else
J1 b a (decide (a>=(b.length:Int)))
theorem oL{b:iT}{a r:Int}(h:Jn b a=some r):Says prog 131 [vS 1 eI b,si a] (si r):=by refine kO mix func131 hn ?_;unfold Jn at h;exact walk
end
namespace Hk
def J1(c:Int):ABm Int:=some c
end Hk
section
open Hk
def Hk(b a:Int):=if decide (a<1)then
some 0
else
if¬a=0 then
if decide ((b.tmod a)<0)then
J1 (A9 ((b.tmod a)+a))
else
J1 (b.tmod a)
else none
theorem Zv{b a r:Int}(h:Hk b a=some r):Says prog 264 [si b,si a] (si r):=by refine kO mix func264 hn ?_;unfold Hk at h;exact walk
end
namespace GG
def J1(c:Bool):ABm Bool:=some c
end GG
section
open GG
def GG(a:AL)(b:Int):=if a.dh==3 then
J1 (a.DS==b)
else
J1 false
theorem Pw{a:AL}{b:Int}{r:Bool}(h:GG a b=some r):Says prog 225 [.agg (Ax a),si b] (sb r):=by refine kO mix func225 (hn [(2,[5,9])]) ?_;unfold GG at h;exact walk
end
namespace FW
def J1(a:Int)(b:Bool):ABm Int:=if b then
some 0
else
some a
end FW
section
open FW
def FW(a:Int):=if decide (a<1)then
J1 a true
else
J1 a (decide (a>100))
theorem VW{a r:Int}(h:FW a=some r):Says prog 266 [si a] (si r):=by refine kO mix func266 hn ?_;unfold FW at h;exact walk
end
def Jm(c:Int)(a b:BU):ABm BU:=some (BU.mk c 0 (⟨#[]⟩:ABn) [a,b])
theorem Qu{c:Int}{a b r:BU}(h:Jm c a b=some r):Says prog 255 [si c,.agg [si a.Op,si a.N,B0 a.dq,vS 4 BT a.L],.agg [si b.Op,si b.N,B0 b.dq,vS 4 BT b.L]] (.agg [si r.Op,si r.N,B0 r.dq,vS 4 BT r.L]):=by refine kF mix func255 hn ?_;unfold Jm at h;exact walk
namespace FL
def J1(c:Bool):ABm Bool:=some c
end FL
section
open FL
def FL(a b:Int):=if decide (a>=0)then
J1 (decide (a<b))
else
J1 false
theorem UX{a b:Int}{r:Bool}(h:FL a b=some r):Says prog 143 [si a,si b] (sb r):=by refine kO mix func143 hn ?_;unfold FL at h;exact walk
end
namespace De
def J1(c:Bool):ABm Bool:=some c
end De
section
open De
def De(a b:Int):=if decide (a>=0)then
J1 (decide (a<b))
else
J1 false
theorem LF{a b:Int}{r:Bool}(h:De a b=some r):Says prog 144 [si a,si b] (sb r):=by refine kO mix func144 hn ?_;unfold De at h;exact walk
end
namespace Ih
def J1(b:Bool):ABm Bool:=some b
end Ih
section
open Ih
def Ih(a:AH):=if a.da==3 then
J1 true
else
J1 (a.da==23)
theorem dN{a:AH}{r:Bool}(h:Ih a=some r):Says prog 33 [.agg (Am a)] (sb r):=by refine kO mix func33 (hn [(1,[3,7])]) ?_;unfold Ih at h;exact walk
end
namespace IW
def J1(b:Bool):ABm Bool:=some b
end IW
section
open IW
def IW(a:Int):=if decide (a>=48)then
J1 (decide (a<=57))
else
J1 false
theorem Zn{a:Int}{r:Bool}(h:IW a=some r):Says prog 199 [.sc (.int .u8 a)] (sb r):=by refine kO mix func199 hn ?_;unfold IW at h;exact walk
end
namespace G8
def J1(b:Bool):ABm Bool:=some b
end G8
section
open G8
def G8(a:Int):=if decide (a>=1)then
J1 (decide (a<=5))
else
J1 false
theorem P1{a:Int}{r:Bool}(h:G8 a=some r):Says prog 238 [si a] (sb r):=by refine kO mix func238 hn ?_;unfold G8 at h;exact walk
end
namespace Lh
def J1(c:Bool):ABm Bool:=some c
end Lh
section
open Lh
def Lh(a b:Int):=if decide (a>=0)then
J1 (decide (a<b))
else
J1 false
theorem oK{a b:Int}{r:Bool}(h:Lh a b=some r):Says prog 103 [si a,si b] (sb r):=by refine kO mix func103 hn ?_;unfold Lh at h;exact walk
end
namespace IL
def J1(c:Bool):ABm Bool:=some c
end IL
section
open IL
def IL(a b:Int):=if decide (a>=0)then
J1 (decide (a<b))
else
J1 false
theorem XH{a b:Int}{r:Bool}(h:IL a b=some r):Says prog 114 [si a,si b] (sb r):=by refine kO mix func114 hn ?_;unfold IL at h;exact walk
end
namespace Li
def J1(c:Bool):ABm Bool:=some c
end Li
section
open Li
def Li(a b:Int):=if decide (a>=0)then
J1 (decide (a<b))
else
J1 false
theorem XL{a b:Int}{r:Bool}(h:Li a b=some r):Says prog 101 [si a,si b] (sb r):=by refine kO mix func101 hn ?_;unfold Li at h;exact walk
end
namespace EC
def J1(c:Bool):ABm Bool:=some c
end EC
section
open EC
def EC(a b:Int):=if decide (a>=0)then
J1 (decide (a<b))
else
J1 false
theorem Q8{a b:Int}{r:Bool}(h:EC a b=some r):Says prog 211 [si a,si b] (sb r):=by refine kO mix func211 hn ?_;unfold EC at h;exact walk
end
def Oj:ABm (List Int):=some [3,3,3,3,3,4,4,4,4,4,5,5,5,6,6,6,7,7,7,8,9,10,11,12,13,14,14,15,16,16,17,17,18,18,19,20,1,1,2,21,22,23,23]
theorem aP{r:iT}(h:Oj=some r):Says prog 175 [] (vO 1 eI r):=by refine kO mix func175 hn ?_;unfold Oj at h;exact walk
def Lc(a:Int):ABm BU:=some (BU.mk 1 a (⟨#[]⟩:ABn) [])
theorem Qx{a:Int}{r:BU}(h:Lc a=some r):Says prog 189 [si a] (.agg [si r.Op,si r.N,B0 r.dq,vS 4 BT r.L]):=by refine kF mix func189 hn ?_;unfold Lc at h;exact walk
def KM(a:ABn):ABm BU:=some (BU.mk 2 0 a [])
theorem Ux{a:ABn}{r:BU}(h:KM a=some r):Says prog 256 [B0 a] (.agg [si r.Op,si r.N,B0 r.dq,vS 4 BT r.L]):=by refine kF mix func256 hn ?_;unfold KM at h;exact walk
def CV(a:Bool):ABm Int:=if a then
some 7
else
some 0
theorem Wf{a:Bool}{r:Int}(h:CV a=some r):Says prog 273 [sb a] (si r):=by refine kO mix func273 hn ?_;unfold CV at h;exact walk
def Ef(a:Bool):ABm Int:=if a then
some 1
else
some 0
theorem Q7{a:Bool}{r:Int}(h:Ef a=some r):Says prog 276 [sb a] (si r):=by refine kO mix func276 hn ?_;unfold Ef at h;exact walk
def Fp(a b:Int):ABm Int:=if a != 0 then
some a
else
some b
theorem oI{a b r:Int}(h:Fp a b=some r):Says prog 270 [si a,si b] (si r):=by refine kO mix func270 hn ?_;unfold Fp at h;exact walk
end Go.Abs
