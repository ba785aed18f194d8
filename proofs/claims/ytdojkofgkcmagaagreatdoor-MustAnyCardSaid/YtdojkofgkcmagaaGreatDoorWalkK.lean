/- Go functions do what typed programs say. -/
import Derived.Test.YtdojkofgkcmagaaGreatDoorWalkJ
import Derived.Shelf.Slices.SearchI
set_option linter.all false
namespace Go.Abs
open Go.Proofs Tryz
set_option maxRecDepth 1000000
set_option maxHeartbeats 4000000
namespace Df
def J1:=some true
def L1(R101:AX->ABm Bool)(a:kh)(L1:i6)(b:Int):=if decide (b<(a.length:Int))then(gt a b).bind λd=>(R101 d).bind λc=>if !c then
some false
else
L1 (A9 (b+1))
else
J1
def AU(R101:AX->ABm Bool)(a:kh):Nat->Int->ABm Bool
|0,_=>none
|n+1,b=>L1 R101 a (AU R101 a n) b
end Df
variable{d:AX->ABm Bool}{b:kh}{a:Bool}
section
open Df
def Df(R101:AX->ABm Bool)(a:kh):=AU R101 a BQ 0
theorem Q5(H101:∀{x0 a},d x0=some a->Says prog 268 [.agg [si x0.Op,si x0.Fq,B0 x0.dq,B0 x0.e6,vS 4 BT x0.d6,si x0.du.Op,si x0.du.N,B0 x0.du.dq,vS 4 BT x0.du.L,vS 11 BM x0.dz,vS 11 BM x0.ea]] (sb a))(h:Df d b=some a):Says prog 245 [vS 11 BM b] (sb a):=by refine kO mix func245 hn ?_;have a1:=@H101;have l1:=iJ λn c=>∃r,(c 0=vS 11 BM b/\c 3=si r)/\AU d b n r=some a;unfold Df at h;exact walk
end
namespace Bt
def OE(p:Bool):ABm Bool:=some p
def J9(R100:ko)(a:AX)(f:Bool):=if f then
some false
else(R100 a.dz).bind λx=>if x then(R100 a.ea).bind λy=>OE y
else
OE false
def J8(R100:ko)(a:AX)(b:Bool):=if !b then
if decide ((a.dz.length:Int)>0)then
J9 R100 a true
else
if a.Op != 2 then
J9 R100 a (decide ((a.ea.length:Int)>0))
else
J9 R100 a false
else
if a.Op != 2 then
J9 R100 a (decide ((a.ea.length:Int)>0))
else
J9 R100 a false
def J7(R100:ko)(a:AX)(d:Bool):=if d then
some false
else
if decide (a.Op>=2)then
J8 R100 a (decide (a.Op<=8))
else
J8 R100 a false
def J6(R100:ko)(a:AX)(o:Bool):=if o then(D3 BQ a.du).bind λv=>if !v then
J7 R100 a true
else
J7 R100 a false
else(Iz a.du).bind λw=>J7 R100 a (!w)
def J5(R100:ko)(a:AX)(l:Bool):=if l then
some false
else
if a.Op==1 then
J6 R100 a true
else
if a.Op==2 then
J6 R100 a true
else
if a.Op==3 then
J6 R100 a true
else
J6 R100 a (a.Op==14)
def J4(R100:ko)(a:AX)(j:Bool):=if j then
some false
else
if decide ((a.d6.length:Int)>1)then
J5 R100 a true
else
if a.Op != 1 then
if decide ((a.d6.length:Int)>0)then
J5 R100 a true
else
if(a.d6.length:Int)==1 then(gt a.d6 0).bind λz=>(D3 BQ z).bind λt=>J5 R100 a (!t)
else
J5 R100 a false
else
if(a.d6.length:Int)==1 then(gt a.d6 0).bind λaa=>(D3 BQ aa).bind λu=>J5 R100 a (!u)
else
J5 R100 a false
def J3(R100:ko)(a:AX)(i:Bool):=if i then
some false
else
if a.Op==15 then(CU a.e6).bind λs=>if !s then
J4 R100 a true
else
if a.Op != 15 then
J4 R100 a (!(a.e6.toList==(⟨#[]⟩:ABn).toList))
else
J4 R100 a false
else
if a.Op != 15 then
J4 R100 a (!(a.e6.toList==(⟨#[]⟩:ABn).toList))
else
J4 R100 a false
def J2(R100:ko)(a:AX)(c:Bool):=if c then
if !(a.dq.toList==(⟨#[]⟩:ABn).toList)then
J3 R100 a true
else
J3 R100 a false
else(CU a.dq).bind λq=>J3 R100 a (!q)
def J1(R100:ko)(a:AX)(e:Bool):=if e then
some false
else
if a.Op==2 then
J2 R100 a true
else
if a.Op==3 then
J2 R100 a true
else
if a.Op==7 then
J2 R100 a true
else
J2 R100 a (a.Op==8)
end Bt
variable{e:ko}{c:AX}
section
open Bt
def Bt(R100:ko)(a:AX):=if decide (a.Op<1)then
J1 R100 a true
else
J1 R100 a (decide (a.Op>15))
theorem SY(H100:∀{x0 a},e x0=some a->Says prog 245 [vS 11 BM x0] (sb a))(h:Bt e c=some a):Says prog 268 [.agg [si c.Op,si c.Fq,B0 c.dq,B0 c.e6,vS 4 BT c.d6,si c.du.Op,si c.du.N,B0 c.du.dq,vS 4 BT c.du.L,vS 11 BM c.dz,vS 11 BM c.ea]] (sb a):=by refine kO mix func268 (hn [(1,[6,10,14,18,23,28,34,42,48,52,58,62,67,72,76,83,88,96,100,105,110,116,125,131,135,142,148,152,158,162])] [(2,1),(4,2),(6,3),(9,4),(12,5),(14,6),(16,7),(18,8),(20,9)]) ?_;have a1:=@H100;have a2:=@Lg;have a3:=@Zq;have a4:=@Im;have c9:=iR 9 λb=>∃f,(b 1=bA 11 [si c.Op,si c.Fq,B0 c.dq,B0 c.e6,vS 4 BT c.d6,si c.du.Op,si c.du.N,B0 c.du.dq,vS 4 BT c.du.L,vS 11 BM c.dz,vS 11 BM c.ea]/\b 157=sb f)/\J9 e c f=some a;have c8:=iR 8 λr=>∃b,(r 1=bA 11 [si c.Op,si c.Fq,B0 c.dq,B0 c.e6,vS 4 BT c.d6,si c.du.Op,si c.du.N,B0 c.du.dq,vS 4 BT c.du.L,vS 11 BM c.dz,vS 11 BM c.ea]/\r 5=sb b)/\J8 e c b=some a;have c7:=iR 7 λb=>∃d,(b 1=bA 11 [si c.Op,si c.Fq,B0 c.dq,B0 c.e6,vS 4 BT c.d6,si c.du.Op,si c.du.N,B0 c.du.dq,vS 4 BT c.du.L,vS 11 BM c.dz,vS 11 BM c.ea]/\b 130=sb d)/\J7 e c d=some a;have c6:=iR 6 λb=>∃o,(b 1=bA 11 [si c.Op,si c.Fq,B0 c.dq,B0 c.e6,vS 4 BT c.d6,si c.du.Op,si c.du.N,B0 c.du.dq,vS 4 BT c.du.L,vS 11 BM c.dz,vS 11 BM c.ea]/\b 4=sb o)/\J6 e c o=some a;have c5:=iR 5 λb=>∃l,(b 1=bA 11 [si c.Op,si c.Fq,B0 c.dq,B0 c.e6,vS 4 BT c.d6,si c.du.Op,si c.du.N,B0 c.du.dq,vS 4 BT c.du.L,vS 11 BM c.dz,vS 11 BM c.ea]/\b 95=sb l)/\J5 e c l=some a;have c4:=iR 4 λb=>∃j,(b 1=bA 11 [si c.Op,si c.Fq,B0 c.dq,B0 c.e6,vS 4 BT c.d6,si c.du.Op,si c.du.N,B0 c.du.dq,vS 4 BT c.du.L,vS 11 BM c.dz,vS 11 BM c.ea]/\b 66=sb j)/\J4 e c j=some a;have c3:=iR 3 λb=>∃i,(b 1=bA 11 [si c.Op,si c.Fq,B0 c.dq,B0 c.e6,vS 4 BT c.d6,si c.du.Op,si c.du.N,B0 c.du.dq,vS 4 BT c.du.L,vS 11 BM c.dz,vS 11 BM c.ea]/\b 47=sb i)/\J3 e c i=some a;have c2:=iR 2 λb=>∃r,(b 1=bA 11 [si c.Op,si c.Fq,B0 c.dq,B0 c.e6,vS 4 BT c.d6,si c.du.Op,si c.du.N,B0 c.du.dq,vS 4 BT c.du.L,vS 11 BM c.dz,vS 11 BM c.ea]/\b 3=sb r)/\J2 e c r=some a;have c1:=iR 1 λb=>∃R100,(b 1=bA 11 [si c.Op,si c.Fq,B0 c.dq,B0 c.e6,vS 4 BT c.d6,si c.du.Op,si c.du.N,B0 c.du.dq,vS 4 BT c.du.L,vS 11 BM c.dz,vS 11 BM c.ea]/\b 13=sb R100)/\J1 e c R100=some a;unfold Bt at h;exact walk
end
def Ic:Nat->((List AX)->ABm Bool)×(AX->ABm Bool)
|0=>((λ_=>none),(λ_=>none))
|n+1=>(Df ((Ic n).2),Bt ((Ic n).1))
def IA(n:Nat):(List AX)->ABm Bool:=(Ic n).1
def MZ(n:Nat):AX->ABm Bool:=(Ic n).2
theorem QL(n:Nat):(∀{x0 r},(IA n) x0=some r->Says prog 245 [vS 11 BM x0] (sb r))/\(∀{x0 r},(MZ n) x0=some r->Says prog 268 [.agg [si x0.Op,si x0.Fq,B0 x0.dq,B0 x0.e6,vS 4 BT x0.d6,si x0.du.Op,si x0.du.N,B0 x0.du.dq,vS 4 BT x0.du.L,vS 11 BM x0.dz,vS 11 BM x0.ea]] (sb r)):=by induction n with|zero=>exact⟨λh=>Cy h,λh=>Cy h⟩|succ n ih=>exact⟨λh=>Q5 ih.2 h,λh=>SY ih.1 h⟩
def QM{n:Nat}:∀{x0 r},(IA n) x0=some r->Says prog 245 [vS 11 BM x0] (sb r):=(QL n).1
namespace FV
def J3(j:AP)(p:Int):ABm (AP×Int×Bool):=some (j,p,true)
def J2(c d b:Int)(a:AP)(f:Int)(e:AG)(o:Bool):=if o then(gt a.AK d).bind λau=>J3 (AP.mk (a.AK.set d.toNat (AQ.mk (-1) au.Ae)) a.Tx a.Bs a.AB) 0
else
if c==8 then(gt a.AK d).bind λt=>if Aq (t.Ae.length+1) 8=true then(Nj (t.Ae++[b])).bind λaj=>(slices_Compact aj).bind λal=>J3 (AP.mk (a.AK.set d.toNat (AQ.mk t.Bw al)) a.Tx a.Bs a.AB) 0
else none
else
if c==9 then(gt a.AK d).bind λac=>(JH ac.Ae b).bind λao=>J3 (AP.mk (a.AK.set d.toNat (AQ.mk ac.Bw ao)) a.Tx a.Bs a.AB) 0
else
if c==12 then
J3 (AP.mk a.AK b a.Bs a.AB) 0
else
if c==13 then
J3 (AP.mk a.AK (-1) a.Bs a.AB) 0
else
if c==14 then(gt a.AB b).bind λad=>J3 (AP.mk a.AK a.Tx a.Bs (a.AB.set b.toNat (AL.mk ad.dh ad.DS true))) 0
else
if c==15 then(gt a.AB b).bind λae=>J3 (AP.mk a.AK a.Tx a.Bs (a.AB.set b.toNat (AL.mk ae.dh ae.DS false))) 0
else
if c==16 then(gt e.Aj d).bind λaf=>(gt a.AK af.dn).bind λav=>(gt a.AB b).bind λq=>(gt (a.AB.set b.toNat (AL.mk 3 q.DS q.dy)) b).bind λy=>J3 (AP.mk (a.AK.set af.dn.toNat (AQ.mk (-1) av.Ae)) a.Tx a.Bs ((a.AB.set b.toNat (AL.mk 3 q.DS q.dy)).set b.toNat (AL.mk y.dh d y.dy))) 0
else
if c==17 then(gt e.Aj d).bind λz=>(gt a.AK z.dn).bind λap=>(gt a.AB b).bind λs=>(gt (a.AB.set b.toNat (AL.mk 2 s.DS s.dy)) b).bind λaa=>J3 (AP.mk (a.AK.set z.dn.toNat (AQ.mk b ap.Ae)) a.Tx a.Bs ((a.AB.set b.toNat (AL.mk 2 s.DS s.dy)).set b.toNat (AL.mk aa.dh 0 aa.dy))) 0
else
if c==18 then(DJ a.Tx a.AB d f).bind λu=>J3 (AP.mk a.AK a.Tx a.Bs u.2) u.1
else
if c==19 then(DC a.Tx a.AB d).bind λv=>J3 (AP.mk a.AK a.Tx a.Bs v.2) v.1
else
if c==20 then(gt a.AB d).bind λab=>J3 (AP.mk a.AK a.Tx a.Bs (a.AB.set d.toNat (AL.mk 1 ab.DS ab.dy))) 0
else
if c==22 then(gt a.Bs d).bind λaw=>J3 (AP.mk a.AK a.Tx (a.Bs.set d.toNat true) a.AB) 0
else
J3 a 0
def J1(c d b:Int)(a:AP)(f:Int)(e:AG)(l:Bool):=if l then(gt a.AK d).bind λaq=>J3 (AP.mk (a.AK.set d.toNat (AQ.mk b aq.Ae)) a.Tx a.Bs a.AB) 0
else
if c==7 then
J2 c d b a f e (c==7)
else
J2 c d b a f e (c==11)
end FV
section
open FV
def FV(e:AG)(i:AP)(b c d f:Int):=(D1 e i b c d).bind λai=>if !ai then
some ((AP.mk [] 0 [] []),0,false)
else(EY i).bind λa=>if c==1 then(gt a.AB b).bind λw=>J3 (AP.mk a.AK a.Tx a.Bs (a.AB.set b.toNat (AL.mk 2 w.DS w.dy))) 0
else
if c==2 then(gt a.AB b).bind λx=>J3 (AP.mk a.AK a.Tx a.Bs (a.AB.set b.toNat (AL.mk 5 x.DS x.dy))) 0
else
if c==6 then
J1 c d b a f e (c==6)
else
J1 c d b a f e (c==10)
theorem Xk{e:AG}{i:AP}{b c d f:Int}{r:lu}(h:FV e i b c d f=some r):Says prog 150 [.agg (A0 e),.agg (HI i),si b,si c,si d,si f] (.Bp [.agg (I9 r.1),si r.2.1,sb r.2.2]):=by refine kO mix func150 (hn [(6,[119,142]),(7,[18,25,30,31,33,34,37,38,40,41,45,46,49,50,54,55,57,58,61,62,64,65,66,72,73,77,78,81,82,84,85,87,88,89,92,93,97,100,103,104,106,107,110,111,113,114,117,118,125,126,127,128,130,131,134,135,136,137,140,141,149,150,151,152,154,155,157,158,159,160,163,169,174,175,177,178,181,182,184,185]),(8,[90]),(16,[70,75])] [(6,3),(10,1),(12,2)] (E:=[(21,(.drw (Jc [2,3,4,5,6,7,8,9] (.fork 0 10 (Jc [0] (.fork 1 10 (Jc [1,10,11,12,13] .leaf) (Jc [10,1,11,12,13] .leaf))) (Jc [10,0,1,11,12,13] .leaf))) [KK 81 7 0 7,Un 82 7 81,iC 83 4,KK 84 7 0 7,Un 85 7 84,iC 86 4,qK 87 7 2 85 86,KK 88 7 1 87,Un 89 7 88,i1 90 8 (.mkf 195 [.t 8]),i0 91 (.call 194 [.t 89,.t 90] 4),qK 92 7 2 82 83,KK 93 7 1 92,iS 1 93 91])),(32,(Rc 127 [.F 3 7,.y 7 (.Zd (.t 127)),.L 8,.F 3 7,.y 7 (.Zd (.t 130)),.L 8,.C 4,.J 7 3 128 129,.H 7 0 134,.x ⟨none,.YV (.t 135) (.c (si 3)),none⟩,.J 7 3 131 132,.H 7 1 136,.x ⟨none,.YV (.t 137) (.t 133),none⟩])),(35,(Rc 151 [.F 3 7,.y 7 (.Zd (.t 151)),.L 8,.F 3 7,.y 7 (.Zd (.t 154)),.L 8,.J 7 3 152 153,.H 7 0 157,.x ⟨none,.YV (.t 158) (.c (si 2)),none⟩,.J 7 3 155 156,.H 7 1 159,.x ⟨none,.YV (.t 160) (.c (si 0)),none⟩]))])) ?_;have a1:=@Nd;have a2:=@Xl;have a3:=@aV;have a4:=@Vm;have a5:=@Om;have a6:=@Wa;have a7:=@SW;have c3:=iR 3 λa=>∃j p,(a 7=bA 4 (I9 j)/\a 12=bA 4 z6/\a 15=si p)/\J3 j p=some r;have c2:=iR 2 λg=>∃a o,(g 4=si d/\g 5=si f/\g 6=bA 6 (A0 e)/\g 7=bA 4 (I9 a)/\g 8=bA 1 [si b]/\g 12=bA 4 z6/\g 15=si 0/\g 27=si c/\g 51=sb o)/\J2 c d b a f e o=some r;have c1:=iR 1 λg=>∃a l,(g 4=si d/\g 5=si f/\g 6=bA 6 (A0 e)/\g 7=bA 4 (I9 a)/\g 8=bA 1 [si b]/\g 12=bA 4 z6/\g 15=si 0/\g 27=si c/\g 42=sb l)/\J1 c d b a f e l=some r;unfold FV at h;exact walk
end
namespace CC
def P9(a:AH)(e:AD):ABm (AD×Bool):=(gt e.df a.cT).bind λae=>some ((AD.mk e.dc e.dg e.AM (e.df.set a.cT.toNat (A9 (ae+1)))),true)
def OE(a:AH)(d:AD):=if a.da==22 then(gt d.AM a.di).bind λai=>P9 a (AD.mk d.dc d.dg (d.AM.set a.di.toNat a.dm) d.df)
else
P9 a d
def J9(a:AH)(b:AD)(c:AG)(ab:Int):=(Dm c b.dc a.cT a.da a.di ab).bind λp=>if a.da==4 then(gt b.dg a.di).bind λaf=>OE a (AD.mk p.1 (b.dg.set a.di.toNat a.dm) b.AM b.df)
else
OE a (AD.mk p.1 b.dg b.AM b.df)
def J8(a:AH)(b:AD)(c:AG)(l:Bool):=if l then
some ((AD.mk (AP.mk [] 0 [] []) [] [] []),false)
else
if Aq (b.dg.length) 8=true then
if Aq (b.AM.length) 8=true then
if Aq (b.df.length) 8=true then
if a.da==18 then
J9 a b c a.dm
else
J9 a b c (-1)
else none
else none
else none
def J7(a:AH)(b:AD)(c:AG)(j:Bool):=if j then
some ((AD.mk (AP.mk [] 0 [] []) [] [] []),false)
else(gt b.df a.cT).bind λq=>(D5 a.D4 q).bind λy=>if !y then
J8 a b c true
else(D5 a.DL q).bind λz=>if !z then
J8 a b c true
else(Gb b a).bind λaa=>J8 a b c (!aa)
def J6(a:AH)(b:AD)(c:AG)(i:Bool):=if i then
some ((AD.mk (AP.mk [] 0 [] []) [] [] []),false)
else
if decide ((a.DL.length:Int)>0)then
if a.da != 4 then
J7 a b c (a.da != 22)
else
J7 a b c false
else
J7 a b c false
def J5(a:AH)(b:AD)(c:AG)(f:Bool):=if decide ((a.D4.length:Int)>0)then
if a.da != 5 then
if f then(gt c.dg a.di).bind λad=>J6 a b c (!(ad.Ca != 0))
else
J6 a b c true
else
J6 a b c false
else
J6 a b c false
def J4(a:AH)(b:AD)(c:AG):=if a.da==3 then
J5 a b c true
else
J5 a b c (a.da==4)
def J3(a:AH)(b:AD)(c:AG)(t:Bool):=if t then
some ((AD.mk (AP.mk [] 0 [] []) [] [] []),false)
else
J4 a b c
def J2(a:AH)(b:AD)(c:AG)(s:Bool):=if s then
if a.d8 != (-1)then
some ((AD.mk (AP.mk [] 0 [] []) [] [] []),false)
else
J4 a b c
else(Lh a.d8 (c.Bu.length:Int)).bind λx=>if !x then
J3 a b c true
else(gt c.Bu a.d8).bind λac=>J3 a b c (ac.cT != a.cT)
def J1(a:AH)(b:AD)(c:AG)(o:Bool):=if o then
some ((AD.mk (AP.mk [] 0 [] []) [] [] []),false)
else
if a.da==1 then
J2 a b c true
else
J2 a b c (a.da==2)
end CC
section
open CC
def CC(c:AG)(b:AD)(a:AH):=(Ht c b).bind λu=>if !u then
J1 a b c true
else(Lh a.cT (c.AB.length:Int)).bind λv=>if !v then
J1 a b c true
else
if decide (a.da<1)then
J1 a b c true
else
if decide (a.da>23)then
J1 a b c true
else(Cs c b.dc a.cT a.da a.di).bind λw=>J1 a b c (!w)
theorem LP{c:AG}{b:AD}{a:AH}{r:mc}(h:CC c b a=some r):Says prog 55 [.agg (A0 c),.agg (Bc b),.agg (Am a)] (.Bp [.agg (Ia r.1),sb r.2]):=by refine kO mix func55 (hn [(3,[18,62,68,100]),(4,[36,129,140,157,161,165,176]),(5,[16,25,30,38,40,42,48,52,56,60,70,75,80,84,88,93,102,112,117,122,127,131,138,142,169,172,178,180,182,190,195,197,200,205,207,212]),(9,[189,193,194,199,203,204,209,210,211,214,217,218]),(185,[174,186,187,188])] [(2,1),(4,4),(10,5),(12,6),(15,7),(18,8)]) ?_;have a1:=@RC;have a2:=@Wl;have a3:=@Z8;have a4:=@oK;have a5:=@Sz;have a6:=@Of;have c8:=iR 8 λd=>∃l,(d 3=bA 6 (A0 c)/\d 4=bA 7 (Bc b)/\d 5=bA 7 (Am a)/\d 6=bA 7 z0/\d 154=sb l)/\J8 a b c l=some r;have c7:=iR 7 λd=>∃j,(d 3=bA 6 (A0 c)/\d 4=bA 7 (Bc b)/\d 5=bA 7 (Am a)/\d 6=bA 7 z0/\d 125=sb j)/\J7 a b c j=some r;have c6:=iR 6 λd=>∃i,(d 3=bA 6 (A0 c)/\d 4=bA 7 (Bc b)/\d 5=bA 7 (Am a)/\d 6=bA 7 z0/\d 110=sb i)/\J6 a b c i=some r;have c5:=iR 5 λd=>∃f,(d 3=bA 6 (A0 c)/\d 4=bA 7 (Bc b)/\d 5=bA 7 (Am a)/\d 6=bA 7 z0/\d 8=sb f)/\J5 a b c f=some r;have c4:=iR 4 λd=>(d 3=bA 6 (A0 c)/\d 4=bA 7 (Bc b)/\d 5=bA 7 (Am a)/\d 6=bA 7 z0)/\J4 a b c=some r;have c1:=iR 1 λd=>∃o,(d 3=bA 6 (A0 c)/\d 4=bA 7 (Bc b)/\d 5=bA 7 (Am a)/\d 6=bA 7 z0/\d 46=sb o)/\J1 a b c o=some r;unfold CC at h;exact walk
end
namespace C1
def J2:=some true
def L1(a:B5)(L1:i6)(b:Int):=if decide (b<(a.AB.length:Int))then(gt a.AB b).bind λf=>(Ap a.db b f).bind λe=>if !e then
some false
else
L1 (A9 (b+1))
else
J2
def AU(a:B5):Nat->Int->ABm Bool
|0,_=>none
|n+1,b=>L1 a (AU a n) b
def J1(a:B5)(c:Bool):=if c then
some false
else
AU a BQ 0
end C1
section
open C1
def C1(a:B5):=(A6 a.db).bind λd=>if !d then
J1 a true
else
J1 a ((a.AB.length:Int) != (a.db.AB.length:Int))
theorem NC{a:B5}{r:Bool}(h:C1 a=some r):Says prog 136 [.agg (KI a)] (sb r):=by refine kO mix func136 (hn [(1,[4,9,12,13,19,25,28])]) ?_;have a1:=@Q9;have a2:=@Je;have l1:=iJ λn c=>∃b,(c 1=bA 7 (KI a)/\c 3=si b)/\AU a n b=some r;unfold C1 at h;exact walk
end
namespace GN
def J1(a:BU)(b:Aa)(c:Int)(e:Bool):ABm Int:=if e then
some 2
else(Kh BQ b c a).bind λi=>some i
end GN
section
open GN
def GN(b:Aa)(c:Int)(a:BU):=(D3 BQ a).bind λf=>if !f then
some 3
else(Lq BQ a).bind λd=>if decide (d.1>24)then
J1 a b c true
else
J1 a b c (decide (d.2>6))
theorem dF{b:Aa}{c:Int}{a:BU}{r:Int}(h:GN b c a=some r):Says prog 272 [.agg (Cf b),si c,.agg [si a.Op,si a.N,B0 a.dq,vS 4 BT a.L]] (si r):=by refine kO mix func272 hn ?_;have a1:=@Lg;have a2:=@Xu;have a3:=@Xw;unfold GN at h;exact walk
end
end Go.Abs
