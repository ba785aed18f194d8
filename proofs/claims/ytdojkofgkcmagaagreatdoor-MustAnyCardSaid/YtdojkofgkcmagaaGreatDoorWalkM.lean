/- Go functions do what typed programs say. -/
import Derived.Test.YtdojkofgkcmagaaGreatDoorWalkL
import Derived.Shelf.Slices.SearchI
set_option linter.all false
namespace Go.Abs
open Go.Proofs Tryz
set_option maxRecDepth 1000000
set_option maxHeartbeats 4000000
def f49c:IC:=(Ra 0 [.b 1 [13,15,16,20,28,52,53] (.bx 15 (.t 0)),.B 2 false]
(Ra 13 [.F 7 1,.A 7 13,.w 3,.o (.bx 7 (.c (.agg z0))),.S 7 3 14]
(Ra 15 [.F 0 1,.h 1 4 15,.Z 17,.o (.mk 1 24 z15 (.t 18) (.t 18)),.b 4 [64,67,68,72,75,76,78,88,91,92,103] (.mv (.t 19))]
(Sq (Ra 20 [.f 14 1,.Z 21,.Y 0]
(Bl 0 (Ra 24 [.O .lss 23 22]
(Sq (cX 24 0)
(Sq (Bk 1 (Ra 25 [.I 7 21 23,.A 7 25,.b 6 [37,39,55,65,73,86,89,93,97] (.bx 7 (.c (.agg z3))),.S 7 6 26]
(Ra 28 [.F 0 1,.A 6 28,.A 7 3,.A 7 6,.c 96 [29,30,31] 1,.w 27,.C 32,.w 33,.o (.ext (.t 27) 0),.o (.ext (.t 27) 1),.w 7,.o (.bx 7 (.c (.agg z0))),.S 7 7 33,.M 8 34]
(Sq (Ra 35 [.C 8,.N 35]
(Ci 36 (Rb 0 [.B 2 false])))
(Sq (Ra 37 [.f 5 6,.f 6 6,.o (.UG z18 [(0,1,.t 38),(1,1,.t 40)]),.Y 0]
(Bl 2 (Ra 43 [.P .lss 42 2]
(Sq (cX 43 2)
(Sq (Bk 3 (O9 1 (Rc 44 [.o (.idx false 2 1 (.t 41) (.t 42)),.M 10 44])
(Ra 45 [.C 10,.Z 45,.Y 0]
(Bl 4 (Ra 48 [.O .lss 47 46]
(Sq (cX 48 4)
(Sq (Bk 5 (Ra 49 [.I 1 45 47,.L 49,.M 12 50]
(Ra 51 [.C 12,.F 7 1,.h 1 6 52,.f 0 6,.I 1 54 56,.L 57,.O .sub 51 58,.M 12 59]
(Ra 60 [.C 12,.P .geq 60 0,.C 61,.G 62 true,.C 12,.y 4 (.cp (.t 4)),.f 0 6,.y 4 (.WL 1 (.t 64) (.t 66)),.l 4 67,.Z 68,.O .geq 63 69,.C 70,.G 71 false,.y 4 (.cp (.t 4)),.f 0 6,.y 4 (.WL 1 (.t 72) (.t 74)),.l 4 75,.C 12,.y 4 (.WL 1 (.t 76) (.t 77)),.L 78,.N 79,.G 62 true,.o (.pick (.t 71) (.c (sb true)) (.t 80)),.e,.W 62 81]
(Ci 82 (Rb 0 [.B 2 false]))))))
(Rc 83 [.P .add 47 1,.w 47,.C 83]))))))))
(Rc 84 [.P .add 42 1,.w 42,.C 84]))))))
(Sq (.iH [(4,0,18,85)] [i0 85 .fl,KK 86 6 0 6,iL 87 86,i1 88 4 (.cp (.t 4)),KK 89 6 0 6,iL 90 89,qK 91 4 1 88 90,Un 92 4 91,KK 93 6 1 6,iL 94 93,iQ 95 94 3,iC 96 95,jFr 97 6 1 6 96 false,jL 98 97 96 false,jP 99 .eql 98 23 96 false,iOr 100 96 99,i0 101 (.Ot 1 [[sb false]] [(0,.t 100)]),i0 102 (.app 1 1 (.t 92) (.t 101)),qK 103 4 1 4 87,iS 1 103 102])
(Rc 104 [.A 7 7,.S 7 3 104])))))))
(Rc 105 [.P .add 23 1,.w 23,.C 105]))))))
(Rb 0 [.B 2 true])))))
def f49g:Gi:=⟨[(13,[1]),(15,[1]),(16,[1]),(20,[1]),(28,[1]),(37,[6]),(39,[6]),(52,[1]),(53,[1]),(55,[6]),(64,[4]),(65,[6]),(67,[4]),(68,[4]),(72,[4]),(73,[6]),(75,[4]),(76,[4]),(78,[4]),(86,[6]),(88,[4]),(89,[6]),(91,[4]),(92,[4]),(93,[6]),(97,[6]),(103,[4])]⟩
def f49r:List RV:=[.tmp 2]
namespace A7
def J7:=some true
def J6(L1:ki)(d:Int)(v:AD)(u:jb):=L1 v u (A9 (d+1))
def J5(L1:ki)(d:Int)(f:mc)(t:jb):=J6 L1 d f.1 t
def J4(L1:ki)(c:jb)(d:Int)(f:mc)(b:AH):=(gt c b.cT).bind λo=>if b.da==3 then
if Aq (o.length+1) 1=true then
J5 L1 d f (c.set b.cT.toNat (o++[true]))
else none
else
if Aq (o.length+1) 1=true then
J5 L1 d f (c.set b.cT.toNat (o++[b.da==23]))
else none
def J3(L2:i6)(e:Int):=L2 (A9 (e+1))
def J2(L3:i6)(l:Int)(w:Bool):=if w then
some false
else
L3 (A9 (l+1))
def L3(L2:i6)(i:iT)(c:jb)(e:Int)(a:AF)(b:AH)(L3:i6)(l:Int):=if decide (l<(i.length:Int))then(gt i l).bind λp=>(gt a.de.df b.cT).bind λq=>if decide ((A9 (p-q))>=0)then(gt c b.cT).bind λs=>if decide ((A9 (p-q))>=(s.length:Int))then
J2 L3 l true
else(gt s (A9 (p-q))).bind λx=>J2 L3 l (!x)
else
J2 L3 l false
else
J3 L2 e
def Fw(L2:i6)(i:iT)(c:jb)(e:Int)(a:AF)(b:AH):Nat->Int->ABm Bool
|0,_=>none
|n+1,l=>L3 L2 i c e a b (Fw L2 i c e a b n) l
def J1(L2:i6)(c:jb)(e:Int)(a:AF)(b:AH)(i:iT):=Fw L2 i c e a b BQ 0
def L2(L1:ki)(c:jb)(d:Int)(f:mc)(a:AF)(b:AH)(L2:i6)(e:Int):=if decide (e<2)then
if e==0 then
J1 L2 c e a b b.D4
else
if e==1 then
J1 L2 c e a b b.DL
else
none
else
J4 L1 c d f b
def B9(L1:ki)(c:jb)(d:Int)(f:mc)(a:AF)(b:AH):Nat->Int->ABm Bool
|0,_=>none
|n+1,e=>L2 L1 c d f a b (B9 L1 c d f a b n) e
def L1(a:AF)(L1:ki)(j:AD)(c:jb)(d:Int):=if decide (d<(a.AA.length:Int))then(gt a.AA d).bind λb=>(CF a.db j b).bind λf=>if !f.2 then
some false
else
B9 L1 c d f a b BQ 0
else
J7
def AU(a:AF):Nat->AD->(List (List Bool))->Int->ABm Bool
|0,_,_,_=>none
|n+1,j,c,d=>L1 a (AU a n) j c d
end A7
section
open A7
def A7(a:AF):=if 0<=(a.db.AB.length:Int)/\(a.db.AB.length:Int)<=(a.db.AB.length:Int)/\Aq a.db.AB.length 24=true then
AU a BQ a.de (List.replicate a.db.AB.length ([]:List Bool)) 0
else none
def UA{a:AF}{r:Bool}(h:A7 a=some r):Says prog 49 [.agg (A5 a)] (sb r):=by refine wO mix func49 (I:=⟨f49c,f49g,f49r⟩) ?_;simp only[f49c,f49g,f49r];have a1:=@T8;have l1:=iJ λn b=>∃j c d,(b 1=bA 15 (A5 a)/\b 3=bA 7 (Bc j)/\b 4=vO 1 KR c/\b 21=vS 7 Am a.AA/\b 22=si (a.AA.length:Int)/\b 23=si d)/\AU a n j c d=some r;have l2:=iy λg _ _ _ n h=>∃(c:jb)(d:Int)(f:mc)(b:AH)(e:Int)(j:AD),(h 1=bA 15 (A5 a)/\h 3=bA 7 (Bc j)/\h 4=vO 1 KR c/\h 6=bA 7 (Am b)/\h 7=bA 7 (Bc f.1)/\h 21=vS 7 Am a.AA/\h 22=si (a.AA.length:Int)/\h 23=si d/\h 41=.agg [vS 1 eI b.D4,vS 1 eI b.DL]/\h 42=si e)/\B9 (AU a g) c d f a b n e=some r;have l3:=iy λg h _ _ n k=>∃(c:jb)(d:Int)(f:mc)(b:AH)(i:iT)(e l:Int)(j:AD),(k 1=bA 15 (A5 a)/\k 3=bA 7 (Bc j)/\k 4=vO 1 KR c/\k 6=bA 7 (Am b)/\k 7=bA 7 (Bc f.1)/\k 21=vS 7 Am a.AA/\k 22=si (a.AA.length:Int)/\k 23=si d/\k 41=.agg [vS 1 eI b.D4,vS 1 eI b.DL]/\k 42=si e/\k 45=vS 1 eI i/\k 46=si (i.length:Int)/\k 47=si l)/\Fw (B9 (AU a g) c d f a b h) i c e a b n l=some r;have c1:=iz 1 λg h _ _ k=>∃(c:jb)(d:Int)(f:mc)(b:AH)(e:Int)(i:iT)(j:AD),(k 1=bA 15 (A5 a)/\k 3=bA 7 (Bc j)/\k 4=vO 1 KR c/\k 6=bA 7 (Am b)/\k 7=bA 7 (Bc f.1)/\k 10=vS 1 eI i/\k 21=vS 7 Am a.AA/\k 22=si (a.AA.length:Int)/\k 23=si d/\k 41=.agg [vS 1 eI b.D4,vS 1 eI b.DL]/\k 42=si e)/\J1 (B9 (AU a g) c d f a b h) c e a b i=some r;unfold A7 at h;exact walk
end
def f219c:IC:=(Ra 0 [.K 4 0,.K 5 0]
(Sq (Ra 0 [.K 6 0]
(Bl 0 (Sq (Ra 10 [.C 6,.C 1,.Z 11,.O .lss 10 12]
(cX 13 0))
(Sq (Bk 1 (Ra 16 [.C 1,.C 6,.I 11 16 17,.A 11 18,.b 7 [33,48,57] (.bx 11 (.c (.agg z5))),.S 11 7 19]
(Ra 20 [.y 0 (.cp (.t 0)),.A 11 7,.o (.YR 248 [] (.t 20) none [.t 21]),.M 8 22]
(O9 1 (Ra 23 [.r 0 3,.Z 26,.P .add 27 1,.P .gtr 28 6]
(Ci 29 (Rc 0 [.K 8 2])))
(Sq (Ra 30 [.C 8,.P .neq 30 0]
(Ci 31 (Rb 32 [.C 8,.f 1 7,.M 4 32,.M 5 34])))
(Sq (.apd ⟨42,43,45,7,8,9,11,12⟩ [i1 35 0 (.cp (.t 0)),i1 36 0 (.I6 (.t 35)),KK 37 0 3 36,Un 38 0 37,iA 39 11 7,iZ 40 38,i0 41 (.Ot 11 [z5] [(0,.c (.agg z5))]),⟨some ⟨42,[43],[]⟩,.app 11 176 (.t 38) (.t 41),none⟩,qK 43 42 11 42 40,iS 11 43 39,i1 44 0 (.I6 (.t 35)),KK 45 0 3 44,⟨none,.std (.t 45),none⟩])
(Ra 47 [.y 0 (.cp (.t 0)),.f 9 7,.o (.YR 219 [] (.t 47) none [.t 49]),.w 46,.C 50,.w 51,.o (.ext (.t 46) 0),.o (.ext (.t 46) 1),.M 8 51,.M 9 52]
(Sq (Ra 53 [.C 8,.Q 53 0]
(Ci 54 (Rc 56 [.y 0 (.cp (.t 0)),.f 10 7,.o (.YR 219 [] (.t 56) none [.t 58]),.w 55,.C 59,.w 60,.o (.ext (.t 55) 0),.o (.ext (.t 55) 1),.M 8 60,.M 9 61])))
(Sq (.iH [(0,0,12,62)] [i0 62 .fl,i1 63 0 (.cp (.t 0)),i1 64 0 (.I6 (.t 63)),KK 65 0 3 64,Un 66 0 65,i1 67 0 (.cp (.t 0)),i1 68 0 (.I6 (.t 67)),KK 69 0 3 68,Un 70 0 69,iZ 71 70,iP 72 .sub 71 1,i0 73 (.slc 11 false (.t 66) none (some (.t 72)) none),i1 74 0 (.I6 (.t 0)),KK 75 0 3 74,iS 1 75 73])
(Ra 76 [.C 8,.P .neq 76 0]
(Ci 77 (Rb 78 [.C 8,.C 9,.M 4 78,.M 5 79]))))))))))))
(Rc 14 [.C 6,.P .add 14 1,.M 6 15])))))
(Rb 0 [.K 4 0,.K 5 0])))
def f219g:Gi:=⟨[(20,[0]),(23,[0]),(24,[0]),(25,[0]),(26,[0]),(33,[7]),(35,[0]),(36,[0]),(37,[0]),(38,[0]),(43,[42]),(44,[0]),(45,[0]),(47,[0]),(48,[7]),(56,[0]),(57,[7]),(63,[0]),(64,[0]),(65,[0]),(66,[0]),(67,[0]),(68,[0]),(69,[0]),(70,[0]),(74,[0]),(75,[0])]⟩
def f219r:List RV:=[.tmp 4,.tmp 5]
namespace C3
def J3(s:Bi):ABm (Int×Int×Bi):=some (0,0,s)
def J2(L1:mt)(c:Int)(d:Bi)(p q:Int):=if 0<=(A9 ((d.HQ.length:Int)-1))/\((A9 ((d.HQ.length:Int)-1)).toNat)<=d.HQ.length then
if p != 0 then
some (p,q,(Bi.mk d.p d.CA (d.HQ.take ((A9 ((d.HQ.length:Int)-1)).toNat)) d.NN d.bP))
else
L1 (Bi.mk d.p d.CA (d.HQ.take ((A9 ((d.HQ.length:Int)-1)).toNat)) d.NN d.bP) (A9 (c+1))
else none
def J1(L1:mt)(R100:kz)(c:Int)(b:Int×Bi)(a:AX)(i:Int):=if i != 0 then
some (i,a.Fq,b.2)
else
if Aq (b.2.HQ.length+1) 176=true then(gt (b.2.HQ++[(AX.mk 0 0 (⟨#[]⟩:ABn) (⟨#[]⟩:ABn) [] (BU.mk 0 0 (⟨#[]⟩:ABn) []) [] [])]) (b.2.HQ.length:Int)).bind λt=>(R100 (Bi.mk b.2.p b.2.CA ((b.2.HQ++[(AX.mk 0 0 (⟨#[]⟩:ABn) (⟨#[]⟩:ABn) [] (BU.mk 0 0 (⟨#[]⟩:ABn) []) [] [])]).set b.2.HQ.length a) b.2.NN b.2.bP) a.dz).bind λj=>if j.1==0 then(R100 j.2.2 a.ea).bind λo=>J2 L1 c o.2.2 o.1 o.2.1
else
J2 L1 c j.2.2 j.1 j.2.1
else none
def L1(R100:kz)(e:kh)(L1:mt)(f:Bi)(c:Int):=if decide (c<(e.length:Int))then(gt e c).bind λa=>(CJ f a).bind λb=>if decide ((A9 ((b.2.HQ.length:Int)+1))>6)then
J1 L1 R100 c b a 2
else
J1 L1 R100 c b a b.1
else
J3 f
def AU(R100:kz)(e:kh):Nat->Bi->Int->ABm (Int×Int×Bi)
|0,_,_=>none
|n+1,f,c=>L1 R100 e (AU R100 e n) f c
end C3
variable{d:kz}{b:Bi}{c:kh}{a:Int×Int×Bi}
section
open C3
def C3(R100:kz)(l:Bi)(e:kh):=AU R100 e BQ l 0
theorem VP(H100:∀{x0 x1 a},d x0 x1=some a->BF prog 219 [bA 6 (Hr x0),vS 11 BM x1] (.Bp [si a.1,si a.2.1]) [bA 6 (Hr a.2.2),.dead])(h:C3 d b c=some a):BF prog 219 [bA 6 (Hr b),vS 11 BM c] (.Bp [si a.1,si a.2.1]) [bA 6 (Hr a.2.2),.dead]:=by refine wL mix func219 (I:=⟨f219c,f219g,f219r⟩) ?_;simp only[f219c,f219g,f219r];have a1:=@VQ;have a2:=@H100;have l1:=iJ λn r=>∃f e,(r 0=bA 6 (Hr f)/\r 1=vS 11 BM c/\r 6=si e)/\AU d c n f e=some a;have c1:=iz 1 λR100 _ _ _ f=>∃(e:Int)(l:Int×Bi)(r:AX)(i:Int),(f 0=bA 6 (Hr l.2)/\f 1=vS 11 BM c/\f 6=si e/\f 7=bA 11 [si r.Op,si r.Fq,B0 r.dq,B0 r.e6,vS 4 BT r.d6,si r.du.Op,si r.du.N,B0 r.du.dq,vS 4 BT r.du.L,vS 11 BM r.dz,vS 11 BM r.ea]/\f 8=si i)/\J1 (AU d c R100) d e l r i=some a;unfold C3 at h;exact walk
end
def Pz:Nat->(Bi->(List AX)->ABm (Int×Int×Bi))
|0=>(λ_ _=>none)
|n+1=>C3 ((Pz n))
def Gq(n:Nat):Bi->(List AX)->ABm (Int×Int×Bi):=(Pz n)
theorem Tu(n:Nat):(∀{x0 x1 r},(Gq n) x0 x1=some r->BF prog 219 [bA 6 (Hr x0),vS 11 BM x1] (.Bp [si r.1,si r.2.1]) [bA 6 (Hr r.2.2),.dead]):=by induction n with|zero=>exactλh=>Cy h|succ n ih=>exactλh=>VP ih h
def Tv{n:Nat}:∀{x0 x1 r},(Gq n) x0 x1=some r->BF prog 219 [bA 6 (Hr x0),vS 11 BM x1] (.Bp [si r.1,si r.2.1]) [bA 6 (Hr r.2.2),.dead]:=(Tu n)
namespace E0
def J3:np:=some (0,0)
def J2(L1:lm)(b:Int)(e:mc)(j:jb):=L1 e.1 j (A9 (b+1))
def J1(L1:lm)(c:jb)(b:Int)(e:mc)(d:AH)(l:Bool):=if l then
some (b,12)
else(gt c d.cT).bind λi=>if d.da==3 then
if Aq (i.length+1) 1=true then
J2 L1 b e (c.set d.cT.toNat (i++[true]))
else none
else
if Aq (i.length+1) 1=true then
J2 L1 b e (c.set d.cT.toNat (i++[d.da==23]))
else none
def L1(a:Cu)(L1:lm)(f:AD)(c:jb)(b:Int):=if decide (b<(a.AA.length:Int))then(gt a.AA b).bind λd=>(CF a.db f d).bind λe=>if !e.2 then
J1 L1 c b e d true
else(gt c d.cT).bind λs=>(Bq s d).bind λq=>J1 L1 c b e d (!q)
else
J3
def AU(a:Cu):Nat->AD->(List (List Bool))->Int->ABm (Int×Int)
|0,_,_,_=>none
|n+1,f,c,b=>L1 a (AU a n) f c b
end E0
section
open E0
def E0(a:Cu):=if decide ((a.AA.length:Int)>400)then
some (0,2)
else(B6 a.db).bind λo=>if !o then
some (0,1)
else(Fm a.db).bind λp=>if 0<=(a.db.AB.length:Int)/\(a.db.AB.length:Int)<=(a.db.AB.length:Int)/\Aq a.db.AB.length 24=true then
AU a BQ p (List.replicate a.db.AB.length ([]:List Bool)) 0
else none
end
namespace Dv
def J5(t:AH):ABm (AH×Bool):=some (t,true)
def J4(d:AH)(c:AN)(a:An)(u:Bool):=if u then(gt c.Dq a.B).bind λs=>if Aq (d.DL.length+s.length) 8=true then
J5 (AH.mk d.cT d.da d.di d.dm d.d8 d.D4 (d.DL++s))
else none
else
J5 d
def J3(c:AN)(a:An)(d:AH):=if a.Op==8 then
J4 d c a true
else
if a.Op==9 then
J4 d c a true
else
J4 d c a (a.Op==26)
def J2(b i j:Int)(c:AN)(a:An)(v:Bool):=if v then(gt c.Dq a.C).bind λq=>if Aq (q.length) 8=true then
J3 c a (AH.mk b i j 0 a.d8 q [])
else none
else
J3 c a (AH.mk b i j 0 a.d8 [] [])
def J1(e:B5)(f:A3)(b:Int)(l:Bool):=if l then
some ((AH.mk 0 0 0 0 0 [] []),false)
else(gt f.AB b).bind λc=>(gt e.AB b).bind λx=>(gt x.Cq c.PC).bind λa=>(gt f.dc.AB b).bind λo=>if o.dh==1 then
some ((AH.mk b 1 (-1) 0 (-1) [] []),true)
else
if o.dh==4 then
some ((AH.mk b 17 o.DS 0 a.d8 [] []),true)
else
if o.dh==2 then(JE a.Op).bind λi=>(Gv a c).bind λj=>if i==0 then
some ((AH.mk 0 0 0 0 0 [] []),false)
else
if a.Op==10 then(gt c.Dq a.A).bind λp=>if Aq (p.length) 8=true then
J3 c a (AH.mk b i j 0 a.d8 p [])
else none
else
if a.Op==7 then
J2 b i j c a (a.Op==7)
else
J2 b i j c a (a.Op==9)
else
some ((AH.mk 0 0 0 0 0 [] []),false)
end Dv
section
open Dv
def Dv(e:B5)(f:A3)(b:Int):=(Gs e f).bind λw=>if !w then
J1 e f b true
else
if decide (b<0)then
J1 e f b true
else
J1 e f b (decide (b>=(e.AB.length:Int)))
theorem Wk{e:B5}{f:A3}{b:Int}{r:AH×Bool}(h:Dv e f b=some r):Says prog 212 [.agg (KI e),.agg (K6 f),si b] (.Bp [.agg (Ix r.1),sb r.2]):=by refine kO mix func212 (hn [(3,[21,32]),(4,[27,46,47,60,61]),(8,[38,90,103,126]),(9,[43,72,84,92,105,111,115,120,128]),(10,[67,68,69,78,79,80,88,89,97,101,102,110,124,125,133,134])] [(2,1),(20,3)] (E:=[(11,(Rc 60 [.F 0 4,.h 4 3 60,.C 2,.I 3 62 63,.U 1 64,.F 1 10,.x ⟨none,.YV (.t 67) (.c (si 17)),none⟩,.F 2 10,.x ⟨none,.YV (.t 68) (.t 66),none⟩])),(14,(Rc 72 [.f 0 9,.c 240 [73] 0,.A 6 9,.A 4 8,.c 241 [75,76] 0,.F 1 10,.x ⟨none,.YV (.t 78) (.t 74),none⟩,.F 2 10,.x ⟨none,.YV (.t 79) (.t 77),none⟩]))])) ?_;have a1:=@dM;have a2:=@X1;have a3:=@dJ;have c3:=iR 3 λb=>∃c a d,(b 6=bA 7 z3/\b 8=bA 4 (FN c)/\b 9=bA 6 (EX a)/\b 10=bA 7 (Ix d))/\J3 c a d=some r;have c1:=iR 1 λa=>∃l,(a 2=si b/\a 3=bA 7 (KI e)/\a 4=bA 7 (K6 f)/\a 6=bA 7 z3/\a 25=sb l)/\J1 e f b l=some r;unfold Dv at h;exact walk
end
namespace Es
def J2(b:Int)(c:AD×AZ)(e:AF):ABm AF:=(DG c.2 e.de e.db (if 16<(if 0>b then 0 else b)then 16 else(if 0>b then 0 else b)) true).bind λl=>(CD (AF.mk e.db e.eu e.de l.1)).bind λo=>if !o then(Gj).bind λp=>(Gj).bind λq=>(E5 q).bind λs=>some (AF.mk p 0 s [])
else
some (AF.mk e.db e.eu e.de l.1)
def L1(b:Int)(c:AD×AZ)(L1:AF->Int->ABm AF)(a:AF)(d:Int):=if decide (d<(c.1.df.length:Int))then(gt c.1.df d).bind λt=>L1 (AF.mk a.db (A9 (a.eu+t)) a.de a.AA) (A9 (d+1))
else
J2 b c a
def AU(b:Int)(c:AD×AZ):Nat->AF->Int->ABm AF
|0,_,_=>none
|n+1,a,d=>L1 b c (AU b c n) a d
def J1(b:Int)(i:iT):=(Gj).bind λj=>(BA (AZ.mk i 0) j).bind λc=>AU b c BQ (AF.mk j 0 c.1 []) 0
end Es
section
open Es
def Es(f:iT)(b:Int):=if decide ((f.length:Int)>400)then
if 400<=f.length then
J1 b (f.take 400)
else none
else
J1 b f
theorem YA{f:iT}{b:Int}{r:AF}(h:Es f b=some r):Says prog 40 [vS 1 lG f,si b] (.agg (A5 r)):=by refine kF mix func40 (hn [(5,[19,38]),(6,[20,21,23,24,25,26,30,32,36,39,40,41,42,47,48,55])] [(1,1)] [(84,1)]) ?_;have a1:=@RL;have a2:=@T2;have a3:=@dT;have a4:=@ND;have a5:=@JF;have l1:=iJ λn e=>∃(c:AD×AZ)(a:AF)(d:Int),(e 1=si b/\e 4=bA 15 z2/\e 5=bA 2 (Ft c.2)/\e 6=bA 15 [vS 5 G5 a.db.dg,vS 2 IE a.db.AK,vS 2 ID a.db.Aj,vS 1 eS a.db.AM,vS 1 eS a.db.AB,vS 3 GP a.db.Bu,si a.eu,vS 2 C5 a.de.dc.AK,si a.de.dc.Tx,vS 1 eB a.de.dc.Bs,vS 3 Ax a.de.dc.AB,vS 1 eI a.de.dg,vS 1 eI a.de.AM,vS 1 eI a.de.df,vO 7 Am a.AA]/\e 26=vS 1 eI c.1.df/\e 27=si (c.1.df.length:Int)/\e 28=si d)/\AU b c n a d=some r;have c1:=iR 1 λa=>∃i,(a 0=vS 1 lG i/\a 1=si b/\a 4=bA 15 z2)/\J1 b i=some r;unfold Es at h;exact walk
end
namespace Gh
def J2(e:List AF):ABm ((List AF)×Int):=some (e,0)
def L1(b:Int)(a:Cu)(L1:(List AF)->Int->ABm ((List AF)×Int))(d:List AF)(c:Int):=if decide (c<(a.AA.length:Int))then(He a c).bind λj=>if 0<=c/\0<=(if(a.AA.length:Int)<(A9 (c+b))then(a.AA.length:Int)else(A9 (c+b)))/\c.toNat<=((if(a.AA.length:Int)<(A9 (c+b))then(a.AA.length:Int)else(A9 (c+b))).toNat)/\((if(a.AA.length:Int)<(A9 (c+b))then(a.AA.length:Int)else(A9 (c+b))).toNat)<=a.AA.length then
if Aq (d.length+1) 328=true then
L1 (d++[(AF.mk a.db c j ((a.AA.drop c.toNat).take (((if(a.AA.length:Int)<(A9 (c+b))then(a.AA.length:Int)else(A9 (c+b))).toNat)-c.toNat)))]) (A9 (c+b))
else none
else none
else
J2 d
def AU(b:Int)(a:Cu):Nat->(List AF)->Int->ABm ((List AF)×Int)
|0,_,_=>none
|n+1,d,c=>L1 b a (AU b a n) d c
def J1(b:Int)(a:Cu)(f:Bool):=if f then
some ([],1)
else
AU b a BQ [] 0
end Gh
section
open Gh
def Gh(a:Cu)(b:Int):=(HE a).bind λi=>if i.2 != 0 then
some ([],12)
else
if decide (b<1)then
J1 b a true
else
J1 b a (decide (b>16))
theorem Z9{a:Cu}{b:Int}{r:(List AF)×Int}(h:Gh a b=some r):Says prog 42 [.agg (TO a),si b] (.Bp [vO 15 LW r.1,si r.2]):=by refine kO mix func42 (hn [(2,[24,32,38,44]),(8,[31,52])]) ?_;have a1:=@Z6;have a2:=@aB;have l1:=iJ λn e=>∃d c,(e 1=si b/\e 2=bA 7 (TO a)/\e 8=vO 15 LW d/\e 9=si c)/\AU b a n d c=some r;unfold Gh at h;exact walk
end
end Go.Abs
