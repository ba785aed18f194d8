/- Go functions do what typed programs say. -/
import Derived.Test.YtdojkofgkcmagaaGreatDoorWalkM
import Derived.Shelf.Slices.SearchI
set_option linter.all false
namespace Go.Abs
open Go.Proofs Tryz
set_option maxRecDepth 1000000
set_option maxHeartbeats 4000000
def f49c:IC:=(Ra 0 [.b 1 [13,15,16,20,28,52,53] (.bx 15 (.t 0)),.B 2 false]
(Ra 13 [.F 7 1,.A 7 13,.w 3,.o (.bx 7 (.c (.agg z0))),.S 7 3 14]
(Ra 15 [.F 0 1,.h 1 4 15,.Z 17,.o (.mk 1 24 z15 (.t 18) (.t 18)),.b 4 [64,67,68,72,75,76,78,88,91,92,103] (.mv (.t 19))]
(Sq (Ra 20 [.f 14 1,.Z 21,.Y 0]
(Bl 0 (Ra 24 [.O .lss 23 22]
(Sq (cX 24 0)
(Sq (Bk 1 (Ra 25 [.I 7 21 23,.A 7 25,.b 6 [37,39,55,65,73,86,89,93,97] (.bx 7 (.c (.agg z3))),.S 7 6 26]
(Ra 28 [.F 0 1,.A 6 28,.A 7 3,.A 7 6,.c 96 [29,30,31] 1,.w 27,.C 32,.w 33,.o (.ext (.t 27) 0),.o (.ext (.t 27) 1),.w 7,.o (.bx 7 (.c (.agg z0))),.S 7 7 33,.M 8 34]
(Sq (Ra 35 [.C 8,.N 35]
(Ci 36 (Rb 0 [.B 2 false])))
(Sq (Ra 37 [.f 5 6,.f 6 6,.o (.To z18 [(0,1,.t 38),(1,1,.t 40)]),.Y 0]
(Bl 2 (Ra 43 [.P .lss 42 2]
(Sq (cX 43 2)
(Sq (Bk 3 (Nh 1 (Rc 44 [.o (.idx false 2 1 (.t 41) (.t 42)),.M 10 44])
(Ra 45 [.C 10,.Z 45,.Y 0]
(Bl 4 (Ra 48 [.O .lss 47 46]
(Sq (cX 48 4)
(Sq (Bk 5 (Ra 49 [.I 1 45 47,.L 49,.M 12 50]
(Ra 51 [.C 12,.F 7 1,.h 1 6 52,.f 0 6,.I 1 54 56,.L 57,.O .sub 51 58,.M 12 59]
(Ra 60 [.C 12,.P .geq 60 0,.C 61,.G 62 true,.C 12,.y 4 (.cp (.t 4)),.f 0 6,.y 4 (.Wu 1 (.t 64) (.t 66)),.l 4 67,.Z 68,.O .geq 63 69,.C 70,.G 71 false,.y 4 (.cp (.t 4)),.f 0 6,.y 4 (.Wu 1 (.t 72) (.t 74)),.l 4 75,.C 12,.y 4 (.Wu 1 (.t 76) (.t 77)),.L 78,.N 79,.G 62 true,.o (.pick (.t 71) (.c (sb true)) (.t 80)),.e,.W 62 81]
(Ci 82 (Rb 0 [.B 2 false]))))))
(Rc 83 [.P .add 47 1,.w 47,.C 83]))))))))
(Rc 84 [.P .add 42 1,.w 42,.C 84]))))))
(Sq (.l7 [(4,0,18,85)] [i0 85 .fl,Ko 86 6 0 6,iL 87 86,i1 88 4 (.cp (.t 4)),Ko 89 6 0 6,iL 90 89,xN 91 4 1 88 90,We 92 4 91,Ko 93 6 1 6,iL 94 93,iQ 95 94 3,iC 96 95,jFr 97 6 1 6 96 false,jL 98 97 96 false,jP 99 .eql 98 23 96 false,iOr 100 96 99,i0 101 (.Ox 1 [[sb false]] [(0,.t 100)]),i0 102 (.app 1 1 (.t 92) (.t 101)),xN 103 4 1 4 87,iS 1 103 102])
(Rc 104 [.A 7 7,.S 7 3 104])))))))
(Rc 105 [.P .add 23 1,.w 23,.C 105]))))))
(Rb 0 [.B 2 true])))))
def f49g:Gi:=⟨[(13,[1]),(15,[1]),(16,[1]),(20,[1]),(28,[1]),(37,[6]),(39,[6]),(52,[1]),(53,[1]),(55,[6]),(64,[4]),(65,[6]),(67,[4]),(68,[4]),(72,[4]),(73,[6]),(75,[4]),(76,[4]),(78,[4]),(86,[6]),(88,[4]),(89,[6]),(91,[4]),(92,[4]),(93,[6]),(97,[6]),(103,[4])]⟩
def f49r:List RV:=[.tmp 2]
namespace BA
def J7:=some true
def J6(L1:kr)(d:Int)(v:AD)(u:jf):=L1 v u (A8 (d+1))
def J5(L1:kr)(d:Int)(f:mj)(t:jf):=J6 L1 d f.1 t
def J4(L1:kr)(c:jf)(d:Int)(f:mj)(b:AH):=(gt c b.db).bind λo=>if b.de==3 then
if Ap (o.length+1) 1=true then
J5 L1 d f (c.set b.db.toNat (o++[true]))
else none
else
if Ap (o.length+1) 1=true then
J5 L1 d f (c.set b.db.toNat (o++[b.de==23]))
else none
def J3(L2:ja)(e:Int):=L2 (A8 (e+1))
def J2(L3:ja)(l:Int)(w:Bool):=if w then
some false
else
L3 (A8 (l+1))
def L3(L2:ja)(i:i6)(c:jf)(e:Int)(a:AE)(b:AH)(L3:ja)(l:Int):=if decide (l<(i.length:Int))then(gt i l).bind λp=>(gt a.dg.dh b.db).bind λq=>if decide ((A8 (p-q))>=0)then(gt c b.db).bind λs=>if decide ((A8 (p-q))>=(s.length:Int))then
J2 L3 l true
else(gt s (A8 (p-q))).bind λx=>J2 L3 l (!x)
else
J2 L3 l false
else
J3 L2 e
def E3(L2:ja)(i:i6)(c:jf)(e:Int)(a:AE)(b:AH):Nat->Int->ABi Bool
|0,_=>none
|n+1,l=>L3 L2 i c e a b (E3 L2 i c e a b n) l
def J1(L2:ja)(c:jf)(e:Int)(a:AE)(b:AH)(i:i6):=E3 L2 i c e a b BQ 0
def L2(L1:kr)(c:jf)(d:Int)(f:mj)(a:AE)(b:AH)(L2:ja)(e:Int):=if decide (e<2)then
if e==0 then
J1 L2 c e a b b.Dy
else
if e==1 then
J1 L2 c e a b b.DS
else
none
else
J4 L1 c d f b
def Bs(L1:kr)(c:jf)(d:Int)(f:mj)(a:AE)(b:AH):Nat->Int->ABi Bool
|0,_=>none
|n+1,e=>L2 L1 c d f a b (Bs L1 c d f a b n) e
def L1(a:AE)(L1:kr)(j:AD)(c:jf)(d:Int):=if decide (d<(a.AB.length:Int))then(gt a.AB d).bind λb=>(CN a.dc j b).bind λf=>if !f.2 then
some false
else
Bs L1 c d f a b BQ 0
else
J7
def AR(a:AE):Nat->AD->(List (List Bool))->Int->ABi Bool
|0,_,_,_=>none
|n+1,j,c,d=>L1 a (AR a n) j c d
end BA
section
open BA
def BA(a:AE):=if 0<=(a.dc.AA.length:Int)/\(a.dc.AA.length:Int)<=(a.dc.AA.length:Int)/\Ap a.dc.AA.length 24=true then
AR a BQ a.dg (List.replicate a.dc.AA.length ([]:List Bool)) 0
else none
def Uc{a:AE}{r:Bool}(h:BA a=some r):Says prog 49 [.agg (Av a)] (sb r):=by refine wO mix func49 (I:=⟨f49c,f49g,f49r⟩) ?_;simp only[f49c,f49g,f49r];have a1:=@Ua;have l1:=i4 λn b=>∃j c d,(b 1=bA 15 (Av a)/\b 3=bA 7 (Bi j)/\b 4=vO 1 Kn c/\b 21=vS 7 Aw a.AB/\b 22=si (a.AB.length:Int)/\b 23=si d)/\AR a n j c d=some r;have l2:=iy λg _ _ _ n h=>∃(c:jf)(d:Int)(f:mj)(b:AH)(e:Int)(j:AD),(h 1=bA 15 (Av a)/\h 3=bA 7 (Bi j)/\h 4=vO 1 Kn c/\h 6=bA 7 (Aw b)/\h 7=bA 7 (Bi f.1)/\h 21=vS 7 Aw a.AB/\h 22=si (a.AB.length:Int)/\h 23=si d/\h 41=.agg [vS 1 eI b.Dy,vS 1 eI b.DS]/\h 42=si e)/\Bs (AR a g) c d f a b n e=some r;have l3:=iy λg h _ _ n k=>∃(c:jf)(d:Int)(f:mj)(b:AH)(i:i6)(e l:Int)(j:AD),(k 1=bA 15 (Av a)/\k 3=bA 7 (Bi j)/\k 4=vO 1 Kn c/\k 6=bA 7 (Aw b)/\k 7=bA 7 (Bi f.1)/\k 21=vS 7 Aw a.AB/\k 22=si (a.AB.length:Int)/\k 23=si d/\k 41=.agg [vS 1 eI b.Dy,vS 1 eI b.DS]/\k 42=si e/\k 45=vS 1 eI i/\k 46=si (i.length:Int)/\k 47=si l)/\E3 (Bs (AR a g) c d f a b h) i c e a b n l=some r;have c1:=iz 1 λg h _ _ k=>∃(c:jf)(d:Int)(f:mj)(b:AH)(e:Int)(i:i6)(j:AD),(k 1=bA 15 (Av a)/\k 3=bA 7 (Bi j)/\k 4=vO 1 Kn c/\k 6=bA 7 (Aw b)/\k 7=bA 7 (Bi f.1)/\k 10=vS 1 eI i/\k 21=vS 7 Aw a.AB/\k 22=si (a.AB.length:Int)/\k 23=si d/\k 41=.agg [vS 1 eI b.Dy,vS 1 eI b.DS]/\k 42=si e)/\J1 (Bs (AR a g) c d f a b h) c e a b i=some r;unfold BA at h;exact walk
end
def f219c:IC:=(Ra 0 [.K 4 0,.K 5 0]
(Sq (Ra 0 [.K 6 0]
(Bl 0 (Sq (Ra 10 [.C 6,.C 1,.Z 11,.O .lss 10 12]
(cX 13 0))
(Sq (Bk 1 (Ra 16 [.C 1,.C 6,.I 11 16 17,.A 11 18,.b 7 [33,48,57] (.bx 11 (.c (.agg z6))),.S 11 7 19]
(Ra 20 [.y 0 (.cp (.t 0)),.A 11 7,.o (.W0 248 [] (.t 20) none [.t 21]),.M 8 22]
(Nh 1 (Ra 23 [.r 0 3,.Z 26,.P .add 27 1,.P .gtr 28 6]
(Ci 29 (Rc 0 [.K 8 2])))
(Sq (Ra 30 [.C 8,.P .neq 30 0]
(Ci 31 (Rb 32 [.C 8,.f 1 7,.M 4 32,.M 5 34])))
(Sq (.apd ⟨42,43,45,7,8,9,11,12⟩ [i1 35 0 (.cp (.t 0)),i1 36 0 (.JQ (.t 35)),Ko 37 0 3 36,We 38 0 37,iA 39 11 7,iZ 40 38,i0 41 (.Ox 11 [z6] [(0,.c (.agg z6))]),⟨some ⟨42,[43],[]⟩,.app 11 176 (.t 38) (.t 41),none⟩,xN 43 42 11 42 40,iS 11 43 39,i1 44 0 (.JQ (.t 35)),Ko 45 0 3 44,⟨none,.std (.t 45),none⟩])
(Ra 47 [.y 0 (.cp (.t 0)),.f 9 7,.o (.W0 219 [] (.t 47) none [.t 49]),.w 46,.C 50,.w 51,.o (.ext (.t 46) 0),.o (.ext (.t 46) 1),.M 8 51,.M 9 52]
(Sq (Ra 53 [.C 8,.Q 53 0]
(Ci 54 (Rc 56 [.y 0 (.cp (.t 0)),.f 10 7,.o (.W0 219 [] (.t 56) none [.t 58]),.w 55,.C 59,.w 60,.o (.ext (.t 55) 0),.o (.ext (.t 55) 1),.M 8 60,.M 9 61])))
(Sq (.l7 [(0,0,12,62)] [i0 62 .fl,i1 63 0 (.cp (.t 0)),i1 64 0 (.JQ (.t 63)),Ko 65 0 3 64,We 66 0 65,i1 67 0 (.cp (.t 0)),i1 68 0 (.JQ (.t 67)),Ko 69 0 3 68,We 70 0 69,iZ 71 70,iP 72 .sub 71 1,i0 73 (.slc 11 false (.t 66) none (some (.t 72)) none),i1 74 0 (.JQ (.t 0)),Ko 75 0 3 74,iS 1 75 73])
(Ra 76 [.C 8,.P .neq 76 0]
(Ci 77 (Rb 78 [.C 8,.C 9,.M 4 78,.M 5 79]))))))))))))
(Rc 14 [.C 6,.P .add 14 1,.M 6 15])))))
(Rb 0 [.K 4 0,.K 5 0])))
def f219g:Gi:=⟨[(20,[0]),(23,[0]),(24,[0]),(25,[0]),(26,[0]),(33,[7]),(35,[0]),(36,[0]),(37,[0]),(38,[0]),(43,[42]),(44,[0]),(45,[0]),(47,[0]),(48,[7]),(56,[0]),(57,[7]),(63,[0]),(64,[0]),(65,[0]),(66,[0]),(67,[0]),(68,[0]),(69,[0]),(70,[0]),(74,[0]),(75,[0])]⟩
def f219r:List RV:=[.tmp 4,.tmp 5]
namespace Ca
def J3(s:Bj):ABi (Int×Int×Bj):=some (0,0,s)
def J2(L1:m9)(c:Int)(d:Bj)(p q:Int):=if 0<=(A8 ((d.HH.length:Int)-1))/\((A8 ((d.HH.length:Int)-1)).toNat)<=d.HH.length then
if p != 0 then
some (p,q,(Bj.mk d.p d.B7 (d.HH.take ((A8 ((d.HH.length:Int)-1)).toNat)) d.NW d.dD))
else
L1 (Bj.mk d.p d.B7 (d.HH.take ((A8 ((d.HH.length:Int)-1)).toNat)) d.NW d.dD) (A8 (c+1))
else none
def J1(L1:m9)(R100:lh)(c:Int)(b:Int×Bj)(a:AU)(i:Int):=if i != 0 then
some (i,a.Gd,b.2)
else
if Ap (b.2.HH.length+1) 176=true then(gt (b.2.HH++[(AU.mk 0 0 (⟨#[]⟩:ABj) (⟨#[]⟩:ABj) [] (Ba.mk 0 0 (⟨#[]⟩:ABj) []) [] [])]) (b.2.HH.length:Int)).bind λt=>(R100 (Bj.mk b.2.p b.2.B7 ((b.2.HH++[(AU.mk 0 0 (⟨#[]⟩:ABj) (⟨#[]⟩:ABj) [] (Ba.mk 0 0 (⟨#[]⟩:ABj) []) [] [])]).set b.2.HH.length a) b.2.NW b.2.dD) a.dz).bind λj=>if j.1==0 then(R100 j.2.2 a.ed).bind λo=>J2 L1 c o.2.2 o.1 o.2.1
else
J2 L1 c j.2.2 j.1 j.2.1
else none
def L1(R100:lh)(e:kf)(L1:m9)(f:Bj)(c:Int):=if decide (c<(e.length:Int))then(gt e c).bind λa=>(Bg f a).bind λb=>if decide ((A8 ((b.2.HH.length:Int)+1))>6)then
J1 L1 R100 c b a 2
else
J1 L1 R100 c b a b.1
else
J3 f
def AR(R100:lh)(e:kf):Nat->Bj->Int->ABi (Int×Int×Bj)
|0,_,_=>none
|n+1,f,c=>L1 R100 e (AR R100 e n) f c
end Ca
variable{d:lh}{b:Bj}{c:kf}{a:Int×Int×Bj}
section
open Ca
def Ca(R100:lh)(l:Bj)(e:kf):=AR R100 e BQ l 0
theorem Vq(H100:∀{x0 x1 a},d x0 x1=some a->BM prog 219 [bA 6 (IX x0),vS 11 BV x1] (.Bo [si a.1,si a.2.1]) [bA 6 (IX a.2.2),.dead])(h:Ca d b c=some a):BM prog 219 [bA 6 (IX b),vS 11 BV c] (.Bo [si a.1,si a.2.1]) [bA 6 (IX a.2.2),.dead]:=by refine wL mix func219 (I:=⟨f219c,f219g,f219r⟩) ?_;simp only[f219c,f219g,f219r];have a1:=@Vr;have a2:=@H100;have l1:=i4 λn r=>∃f e,(r 0=bA 6 (IX f)/\r 1=vS 11 BV c/\r 6=si e)/\AR d c n f e=some a;have c1:=iz 1 λR100 _ _ _ f=>∃(e:Int)(l:Int×Bj)(r:AU)(i:Int),(f 0=bA 6 (IX l.2)/\f 1=vS 11 BV c/\f 6=si e/\f 7=bA 11 [si r.Op,si r.Gd,B4 r.dv,B4 r.eT,vS 4 Bc r.d8,si r.dX.Op,si r.dX.N,B4 r.dX.dv,vS 4 Bc r.dX.L,vS 11 BV r.dz,vS 11 BV r.ed]/\f 8=si i)/\J1 (AR d c R100) d e l r i=some a;unfold Ca at h;exact walk
end
def QR:Nat->(Bj->(List AU)->ABi (Int×Int×Bj))
|0=>(λ_ _=>none)
|n+1=>Ca ((QR n))
def FP(n:Nat):Bj->(List AU)->ABi (Int×Int×Bj):=(QR n)
theorem UN(n:Nat):(∀{x0 x1 r},(FP n) x0 x1=some r->BM prog 219 [bA 6 (IX x0),vS 11 BV x1] (.Bo [si r.1,si r.2.1]) [bA 6 (IX r.2.2),.dead]):=by induction n with|zero=>exactλh=>DT h|succ n ih=>exactλh=>Vq ih h
def UO{n:Nat}:∀{x0 x1 r},(FP n) x0 x1=some r->BM prog 219 [bA 6 (IX x0),vS 11 BV x1] (.Bo [si r.1,si r.2.1]) [bA 6 (IX r.2.2),.dead]:=(UN n)
namespace D6
def J3:nw:=some (0,0)
def J2(L1:ly)(b:Int)(e:mj)(j:jf):=L1 e.1 j (A8 (b+1))
def J1(L1:ly)(c:jf)(b:Int)(e:mj)(d:AH)(l:Bool):=if l then
some (b,12)
else(gt c d.db).bind λi=>if d.de==3 then
if Ap (i.length+1) 1=true then
J2 L1 b e (c.set d.db.toNat (i++[true]))
else none
else
if Ap (i.length+1) 1=true then
J2 L1 b e (c.set d.db.toNat (i++[d.de==23]))
else none
def L1(a:Ck)(L1:ly)(f:AD)(c:jf)(b:Int):=if decide (b<(a.AB.length:Int))then(gt a.AB b).bind λd=>(CN a.dc f d).bind λe=>if !e.2 then
J1 L1 c b e d true
else(gt c d.db).bind λs=>(BH s d).bind λq=>J1 L1 c b e d (!q)
else
J3
def AR(a:Ck):Nat->AD->(List (List Bool))->Int->ABi (Int×Int)
|0,_,_,_=>none
|n+1,f,c,b=>L1 a (AR a n) f c b
end D6
section
open D6
def D6(a:Ck):=if decide ((a.AB.length:Int)>400)then
some (0,2)
else(B8 a.dc).bind λo=>if !o then
some (0,1)
else(E1 a.dc).bind λp=>if 0<=(a.dc.AA.length:Int)/\(a.dc.AA.length:Int)<=(a.dc.AA.length:Int)/\Ap a.dc.AA.length 24=true then
AR a BQ p (List.replicate a.dc.AA.length ([]:List Bool)) 0
else none
end
namespace DE
def J5(t:AH):ABi (AH×Bool):=some (t,true)
def J4(d:AH)(c:AN)(a:Ak)(u:Bool):=if u then(gt c.C9 a.B).bind λs=>if Ap (d.DS.length+s.length) 8=true then
J5 (AH.mk d.db d.de d.dq d.dn d.d7 d.Dy (d.DS++s))
else none
else
J5 d
def J3(c:AN)(a:Ak)(d:AH):=if a.Op==8 then
J4 d c a true
else
if a.Op==9 then
J4 d c a true
else
J4 d c a (a.Op==26)
def J2(b i j:Int)(c:AN)(a:Ak)(v:Bool):=if v then(gt c.C9 a.C).bind λq=>if Ap (q.length) 8=true then
J3 c a (AH.mk b i j 0 a.d7 q [])
else none
else
J3 c a (AH.mk b i j 0 a.d7 [] [])
def J1(e:Bx)(f:A4)(b:Int)(l:Bool):=if l then
some ((AH.mk 0 0 0 0 0 [] []),false)
else(gt f.AA b).bind λc=>(gt e.AA b).bind λx=>(gt x.CO c.PC).bind λa=>(gt f.df.AA b).bind λo=>if o.dm==1 then
some ((AH.mk b 1 (-1) 0 (-1) [] []),true)
else
if o.dm==4 then
some ((AH.mk b 17 o.D7 0 a.d7 [] []),true)
else
if o.dm==2 then(I9 a.Op).bind λi=>(GO a c).bind λj=>if i==0 then
some ((AH.mk 0 0 0 0 0 [] []),false)
else
if a.Op==10 then(gt c.C9 a.A).bind λp=>if Ap (p.length) 8=true then
J3 c a (AH.mk b i j 0 a.d7 p [])
else none
else
if a.Op==7 then
J2 b i j c a (a.Op==7)
else
J2 b i j c a (a.Op==9)
else
some ((AH.mk 0 0 0 0 0 [] []),false)
end DE
section
open DE
def DE(e:Bx)(f:A4)(b:Int):=(Fe e f).bind λw=>if !w then
J1 e f b true
else
if decide (b<0)then
J1 e f b true
else
J1 e f b (decide (b>=(e.AA.length:Int)))
theorem XJ{e:Bx}{f:A4}{b:Int}{r:AH×Bool}(h:DE e f b=some r):Says prog 212 [.agg (Kg e),.agg (LY f),si b] (.Bo [.agg (JN r.1),sb r.2]):=by refine kO mix func212 (hn [(3,[21,32]),(4,[27,46,47,60,61]),(8,[38,90,103,126]),(9,[43,72,84,92,105,111,115,120,128]),(10,[67,68,69,78,79,80,88,89,97,101,102,110,124,125,133,134])] [(2,1),(20,3)] (E:=[(11,(Rc 60 [.F 0 4,.h 4 3 60,.C 2,.I 3 62 63,.U 1 64,.F 1 10,.x ⟨none,.ZE (.t 67) (.c (si 17)),none⟩,.F 2 10,.x ⟨none,.ZE (.t 68) (.t 66),none⟩])),(14,(Rc 72 [.f 0 9,.c 240 [73] 0,.A 6 9,.A 4 8,.c 241 [75,76] 0,.F 1 10,.x ⟨none,.ZE (.t 78) (.t 74),none⟩,.F 2 10,.x ⟨none,.ZE (.t 79) (.t 77),none⟩]))])) ?_;have a1:=@fU;have a2:=@Yl;have a3:=@fS;have c3:=i5 3 λb=>∃c a d,(b 6=bA 7 z3/\b 8=bA 4 (GC c)/\b 9=bA 6 (Ew a)/\b 10=bA 7 (JN d))/\J3 c a d=some r;have c1:=i5 1 λa=>∃l,(a 2=si b/\a 3=bA 7 (Kg e)/\a 4=bA 7 (LY f)/\a 6=bA 7 z3/\a 25=sb l)/\J1 e f b l=some r;unfold DE at h;exact walk
end
namespace EG
def J2(b:Int)(c:AD×AZ)(e:AE):ABi AE:=(Cc c.2 e.dg e.dc (if 16<(if 0>b then 0 else b)then 16 else(if 0>b then 0 else b)) true).bind λl=>(CQ (AE.mk e.dc e.eO e.dg l.1)).bind λo=>if !o then(G6).bind λp=>(G6).bind λq=>(Eo q).bind λs=>some (AE.mk p 0 s [])
else
some (AE.mk e.dc e.eO e.dg l.1)
def L1(b:Int)(c:AD×AZ)(L1:AE->Int->ABi AE)(a:AE)(d:Int):=if decide (d<(c.1.dh.length:Int))then(gt c.1.dh d).bind λt=>L1 (AE.mk a.dc (A8 (a.eO+t)) a.dg a.AB) (A8 (d+1))
else
J2 b c a
def AR(b:Int)(c:AD×AZ):Nat->AE->Int->ABi AE
|0,_,_=>none
|n+1,a,d=>L1 b c (AR b c n) a d
def J1(b:Int)(i:i6):=(G6).bind λj=>(Ao (AZ.mk i 0) j).bind λc=>AR b c BQ (AE.mk j 0 c.1 []) 0
end EG
section
open EG
def EG(f:i6)(b:Int):=if decide ((f.length:Int)>400)then
if 400<=f.length then
J1 b (f.take 400)
else none
else
J1 b f
theorem Yr{f:i6}{b:Int}{r:AE}(h:EG f b=some r):Says prog 40 [vS 1 l5 f,si b] (.agg (Av r)):=by refine kF mix func40 (hn [(5,[19,38]),(6,[20,21,23,24,25,26,30,32,36,39,40,41,42,47,48,55])] [(1,1)] [(84,1)]) ?_;have a1:=@Rr;have a2:=@UT;have a3:=@gC;have a4:=@Rh;have a5:=@Je;have l1:=i4 λn e=>∃(c:AD×AZ)(a:AE)(d:Int),(e 1=si b/\e 4=bA 15 z2/\e 5=bA 2 (Gg c.2)/\e 6=bA 15 [vS 5 Hp a.dc.di,vS 2 Ix a.dc.AK,vS 2 Iw a.dc.Al,vS 1 eS a.dc.AL,vS 1 eS a.dc.AA,vS 3 G9 a.dc.Bt,si a.eO,vS 2 De a.dg.df.AK,si a.dg.df.Tx,vS 1 eB a.dg.df.Br,vS 3 Ay a.dg.df.AA,vS 1 eI a.dg.di,vS 1 eI a.dg.AL,vS 1 eI a.dg.dh,vO 7 Aw a.AB]/\e 26=vS 1 eI c.1.dh/\e 27=si (c.1.dh.length:Int)/\e 28=si d)/\AR b c n a d=some r;have c1:=i5 1 λa=>∃i,(a 0=vS 1 l5 i/\a 1=si b/\a 4=bA 15 z2)/\J1 b i=some r;unfold EG at h;exact walk
end
namespace Fp
def J2(e:List AE):ABi ((List AE)×Int):=some (e,0)
def L1(b:Int)(a:Ck)(L1:(List AE)->Int->ABi ((List AE)×Int))(d:List AE)(c:Int):=if decide (c<(a.AB.length:Int))then(G5 a c).bind λj=>if 0<=c/\0<=(if(a.AB.length:Int)<(A8 (c+b))then(a.AB.length:Int)else(A8 (c+b)))/\c.toNat<=((if(a.AB.length:Int)<(A8 (c+b))then(a.AB.length:Int)else(A8 (c+b))).toNat)/\((if(a.AB.length:Int)<(A8 (c+b))then(a.AB.length:Int)else(A8 (c+b))).toNat)<=a.AB.length then
if Ap (d.length+1) 328=true then
L1 (d++[(AE.mk a.dc c j ((a.AB.drop c.toNat).take (((if(a.AB.length:Int)<(A8 (c+b))then(a.AB.length:Int)else(A8 (c+b))).toNat)-c.toNat)))]) (A8 (c+b))
else none
else none
else
J2 d
def AR(b:Int)(a:Ck):Nat->(List AE)->Int->ABi ((List AE)×Int)
|0,_,_=>none
|n+1,d,c=>L1 b a (AR b a n) d c
def J1(b:Int)(a:Ck)(f:Bool):=if f then
some ([],1)
else
AR b a BQ [] 0
end Fp
section
open Fp
def Fp(a:Ck)(b:Int):=(Gb a).bind λi=>if i.2 != 0 then
some ([],12)
else
if decide (b<1)then
J1 b a true
else
J1 b a (decide (b>16))
theorem cD{a:Ck}{b:Int}{r:(List AE)×Int}(h:Fp a b=some r):Says prog 42 [.agg (Tu a),si b] (.Bo [vO 15 Ly r.1,si r.2]):=by refine kO mix func42 (hn [(2,[24,32,38,44]),(8,[31,52])]) ?_;have a1:=@cA;have a2:=@cE;have l1:=i4 λn e=>∃d c,(e 1=si b/\e 2=bA 7 (Tu a)/\e 8=vO 15 Ly d/\e 9=si c)/\AR b a n d c=some r;unfold Fp at h;exact walk
end
end Go.Abs
