/- Typed programs of Go functions, and that the functions do what these say. -/
import Derived.Test.YtdojkofgkcmagaaGreatDoorWalkL
set_option linter.defProp false
set_option linter.unusedSimpArgs false
set_option linter.unusedVariables false
namespace Go.Abs
open Go.Proofs Tryz
set_option maxRecDepth 1000000
set_option maxHeartbeats 4000000
def f49c:IC:=(Ra 0 [.b 1 [13,15,16,20,28,52,53] (.bx 15 (.t 0)),.B 2 false]
(Ra 13 [.F 7 1,.A 7 13,.w 3,.o (.bx 7 (.c (.agg z0))),.S 7 3 14]
(Ra 15 [.F 0 1,.h 1 4 15,.Z 17,.o (.mk 1 24 z15 (.t 18) (.t 18)),.b 4 [64,67,68,72,75,76,78,88,91,92,103] (.mv (.t 19))]
(Sq (Ra 20 [.f 14 1,.Z 21,.Y 0]
(Bl 0 (Ra 24 [.O .lss 23 22]
(Sq (cX 24 0)
(Sq (Bk 1 (Ra 25 [.I 7 21 23,.A 7 25,.b 6 [37,39,55,65,73,86,89,93,97] (.bx 7 (.c (.agg z3))),.S 7 6 26]
(Ra 28 [.F 0 1,.A 6 28,.A 7 3,.A 7 6,.c 96 [29,30,31] 1,.w 27,.C 32,.w 33,.o (.ext (.t 27) 0),.o (.ext (.t 27) 1),.w 7,.o (.bx 7 (.c (.agg z0))),.S 7 7 33,.M 8 34]
(Sq (Ra 35 [.C 8,.N 35]
(Ci 36 (Rb 0 [.B 2 false])))
(Sq (Ra 37 [.f 5 6,.f 6 6,.o (.TK z18 [(0,1,.t 38),(1,1,.t 40)]),.Y 0]
(Bl 2 (Ra 43 [.P .lss 42 2]
(Sq (cX 43 2)
(Sq (Bk 3 (O6 1 (Rc 44 [.o (.idx false 2 1 (.t 41) (.t 42)),.M 10 44])
(Ra 45 [.C 10,.Z 45,.Y 0]
(Bl 4 (Ra 48 [.O .lss 47 46]
(Sq (cX 48 4)
(Sq (Bk 5 (Ra 49 [.I 1 45 47,.L 49,.M 12 50]
(Ra 51 [.C 12,.F 7 1,.h 1 6 52,.f 0 6,.I 1 54 56,.L 57,.O .sub 51 58,.M 12 59]
(Ra 60 [.C 12,.P .geq 60 0,.C 61,.G 62 true,.C 12,.y 4 (.cp (.t 4)),.f 0 6,.y 4 (.ZG 1 (.t 64) (.t 66)),.l 4 67,.Z 68,.O .geq 63 69,.C 70,.G 71 false,.y 4 (.cp (.t 4)),.f 0 6,.y 4 (.ZG 1 (.t 72) (.t 74)),.l 4 75,.C 12,.y 4 (.ZG 1 (.t 76) (.t 77)),.L 78,.N 79,.G 62 true,.o (.pick (.t 71) (.c (sb true)) (.t 80)),.e,.W 62 81]
(Ci 82 (Rb 0 [.B 2 false]))))))
(Rc 83 [.P .add 47 1,.w 47,.C 83]))))))))
(Rc 84 [.P .add 42 1,.w 42,.C 84]))))))
(Sq (.jB [(4,0,18,85)] [i0 85 .fl,Kf 86 6 0 6,iL 87 86,i1 88 4 (.cp (.t 4)),Kf 89 6 0 6,iL 90 89,tY 91 4 1 88 90,Vg 92 4 91,Kf 93 6 1 6,iL 94 93,iQ 95 94 3,iC 96 95,jFr 97 6 1 6 96 false,jL 98 97 96 false,jP 99 .eql 98 23 96 false,iOr 100 96 99,i0 101 (.OR 1 [[sb false]] [(0,.t 100)]),i0 102 (.app 1 1 (.t 92) (.t 101)),tY 103 4 1 4 87,iS 1 103 102])
(Rc 104 [.A 7 7,.S 7 3 104])))))))
(Rc 105 [.P .add 23 1,.w 23,.C 105]))))))
(Rb 0 [.B 2 true])))))
def f49g:Gi:=⟨[(13,[1]),(15,[1]),(16,[1]),(20,[1]),(28,[1]),(37,[6]),(39,[6]),(52,[1]),(53,[1]),(55,[6]),(64,[4]),(65,[6]),(67,[4]),(68,[4]),(72,[4]),(73,[6]),(75,[4]),(76,[4]),(78,[4]),(86,[6]),(88,[4]),(89,[6]),(91,[4]),(92,[4]),(93,[6]),(97,[6]),(103,[4])]⟩
def f49r:List RV:=[.tmp 2]
namespace Az
def J7:=
some true
def J6(L1:jJ)(d:Int)(v:AD)(u:jp):=
L1 v u (A6 (d+1))
def J5(L1:jJ)(d:Int)(f:ls)(t:jp):=
J6 L1 d f.1 t
def J4(L1:jJ)(c:jp)(d:Int)(f:ls)(b:AH):=
(gt c b.cr).bind λo=>
if b.da==3 then
if Am (o.length+1) 1=true then
J5 L1 d f (c.set b.cr.toNat (o++[true]))
else none
else
if Am (o.length+1) 1=true then
J5 L1 d f (c.set b.cr.toNat (o++[b.da==23]))
else none
def J3(L2:ir)(e:Int):=
L2 (A6 (e+1))
def J2(L3:ir)(l:Int)(w:Bool):=
if w then
some false
else
L3 (A6 (l+1))
def L3(L2:ir)(i:iq)(c:jp)(e:Int)(a:AG)(b:AH)(L3:ir)(l:Int):=
if decide (l<(i.length:Int))then
(gt i l).bind λp=>
(gt a.db.dc b.cr).bind λq=>
if decide ((A6 (p-q))>=0)then
(gt c b.cr).bind λs=>
if decide ((A6 (p-q))>=(s.length:Int))then
J2 L3 l true
else
(gt s (A6 (p-q))).bind λx=>
J2 L3 l (!x)
else
J2 L3 l false
else
J3 L2 e
def Gc(L2:ir)(i:iq)(c:jp)(e:Int)(a:AG)(b:AH):Nat->Int->ABu Bool
|0,_=>none
|n+1,l=>L3 L2 i c e a b (Gc L2 i c e a b n) l
def J1(L2:ir)(c:jp)(e:Int)(a:AG)(b:AH)(i:iq):=
Gc L2 i c e a b BT 0
def L2(L1:jJ)(c:jp)(d:Int)(f:ls)(a:AG)(b:AH)(L2:ir)(e:Int):=
if decide (e<2)then
if e==0 then
J1 L2 c e a b b.EA
else
if e==1 then
J1 L2 c e a b b.DW
else
none
else
J4 L1 c d f b
def CC(L1:jJ)(c:jp)(d:Int)(f:ls)(a:AG)(b:AH):Nat->Int->ABu Bool
|0,_=>none
|n+1,e=>L2 L1 c d f a b (CC L1 c d f a b n) e
def L1(a:AG)(L1:jJ)(j:AD)(c:jp)(d:Int):=
if decide (d<(a.AB.length:Int))then
(gt a.AB d).bind λb=>
(Bu a.cT j b).bind λf=>
if !f.2 then
some false
else
CC L1 c d f a b BT 0
else
J7
def AW(a:AG):Nat->AD->(List (List Bool))->Int->ABu Bool
|0,_,_,_=>none
|n+1,j,c,d=>L1 a (AW a n) j c d
end Az
section
open Az
def Az(a:AG):=
if 0<=(a.cT.AA.length:Int)/\(a.cT.AA.length:Int)<=(a.cT.AA.length:Int)/\Am a.cT.AA.length 24=true then
AW a BT a.db (List.replicate a.cT.AA.length ([]:List Bool)) 0
else none
def T3{a:AG}{r:Bool}(h:Az a=some r):Says prog 49 [.agg (A4 a)] (sb r):=by refine wO mix func49 (I:=⟨f49c,f49g,f49r⟩) ?_;simp only[f49c,f49g,f49r];have a1:= @NH;have l1:=im λ_ _ _ _ n b=>∃j c d,(b 1=bA 15 (A4 a)/\b 3=bA 7 (BQ j)/\b 4=vO 1 UJ c/\b 21=vS 7 A7 a.AB/\b 22=si (a.AB.length:Int)/\b 23=si d)/\AW a n j c d=some r;have l2:=im λg _ _ _ n h=>∃(c:jp)(d:Int)(f:ls)(b:AH)(e:Int)(j:AD),(h 1=bA 15 (A4 a)/\h 3=bA 7 (BQ j)/\h 4=vO 1 UJ c/\h 6=bA 7 (A7 b)/\h 7=bA 7 (BQ f.1)/\h 21=vS 7 A7 a.AB/\h 22=si (a.AB.length:Int)/\h 23=si d/\h 41= .agg [vS 1 eI b.EA,vS 1 eI b.DW]/\h 42=si e)/\CC (AW a g) c d f a b n e=some r;have l3:=im λg h _ _ n k=>∃(c:jp)(d:Int)(f:ls)(b:AH)(i:iq)(e l:Int)(j:AD),(k 1=bA 15 (A4 a)/\k 3=bA 7 (BQ j)/\k 4=vO 1 UJ c/\k 6=bA 7 (A7 b)/\k 7=bA 7 (BQ f.1)/\k 21=vS 7 A7 a.AB/\k 22=si (a.AB.length:Int)/\k 23=si d/\k 41= .agg [vS 1 eI b.EA,vS 1 eI b.DW]/\k 42=si e/\k 45=vS 1 eI i/\k 46=si (i.length:Int)/\k 47=si l)/\Gc (CC (AW a g) c d f a b h) i c e a b n l=some r;have c1:=ip 1 λg h _ _ k=>∃(c:jp)(d:Int)(f:ls)(b:AH)(e:Int)(i:iq)(j:AD),(k 1=bA 15 (A4 a)/\k 3=bA 7 (BQ j)/\k 4=vO 1 UJ c/\k 6=bA 7 (A7 b)/\k 7=bA 7 (BQ f.1)/\k 10=vS 1 eI i/\k 21=vS 7 A7 a.AB/\k 22=si (a.AB.length:Int)/\k 23=si d/\k 41= .agg [vS 1 eI b.EA,vS 1 eI b.DW]/\k 42=si e)/\J1 (CC (AW a g) c d f a b h) c e a b i=some r;unfold Az at h;exact walk
end
def f219c:IC:=(Ra 0 [.K 4 0,.K 5 0]
(Sq (Ra 0 [.K 6 0]
(Bl 0 (Sq (Ra 10 [.C 6,.C 1,.Z 11,.O .lss 10 12]
(cX 13 0))
(Sq (Bk 1 (Ra 16 [.C 1,.C 6,.I 11 16 17,.A 11 18,.b 7 [33,48,57] (.bx 11 (.c (.agg z6))),.S 11 7 19]
(Ra 20 [.y 0 (.cp (.t 0)),.A 11 7,.o (.Vx 248 [] (.t 20) none [.t 21]),.M 8 22]
(O6 1 (Ra 23 [.r 0 3,.Z 26,.P .add 27 1,.P .gtr 28 6]
(Ci 29 (Rc 0 [.K 8 2])))
(Sq (Ra 30 [.C 8,.P .neq 30 0]
(Ci 31 (Rb 32 [.C 8,.f 1 7,.M 4 32,.M 5 34])))
(Sq (.apd ⟨42,43,45,7,8,9,11,12⟩ [i1 35 0 (.cp (.t 0)),i1 36 0 (.I6 (.t 35)),Kf 37 0 3 36,Vg 38 0 37,iA 39 11 7,iZ 40 38,i0 41 (.OR 11 [z6] [(0,.c (.agg z6))]),⟨some ⟨42,[43],[]⟩,.app 11 176 (.t 38) (.t 41),none⟩,tY 43 42 11 42 40,iS 11 43 39,i1 44 0 (.I6 (.t 35)),Kf 45 0 3 44,⟨none,.std (.t 45),none⟩])
(Ra 47 [.y 0 (.cp (.t 0)),.f 9 7,.o (.Vx 219 [] (.t 47) none [.t 49]),.w 46,.C 50,.w 51,.o (.ext (.t 46) 0),.o (.ext (.t 46) 1),.M 8 51,.M 9 52]
(Sq (Ra 53 [.C 8,.Q 53 0]
(Ci 54 (Rc 56 [.y 0 (.cp (.t 0)),.f 10 7,.o (.Vx 219 [] (.t 56) none [.t 58]),.w 55,.C 59,.w 60,.o (.ext (.t 55) 0),.o (.ext (.t 55) 1),.M 8 60,.M 9 61])))
(Sq (.jB [(0,0,12,62)] [i0 62 .fl,i1 63 0 (.cp (.t 0)),i1 64 0 (.I6 (.t 63)),Kf 65 0 3 64,Vg 66 0 65,i1 67 0 (.cp (.t 0)),i1 68 0 (.I6 (.t 67)),Kf 69 0 3 68,Vg 70 0 69,iZ 71 70,iP 72 .sub 71 1,i0 73 (.slc 11 false (.t 66) none (some (.t 72)) none),i1 74 0 (.I6 (.t 0)),Kf 75 0 3 74,iS 1 75 73])
(Ra 76 [.C 8,.P .neq 76 0]
(Ci 77 (Rb 78 [.C 8,.C 9,.M 4 78,.M 5 79]))))))))))))
(Rc 14 [.C 6,.P .add 14 1,.M 6 15])))))
(Rb 0 [.K 4 0,.K 5 0])))
def f219g:Gi:=⟨[(20,[0]),(23,[0]),(24,[0]),(25,[0]),(26,[0]),(33,[7]),(35,[0]),(36,[0]),(37,[0]),(38,[0]),(43,[42]),(44,[0]),(45,[0]),(47,[0]),(48,[7]),(56,[0]),(57,[7]),(63,[0]),(64,[0]),(65,[0]),(66,[0]),(67,[0]),(68,[0]),(69,[0]),(70,[0]),(74,[0]),(75,[0])]⟩
def f219r:List RV:=[.tmp 4,.tmp 5]
namespace CP
def J3(s:BX):ABu (Int×Int×BX):=
some (0,0,s)
def J2(L1:mh)(c:Int)(d:BX)(p q:Int):=
if 0<=(A6 ((d.G3.length:Int)-1))/\((A6 ((d.G3.length:Int)-1)).toNat)<=d.G3.length then
if p != 0 then
some (p,q,(BX.mk d.p d.Bt (d.G3.take ((A6 ((d.G3.length:Int)-1)).toNat)) d.NG d.aQ))
else
L1 (BX.mk d.p d.Bt (d.G3.take ((A6 ((d.G3.length:Int)-1)).toNat)) d.NG d.aQ) (A6 (c+1))
else none
def J1(L1:mh)(R100:kj)(c:Int)(b:Int×BX)(a:AR)(i:Int):=
if i != 0 then
some (i,a.GH,b.2)
else
if Am (b.2.G3.length+1) 176=true then
(gt (b.2.G3++[(AR.mk 0 0 (⟨#[]⟩:ABv) (⟨#[]⟩:ABv) [] (BO.mk 0 0 (⟨#[]⟩:ABv) []) [] [])]) (b.2.G3.length:Int)).bind λt=>
(R100 (BX.mk b.2.p b.2.Bt ((b.2.G3++[(AR.mk 0 0 (⟨#[]⟩:ABv) (⟨#[]⟩:ABv) [] (BO.mk 0 0 (⟨#[]⟩:ABv) []) [] [])]).set b.2.G3.length a) b.2.NG b.2.aQ) a.dx).bind λj=>
if j.1==0 then
(R100 j.2.2 a.d7).bind λo=>
J2 L1 c o.2.2 o.1 o.2.1
else
J2 L1 c j.2.2 j.1 j.2.1
else none
def L1(R100:kj)(e:ju)(L1:mh)(f:BX)(c:Int):=
if decide (c<(e.length:Int))then
(gt e c).bind λa=>
(BV f a).bind λb=>
if decide ((A6 ((b.2.G3.length:Int)+1))>6)then
J1 L1 R100 c b a 2
else
J1 L1 R100 c b a b.1
else
J3 f
def AW(R100:kj)(e:ju):Nat->BX->Int->ABu (Int×Int×BX)
|0,_,_=>none
|n+1,f,c=>L1 R100 e (AW R100 e n) f c
end CP
variable{d:kj}{b:BX}{c:ju}{a:Int×Int×BX}
section
open CP
def CP(R100:kj)(l:BX)(e:ju):=
AW R100 e BT l 0
theorem U9(H100:∀{x0 x1 a},d x0 x1=some a->BB prog 219 [bA 6 (Hx x0),vS 11 BJ x1] (.BZ [si a.1,si a.2.1]) [bA 6 (Hx a.2.2),.dead])(h:CP d b c=some a):BB prog 219 [bA 6 (Hx b),vS 11 BJ c] (.BZ [si a.1,si a.2.1]) [bA 6 (Hx a.2.2),.dead]:=by refine wL mix func219 (I:=⟨f219c,f219g,f219r⟩) ?_;simp only[f219c,f219g,f219r];have a1:= @VA;have a2:= @H100;have l1:=im λ_ _ _ _ n r=>∃f e,(r 0=bA 6 (Hx f)/\r 1=vS 11 BJ c/\r 6=si e)/\AW d c n f e=some a;have c1:=ip 1 λR100 _ _ _ f=>∃(e:Int)(l:Int×BX)(r:AR)(i:Int),(f 0=bA 6 (Hx l.2)/\f 1=vS 11 BJ c/\f 6=si e/\f 7=bA 11 [si r.Op,si r.GH,Bq r.di,Bq r.ep,vS 4 BR r.dz,si r.dv.Op,si r.dv.N,Bq r.dv.di,vS 4 BR r.dv.L,vS 11 BJ r.dx,vS 11 BJ r.d7]/\f 8=si i)/\J1 (AW d c R100) d e l r i=some a;unfold CP at h;exact walk
end
def Py:Nat->(BX->(List AR)->ABu (Int×Int×BX))
|0=>(λ_ _=>none)
|n+1=>CP ((Py n))
def E3(n:Nat):BX->(List AR)->ABu (Int×Int×BX):=(Py n)
theorem Tp(n:Nat):(∀{x0 x1 r},(E3 n) x0 x1=some r->BB prog 219 [bA 6 (Hx x0),vS 11 BJ x1] (.BZ [si r.1,si r.2.1]) [bA 6 (Hx r.2.2),.dead]):=by
  induction n with
  |zero=>exactλh=>Et h
  |succ n ih=>exactλh=>U9 ih h
def Tq{n:Nat}:∀{x0 x1 r},(E3 n) x0 x1=some r->BB prog 219 [bA 6 (Hx x0),vS 11 BJ x1] (.BZ [si r.1,si r.2.1]) [bA 6 (Hx r.2.2),.dead]:=(Tp n)
namespace Dm
def J3:na:=
some (0,0)
def J2(L1:kz)(b:Int)(e:ls)(j:jp):=
L1 e.1 j (A6 (b+1))
def J1(L1:kz)(c:jp)(b:Int)(e:ls)(d:AH)(l:Bool):=
if l then
some (b,12)
else
(gt c d.cr).bind λi=>
if d.da==3 then
if Am (i.length+1) 1=true then
J2 L1 b e (c.set d.cr.toNat (i++[true]))
else none
else
if Am (i.length+1) 1=true then
J2 L1 b e (c.set d.cr.toNat (i++[d.da==23]))
else none
def L1(a:Ca)(L1:kz)(f:AD)(c:jp)(b:Int):=
if decide (b<(a.AB.length:Int))then
(gt a.AB b).bind λd=>
(Bu a.cT f d).bind λe=>
if !e.2 then
J1 L1 c b e d true
else
(gt c d.cr).bind λs=>
(A8 s d).bind λq=>
J1 L1 c b e d (!q)
else
J3
def AW(a:Ca):Nat->AD->(List (List Bool))->Int->ABu (Int×Int)
|0,_,_,_=>none
|n+1,f,c,b=>L1 a (AW a n) f c b
end Dm
section
open Dm
def Dm(a:Ca):=
if decide ((a.AB.length:Int)>400)then
some (0,2)
else
(Bw a.cT).bind λo=>
if !o then
some (0,1)
else
(Ei a.cT).bind λp=>
if 0<=(a.cT.AA.length:Int)/\(a.cT.AA.length:Int)<=(a.cT.AA.length:Int)/\Am a.cT.AA.length 24=true then
AW a BT p (List.replicate a.cT.AA.length ([]:List Bool)) 0
else none
end
namespace C1
def J5(t:AH):ABu (AH×Bool):=
some (t,true)
def J4(d:AH)(c:AN)(a:Ai)(u:Bool):=
if u then
(gt c.Cx a.B).bind λs=>
if Am (d.DW.length+s.length) 8=true then
J5 (AH.mk d.cr d.da d.dn d.dh d.d3 d.EA (d.DW++s))
else none
else
J5 d
def J3(c:AN)(a:Ai)(d:AH):=
if a.Op==8 then
J4 d c a true
else
if a.Op==9 then
J4 d c a true
else
J4 d c a (a.Op==26)
def J2(b i j:Int)(c:AN)(a:Ai)(v:Bool):=
if v then
(gt c.Cx a.C).bind λq=>
if Am (q.length) 8=true then
J3 c a (AH.mk b i j 0 a.d3 q [])
else none
else
J3 c a (AH.mk b i j 0 a.d3 [] [])
def J1(e:Bj)(f:As)(b:Int)(l:Bool):=
if l then
some ((AH.mk 0 0 0 0 0 [] []),false)
else
(gt f.AA b).bind λc=>
(gt e.AA b).bind λx=>
(gt x.B8 c.PC).bind λa=>
(gt f.de.AA b).bind λo=>
if o.dg==1 then
some ((AH.mk b 1 (-1) 0 (-1) [] []),true)
else
if o.dg==4 then
some ((AH.mk b 17 o.Dy 0 a.d3 [] []),true)
else
if o.dg==2 then
(Im a.Op).bind λi=>
(Fu a c).bind λj=>
if i==0 then
some ((AH.mk 0 0 0 0 0 [] []),false)
else
if a.Op==10 then
(gt c.Cx a.A).bind λp=>
if Am (p.length) 8=true then
J3 c a (AH.mk b i j 0 a.d3 p [])
else none
else
if a.Op==7 then
J2 b i j c a (a.Op==7)
else
J2 b i j c a (a.Op==9)
else
some ((AH.mk 0 0 0 0 0 [] []),false)
end C1
section
open C1
def C1(e:Bj)(f:As)(b:Int):=
(E9 e f).bind λw=>
if !w then
J1 e f b true
else
if decide (b<0)then
J1 e f b true
else
J1 e f b (decide (b>=(e.AA.length:Int)))
theorem WB{e:Bj}{f:As}{b:Int}{r:AH×Bool}(h:C1 e f b=some r):Says prog 212 [.agg (KV e),.agg (LO f),si b] (.BZ [.agg (I1 r.1),sb r.2]):=by refine kO mix func212 (hn [(3,[21,32]),(4,[27,46,47,60,61]),(8,[38,90,103,126]),(9,[43,72,84,92,105,111,115,120,128]),(10,[67,68,69,78,79,80,88,89,97,101,102,110,124,125,133,134])] [(2,1),(20,3)] (E:=[(11,(Rc 60 [.F 0 4,.h 4 3 60,.C 2,.I 3 62 63,.U 1 64,.F 1 10,.x ⟨none,.YM (.t 67) (.c (si 17)),none⟩,.F 2 10,.x ⟨none,.YM (.t 68) (.t 66),none⟩])),(14,(Rc 72 [.f 0 9,.c 240 [73] 0,.A 6 9,.A 4 8,.c 241 [75,76] 0,.F 1 10,.x ⟨none,.YM (.t 78) (.t 74),none⟩,.F 2 10,.x ⟨none,.YM (.t 79) (.t 77),none⟩]))])) ?_;have a1:= @dB;have a2:= @Xr;have a3:= @cZ;have c3:=ip 3 λ_ _ _ _ b=>∃c a d,(b 6=bA 7 z3/\b 8=bA 4 (Fh c)/\b 9=bA 6 (Ed a)/\b 10=bA 7 (I1 d))/\J3 c a d=some r;have c1:=ip 1 λ_ _ _ _ a=>∃l,(a 2=si b/\a 3=bA 7 (KV e)/\a 4=bA 7 (LO f)/\a 6=bA 7 z3/\a 25=sb l)/\J1 e f b l=some r;unfold C1 at h;exact walk
end
namespace D1
def J2(b:Int)(c:AD×AX)(e:AG):ABu AG:=
(CR c.2 e.db e.cT (if 16<(if 0>b then 0 else b)then 16 else(if 0>b then 0 else b)) true).bind λl=>
(CB (AG.mk e.cT e.ej e.db l.1)).bind λo=>
if !o then
(Gs).bind λp=>
(Gs).bind λq=>
(EX q).bind λs=>
some (AG.mk p 0 s [])
else
some (AG.mk e.cT e.ej e.db l.1)
def L1(b:Int)(c:AD×AX)(L1:AG->Int->ABu AG)(a:AG)(d:Int):=
if decide (d<(c.1.dc.length:Int))then
(gt c.1.dc d).bind λt=>
L1 (AG.mk a.cT (A6 (a.ej+t)) a.db a.AB) (A6 (d+1))
else
J2 b c a
def AW(b:Int)(c:AD×AX):Nat->AG->Int->ABu AG
|0,_,_=>none
|n+1,a,d=>L1 b c (AW b c n) a d
def J1(b:Int)(i:iq):=
(Gs).bind λj=>
(Aj (AX.mk i 0) j).bind λc=>
AW b c BT (AG.mk j 0 c.1 []) 0
end D1
section
open D1
def D1(f:iq)(b:Int):=
if decide ((f.length:Int)>400)then
if 400<=f.length then
J1 b (f.take 400)
else none
else
J1 b f
theorem Xv{f:iq}{b:Int}{r:AG}(h:D1 f b=some r):Says prog 40 [vS 1 iX f,si b] (.agg (A4 r)):=by refine kF mix func40 (hn [(5,[19,38]),(6,[20,21,23,24,25,26,30,32,36,39,40,41,42,47,48,55])] [(1,1)] [(84,1)]) ?_;have a1:= @RF;have a2:= @Tw;have a3:= @dJ;have a4:= @Q6;have a5:= @JK;have l1:=im λ_ _ _ _ n e=>∃(c:AD×AX)(a:AG)(d:Int),(e 1=si b/\e 4=bA 15 z2/\e 5=bA 2 (GO c.2)/\e 6=bA 15 [vS 5 HV a.cT.df,vS 2 IX a.cT.AK,vS 2 IW a.cT.Ak,vS 1 eS a.cT.AL,vS 1 eS a.cT.AA,vS 3 Gu a.cT.Be,si a.ej,vS 2 C9 a.db.de.AK,si a.db.de.Tx,vS 1 eB a.db.de.Bp,vS 3 Ap a.db.de.AA,vS 1 eI a.db.df,vS 1 eI a.db.AL,vS 1 eI a.db.dc,vO 7 A7 a.AB]/\e 26=vS 1 eI c.1.dc/\e 27=si (c.1.dc.length:Int)/\e 28=si d)/\AW b c n a d=some r;have c1:=ip 1 λ_ _ _ _ a=>∃i,(a 0=vS 1 iX i/\a 1=si b/\a 4=bA 15 z2)/\J1 b i=some r;unfold D1 at h;exact walk
end
namespace FL
def J2(e:List AG):ABu ((List AG)×Int):=
some (e,0)
def L1(b:Int)(a:Ca)(L1:(List AG)->Int->ABu ((List AG)×Int))(d:List AG)(c:Int):=
if decide (c<(a.AB.length:Int))then
(Gr a c).bind λj=>
if 0<=c/\0<=(if(a.AB.length:Int)<(A6 (c+b))then(a.AB.length:Int)else(A6 (c+b)))/\c.toNat<=((if(a.AB.length:Int)<(A6 (c+b))then(a.AB.length:Int)else(A6 (c+b))).toNat)/\((if(a.AB.length:Int)<(A6 (c+b))then(a.AB.length:Int)else(A6 (c+b))).toNat)<=a.AB.length then
if Am (d.length+1) 328=true then
L1 (d++[(AG.mk a.cT c j ((a.AB.drop c.toNat).take (((if(a.AB.length:Int)<(A6 (c+b))then(a.AB.length:Int)else(A6 (c+b))).toNat)-c.toNat)))]) (A6 (c+b))
else none
else none
else
J2 d
def AW(b:Int)(a:Ca):Nat->(List AG)->Int->ABu ((List AG)×Int)
|0,_,_=>none
|n+1,d,c=>L1 b a (AW b a n) d c
def J1(b:Int)(a:Ca)(f:Bool):=
if f then
some ([],1)
else
AW b a BT [] 0
end FL
section
open FL
def FL(a:Ca)(b:Int):=
(GD a).bind λi=>
if i.2 != 0 then
some ([],12)
else
if decide (b<1)then
J1 b a true
else
J1 b a (decide (b>16))
theorem Z5{a:Ca}{b:Int}{r:(List AG)×Int}(h:FL a b=some r):Says prog 42 [.agg (TP a),si b] (.BZ [vO 15 Lp r.1,si r.2]):=by refine kO mix func42 (hn [(2,[24,32,38,44]),(8,[31,52])]) ?_;have a1:= @Z2;have a2:= @Z6;have l1:=im λ_ _ _ _ n e=>∃d c,(e 1=si b/\e 2=bA 7 (TP a)/\e 8=vO 15 Lp d/\e 9=si c)/\AW b a n d c=some r;unfold FL at h;exact walk
end
namespace Gn
def J1(o:nf):ABu (List Em):=
some o
def L1(a:jm)(c:AF)(L1:AD->(List Em)->Int->ABu (List Em))(e:AD)(d:nf)(b:Int):=
if decide (b<(a.length:Int))then
(gt a b).bind λj=>
(GR c e.de j.cr).bind λi=>
(gt d b).bind λl=>
(gt (d.set b.toNat (Em.mk i.1 l.MG)) b).bind λq=>
(Bu c e j).bind λp=>
L1 p.1 ((d.set b.toNat (Em.mk i.1 l.MG)).set b.toNat (Em.mk q.F6 i.2)) (A6 (b+1))
else
J1 d
def AW(a:jm)(c:AF):Nat->AD->(List Em)->Int->ABu (List Em)
|0,_,_,_=>none
|n+1,e,d,b=>L1 a c (AW a c n) e d b
end Gn
section
open Gn
def Gn(c:AF)(f:AD)(a:jm):=
if 0<=(a.length:Int)/\(a.length:Int)<=(a.length:Int)/\Am a.length 48=true then
AW a c BT f (List.replicate a.length (Em.mk [] [])) 0
else none
theorem Uh{c:AF}{f:AD}{a:jm}{r:nf}(h:Gn c f a=some r):Says prog 58 [.agg (Aw c),.agg (BQ f),vS 7 A7 a] (vS 2 NZ r):=by refine kF mix func58 (hn [(4,[26]),(7,[21,23,33,34,35,36,45]),(9,[28])] (C:=[(96,1)]) (E:=[(1,(Rc 10 [.C 2,.Z 10,.o (.mk 2 48 [.sl false 1 [],.sl false 1 []] (.t 11) (.t 11)),.b 7 [21,23,33,34,35,36,45] (.mv (.t 12))]))])) ?_;have a1:= @XZ;have a2:= @NH;have l1:=im λ_ _ _ _ n f=>∃e d b,(f 3=bA 6 (Aw c)/\f 4=bA 7 (BQ e)/\f 7=vO 2 NZ d/\f 13=vS 7 A7 a/\f 14=si (a.length:Int)/\f 15=si b)/\AW a c n e d b=some r;unfold Gn at h;exact walk
end
end Go.Abs
