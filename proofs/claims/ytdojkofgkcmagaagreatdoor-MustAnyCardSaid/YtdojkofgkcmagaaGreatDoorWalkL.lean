/- Go functions do what typed programs say. -/
import Derived.Test.YtdojkofgkcmagaaGreatDoorWalkK
import Derived.Shelf.Slices.SearchI
set_option linter.all false
namespace Go.Abs
open Go.Proofs Tryz
set_option maxRecDepth 1000000
set_option maxHeartbeats 4000000
namespace CJ
def J2(cv:Bi)(ac:Int):ABm (Int×Bi):=some (ac,cv)
def J4(cw:Bi)(ad:Int):ABm (Int×Bi):=some (ad,cw)
def J5(b:mg)(ae:Int):ABm (Int×Bi):=some (ae,b.2)
def J7(f:mg)(af:Int):ABm (Int×Bi):=some (af,f.2)
def J8(a:AX)(b:mg)(l:Bool):ABm (Int×Bi):=if l then
some (7,b.2)
else(Cz b.2.NN a.dq).bind λbl=>if decide (bl>=0)then
some (8,b.2)
else
if Aq (b.2.NN.length+1) 16=true then
some (0,(Bi.mk b.2.p b.2.CA b.2.HQ (b.2.NN++[a.dq]) b.2.bP))
else none
def J9(b:mg)(ai:Int):ABm (Int×Bi):=some (ai,b.2)
def gN(a:AX)(b:mg)(c:Bi)(aa:Int):ABm (Int×Bi):=if Aq (b.2.bP.length+1) 16=true then(GN c.p c.CA a.du).bind λce=>(Fp aa ce).bind λcf=>some (cf,(Bi.mk b.2.p b.2.CA b.2.HQ b.2.NN (b.2.bP++[a.dq])))
else none
def P9(i:Int)(a:AX)(b:mg)(c:Bi)(ab:Bool):ABm (Int×Bi):=if ab then
gN a b c 8
else
gN a b c i
def OE(a:AX)(b:mg)(c:Bi)(i:Int):=if i==0 then(Cz b.2.bP a.dq).bind λcd=>P9 i a b c (decide (cd>=0))
else
P9 i a b c false
def J6(a:AX)(d e b:mg)(c:Bi)(j:Bool):=if j then(Dr c.p c.CA a.dq 5 5).bind λw=>if w != 0 then
some (w,b.2)
else(DZ c.p.ek a.dq).bind λbc=>(gt c.p.ek bc).bind λcy=>(CL b.2 4 4 cy.On).bind λf=>if d.1 then(CV true).bind λbe=>J7 f be
else
if !f.1 then(CV true).bind λbf=>J7 f bf
else
if a.Op==9 then(CV e.1).bind λbi=>J7 f bi
else(CV false).bind λbj=>J7 f bj
else
if a.Op==12 then(Dr c.p c.CA a.dq 7 7).bind λx=>if x != 0 then
some (x,b.2)
else(DO c.p.AB a.dq).bind λy=>if d.1 then
J8 a b true
else
if e.1 then
J8 a b true
else
if b.1 then
J8 a b true
else
if y==c.CA then
J8 a b true
else
J8 a b (y==0)
else
if a.Op==13 then(Dr c.p c.CA a.dq 7 7).bind λq=>if d.1 then(CV true).bind λbo=>(Fp q bo).bind λbp=>J9 b bp
else
if e.1 then(CV true).bind λbs=>(Fp q bs).bind λbt=>J9 b bt
else(DO c.p.AB a.dq).bind λbu=>(CV (bu==c.CA)).bind λbv=>(Fp q bv).bind λbw=>J9 b bw
else
if a.Op==14 then(Dr c.p c.CA a.dq 6 6).bind λz=>if d.1 then(CV true).bind λbx=>(Fp z bx).bind λbz=>OE a b c bz
else(CV b.1).bind λca=>(Fp z ca).bind λcb=>OE a b c cb
else(Dr c.p c.CA a.dq 8 8).bind λci=>(Dr c.p c.CA a.e6 6 6).bind λcj=>(CV d.1).bind λcl=>(Fp cj cl).bind λco=>(Fp ci co).bind λcp=>some (cp,b.2)
def J3(a:AX)(d e b:mg)(c:Bi)(p:Bool):=if p then(Dr c.p c.CA a.dq 4 4).bind λu=>if d.1 then(CV true).bind λav=>(Fp u av).bind λaw=>J4 b.2 aw
else(CL b.2 5 6 a.dq).bind λv=>(CV v.1).bind λax=>(Fp u ax).bind λay=>J4 v.2 ay
else
if a.Op==7 then(CV d.1).bind λaz=>some (az,b.2)
else
if a.Op==8 then
if d.1 then(CV true).bind λba=>J5 b ba
else(CV e.1).bind λbb=>J5 b bb
else
if a.Op==9 then
J6 a d e b c (a.Op==9)
else
if a.Op==10 then
J6 a d e b c (a.Op==10)
else
J6 a d e b c (a.Op==11)
def J1(a:AX)(d e b:mg)(c:Bi)(o:Bool):=if o then(GN c.p c.CA a.du).bind λal=>some (al,b.2)
else
if a.Op==4 then(Dr c.p c.CA a.dq 3 3).bind λs=>if d.1 then(CV true).bind λao=>(Fp s ao).bind λap=>J2 b.2 ap
else(CL b.2 4 4 a.dq).bind λt=>(CV t.1).bind λaq=>(Fp s aq).bind λau=>J2 t.2 au
else
if a.Op==5 then
J3 a d e b c (a.Op==5)
else
J3 a d e b c (a.Op==6)
end CJ
section
open CJ
def CJ(c:Bi)(a:AX):=(CL c 7 7 (⟨#[]⟩:ABn)).bind λd=>(CL d.2 8 8 (⟨#[]⟩:ABn)).bind λe=>(CL e.2 3 3 (⟨#[]⟩:ABn)).bind λb=>if a.Op==1 then
if(a.d6.length:Int)==0 then(Dr c.p c.CA a.dq 8 1).bind λbd=>(GN c.p c.CA a.du).bind λbq=>(Fp bd bq).bind λcc=>some (cc,b.2)
else(Dr c.p c.CA a.dq 2 2).bind λcq=>(gt a.d6 0).bind λcx=>(GN c.p c.CA cx).bind λcs=>(GN c.p c.CA a.du).bind λct=>(Fp cs ct).bind λcu=>(Fp cq cu).bind λaj=>some (aj,b.2)
else
if a.Op==2 then
J1 a d e b c (a.Op==2)
else
J1 a d e b c (a.Op==3)
def VQ{c:Bi}{a:AX}{r:Int×Bi}(h:CJ c a=some r):BF prog 248 [bA 6 (Hr c),.agg [si a.Op,si a.Fq,B0 a.dq,B0 a.e6,vS 4 BT a.d6,si a.du.Op,si a.du.N,B0 a.du.dq,vS 4 BT a.du.L,vS 11 BM a.dz,vS 11 BM a.ea]] (si r.1) [bA 6 (Hr r.2),.dead]:=by refine kL mix func248 (hn [(0,[15,16,17,19,20,21,23,25,27,84,101,131,188,189,190,191,197,198,199,200,205,206,245,246,247,248,255,256,257,258,263,264]),(3,[29,33,39,44,50,55,62,72,79,85,96,102,125,136,149,161,169,192,201,211,221,233,249,259,268,274,279]),(5,[132,134,167,219])] [(12,1),(17,3),(24,6),(40,8)] (E:=[(39,(.iH [(0,0,9,196)] [i0 196 .fl,i1 197 0 (.cp (.t 0)),i1 198 0 (.I6 (.t 197)),KK 199 0 4 198,Un 200 0 199,KK 201 3 2 3,iL 202 201,i0 203 (.Ot 1 [[B0 ⟨#[]⟩]] [(0,.t 202)]),i0 204 (.app 1 16 (.t 200) (.t 203)),i1 205 0 (.I6 (.t 0)),KK 206 0 4 205,iS 1 206 204])),(47,(.iH [(0,0,9,254)] [i0 254 .fl,i1 255 0 (.cp (.t 0)),i1 256 0 (.I6 (.t 255)),KK 257 0 5 256,Un 258 0 257,KK 259 3 2 3,iL 260 259,i0 261 (.Ot 1 [[B0 ⟨#[]⟩]] [(0,.t 260)]),i0 262 (.app 1 16 (.t 258) (.t 261)),i1 263 0 (.I6 (.t 0)),KK 264 0 5 263,iS 1 264 262]))])) ?_;have a1:=@Q6;have a2:=@Sv;have a3:=@dF;have a4:=@oI;have a5:=@Wf;have a6:=@Jx;have a7:=@Kg;have a8:=@IX;have c8:=iR 8 λc=>∃(b:mg)(l:Bool),(c 0=bA 6 (Hr b.2)/\c 3=bA 11 [si a.Op,si a.Fq,B0 a.dq,B0 a.e6,vS 4 BT a.d6,si a.du.Op,si a.du.N,B0 a.du.dq,vS 4 BT a.du.L,vS 11 BM a.dz,vS 11 BM a.ea]/\c 187=sb l)/\J8 a b l=some r;have c6:=iR 6 λf=>∃(d e b:mg)(j:Bool),(f 0=bA 6 (Hr b.2)/\f 3=bA 11 [si a.Op,si a.Fq,B0 a.dq,B0 a.e6,vS 4 BT a.d6,si a.du.Op,si a.du.N,B0 a.du.dq,vS 4 BT a.du.L,vS 11 BM a.dz,vS 11 BM a.ea]/\f 5=bA 2 (Cf c.p)/\f 6=si c.CA/\f 7=sb d.1/\f 8=sb e.1/\f 9=sb b.1/\f 30=si a.Op/\f 119=sb j)/\J6 a d e b c j=some r;have c3:=iR 3 λf=>∃(d e b:mg)(p:Bool),(f 0=bA 6 (Hr b.2)/\f 3=bA 11 [si a.Op,si a.Fq,B0 a.dq,B0 a.e6,vS 4 BT a.d6,si a.du.Op,si a.du.N,B0 a.du.dq,vS 4 BT a.du.L,vS 11 BM a.dz,vS 11 BM a.ea]/\f 5=bA 2 (Cf c.p)/\f 6=si c.CA/\f 7=sb d.1/\f 8=sb e.1/\f 9=sb b.1/\f 30=si a.Op/\f 91=sb p)/\J3 a d e b c p=some r;have c1:=iR 1 λf=>∃(d e b:mg)(o:Bool),(f 0=bA 6 (Hr b.2)/\f 3=bA 11 [si a.Op,si a.Fq,B0 a.dq,B0 a.e6,vS 4 BT a.d6,si a.du.Op,si a.du.N,B0 a.du.dq,vS 4 BT a.du.L,vS 11 BM a.dz,vS 11 BM a.ea]/\f 5=bA 2 (Cf c.p)/\f 6=si c.CA/\f 7=sb d.1/\f 8=sb e.1/\f 9=sb b.1/\f 30=si a.Op/\f 67=sb o)/\J1 a d e b c o=some r;unfold CJ at h;exact walk
end
def f83c:IC:=(Ra 10 [.b 6 [28,96] (.bx 7 (.t 1)),.b 7 [17] (.bx 6 (.t 2)),.o (.mv (.c (.own false 7 [])))]
(Ra 0 [.b 11 [50,105,110] (.mv (.c (.own false 7 [])))]
(Ra 17 [.f 4 7,.Z 18,.o (.mk 1 24 z15 (.t 19) (.t 19)),.b 12 [21,40,42,44,45,48,69,91,94,95,104] (.mv (.t 20))]
(Sq (Ra 21 [.y 12 (.cp (.t 12)),.Z 21,.Y 0]
(Bl 0 (Ra 24 [.O .lss 23 22]
(Sq (cX 24 0)
(Sq (Bk 1 (Ra 25 [.C 23,.M 13 25]
(Ra 26 [.C 4,.C 26,.G 27 true,.f 6 6,.C 13,.I 1 29 30,.L 31,.P .gtr 32 1,.e,.W 27 33,.C 34,.G 35 true,.y 0 (.cp (.t 0)),.o (.YR 132 [] (.t 36) none [.c (si 3)]),.P .eql 37 2,.e,.W 35 38]
(Ci 39 (Rc 40 [.y 12 (.cp (.t 12)),.C 13,.y 12 (.cp (.t 12)),.C 13,.J 12 1 42 43,.l 12 44,.o (.Ot 1 [[si 0]] [(0,.c (si 1))]),.o (.app 1 8 (.t 45) (.t 46)),.J 12 1 40 41,.S 1 48 47])))))
(Rc 49 [.P .add 23 1,.w 23,.C 49]))))))
(Sq (Bl 2 (Sq (O9 4 (Rc 50 [.y 11 (.cp (.t 11)),.Z 50,.C 3,.O .lss 51 52,.C 53,.G 54 true,.p 0 1,.r 0 0,.Z 62,.O .lss 58 63,.e,.W 54 64])
(cX 65 2))
(Bk 3 (Sq (.dP [.o (i1 66 0 (.cp (.t 0))),.o (iA 67 7 6),.o (iA 68 6 7),.o (i1 69 12 (.cp (.t 12))),.lb (some ⟨70,[],[]⟩) 134 (.t 66) [.t 67,.t 68] (.t 69),.o (⟨some ⟨14,[74,80,84,89,92,98,106],[]⟩,.bx 7 (.c (.agg z3)),none⟩),.o (iS 7 14 70)])
(Sq (.gz false 14 [(0,6,7)] (.gz false 14 [(0,5,7)] (Rc 72 [.A 6 7,.A 7 6,.y 14 (.ld true 7 (.t 14)),.c 55 [72,73,74] 1,.w 71,.C 75,.w 76,.o (.ext (.t 71) 0),.o (.ext (.t 71) 1),.w 15,.o (.bx 7 (.c (.agg z0))),.S 7 15 76,.M 16 77])))
(Sq (Ra 78 [.C 16,.N 78]
(Ci 79 (.exit 3)))
(Sq (Ra 80 [.f 1 14,.Q 81 3,.C 82,.G 83 false,.f 1 14,.P .eql 85 23,.e,.V 83 86]
(Ci 87 (.iH [(12,0,16,88)] [i0 88 .fl,KK 89 14 0 14,iL 90 89,i1 91 12 (.cp (.t 12)),KK 92 14 0 14,iL 93 92,qK 94 12 1 91 93,Un 95 12 94,KK 96 6 6 6,iL 97 96,KK 98 14 0 14,iL 99 98,iI 100 1 97 99,iL 101 100,i0 102 (.Ot 1 [[si 0]] [(0,.t 101)]),i0 103 (.app 1 8 (.t 95) (.t 102)),qK 104 12 1 12 90,iS 1 104 103])))
(Ra 105 [.y 11 (.cp (.t 11)),.y 14 (.ld true 7 (.t 14)),.o (.Ot 7 [z3] [(0,.t 106)]),.o (.app 7 88 (.t 105) (.t 107)),.b 11 [50,105,110] (.mv (.t 108))]
(Rc 109 [.A 7 15,.S 7 6 109])))))))))
(Rb 110 [.y 11 (.cp (.t 11)),.M 10 110]))))))
def f83g:Gi:=⟨[(17,[7]),(21,[12]),(28,[6]),(36,[0]),(40,[12]),(42,[12]),(44,[12]),(45,[12]),(48,[12]),(50,[11]),(55,[0]),(56,[0]),(57,[0]),(59,[0]),(60,[0]),(61,[0]),(62,[0]),(66,[0]),(69,[12]),(74,[14]),(80,[14]),(84,[14]),(89,[14]),(91,[12]),(92,[14]),(94,[12]),(95,[12]),(96,[6]),(98,[14]),(104,[12]),(105,[11]),(106,[14]),(110,[11])]⟩
def f83r:List RV:=[.tmp 10]
namespace DG
def J7(aj:AZ)(z:jo):ABm ((List AH)×AZ):=some (z,aj)
def J6(L2:kf)(c:jo)(j:AH×AZ)(s:mc)(ac:je):=if Aq (c.length+1) 88=true then
L2 j.2 s.1 (c++[j.1]) ac
else none
def J5(L2:kf)(c:jo)(d:je)(e:AD)(j:AH×AZ)(s:mc)(ae:Bool):=if ae then(gt d j.1.cT).bind λy=>(gt e.df j.1.cT).bind λao=>if Aq (y.length+1) 8=true then
J6 L2 c j s (d.set j.1.cT.toNat (y++[ao]))
else none
else
J6 L2 c j s d
def J4(L2:kf)(c:jo)(d:je)(e:AD)(i:AZ)(a:AG)(u:Bool):=if u then(En i e a d).bind λj=>(CC a e j.1).bind λs=>if !s.2 then
L2 j.2 e c d
else
if j.1.da==3 then
J5 L2 c d e j s true
else
J5 L2 c d e j s (j.1.da==23)
else
J7 i c
def L2(b:Int)(a:AG)(L2:kf)(i:AZ)(e:AD)(c:jo)(d:je):=if decide ((c.length:Int)<b)then
J4 L2 c d e i a (decide (i.At<(i.L.length:Int)))
else
J4 L2 c d e i a false
def B9(b:Int)(a:AG):Nat->AZ->AD->(List AH)->(List (List Int))->ABm ((List AH)×AZ)
|0,_,_,_,_=>none
|n+1,i,e,c,d=>L2 b a (B9 b a n) i e c d
def J3(b:Int)(l:AD)(a:AG)(ai:AZ)(ab:je):=B9 b a BQ ai l [] ab
def J2(L1:lc)(f:Int)(af:AZ)(aa:je):=L1 af aa (A9 (f+1))
def J1(L1:lc)(o:je)(f:Int)(v:AZ)(ad:Bool):=if ad then(gt o f).bind λx=>if Aq (x.length+1) 8=true then
J2 L1 f v (o.set f.toNat (x++[1]))
else none
else
J2 L1 f v o
def L1(p:Bool)(b:Int)(l:AD)(a:AG)(L1:lc)(q:AZ)(o:je)(f:Int):=if decide (f<(a.AB.length:Int))then
if p then(gt l.df f).bind λal=>if decide (al>1)then(Ao q 3).bind λw=>J1 L1 o f w.2 (w.1==2)
else
J1 L1 o f q false
else
J1 L1 o f q false
else
J3 b l a q o
def AU(p:Bool)(b:Int)(l:AD)(a:AG):Nat->AZ->(List (List Int))->Int->ABm ((List AH)×AZ)
|0,_,_,_=>none
|n+1,q,o,f=>L1 p b l a (AU p b l a n) q o f
end DG
section
open DG
def DG(t:AZ)(l:AD)(a:AG)(b:Int)(p:Bool):=if 0<=(a.AB.length:Int)/\(a.AB.length:Int)<=(a.AB.length:Int)/\Aq a.AB.length 24=true then
AU p b l a BQ t (List.replicate a.AB.length ([]:List Int)) 0
else none
def dT{t:AZ}{l:AD}{a:AG}{b:Int}{p:Bool}{r:(List AH)×AZ}(h:DG t l a b p=some r):BF prog 83 [bA 2 (Ft t),.agg (Bc l),.agg (A0 a),si b,sb p] (vS 7 Am r.1) [bA 2 (Ft r.2),.dead,.dead,.dead,.dead]:=by refine wP mix func83 (I:=⟨f83c,f83g,f83r⟩) ?_;simp only[f83c,f83g,f83r];have a1:=@aO;have a2:=@LP;have a3:=@DD;have l2:=iJ λn f=>∃i e c d,(f 0=bA 2 (Ft i)/\f 3=si b/\f 6=bA 7 (Bc e)/\f 7=bA 6 (A0 a)/\f 11=vO 7 Am c/\f 12=vO 1 KS d)/\B9 b a n i e c d=some r;have l1:=iJ λn c=>∃q o f,(c 0=bA 2 (Ft q)/\c 3=si b/\c 4=sb p/\c 6=bA 7 (Bc l)/\c 7=bA 6 (A0 a)/\c 11=.own false 7 []/\c 12=vO 1 KS o/\c 22=si (a.AB.length:Int)/\c 23=si f)/\AU p b l a n q o f=some r;have c4:=iz 4 λ_ f _ _ g=>∃c d e i u,(g 0=bA 2 (Ft i)/\g 3=si b/\g 6=bA 7 (Bc e)/\g 7=bA 6 (A0 a)/\g 11=vO 7 Am c/\g 12=vO 1 KS d/\g 65=sb u)/\J4 (B9 b a f) c d e i a u=some r;unfold DG at h;exact walk
end
namespace CF
def J4(a:AH)(d:AD):ABm (AD×Bool):=(gt d.df a.cT).bind λw=>some ((AD.mk d.dc d.dg d.AM (d.df.set a.cT.toNat (A9 (w+1)))),true)
def J3(a:AH)(b:AD)(c:AG)(o:Int):=(FV c b.dc a.cT a.da a.di o).bind λi=>if !i.2.2 then
some ((AD.mk (AP.mk [] 0 [] []) [] [] []),false)
else(Ii b.dg).bind λj=>(Ii b.AM).bind λl=>(slices_Clone_int b.df).bind λp=>if a.da==4 then(gt j a.di).bind λx=>J4 a (AD.mk i.1 (j.set a.di.toNat a.dm) l p)
else
if a.da==22 then(gt l a.di).bind λy=>J4 a (AD.mk i.1 j (l.set a.di.toNat a.dm) p)
else
J4 a (AD.mk i.1 j l p)
def J2(a:AH)(b:AD)(c:AG)(f:Bool):=if f then
some ((AD.mk (AP.mk [] 0 [] []) [] [] []),false)
else
if a.da==18 then
J3 a b c a.dm
else
J3 a b c (-1)
def J1(a:AH)(b:AD)(c:AG)(e:Bool):=if e then
some ((AD.mk (AP.mk [] 0 [] []) [] [] []),false)
else(D1 c b.dc a.cT a.da a.di).bind λs=>if !s then
J2 a b c true
else(Dg c a).bind λt=>if !t then
J2 a b c true
else(Ac c b a).bind λu=>if !u then
J2 a b c true
else(BK b a).bind λv=>J2 a b c (!v)
end CF
section
open CF
def CF(c:AG)(b:AD)(a:AH):=(E4 c b).bind λq=>if !q then
J1 a b c true
else
if decide (a.cT<0)then
J1 a b c true
else
if decide (a.cT>=(c.AB.length:Int))then
J1 a b c true
else
if decide (a.da<1)then
J1 a b c true
else
J1 a b c (decide (a.da>23))
def T8{c:AG}{b:AD}{a:AH}{r:mc}(h:CF c b a=some r):Says prog 96 [.agg (A0 c),.agg (Bc b),.agg (Am a)] (.Bp [.agg (Ia r.1),sb r.2]):=by refine kO mix func96 (hn [(3,[25]),(4,[42,79,96,99,102]),(5,[18,23,31,36,44,46,48,72,75,81,83,85,106,112,114,121,123,128]),(9,[95]),(11,[92]),(12,[110,111,116,119,120,125,126,127,130,133,134]),(88,[77,89,90,91])] [(2,1),(5,2),(8,3)]) ?_;have a1:=@Xk;have a2:=@QQ;have a3:=@MJ;have a4:=@Nd;have a5:=@RS;have a6:=@OA;have a7:=@RT;have a8:=@T9;have c3:=iR 3 λd=>∃o,(d 3=bA 6 (A0 c)/\d 4=bA 7 (Bc b)/\d 5=bA 7 (Am a)/\d 6=bA 7 z0/\d 8=si o)/\J3 a b c o=some r;have c2:=iR 2 λd=>∃f,(d 3=bA 6 (A0 c)/\d 4=bA 7 (Bc b)/\d 5=bA 7 (Am a)/\d 6=bA 7 z0/\d 70=sb f)/\J2 a b c f=some r;have c1:=iR 1 λd=>∃e,(d 3=bA 6 (A0 c)/\d 4=bA 7 (Bc b)/\d 5=bA 7 (Am a)/\d 6=bA 7 z0/\d 39=sb e)/\J1 a b c e=some r;unfold CF at h;exact walk
end
namespace EJ
def J3(p:A3):ABm A3:=some p
def L3(a:B5)(L3:nY)(d:A3)(i:Int):=if decide (i<(a.AB.length:Int))then(gt a.AB i).bind λe=>if 0<=e.Dk/\e.Dk<=e.Dk/\Aq e.Dk.toNat 8=true then
if 0<=e.Dk/\e.Dk<=e.Dk/\Aq e.Dk.toNat 24=true then
if Aq (d.AB.length+1) 64=true then
L3 (A3.mk d.dc d.dg d.AM (d.AB++[(AN.mk 0 (List.replicate e.Dk.toNat (0:Int)) (List.replicate e.Dk.toNat ([]:List Int)) 0)])) (A9 (i+1))
else none
else none
else none
else
J3 d
def Fw(a:B5):Nat->A3->Int->ABm A3
|0,_,_=>none
|n+1,d,i=>L3 a (Fw a n) d i
def J2(a:B5)(o:A3):=Fw a BQ o 0
def L2(a:B5)(L2:nY)(c:A3)(j:Int):=if decide (j<(a.db.AM.length:Int))then
if Aq (c.AM.length+1) 8=true then
L2 (A3.mk c.dc c.dg (c.AM++[0]) c.AB) (A9 (j+1))
else none
else
J2 a c
def B9(a:B5):Nat->A3->Int->ABm A3
|0,_,_=>none
|n+1,c,j=>L2 a (B9 a n) c j
def J1(a:B5)(l:A3):=B9 a BQ l 0
def L1(a:B5)(L1:nY)(b:A3)(f:Int):=if decide (f<(a.db.dg.length:Int))then(gt a.db.dg f).bind λt=>if Aq (b.dg.length+1) 8=true then
L1 (A3.mk b.dc (b.dg++[t.de]) b.AM b.AB) (A9 (f+1))
else none
else
J1 a b
def AU(a:B5):Nat->A3->Int->ABm A3
|0,_,_=>none
|n+1,b,f=>L1 a (AU a n) b f
end EJ
section
open EJ
def EJ(a:B5):=(C1 a).bind λq=>if !q then
some (A3.mk (AP.mk [] 0 [] []) [] [] [])
else(DW a.db).bind λs=>AU a BQ (A3.mk s [] [] []) 0
def Z5{a:B5}{r:A3}(h:EJ a=some r):Says prog 138 [.agg (KI a)] (.agg (NX r)):=by refine kO mix func138 (hn [(1,[11,16,17,25,26,36,37,49,57,64]),(3,[23,24,34,43,44,47,55,56,74,75])] (E:=[(15,(Rc 55 [.m 3 6 3,.f 6 1,.C 6,.I 2 58 59,.U 0 60,.o (.mk 1 8 [si 0] (.t 62) (.t 62)),.f 6 1,.C 6,.I 2 65 66,.U 0 67,.o (.mk 1 24 [.sl false 1 []] (.t 69) (.t 69)),.o (.UG z9 [(1,1,.t 63),(2,1,.t 70)]),.o (.Ot 4 [z9] [(0,.t 71)]),.o (.app 4 64 (.t 56) (.t 72)),.F 6 3,.S 1 74 73]))])) ?_;have a1:=@NC;have a2:=@RD;have l3:=iJ λn b=>∃d i,(b 1=bA 7 (KI a)/\b 2=bA 7 z4/\b 3=bA 7 (NX d)/\b 6=si i)/\Fw a n d i=some r;have l2:=iJ λn b=>∃c j,(b 1=bA 7 (KI a)/\b 2=bA 7 z4/\b 3=bA 7 (NX c)/\b 5=si j)/\B9 a n c j=some r;have l1:=iJ λn c=>∃b f,(c 1=bA 7 (KI a)/\c 2=bA 7 z4/\c 3=bA 7 (NX b)/\c 4=si f)/\AU a n b f=some r;unfold EJ at h;exact walk
end
namespace CD
def J5:=some true
def J4(L2:AD->Int->ABm Bool)(c:Int)(e:mc)(j:Bool):=if j then
some false
else
L2 e.1 (A9 (c+1))
def L2(a:AF)(L2:AD->Int->ABm Bool)(d:AD)(c:Int):=if decide (c<(a.AA.length:Int))then(gt a.AA c).bind λf=>(CC a.db d f).bind λe=>if !e.2 then
J4 L2 c e true
else(E9 a f.cT f.D4).bind λu=>if !u then
J4 L2 c e true
else(E9 a f.cT f.DL).bind λv=>J4 L2 c e (!v)
else
J5
def B9(a:AF):Nat->AD->Int->ABm Bool
|0,_,_=>none
|n+1,d,c=>L2 a (B9 a n) d c
def J3(a:AF):=B9 a BQ a.de 0
def J2(L1:i6)(b:Int)(l:Bool):=if l then
some false
else
L1 (A9 (b+1))
def L1(a:AF)(L1:i6)(b:Int):=if decide (b<(a.de.AM.length:Int))then(gt a.de.dc.Bs b).bind λw=>if !w then(gt a.de.AM b).bind λx=>J2 L1 b (x != 0)
else
J2 L1 b false
else
J3 a
def AU(a:AF):Nat->Int->ABm Bool
|0,_=>none
|n+1,b=>L1 a (AU a n) b
def J1(a:AF)(i:Bool):=if i then
some false
else
AU a BQ 0
end CD
section
open CD
def CD(a:AF):=(A6 a.db).bind λo=>if !o then
J1 a true
else(Ht a.db a.de).bind λp=>if !p then
J1 a true
else
if decide ((a.AA.length:Int)>16)then
J1 a true
else(FZ a).bind λq=>if !q then
J1 a true
else(CR a).bind λs=>if !s then
J1 a true
else(BC a).bind λt=>J1 a (!t)
def ND{a:AF}{r:Bool}(h:CD a=some r):Says prog 17 [.agg (A5 a)] (sb r):=by refine kO mix func17 (hn [(1,[9,14,16,22,43,44,50,51,52,59,60,67,70,76,82]),(6,[93,95,102,104])] [(2,1)]) ?_;have a1:=@LP;have a2:=@aD;have a3:=@Je;have a4:=@Sz;have a5:=@X2;have a6:=@VX;have a7:=@Wm;have l2:=iJ λn b=>∃d c,(b 1=bA 15 (A5 a)/\b 4=bA 7 (Bc d)/\b 5=si c)/\B9 a n d c=some r;have l1:=iJ λn c=>∃b,(c 1=bA 15 (A5 a)/\c 3=si b)/\AU a n b=some r;have c1:=iR 1 λb=>∃i,(b 1=bA 15 (A5 a)/\b 41=sb i)/\J1 a i=some r;unfold CD at h;exact walk
end
namespace Di
def J5(a:Aa):ABm Bool:=some (decide ((a.AB.length:Int)>0))
def J4(L2:i6)(b:Int):=L2 (A9 (b+1))
def J3(L2:i6)(b:Int)(f:Bool):=if f then
some false
else
J4 L2 b
def J2(L2:i6)(b:Int)(c:DB):=(CU c.dq).bind λl=>if !l then
J3 L2 b true
else(IA BQ c.dz).bind λo=>J3 L2 b (!o)
def L3(L2:i6)(b:Int)(c:DB)(L3:i6)(e:Int):=if decide (e<(c.Hp.length:Int))then(gt c.Hp e).bind λq=>(CU q).bind λj=>if !j then
some false
else
L3 (A9 (e+1))
else
J2 L2 b c
def Fw(L2:i6)(b:Int)(c:DB):Nat->Int->ABm Bool
|0,_=>none
|n+1,e=>L3 L2 b c (Fw L2 b c n) e
def L2(a:Aa)(L2:i6)(b:Int):=if decide (b<(a.AB.length:Int))then(gt a.AB b).bind λc=>Fw L2 b c BQ 0
else
J5 a
def B9(a:Aa):Nat->Int->ABm Bool
|0,_=>none
|n+1,b=>L2 a (B9 a n) b
def J1(a:Aa):=B9 a BQ 0
def L1(a:Aa)(L1:i6)(d:Int):=if decide (d<(a.ek.length:Int))then(gt a.ek d).bind λp=>(Dj p).bind λi=>if !i then
some false
else
L1 (A9 (d+1))
else
J1 a
def AU(a:Aa):Nat->Int->ABm Bool
|0,_=>none
|n+1,d=>L1 a (AU a n) d
end Di
section
open Di
def Di(a:Aa):=AU a BQ 0
def Xo{a:Aa}{r:Bool}(h:Di a=some r):Says prog 215 [.agg (Cf a)] (sb r):=by refine kO mix func215 (hn [(1,[8,14,22,28,57]),(5,[34,40,47,52])]) ?_;have a1:=@Im;have a2:=@QM;have a3:=@SZ;have l2:=iJ λn c=>∃b,(c 1=bA 2 (Cf a)/\c 4=si b)/\B9 a n b=some r;have l3:=iy λ_ d _ _ n f=>∃b c e,(f 1=bA 2 (Cf a)/\f 4=si b/\f 5=bA 4 (JO c)/\f 6=si e)/\Fw (B9 a d) b c n e=some r;have l1:=iJ λn b=>∃d,(b 1=bA 2 (Cf a)/\b 3=si d)/\AU a n d=some r;unfold Di at h;exact walk
end
namespace Gs
def J3:=some true
def J2(L1:i6)(c:Int)(i:Bool):=if i then
some false
else
L1 (A9 (c+1))
def L1(a:B5)(b:A3)(L1:i6)(c:Int):=if decide (c<(a.AB.length:Int))then(gt b.AB c).bind λe=>if decide (e.PC<0)then
J2 L1 c true
else(gt a.AB c).bind λf=>if decide (e.PC>=(f.Cq.length:Int))then
J2 L1 c true
else
if(e.Dk.length:Int) != f.Dk then
J2 L1 c true
else
J2 L1 c ((e.Dq.length:Int) != f.Dk)
else
J3
def AU(a:B5)(b:A3):Nat->Int->ABm Bool
|0,_=>none
|n+1,c=>L1 a b (AU a b n) c
def J1(a:B5)(b:A3)(d:Bool):=if d then
some false
else
AU a b BQ 0
end Gs
section
open Gs
def Gs(a:B5)(b:A3):=(C1 a).bind λj=>if !j then
J1 a b true
else(E7 a.db b.dc).bind λl=>if !l then
J1 a b true
else
if(b.dg.length:Int) != (a.db.dg.length:Int)then
J1 a b true
else
if(b.AM.length:Int) != (a.db.AM.length:Int)then
J1 a b true
else
J1 a b ((b.AB.length:Int) != (a.AB.length:Int))
def dJ{a:B5}{b:A3}{r:Bool}(h:Gs a b=some r):Says prog 239 [.agg (KI a),.agg (K6 b)] (sb r):=by refine kO mix func239 (hn [(2,[11,22,23,32,33,42,48,65,78,90]),(3,[13,19,29,39,54]),(6,[59,63,75,87])] [(2,1)]) ?_;have a1:=@NC;have a2:=@N6;have l1:=iJ λn d=>∃c,(d 2=bA 7 (KI a)/\d 3=bA 7 (K6 b)/\d 5=si c)/\AU a b n c=some r;have c1:=iR 1 λc=>∃d,(c 2=bA 7 (KI a)/\c 3=bA 7 (K6 b)/\c 46=sb d)/\J1 a b d=some r;unfold Gs at h;exact walk
end
namespace HE
def J2:np:=some (0,0)
def J1(L1:AD->Int->ABm (Int×Int))(b:Int)(d:mc)(f:Bool):=if f then
some (b,12)
else
L1 d.1 (A9 (b+1))
def L1(a:Cu)(L1:AD->Int->ABm (Int×Int))(c:AD)(b:Int):=if decide (b<(a.AA.length:Int))then(gt a.AA b).bind λe=>(CC a.db c e).bind λd=>if !d.2 then
J1 L1 b d true
else(DX a.AA b e.cT e.D4).bind λl=>if !l then
J1 L1 b d true
else(DX a.AA b e.cT e.DL).bind λo=>J1 L1 b d (!o)
else
J2
def AU(a:Cu):Nat->AD->Int->ABm (Int×Int)
|0,_,_=>none
|n+1,c,b=>L1 a (AU a n) c b
end HE
section
open HE
def HE(a:Cu):=if decide ((a.AA.length:Int)>400)then
some (0,2)
else(A6 a.db).bind λi=>if !i then
some (0,1)
else(E5 a.db).bind λj=>AU a BQ j 0
def Z6{a:Cu}{r:Int×Int}(h:HE a=some r):Says prog 88 [.agg (TO a)] (.Bp [si r.1,si r.2]):=by refine kO mix func88 (hn [(1,[9,13,17,21,27,33,43,54]),(4,[35]),(6,[46,48,57,59]),(7,[65]),(8,[40]),(37,[32,38,39])] (C:=[(55,2)])) ?_;have a1:=@Je;have a2:=@JF;have a3:=@LP;have a4:=@Z7;have l1:=iJ λn d=>∃c b,(d 1=bA 7 (TO a)/\d 4=bA 7 (Ia c)/\d 5=si b)/\AU a n c b=some r;unfold HE at h;exact walk
end
namespace He
def J1(e:AD):ABm AD:=some e
def L1(b:Int)(a:Cu)(L1:AD->Int->ABm AD)(d:AD)(c:Int):=if decide (c<b)then(gt a.AA c).bind λj=>(CC a.db d j).bind λi=>L1 i.1 (A9 (c+1))
else
J1 d
def AU(b:Int)(a:Cu):Nat->AD->Int->ABm AD
|0,_,_=>none
|n+1,d,c=>L1 b a (AU b a n) d c
end He
section
open He
def He(a:Cu)(b:Int):=(E5 a.db).bind λf=>AU b a BQ f 0
def aB{a:Cu}{b:Int}{r:AD}(h:He a b=some r):Says prog 89 [.agg (TO a),si b] (.agg (Ia r)):=by refine kO mix func89 (hn [(2,[7,16,19]),(5,[18,27]),(24,[25])] (E:=[(5,(.iH [(24,9,10,15)] [KK 16 2 0 2,iA 17 6 16,i1 18 5 (.ld true 7 (.t 5)),KK 19 2 6 2,iL 20 19,iC 21 6,iI 22 7 20 21,iA 23 7 22,⟨some ⟨24,[25],[]⟩,.call 55 [.t 17,.t 18,.t 23] 2,none⟩,i0 15 (.flk (.t 24) 1),i1 25 24 (.ext (.t 24) 0),i0 26 .fl,iS 7 5 25]))])) ?_;have a1:=@JF;have a2:=@LP;have l1:=iJ λn e=>∃d c,(e 1=si b/\e 2=bA 7 (TO a)/\e 4=bA 7 z0/\e 5=bA 7 (Ia d)/\e 6=si c)/\AU b a n d c=some r;unfold He at h;exact walk
end
end Go.Abs
