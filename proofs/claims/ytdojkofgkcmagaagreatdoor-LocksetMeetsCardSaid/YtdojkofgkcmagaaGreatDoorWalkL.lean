/- Typed programs of Go functions, and that the functions do what these say. -/
import Derived.Test.YtdojkofgkcmagaaGreatDoorWalkK
set_option linter.defProp false
set_option linter.unusedSimpArgs false
set_option linter.unusedVariables false
namespace Go.Abs
open Go.Proofs Tryz
set_option maxRecDepth 1000000
set_option maxHeartbeats 4000000
namespace BV
def J2(cv:BX)(ac:Int):ABu (Int×BX):=
some (ac,cv)
def J4(cw:BX)(ad:Int):ABu (Int×BX):=
some (ad,cw)
def J5(b:lv)(ae:Int):ABu (Int×BX):=
some (ae,b.2)
def J7(f:lv)(af:Int):ABu (Int×BX):=
some (af,f.2)
def J8(a:AR)(b:lv)(l:Bool):ABu (Int×BX):=
if l then
some (7,b.2)
else
(Ch b.2.NG a.di).bind λbl=>
if decide (bl>=0)then
some (8,b.2)
else
if Am (b.2.NG.length+1) 16=true then
some (0,(BX.mk b.2.p b.2.Bt b.2.G3 (b.2.NG++[a.di]) b.2.aQ))
else none
def J9(b:lv)(ai:Int):ABu (Int×BX):=
some (ai,b.2)
def vY(a:AR)(b:lv)(c:BX)(aa:Int):ABu (Int×BX):=
if Am (b.2.aQ.length+1) 16=true then
(Fl c.p c.Bt a.dv).bind λce=>
(Fm aa ce).bind λcf=>
some (cf,(BX.mk b.2.p b.2.Bt b.2.G3 b.2.NG (b.2.aQ++[a.di])))
else none
def bT(i:Int)(a:AR)(b:lv)(c:BX)(ab:Bool):ABu (Int×BX):=
if ab then
vY a b c 8
else
vY a b c i
def QP(a:AR)(b:lv)(c:BX)(i:Int):ABu (Int×BX):=
if i==0 then
(Ch b.2.aQ a.di).bind λcd=>
bT i a b c (decide (cd>=0))
else
bT i a b c false
def J6(a:AR)(d e b:lv)(c:BX)(j:Bool):=
if j then
(Dk c.p c.Bt a.di 5 5).bind λw=>
if w != 0 then
some (w,b.2)
else
(DD c.p.d9 a.di).bind λbc=>
(gt c.p.d9 bc).bind λcy=>
(Bn b.2 4 4 cy.On).bind λf=>
if d.1 then
(CM true).bind λbe=>
J7 f be
else
if !f.1 then
(CM true).bind λbf=>
J7 f bf
else
if a.Op==9 then
(CM e.1).bind λbi=>
J7 f bi
else
(CM false).bind λbj=>
J7 f bj
else
if a.Op==12 then
(Dk c.p c.Bt a.di 7 7).bind λx=>
if x != 0 then
some (x,b.2)
else
(DB c.p.AA a.di).bind λy=>
if d.1 then
J8 a b true
else
if e.1 then
J8 a b true
else
if b.1 then
J8 a b true
else
if y==c.Bt then
J8 a b true
else
J8 a b (y==0)
else
if a.Op==13 then
(Dk c.p c.Bt a.di 7 7).bind λq=>
if d.1 then
(CM true).bind λbo=>
(Fm q bo).bind λbp=>
J9 b bp
else
if e.1 then
(CM true).bind λbs=>
(Fm q bs).bind λbt=>
J9 b bt
else
(DB c.p.AA a.di).bind λbu=>
(CM (bu==c.Bt)).bind λbv=>
(Fm q bv).bind λbw=>
J9 b bw
else
if a.Op==14 then
(Dk c.p c.Bt a.di 6 6).bind λz=>
if d.1 then
(CM true).bind λbx=>
(Fm z bx).bind λbz=>
QP a b c bz
else
(CM b.1).bind λca=>
(Fm z ca).bind λcb=>
QP a b c cb
else
(Dk c.p c.Bt a.di 8 8).bind λci=>
(Dk c.p c.Bt a.ep 6 6).bind λcj=>
(CM d.1).bind λcl=>
(Fm cj cl).bind λco=>
(Fm ci co).bind λcp=>
some (cp,b.2)
def J3(a:AR)(d e b:lv)(c:BX)(p:Bool):=
if p then
(Dk c.p c.Bt a.di 4 4).bind λu=>
if d.1 then
(CM true).bind λav=>
(Fm u av).bind λaw=>
J4 b.2 aw
else
(Bn b.2 5 6 a.di).bind λv=>
(CM v.1).bind λax=>
(Fm u ax).bind λay=>
J4 v.2 ay
else
if a.Op==7 then
(CM d.1).bind λaz=>
some (az,b.2)
else
if a.Op==8 then
if d.1 then
(CM true).bind λba=>
J5 b ba
else
(CM e.1).bind λbb=>
J5 b bb
else
if a.Op==9 then
J6 a d e b c (a.Op==9)
else
if a.Op==10 then
J6 a d e b c (a.Op==10)
else
J6 a d e b c (a.Op==11)
def J1(a:AR)(d e b:lv)(c:BX)(o:Bool):=
if o then
(Fl c.p c.Bt a.dv).bind λal=>
some (al,b.2)
else
if a.Op==4 then
(Dk c.p c.Bt a.di 3 3).bind λs=>
if d.1 then
(CM true).bind λao=>
(Fm s ao).bind λap=>
J2 b.2 ap
else
(Bn b.2 4 4 a.di).bind λt=>
(CM t.1).bind λaq=>
(Fm s aq).bind λau=>
J2 t.2 au
else
if a.Op==5 then
J3 a d e b c (a.Op==5)
else
J3 a d e b c (a.Op==6)
end BV
section
open BV
def BV(c:BX)(a:AR):=
(Bn c 7 7 (⟨#[]⟩:ABv)).bind λd=>
(Bn d.2 8 8 (⟨#[]⟩:ABv)).bind λe=>
(Bn e.2 3 3 (⟨#[]⟩:ABv)).bind λb=>
if a.Op==1 then
if(a.dz.length:Int)==0 then
(Dk c.p c.Bt a.di 8 1).bind λbd=>
(Fl c.p c.Bt a.dv).bind λbq=>
(Fm bd bq).bind λcc=>
some (cc,b.2)
else
(Dk c.p c.Bt a.di 2 2).bind λcq=>
(gt a.dz 0).bind λcx=>
(Fl c.p c.Bt cx).bind λcs=>
(Fl c.p c.Bt a.dv).bind λct=>
(Fm cs ct).bind λcu=>
(Fm cq cu).bind λaj=>
some (aj,b.2)
else
if a.Op==2 then
J1 a d e b c (a.Op==2)
else
J1 a d e b c (a.Op==3)
def VA{c:BX}{a:AR}{r:Int×BX}(h:BV c a=some r):BB prog 248 [bA 6 (Hx c),.agg [si a.Op,si a.GH,Bq a.di,Bq a.ep,vS 4 BR a.dz,si a.dv.Op,si a.dv.N,Bq a.dv.di,vS 4 BR a.dv.L,vS 11 BJ a.dx,vS 11 BJ a.d7]] (si r.1) [bA 6 (Hx r.2),.dead]:=by refine kL mix func248 (hn [(0,[15,16,17,19,20,21,23,25,27,84,101,131,188,189,190,191,197,198,199,200,205,206,245,246,247,248,255,256,257,258,263,264]),(3,[29,33,39,44,50,55,62,72,79,85,96,102,125,136,149,161,169,192,201,211,221,233,249,259,268,274,279]),(5,[132,134,167,219])] [(12,1),(17,3),(24,6),(40,8)] (E:=[(39,(.jB [(0,0,9,196)] [i0 196 .fl,i1 197 0 (.cp (.t 0)),i1 198 0 (.I6 (.t 197)),Kf 199 0 4 198,Vg 200 0 199,Kf 201 3 2 3,iL 202 201,i0 203 (.OR 1 [[Bq ⟨#[]⟩]] [(0,.t 202)]),i0 204 (.app 1 16 (.t 200) (.t 203)),i1 205 0 (.I6 (.t 0)),Kf 206 0 4 205,iS 1 206 204])),(47,(.jB [(0,0,9,254)] [i0 254 .fl,i1 255 0 (.cp (.t 0)),i1 256 0 (.I6 (.t 255)),Kf 257 0 5 256,Vg 258 0 257,Kf 259 3 2 3,iL 260 259,i0 261 (.OR 1 [[Bq ⟨#[]⟩]] [(0,.t 260)]),i0 262 (.app 1 16 (.t 258) (.t 261)),i1 263 0 (.I6 (.t 0)),Kf 264 0 5 263,iS 1 264 262]))])) ?_;have a1:= @Qx;have a2:= @Sx;have a3:= @cU;have a4:= @oU;have a5:= @V5;have a6:= @KG;have a7:= @K4;have a8:= @Ic;have c8:=ip 8 λ_ _ _ _ c=>∃(b:lv)(l:Bool),(c 0=bA 6 (Hx b.2)/\c 3=bA 11 [si a.Op,si a.GH,Bq a.di,Bq a.ep,vS 4 BR a.dz,si a.dv.Op,si a.dv.N,Bq a.dv.di,vS 4 BR a.dv.L,vS 11 BJ a.dx,vS 11 BJ a.d7]/\c 187=sb l)/\J8 a b l=some r;have c6:=ip 6 λ_ _ _ _ f=>∃(d e b:lv)(j:Bool),(f 0=bA 6 (Hx b.2)/\f 3=bA 11 [si a.Op,si a.GH,Bq a.di,Bq a.ep,vS 4 BR a.dz,si a.dv.Op,si a.dv.N,Bq a.dv.di,vS 4 BR a.dv.L,vS 11 BJ a.dx,vS 11 BJ a.d7]/\f 5=bA 2 (Cf c.p)/\f 6=si c.Bt/\f 7=sb d.1/\f 8=sb e.1/\f 9=sb b.1/\f 30=si a.Op/\f 119=sb j)/\J6 a d e b c j=some r;have c3:=ip 3 λ_ _ _ _ f=>∃(d e b:lv)(p:Bool),(f 0=bA 6 (Hx b.2)/\f 3=bA 11 [si a.Op,si a.GH,Bq a.di,Bq a.ep,vS 4 BR a.dz,si a.dv.Op,si a.dv.N,Bq a.dv.di,vS 4 BR a.dv.L,vS 11 BJ a.dx,vS 11 BJ a.d7]/\f 5=bA 2 (Cf c.p)/\f 6=si c.Bt/\f 7=sb d.1/\f 8=sb e.1/\f 9=sb b.1/\f 30=si a.Op/\f 91=sb p)/\J3 a d e b c p=some r;have c1:=ip 1 λ_ _ _ _ f=>∃(d e b:lv)(o:Bool),(f 0=bA 6 (Hx b.2)/\f 3=bA 11 [si a.Op,si a.GH,Bq a.di,Bq a.ep,vS 4 BR a.dz,si a.dv.Op,si a.dv.N,Bq a.dv.di,vS 4 BR a.dv.L,vS 11 BJ a.dx,vS 11 BJ a.d7]/\f 5=bA 2 (Cf c.p)/\f 6=si c.Bt/\f 7=sb d.1/\f 8=sb e.1/\f 9=sb b.1/\f 30=si a.Op/\f 67=sb o)/\J1 a d e b c o=some r;unfold BV at h;exact walk
end
def f83c:IC:=(Ra 10 [.b 6 [28,96] (.bx 7 (.t 1)),.b 7 [17] (.bx 6 (.t 2)),.o (.mv (.c (.own false 7 [])))]
(Ra 0 [.b 11 [50,105,110] (.mv (.c (.own false 7 [])))]
(Ra 17 [.f 4 7,.Z 18,.o (.mk 1 24 z15 (.t 19) (.t 19)),.b 12 [21,40,42,44,45,48,69,91,94,95,104] (.mv (.t 20))]
(Sq (Ra 21 [.y 12 (.cp (.t 12)),.Z 21,.Y 0]
(Bl 0 (Ra 24 [.O .lss 23 22]
(Sq (cX 24 0)
(Sq (Bk 1 (Ra 25 [.C 23,.M 13 25]
(Ra 26 [.C 4,.C 26,.G 27 true,.f 6 6,.C 13,.I 1 29 30,.L 31,.P .gtr 32 1,.e,.W 27 33,.C 34,.G 35 true,.y 0 (.cp (.t 0)),.o (.Vx 132 [] (.t 36) none [.c (si 3)]),.P .eql 37 2,.e,.W 35 38]
(Ci 39 (Rc 40 [.y 12 (.cp (.t 12)),.C 13,.y 12 (.cp (.t 12)),.C 13,.J 12 1 42 43,.l 12 44,.o (.OR 1 [[si 0]] [(0,.c (si 1))]),.o (.app 1 8 (.t 45) (.t 46)),.J 12 1 40 41,.S 1 48 47])))))
(Rc 49 [.P .add 23 1,.w 23,.C 49]))))))
(Sq (Bl 2 (Sq (O6 4 (Rc 50 [.y 11 (.cp (.t 11)),.Z 50,.C 3,.O .lss 51 52,.C 53,.G 54 true,.p 0 1,.r 0 0,.Z 62,.O .lss 58 63,.e,.W 54 64])
(cX 65 2))
(Bk 3 (Sq (.fR [.o (i1 66 0 (.cp (.t 0))),.o (iA 67 7 6),.o (iA 68 6 7),.o (i1 69 12 (.cp (.t 12))),.lb (some ⟨70,[],[]⟩) 134 (.t 66) [.t 67,.t 68] (.t 69),.o (⟨some ⟨14,[74,80,84,89,92,98,106],[]⟩,.bx 7 (.c (.agg z3)),none⟩),.o (iS 7 14 70)])
(Sq (.gz false 14 [(0,6,7)] (.gz false 14 [(0,5,7)] (Rc 72 [.A 6 7,.A 7 6,.y 14 (.ld true 7 (.t 14)),.c 55 [72,73,74] 1,.w 71,.C 75,.w 76,.o (.ext (.t 71) 0),.o (.ext (.t 71) 1),.w 15,.o (.bx 7 (.c (.agg z0))),.S 7 15 76,.M 16 77])))
(Sq (Ra 78 [.C 16,.N 78]
(Ci 79 (.exit 3)))
(Sq (Ra 80 [.f 1 14,.Q 81 3,.C 82,.G 83 false,.f 1 14,.P .eql 85 23,.e,.V 83 86]
(Ci 87 (.jB [(12,0,16,88)] [i0 88 .fl,Kf 89 14 0 14,iL 90 89,i1 91 12 (.cp (.t 12)),Kf 92 14 0 14,iL 93 92,tY 94 12 1 91 93,Vg 95 12 94,Kf 96 6 6 6,iL 97 96,Kf 98 14 0 14,iL 99 98,iI 100 1 97 99,iL 101 100,i0 102 (.OR 1 [[si 0]] [(0,.t 101)]),i0 103 (.app 1 8 (.t 95) (.t 102)),tY 104 12 1 12 90,iS 1 104 103])))
(Ra 105 [.y 11 (.cp (.t 11)),.y 14 (.ld true 7 (.t 14)),.o (.OR 7 [z3] [(0,.t 106)]),.o (.app 7 88 (.t 105) (.t 107)),.b 11 [50,105,110] (.mv (.t 108))]
(Rc 109 [.A 7 15,.S 7 6 109])))))))))
(Rb 110 [.y 11 (.cp (.t 11)),.M 10 110]))))))
def f83g:Gi:=⟨[(17,[7]),(21,[12]),(28,[6]),(36,[0]),(40,[12]),(42,[12]),(44,[12]),(45,[12]),(48,[12]),(50,[11]),(55,[0]),(56,[0]),(57,[0]),(59,[0]),(60,[0]),(61,[0]),(62,[0]),(66,[0]),(69,[12]),(74,[14]),(80,[14]),(84,[14]),(89,[14]),(91,[12]),(92,[14]),(94,[12]),(95,[12]),(96,[6]),(98,[14]),(104,[12]),(105,[11]),(106,[14]),(110,[11])]⟩
def f83r:List RV:=[.tmp 10]
namespace CR
def J7(aj:AX)(z:jm):ABu ((List AH)×AX):=
some (z,aj)
def J6(L2:jz)(c:jm)(j:AH×AX)(s:ls)(ac:jb):=
if Am (c.length+1) 88=true then
L2 j.2 s.1 (c++[j.1]) ac
else none
def J5(L2:jz)(c:jm)(d:jb)(e:AD)(j:AH×AX)(s:ls)(ae:Bool):=
if ae then
(gt d j.1.cr).bind λy=>
(gt e.dc j.1.cr).bind λao=>
if Am (y.length+1) 8=true then
J6 L2 c j s (d.set j.1.cr.toNat (y++[ao]))
else none
else
J6 L2 c j s d
def J4(L2:jz)(c:jm)(d:jb)(e:AD)(i:AX)(a:AF)(u:Bool):=
if u then
(Df i e a d).bind λj=>
(B1 a e j.1).bind λs=>
if !s.2 then
L2 j.2 e c d
else
if j.1.da==3 then
J5 L2 c d e j s true
else
J5 L2 c d e j s (j.1.da==23)
else
J7 i c
def L2(b:Int)(a:AF)(L2:jz)(i:AX)(e:AD)(c:jm)(d:jb):=
if decide ((c.length:Int)<b)then
J4 L2 c d e i a (decide (i.At<(i.L.length:Int)))
else
J4 L2 c d e i a false
def CC(b:Int)(a:AF):Nat->AX->AD->(List AH)->(List (List Int))->ABu ((List AH)×AX)
|0,_,_,_,_=>none
|n+1,i,e,c,d=>L2 b a (CC b a n) i e c d
def J3(b:Int)(l:AD)(a:AF)(ai:AX)(ab:jb):=
CC b a BT ai l [] ab
def J2(L1:ko)(f:Int)(af:AX)(aa:jb):=
L1 af aa (A6 (f+1))
def J1(L1:ko)(o:jb)(f:Int)(v:AX)(ad:Bool):=
if ad then
(gt o f).bind λx=>
if Am (x.length+1) 8=true then
J2 L1 f v (o.set f.toNat (x++[1]))
else none
else
J2 L1 f v o
def L1(p:Bool)(b:Int)(l:AD)(a:AF)(L1:ko)(q:AX)(o:jb)(f:Int):=
if decide (f<(a.AA.length:Int))then
if p then
(gt l.dc f).bind λal=>
if decide (al>1)then
(Al q 3).bind λw=>
J1 L1 o f w.2 (w.1==2)
else
J1 L1 o f q false
else
J1 L1 o f q false
else
J3 b l a q o
def AW(p:Bool)(b:Int)(l:AD)(a:AF):Nat->AX->(List (List Int))->Int->ABu ((List AH)×AX)
|0,_,_,_=>none
|n+1,q,o,f=>L1 p b l a (AW p b l a n) q o f
end CR
section
open CR
def CR(t:AX)(l:AD)(a:AF)(b:Int)(p:Bool):=
if 0<=(a.AA.length:Int)/\(a.AA.length:Int)<=(a.AA.length:Int)/\Am a.AA.length 24=true then
AW p b l a BT t (List.replicate a.AA.length ([]:List Int)) 0
else none
def dJ{t:AX}{l:AD}{a:AF}{b:Int}{p:Bool}{r:(List AH)×AX}(h:CR t l a b p=some r):BB prog 83 [bA 2 (GO t),.agg (BQ l),.agg (Aw a),si b,sb p] (vS 7 A7 r.1) [bA 2 (GO r.2),.dead,.dead,.dead,.dead]:=by refine wP mix func83 (I:=⟨f83c,f83g,f83r⟩) ?_;simp only[f83c,f83g,f83r];have a1:= @aL;have a2:= @Lk;have a3:= @DT;have l2:=im λ_ _ _ _ n f=>∃i e c d,(f 0=bA 2 (GO i)/\f 3=si b/\f 6=bA 7 (BQ e)/\f 7=bA 6 (Aw a)/\f 11=vO 7 A7 c/\f 12=vO 1 N6 d)/\CC b a n i e c d=some r;have l1:=im λ_ _ _ _ n c=>∃q o f,(c 0=bA 2 (GO q)/\c 3=si b/\c 4=sb p/\c 6=bA 7 (BQ l)/\c 7=bA 6 (Aw a)/\c 11= .own false 7 []/\c 12=vO 1 N6 o/\c 22=si (a.AA.length:Int)/\c 23=si f)/\AW p b l a n q o f=some r;have c4:=ip 4 λ_ f _ _ g=>∃c d e i u,(g 0=bA 2 (GO i)/\g 3=si b/\g 6=bA 7 (BQ e)/\g 7=bA 6 (Aw a)/\g 11=vO 7 A7 c/\g 12=vO 1 N6 d/\g 65=sb u)/\J4 (CC b a f) c d e i a u=some r;unfold CR at h;exact walk
end
namespace Ew
def J5(u:Ac)(y:kv):ABu ((List Ao)×Ac):=
some (y,u)
def J4(L1:jy)(c:Int)(t:Ac)(x:kv):=
L1 t x (A6 (c+1))
def J3(L1:jy)(b:Ac)(c:Int)(i e:kv)(a:AG)(w:Int):=
(gt i w).bind λs=>
(Ji a b s).bind λab=>
if Am (e.length+1) 16=true then
J4 L1 c ab.1 (e++[s])
else none
def J2(L1:jy)(b:Ac)(c:Int)(d:iq)(e:kv)(a:AG)(i:kv):=
if(i.length:Int)==0 then
J5 b e
else
(gt d c).bind λq=>
if¬(i.length:Int)=0 then
if decide ((q.tmod (i.length:Int))<0)then
J3 L1 b c i e a (A6 ((q.tmod (i.length:Int))+(i.length:Int)))
else
J3 L1 b c i e a (q.tmod (i.length:Int))
else none
def J1(L2:kh)(f:Int)(v:kv):=
L2 v (A6 (f+1))
def L3(L2:kh)(f:Int)(j:iq)(L3:kh)(p:kv)(l:Int):=
if decide (l<(j.length:Int))then
(gt j l).bind λac=>
if Am (p.length+1) 16=true then
L3 (p++[(Ao.mk f ac)]) (A6 (l+1))
else none
else
J1 L2 f p
def Gc(L2:kh)(f:Int)(j:iq):Nat->(List Ao)->Int->ABu ((List Ao)×Ac)
|0,_,_=>none
|n+1,p,l=>L3 L2 f j (Gc L2 f j n) p l
def L2(L1:jy)(b:Ac)(c:Int)(d:iq)(e:kv)(a:AG)(L2:kh)(o:kv)(f:Int):=
if decide (f<(a.cT.AA.length:Int))then
(E5 a b f).bind λaa=>
if !aa then
J1 L2 f o
else
(Ir a b f).bind λj=>
Gc L2 f j BT o 0
else
J2 L1 b c d e a o
def CC(L1:jy)(b:Ac)(c:Int)(d:iq)(e:kv)(a:AG):Nat->(List Ao)->Int->ABu ((List Ao)×Ac)
|0,_,_=>none
|n+1,o,f=>L2 L1 b c d e a (CC L1 b c d e a n) o f
def L1(d:iq)(a:AG)(L1:jy)(b:Ac)(e:kv)(c:Int):=
if decide (c<(d.length:Int))then
CC L1 b c d e a BT [] 0
else
J5 b e
def AW(d:iq)(a:AG):Nat->Ac->(List Ao)->Int->ABu ((List Ao)×Ac)
|0,_,_,_=>none
|n+1,b,e,c=>L1 d a (AW d a n) b e c
end Ew
section
open Ew
def Ew(a:AG)(d:iq):=
(Hg a).bind λz=>
AW d a BT z [] 0
def dF{a:AG}{d:iq}{r:kn}(h:Ew a d=some r):Says prog 23 [.agg (A4 a),vS 1 eI d] (.BZ [vS 2 HD r.1,.agg (IH r.2)]):=by refine kF mix func23 (hn [(2,[23,24]),(7,[80,87]),(9,[45,54,61,67,73,75,81,83]),(11,[40,47,49])]) ?_;have a1:= @Z9;have a2:= @dD;have a3:= @Lb;have a4:= @aB;have l1:=im λ_ _ _ _ n f=>∃b e c,(f 1=vS 1 eI d/\f 2=bA 15 (A4 a)/\f 5=bA 9 z7/\f 6=bA 9 (IH b)/\f 7=vO 2 HD e/\f 8=si c)/\AW d a n b e c=some r;have l2:=im λg _ _ _ n h=>∃b c e o f,(h 1=vS 1 eI d/\h 2=bA 15 (A4 a)/\h 5=bA 9 z7/\h 6=bA 9 (IH b)/\h 7=vO 2 HD e/\h 8=si c/\h 9=vO 2 HD o/\h 10=si f)/\CC (AW d a g) b c d e a n o f=some r;have l3:=im λg h _ _ n i=>∃b c e f j p l,(i 1=vS 1 eI d/\i 2=bA 15 (A4 a)/\i 5=bA 9 z7/\i 6=bA 9 (IH b)/\i 7=vO 2 HD e/\i 8=si c/\i 9=vO 2 HD p/\i 10=si f/\i 11=vO 1 eI j/\i 12=si l)/\Gc (CC (AW d a g) b c d e a h) f j n p l=some r;unfold Ew at h;exact walk
end
namespace Bu
def J4(a:AH)(d:AD):ABu (AD×Bool):=
(gt d.dc a.cr).bind λw=>
some ((AD.mk d.de d.df d.AL (d.dc.set a.cr.toNat (A6 (w+1)))),true)
def J3(a:AH)(b:AD)(c:AF)(o:Int):=
(Fk c b.de a.cr a.da a.dn o).bind λi=>
if !i.2.2 then
some ((AD.mk (AQ.mk [] 0 [] []) [] [] []),false)
else
(Io b.df).bind λj=>
(Io b.AL).bind λl=>
(slices_Clone_int b.dc).bind λp=>
if a.da==4 then
(gt j a.dn).bind λx=>
J4 a (AD.mk i.1 (j.set a.dn.toNat a.dh) l p)
else
if a.da==22 then
(gt l a.dn).bind λy=>
J4 a (AD.mk i.1 j (l.set a.dn.toNat a.dh) p)
else
J4 a (AD.mk i.1 j l p)
def J2(a:AH)(b:AD)(c:AF)(f:Bool):=
if f then
some ((AD.mk (AQ.mk [] 0 [] []) [] [] []),false)
else
if a.da==18 then
J3 a b c a.dh
else
J3 a b c (-1)
def J1(a:AH)(b:AD)(c:AF)(e:Bool):=
if e then
some ((AD.mk (AQ.mk [] 0 [] []) [] [] []),false)
else
(D8 c b.de a.cr a.da a.dn).bind λs=>
if !s then
J2 a b c true
else
(Dq c a).bind λt=>
if !t then
J2 a b c true
else
(Ae c b a).bind λu=>
if !u then
J2 a b c true
else
(BE b a).bind λv=>
J2 a b c (!v)
end Bu
section
open Bu
def Bu(c:AF)(b:AD)(a:AH):=
(E4 c b).bind λq=>
if !q then
J1 a b c true
else
if decide (a.cr<0)then
J1 a b c true
else
if decide (a.cr>=(c.AA.length:Int))then
J1 a b c true
else
if decide (a.da<1)then
J1 a b c true
else
J1 a b c (decide (a.da>23))
def NH{c:AF}{b:AD}{a:AH}{r:ls}(h:Bu c b a=some r):Says prog 96 [.agg (Aw c),.agg (BQ b),.agg (A7 a)] (.BZ [.agg (Ii r.1),sb r.2]):=by refine kO mix func96 (hn [(3,[25]),(4,[42,79,96,99,102]),(5,[18,23,31,36,44,46,48,72,75,81,83,85,106,112,114,121,123,128]),(9,[95]),(11,[92]),(12,[110,111,116,119,120,125,126,127,130,133,134]),(88,[77,89,90,91])] [(2,1),(5,2),(8,3)]) ?_;have a1:= @XY;have a2:= @QK;have a3:= @Jv;have a4:= @Ng;have a5:= @RM;have a6:= @OK;have a7:= @RN;have a8:= @T2;have c3:=ip 3 λ_ _ _ _ d=>∃o,(d 3=bA 6 (Aw c)/\d 4=bA 7 (BQ b)/\d 5=bA 7 (A7 a)/\d 6=bA 7 z0/\d 8=si o)/\J3 a b c o=some r;have c2:=ip 2 λ_ _ _ _ d=>∃f,(d 3=bA 6 (Aw c)/\d 4=bA 7 (BQ b)/\d 5=bA 7 (A7 a)/\d 6=bA 7 z0/\d 70=sb f)/\J2 a b c f=some r;have c1:=ip 1 λ_ _ _ _ d=>∃e,(d 3=bA 6 (Aw c)/\d 4=bA 7 (BQ b)/\d 5=bA 7 (A7 a)/\d 6=bA 7 z0/\d 39=sb e)/\J1 a b c e=some r;unfold Bu at h;exact walk
end
namespace DJ
def J3(p:As):ABu As:=
some p
def L3(a:Bj)(L3:nk)(d:As)(i:Int):=
if decide (i<(a.AA.length:Int))then
(gt a.AA i).bind λe=>
if 0<=e.C3/\e.C3<=e.C3/\Am e.C3.toNat 8=true then
if 0<=e.C3/\e.C3<=e.C3/\Am e.C3.toNat 24=true then
if Am (d.AA.length+1) 64=true then
L3 (As.mk d.de d.df d.AL (d.AA++[(AN.mk 0 (List.replicate e.C3.toNat (0:Int)) (List.replicate e.C3.toNat ([]:List Int)) 0)])) (A6 (i+1))
else none
else none
else none
else
J3 d
def Gc(a:Bj):Nat->As->Int->ABu As
|0,_,_=>none
|n+1,d,i=>L3 a (Gc a n) d i
def J2(a:Bj)(o:As):=
Gc a BT o 0
def L2(a:Bj)(L2:nk)(c:As)(j:Int):=
if decide (j<(a.cT.AL.length:Int))then
if Am (c.AL.length+1) 8=true then
L2 (As.mk c.de c.df (c.AL++[0]) c.AA) (A6 (j+1))
else none
else
J2 a c
def CC(a:Bj):Nat->As->Int->ABu As
|0,_,_=>none
|n+1,c,j=>L2 a (CC a n) c j
def J1(a:Bj)(l:As):=
CC a BT l 0
def L1(a:Bj)(L1:nk)(b:As)(f:Int):=
if decide (f<(a.cT.df.length:Int))then
(gt a.cT.df f).bind λt=>
if Am (b.df.length+1) 8=true then
L1 (As.mk b.de (b.df++[t.db]) b.AL b.AA) (A6 (f+1))
else none
else
J1 a b
def AW(a:Bj):Nat->As->Int->ABu As
|0,_,_=>none
|n+1,b,f=>L1 a (AW a n) b f
end DJ
section
open DJ
def DJ(a:Bj):=
(CJ a).bind λq=>
if !q then
some (As.mk (AQ.mk [] 0 [] []) [] [] [])
else
(Ck a.cT).bind λs=>
AW a BT (As.mk s [] [] []) 0
def Z1{a:Bj}{r:As}(h:DJ a=some r):Says prog 138 [.agg (KV a)] (.agg (Na r)):=by refine kO mix func138 (hn [(1,[11,16,17,25,26,36,37,49,57,64]),(3,[23,24,34,43,44,47,55,56,74,75])] (E:=[(15,(Rc 55 [.m 3 6 3,.f 6 1,.C 6,.I 2 58 59,.U 0 60,.o (.mk 1 8 [si 0] (.t 62) (.t 62)),.f 6 1,.C 6,.I 2 65 66,.U 0 67,.o (.mk 1 24 [.sl false 1 []] (.t 69) (.t 69)),.o (.TK z9 [(1,1,.t 63),(2,1,.t 70)]),.o (.OR 4 [z9] [(0,.t 71)]),.o (.app 4 64 (.t 56) (.t 72)),.F 6 3,.S 1 74 73]))])) ?_;have a1:= @NC;have a2:= @Q5;have l3:=im λ_ _ _ _ n b=>∃d i,(b 1=bA 7 (KV a)/\b 2=bA 7 z4/\b 3=bA 7 (Na d)/\b 6=si i)/\Gc a n d i=some r;have l2:=im λ_ _ _ _ n b=>∃c j,(b 1=bA 7 (KV a)/\b 2=bA 7 z4/\b 3=bA 7 (Na c)/\b 5=si j)/\CC a n c j=some r;have l1:=im λ_ _ _ _ n c=>∃b f,(c 1=bA 7 (KV a)/\c 2=bA 7 z4/\c 3=bA 7 (Na b)/\c 4=si f)/\AW a n b f=some r;unfold DJ at h;exact walk
end
namespace CB
def J5:=
some true
def J4(L2:AD->Int->ABu Bool)(c:Int)(e:ls)(j:Bool):=
if j then
some false
else
L2 e.1 (A6 (c+1))
def L2(a:AG)(L2:AD->Int->ABu Bool)(d:AD)(c:Int):=
if decide (c<(a.AB.length:Int))then
(gt a.AB c).bind λf=>
(B1 a.cT d f).bind λe=>
if !e.2 then
J4 L2 c e true
else
(FM a f.cr f.EA).bind λu=>
if !u then
J4 L2 c e true
else
(FM a f.cr f.DW).bind λv=>
J4 L2 c e (!v)
else
J5
def CC(a:AG):Nat->AD->Int->ABu Bool
|0,_,_=>none
|n+1,d,c=>L2 a (CC a n) d c
def J3(a:AG):=
CC a BT a.db 0
def J2(L1:ir)(b:Int)(l:Bool):=
if l then
some false
else
L1 (A6 (b+1))
def L1(a:AG)(L1:ir)(b:Int):=
if decide (b<(a.db.AL.length:Int))then
(gt a.db.de.Bp b).bind λw=>
if !w then
(gt a.db.AL b).bind λx=>
J2 L1 b (x != 0)
else
J2 L1 b false
else
J3 a
def AW(a:AG):Nat->Int->ABu Bool
|0,_=>none
|n+1,b=>L1 a (AW a n) b
def J1(a:AG)(i:Bool):=
if i then
some false
else
AW a BT 0
end CB
section
open CB
def CB(a:AG):=
(Ay a.cT).bind λo=>
if !o then
J1 a true
else
(IB a.cT a.db).bind λp=>
if !p then
J1 a true
else
if decide ((a.AB.length:Int)>16)then
J1 a true
else
(Fv a).bind λq=>
if !q then
J1 a true
else
(CQ a).bind λs=>
if !s then
J1 a true
else
(A9 a).bind λt=>
J1 a (!t)
def Q6{a:AG}{r:Bool}(h:CB a=some r):Says prog 17 [.agg (A4 a)] (sb r):=by refine kO mix func17 (hn [(1,[9,14,16,22,43,44,50,51,52,59,60,67,70,76,82]),(6,[93,95,102,104])] [(2,1)]) ?_;have a1:= @Lk;have a2:= @Z8;have a3:= @Jt;have a4:= @S4;have a5:= @Xt;have a6:= @VJ;have a7:= @WD;have l2:=im λ_ _ _ _ n b=>∃d c,(b 1=bA 15 (A4 a)/\b 4=bA 7 (BQ d)/\b 5=si c)/\CC a n d c=some r;have l1:=im λ_ _ _ _ n c=>∃b,(c 1=bA 15 (A4 a)/\c 3=si b)/\AW a n b=some r;have c1:=ip 1 λ_ _ _ _ b=>∃i,(b 1=bA 15 (A4 a)/\b 41=sb i)/\J1 a i=some r;unfold CB at h;exact walk
end
namespace Cs
def J5(a:AU):ABu Bool:=
some (decide ((a.AA.length:Int)>0))
def J4(L2:ir)(b:Int):=
L2 (A6 (b+1))
def J3(L2:ir)(b:Int)(f:Bool):=
if f then
some false
else
J4 L2 b
def J2(L2:ir)(b:Int)(c:C7):=
(CO c.di).bind λl=>
if !l then
J3 L2 b true
else
(HX BT c.dx).bind λo=>
J3 L2 b (!o)
def L3(L2:ir)(b:Int)(c:C7)(L3:ir)(e:Int):=
if decide (e<(c.G0.length:Int))then
(gt c.G0 e).bind λq=>
(CO q).bind λj=>
if !j then
some false
else
L3 (A6 (e+1))
else
J2 L2 b c
def Gc(L2:ir)(b:Int)(c:C7):Nat->Int->ABu Bool
|0,_=>none
|n+1,e=>L3 L2 b c (Gc L2 b c n) e
def L2(a:AU)(L2:ir)(b:Int):=
if decide (b<(a.AA.length:Int))then
(gt a.AA b).bind λc=>
Gc L2 b c BT 0
else
J5 a
def CC(a:AU):Nat->Int->ABu Bool
|0,_=>none
|n+1,b=>L2 a (CC a n) b
def J1(a:AU):=
CC a BT 0
def L1(a:AU)(L1:ir)(d:Int):=
if decide (d<(a.d9.length:Int))then
(gt a.d9 d).bind λp=>
(C5 p).bind λi=>
if !i then
some false
else
L1 (A6 (d+1))
else
J1 a
def AW(a:AU):Nat->Int->ABu Bool
|0,_=>none
|n+1,d=>L1 a (AW a n) d
end Cs
section
open Cs
def Cs(a:AU):=
AW a BT 0
def Xf{a:AU}{r:Bool}(h:Cs a=some r):Says prog 215 [.agg (Cf a)] (sb r):=by refine kO mix func215 (hn [(1,[8,14,22,28,57]),(5,[34,40,47,52])]) ?_;have a1:= @Iq;have a2:= @QG;have a3:= @SX;have l2:=im λ_ _ _ _ n c=>∃b,(c 1=bA 2 (Cf a)/\c 4=si b)/\CC a n b=some r;have l3:=im λ_ d _ _ n f=>∃b c e,(f 1=bA 2 (Cf a)/\f 4=si b/\f 5=bA 4 (JU c)/\f 6=si e)/\Gc (CC a d) b c n e=some r;have l1:=im λ_ _ _ _ n b=>∃d,(b 1=bA 2 (Cf a)/\b 3=si d)/\AW a n d=some r;unfold Cs at h;exact walk
end
namespace E9
def J3:=
some true
def J2(L1:ir)(c:Int)(i:Bool):=
if i then
some false
else
L1 (A6 (c+1))
def L1(a:Bj)(b:As)(L1:ir)(c:Int):=
if decide (c<(a.AA.length:Int))then
(gt b.AA c).bind λe=>
if decide (e.PC<0)then
J2 L1 c true
else
(gt a.AA c).bind λf=>
if decide (e.PC>=(f.B8.length:Int))then
J2 L1 c true
else
if(e.C3.length:Int) != f.C3 then
J2 L1 c true
else
J2 L1 c ((e.Cx.length:Int) != f.C3)
else
J3
def AW(a:Bj)(b:As):Nat->Int->ABu Bool
|0,_=>none
|n+1,c=>L1 a b (AW a b n) c
def J1(a:Bj)(b:As)(d:Bool):=
if d then
some false
else
AW a b BT 0
end E9
section
open E9
def E9(a:Bj)(b:As):=
(CJ a).bind λj=>
if !j then
J1 a b true
else
(E8 a.cT b.de).bind λl=>
if !l then
J1 a b true
else
if(b.df.length:Int) != (a.cT.df.length:Int)then
J1 a b true
else
if(b.AL.length:Int) != (a.cT.AL.length:Int)then
J1 a b true
else
J1 a b ((b.AA.length:Int) != (a.AA.length:Int))
def cZ{a:Bj}{b:As}{r:Bool}(h:E9 a b=some r):Says prog 239 [.agg (KV a),.agg (LO b)] (sb r):=by refine kO mix func239 (hn [(2,[11,22,23,32,33,42,48,65,78,90]),(3,[13,19,29,39,54]),(6,[59,63,75,87])] [(2,1)]) ?_;have a1:= @NC;have a2:= @OG;have l1:=im λ_ _ _ _ n d=>∃c,(d 2=bA 7 (KV a)/\d 3=bA 7 (LO b)/\d 5=si c)/\AW a b n c=some r;have c1:=ip 1 λ_ _ _ _ c=>∃d,(c 2=bA 7 (KV a)/\c 3=bA 7 (LO b)/\c 46=sb d)/\J1 a b d=some r;unfold E9 at h;exact walk
end
namespace GD
def J2:na:=
some (0,0)
def J1(L1:AD->Int->ABu (Int×Int))(b:Int)(d:ls)(f:Bool):=
if f then
some (b,12)
else
L1 d.1 (A6 (b+1))
def L1(a:Ca)(L1:AD->Int->ABu (Int×Int))(c:AD)(b:Int):=
if decide (b<(a.AB.length:Int))then
(gt a.AB b).bind λe=>
(B1 a.cT c e).bind λd=>
if !d.2 then
J1 L1 b d true
else
(DK a.AB b e.cr e.EA).bind λl=>
if !l then
J1 L1 b d true
else
(DK a.AB b e.cr e.DW).bind λo=>
J1 L1 b d (!o)
else
J2
def AW(a:Ca):Nat->AD->Int->ABu (Int×Int)
|0,_,_=>none
|n+1,c,b=>L1 a (AW a n) c b
end GD
section
open GD
def GD(a:Ca):=
if decide ((a.AB.length:Int)>400)then
some (0,2)
else
(Ay a.cT).bind λi=>
if !i then
some (0,1)
else
(EX a.cT).bind λj=>
AW a BT j 0
def Z2{a:Ca}{r:Int×Int}(h:GD a=some r):Says prog 88 [.agg (TP a)] (.BZ [si r.1,si r.2]):=by refine kO mix func88 (hn [(1,[9,13,17,21,27,33,43,54]),(4,[35]),(6,[46,48,57,59]),(7,[65]),(8,[40]),(37,[32,38,39])] (C:=[(55,2)])) ?_;have a1:= @Jt;have a2:= @JK;have a3:= @Lk;have a4:= @Z3;have l1:=im λ_ _ _ _ n d=>∃c b,(d 1=bA 7 (TP a)/\d 4=bA 7 (Ii c)/\d 5=si b)/\AW a n c b=some r;unfold GD at h;exact walk
end
namespace Gr
def J1(e:AD):ABu AD:=
some e
def L1(b:Int)(a:Ca)(L1:AD->Int->ABu AD)(d:AD)(c:Int):=
if decide (c<b)then
(gt a.AB c).bind λj=>
(B1 a.cT d j).bind λi=>
L1 i.1 (A6 (c+1))
else
J1 d
def AW(b:Int)(a:Ca):Nat->AD->Int->ABu AD
|0,_,_=>none
|n+1,d,c=>L1 b a (AW b a n) d c
end Gr
section
open Gr
def Gr(a:Ca)(b:Int):=
(EX a.cT).bind λf=>
AW b a BT f 0
def Z6{a:Ca}{b:Int}{r:AD}(h:Gr a b=some r):Says prog 89 [.agg (TP a),si b] (.agg (Ii r)):=by refine kO mix func89 (hn [(2,[7,16,19]),(5,[18,27]),(24,[25])] (E:=[(5,(.jB [(24,9,10,15)] [Kf 16 2 0 2,iA 17 6 16,i1 18 5 (.ld true 7 (.t 5)),Kf 19 2 6 2,iL 20 19,iC 21 6,iI 22 7 20 21,iA 23 7 22,⟨some ⟨24,[25],[]⟩,.call 55 [.t 17,.t 18,.t 23] 2,none⟩,i0 15 (.flk (.t 24) 1),i1 25 24 (.ext (.t 24) 0),i0 26 .fl,iS 7 5 25]))])) ?_;have a1:= @JK;have a2:= @Lk;have l1:=im λ_ _ _ _ n e=>∃d c,(e 1=si b/\e 2=bA 7 (TP a)/\e 4=bA 7 z0/\e 5=bA 7 (Ii d)/\e 6=si c)/\AW b a n d c=some r;unfold Gr at h;exact walk
end
end Go.Abs
