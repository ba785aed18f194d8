/- Go functions do what typed programs say. -/
import Derived.Test.YtdojkofgkcmagaaGreatDoorWalkL
import Derived.Shelf.Slices.SearchI
set_option linter.all false
namespace Go.Abs
open Go.Proofs Tryz
set_option maxRecDepth 1000000
set_option maxHeartbeats 4000000
namespace Bg
def J2(cv:Bj)(ac:Int):ABi (Int×Bj):=some (ac,cv)
def J4(cw:Bj)(ad:Int):ABi (Int×Bj):=some (ad,cw)
def J5(b:mn)(ae:Int):ABi (Int×Bj):=some (ae,b.2)
def J7(f:mn)(af:Int):ABi (Int×Bj):=some (af,f.2)
def J8(a:AU)(b:mn)(l:Bool):ABi (Int×Bj):=if l then
some (7,b.2)
else(Cv b.2.NW a.dv).bind λbl=>if decide (bl>=0)then
some (8,b.2)
else
if Ap (b.2.NW.length+1) 16=true then
some (0,(Bj.mk b.2.p b.2.B7 b.2.HH (b.2.NW++[a.dv]) b.2.dD))
else none
def J9(b:mn)(ai:Int):ABi (Int×Bj):=some (ai,b.2)
def gN(a:AU)(b:mn)(c:Bj)(aa:Int):ABi (Int×Bj):=if Ap (b.2.dD.length+1) 16=true then(GH c.p c.B7 a.dX).bind λce=>(GJ aa ce).bind λcf=>some (cf,(Bj.mk b.2.p b.2.B7 b.2.HH b.2.NW (b.2.dD++[a.dv])))
else none
def Qu(i:Int)(a:AU)(b:mn)(c:Bj)(ab:Bool):ABi (Int×Bj):=if ab then
gN a b c 8
else
gN a b c i
def OS(a:AU)(b:mn)(c:Bj)(i:Int):=if i==0 then(Cv b.2.dD a.dv).bind λcd=>Qu i a b c (decide (cd>=0))
else
Qu i a b c false
def J6(a:AU)(d e b:mn)(c:Bj)(j:Bool):=if j then(D3 c.p c.B7 a.dv 5 5).bind λw=>if w != 0 then
some (w,b.2)
else(DU c.p.ep a.dv).bind λbc=>(gt c.p.ep bc).bind λcy=>(B1 b.2 4 4 cy.On).bind λf=>if d.1 then(CX true).bind λbe=>J7 f be
else
if !f.1 then(CX true).bind λbf=>J7 f bf
else
if a.Op==9 then(CX e.1).bind λbi=>J7 f bi
else(CX false).bind λbj=>J7 f bj
else
if a.Op==12 then(D3 c.p c.B7 a.dv 7 7).bind λx=>if x != 0 then
some (x,b.2)
else(DQ c.p.AA a.dv).bind λy=>if d.1 then
J8 a b true
else
if e.1 then
J8 a b true
else
if b.1 then
J8 a b true
else
if y==c.B7 then
J8 a b true
else
J8 a b (y==0)
else
if a.Op==13 then(D3 c.p c.B7 a.dv 7 7).bind λq=>if d.1 then(CX true).bind λbo=>(GJ q bo).bind λbp=>J9 b bp
else
if e.1 then(CX true).bind λbs=>(GJ q bs).bind λbt=>J9 b bt
else(DQ c.p.AA a.dv).bind λbu=>(CX (bu==c.B7)).bind λbv=>(GJ q bv).bind λbw=>J9 b bw
else
if a.Op==14 then(D3 c.p c.B7 a.dv 6 6).bind λz=>if d.1 then(CX true).bind λbx=>(GJ z bx).bind λbz=>OS a b c bz
else(CX b.1).bind λca=>(GJ z ca).bind λcb=>OS a b c cb
else(D3 c.p c.B7 a.dv 8 8).bind λci=>(D3 c.p c.B7 a.eT 6 6).bind λcj=>(CX d.1).bind λcl=>(GJ cj cl).bind λco=>(GJ ci co).bind λcp=>some (cp,b.2)
def J3(a:AU)(d e b:mn)(c:Bj)(p:Bool):=if p then(D3 c.p c.B7 a.dv 4 4).bind λu=>if d.1 then(CX true).bind λav=>(GJ u av).bind λaw=>J4 b.2 aw
else(B1 b.2 5 6 a.dv).bind λv=>(CX v.1).bind λax=>(GJ u ax).bind λay=>J4 v.2 ay
else
if a.Op==7 then(CX d.1).bind λaz=>some (az,b.2)
else
if a.Op==8 then
if d.1 then(CX true).bind λba=>J5 b ba
else(CX e.1).bind λbb=>J5 b bb
else
if a.Op==9 then
J6 a d e b c (a.Op==9)
else
if a.Op==10 then
J6 a d e b c (a.Op==10)
else
J6 a d e b c (a.Op==11)
def J1(a:AU)(d e b:mn)(c:Bj)(o:Bool):=if o then(GH c.p c.B7 a.dX).bind λal=>some (al,b.2)
else
if a.Op==4 then(D3 c.p c.B7 a.dv 3 3).bind λs=>if d.1 then(CX true).bind λao=>(GJ s ao).bind λap=>J2 b.2 ap
else(B1 b.2 4 4 a.dv).bind λt=>(CX t.1).bind λaq=>(GJ s aq).bind λau=>J2 t.2 au
else
if a.Op==5 then
J3 a d e b c (a.Op==5)
else
J3 a d e b c (a.Op==6)
end Bg
section
open Bg
def Bg(c:Bj)(a:AU):=(B1 c 7 7 (⟨#[]⟩:ABj)).bind λd=>(B1 d.2 8 8 (⟨#[]⟩:ABj)).bind λe=>(B1 e.2 3 3 (⟨#[]⟩:ABj)).bind λb=>if a.Op==1 then
if(a.d8.length:Int)==0 then(D3 c.p c.B7 a.dv 8 1).bind λbd=>(GH c.p c.B7 a.dX).bind λbq=>(GJ bd bq).bind λcc=>some (cc,b.2)
else(D3 c.p c.B7 a.dv 2 2).bind λcq=>(gt a.d8 0).bind λcx=>(GH c.p c.B7 cx).bind λcs=>(GH c.p c.B7 a.dX).bind λct=>(GJ cs ct).bind λcu=>(GJ cq cu).bind λaj=>some (aj,b.2)
else
if a.Op==2 then
J1 a d e b c (a.Op==2)
else
J1 a d e b c (a.Op==3)
def Vr{c:Bj}{a:AU}{r:Int×Bj}(h:Bg c a=some r):BM prog 248 [bA 6 (IX c),.agg [si a.Op,si a.Gd,B4 a.dv,B4 a.eT,vS 4 Bc a.d8,si a.dX.Op,si a.dX.N,B4 a.dX.dv,vS 4 Bc a.dX.L,vS 11 BV a.dz,vS 11 BV a.ed]] (si r.1) [bA 6 (IX r.2),.dead]:=by refine kL mix func248 (hn [(0,[15,16,17,19,20,21,23,25,27,84,101,131,188,189,190,191,197,198,199,200,205,206,245,246,247,248,255,256,257,258,263,264]),(3,[29,33,39,44,50,55,62,72,79,85,96,102,125,136,149,161,169,192,201,211,221,233,249,259,268,274,279]),(5,[132,134,167,219])] [(12,1),(17,3),(24,6),(40,8)] (E:=[(39,(.l7 [(0,0,9,196)] [i0 196 .fl,i1 197 0 (.cp (.t 0)),i1 198 0 (.JQ (.t 197)),Ko 199 0 4 198,We 200 0 199,Ko 201 3 2 3,iL 202 201,i0 203 (.Ox 1 [[B4 ⟨#[]⟩]] [(0,.t 202)]),i0 204 (.app 1 16 (.t 200) (.t 203)),i1 205 0 (.JQ (.t 0)),Ko 206 0 4 205,iS 1 206 204])),(47,(.l7 [(0,0,9,254)] [i0 254 .fl,i1 255 0 (.cp (.t 0)),i1 256 0 (.JQ (.t 255)),Ko 257 0 5 256,We 258 0 257,Ko 259 3 2 3,iL 260 259,i0 261 (.Ox 1 [[B4 ⟨#[]⟩]] [(0,.t 260)]),i0 262 (.app 1 16 (.t 258) (.t 261)),i1 263 0 (.JQ (.t 0)),Ko 264 0 5 263,iS 1 264 262]))])) ?_;have a1:=@RU;have a2:=@TU;have a3:=@fO;have a4:=@rS;have a5:=@XD;have a6:=@KU;have a7:=@LF;have a8:=@I0;have c8:=i5 8 λc=>∃(b:mn)(l:Bool),(c 0=bA 6 (IX b.2)/\c 3=bA 11 [si a.Op,si a.Gd,B4 a.dv,B4 a.eT,vS 4 Bc a.d8,si a.dX.Op,si a.dX.N,B4 a.dX.dv,vS 4 Bc a.dX.L,vS 11 BV a.dz,vS 11 BV a.ed]/\c 187=sb l)/\J8 a b l=some r;have c6:=i5 6 λf=>∃(d e b:mn)(j:Bool),(f 0=bA 6 (IX b.2)/\f 3=bA 11 [si a.Op,si a.Gd,B4 a.dv,B4 a.eT,vS 4 Bc a.d8,si a.dX.Op,si a.dX.N,B4 a.dX.dv,vS 4 Bc a.dX.L,vS 11 BV a.dz,vS 11 BV a.ed]/\f 5=bA 2 (Ct c.p)/\f 6=si c.B7/\f 7=sb d.1/\f 8=sb e.1/\f 9=sb b.1/\f 30=si a.Op/\f 119=sb j)/\J6 a d e b c j=some r;have c3:=i5 3 λf=>∃(d e b:mn)(p:Bool),(f 0=bA 6 (IX b.2)/\f 3=bA 11 [si a.Op,si a.Gd,B4 a.dv,B4 a.eT,vS 4 Bc a.d8,si a.dX.Op,si a.dX.N,B4 a.dX.dv,vS 4 Bc a.dX.L,vS 11 BV a.dz,vS 11 BV a.ed]/\f 5=bA 2 (Ct c.p)/\f 6=si c.B7/\f 7=sb d.1/\f 8=sb e.1/\f 9=sb b.1/\f 30=si a.Op/\f 91=sb p)/\J3 a d e b c p=some r;have c1:=i5 1 λf=>∃(d e b:mn)(o:Bool),(f 0=bA 6 (IX b.2)/\f 3=bA 11 [si a.Op,si a.Gd,B4 a.dv,B4 a.eT,vS 4 Bc a.d8,si a.dX.Op,si a.dX.N,B4 a.dX.dv,vS 4 Bc a.dX.L,vS 11 BV a.dz,vS 11 BV a.ed]/\f 5=bA 2 (Ct c.p)/\f 6=si c.B7/\f 7=sb d.1/\f 8=sb e.1/\f 9=sb b.1/\f 30=si a.Op/\f 67=sb o)/\J1 a d e b c o=some r;unfold Bg at h;exact walk
end
def f83c:IC:=(Ra 10 [.b 6 [28,96] (.bx 7 (.t 1)),.b 7 [17] (.bx 6 (.t 2)),.o (.mv (.c (.own false 7 [])))]
(Ra 0 [.b 11 [50,105,110] (.mv (.c (.own false 7 [])))]
(Ra 17 [.f 4 7,.Z 18,.o (.mk 1 24 z15 (.t 19) (.t 19)),.b 12 [21,40,42,44,45,48,69,91,94,95,104] (.mv (.t 20))]
(Sq (Ra 21 [.y 12 (.cp (.t 12)),.Z 21,.Y 0]
(Bl 0 (Ra 24 [.O .lss 23 22]
(Sq (cX 24 0)
(Sq (Bk 1 (Ra 25 [.C 23,.M 13 25]
(Ra 26 [.C 4,.C 26,.G 27 true,.f 6 6,.C 13,.I 1 29 30,.L 31,.P .gtr 32 1,.e,.W 27 33,.C 34,.G 35 true,.y 0 (.cp (.t 0)),.o (.W0 132 [] (.t 36) none [.c (si 3)]),.P .eql 37 2,.e,.W 35 38]
(Ci 39 (Rc 40 [.y 12 (.cp (.t 12)),.C 13,.y 12 (.cp (.t 12)),.C 13,.J 12 1 42 43,.l 12 44,.o (.Ox 1 [[si 0]] [(0,.c (si 1))]),.o (.app 1 8 (.t 45) (.t 46)),.J 12 1 40 41,.S 1 48 47])))))
(Rc 49 [.P .add 23 1,.w 23,.C 49]))))))
(Sq (Bl 2 (Sq (Nh 4 (Rc 50 [.y 11 (.cp (.t 11)),.Z 50,.C 3,.O .lss 51 52,.C 53,.G 54 true,.p 0 1,.r 0 0,.Z 62,.O .lss 58 63,.e,.W 54 64])
(cX 65 2))
(Bk 3 (Sq (.kH [.o (i1 66 0 (.cp (.t 0))),.o (iA 67 7 6),.o (iA 68 6 7),.o (i1 69 12 (.cp (.t 12))),.lb (some ⟨70,[],[]⟩) 134 (.t 66) [.t 67,.t 68] (.t 69),.o (⟨some ⟨14,[74,80,84,89,92,98,106],[]⟩,.bx 7 (.c (.agg z3)),none⟩),.o (iS 7 14 70)])
(Sq (.gz false 14 [(0,6,7)] (.gz false 14 [(0,5,7)] (Rc 72 [.A 6 7,.A 7 6,.y 14 (.ld true 7 (.t 14)),.c 55 [72,73,74] 1,.w 71,.C 75,.w 76,.o (.ext (.t 71) 0),.o (.ext (.t 71) 1),.w 15,.o (.bx 7 (.c (.agg z0))),.S 7 15 76,.M 16 77])))
(Sq (Ra 78 [.C 16,.N 78]
(Ci 79 (.exit 3)))
(Sq (Ra 80 [.f 1 14,.Q 81 3,.C 82,.G 83 false,.f 1 14,.P .eql 85 23,.e,.V 83 86]
(Ci 87 (.l7 [(12,0,16,88)] [i0 88 .fl,Ko 89 14 0 14,iL 90 89,i1 91 12 (.cp (.t 12)),Ko 92 14 0 14,iL 93 92,xN 94 12 1 91 93,We 95 12 94,Ko 96 6 6 6,iL 97 96,Ko 98 14 0 14,iL 99 98,iI 100 1 97 99,iL 101 100,i0 102 (.Ox 1 [[si 0]] [(0,.t 101)]),i0 103 (.app 1 8 (.t 95) (.t 102)),xN 104 12 1 12 90,iS 1 104 103])))
(Ra 105 [.y 11 (.cp (.t 11)),.y 14 (.ld true 7 (.t 14)),.o (.Ox 7 [z3] [(0,.t 106)]),.o (.app 7 88 (.t 105) (.t 107)),.b 11 [50,105,110] (.mv (.t 108))]
(Rc 109 [.A 7 15,.S 7 6 109])))))))))
(Rb 110 [.y 11 (.cp (.t 11)),.M 10 110]))))))
def f83g:Gi:=⟨[(17,[7]),(21,[12]),(28,[6]),(36,[0]),(40,[12]),(42,[12]),(44,[12]),(45,[12]),(48,[12]),(50,[11]),(55,[0]),(56,[0]),(57,[0]),(59,[0]),(60,[0]),(61,[0]),(62,[0]),(66,[0]),(69,[12]),(74,[14]),(80,[14]),(84,[14]),(89,[14]),(91,[12]),(92,[14]),(94,[12]),(95,[12]),(96,[6]),(98,[14]),(104,[12]),(105,[11]),(106,[14]),(110,[11])]⟩
def f83r:List RV:=[.tmp 10]
namespace Cc
def J7(aj:AZ)(z:js):ABi ((List AH)×AZ):=some (z,aj)
def J6(L2:kn)(c:js)(j:AH×AZ)(s:mj)(ac:jl):=if Ap (c.length+1) 88=true then
L2 j.2 s.1 (c++[j.1]) ac
else none
def J5(L2:kn)(c:js)(d:jl)(e:AD)(j:AH×AZ)(s:mj)(ae:Bool):=if ae then(gt d j.1.db).bind λy=>(gt e.dh j.1.db).bind λao=>if Ap (y.length+1) 8=true then
J6 L2 c j s (d.set j.1.db.toNat (y++[ao]))
else none
else
J6 L2 c j s d
def J4(L2:kn)(c:js)(d:jl)(e:AD)(i:AZ)(a:AG)(u:Bool):=if u then(Dv i e a d).bind λj=>(CH a e j.1).bind λs=>if !s.2 then
L2 j.2 e c d
else
if j.1.de==3 then
J5 L2 c d e j s true
else
J5 L2 c d e j s (j.1.de==23)
else
J7 i c
def L2(b:Int)(a:AG)(L2:kn)(i:AZ)(e:AD)(c:js)(d:jl):=if decide ((c.length:Int)<b)then
J4 L2 c d e i a (decide (i.At<(i.L.length:Int)))
else
J4 L2 c d e i a false
def Bs(b:Int)(a:AG):Nat->AZ->AD->(List AH)->(List (List Int))->ABi ((List AH)×AZ)
|0,_,_,_,_=>none
|n+1,i,e,c,d=>L2 b a (Bs b a n) i e c d
def J3(b:Int)(l:AD)(a:AG)(ai:AZ)(ab:jl):=Bs b a BQ ai l [] ab
def J2(L1:ln)(f:Int)(af:AZ)(aa:jl):=L1 af aa (A8 (f+1))
def J1(L1:ln)(o:jl)(f:Int)(v:AZ)(ad:Bool):=if ad then(gt o f).bind λx=>if Ap (x.length+1) 8=true then
J2 L1 f v (o.set f.toNat (x++[1]))
else none
else
J2 L1 f v o
def L1(p:Bool)(b:Int)(l:AD)(a:AG)(L1:ln)(q:AZ)(o:jl)(f:Int):=if decide (f<(a.AA.length:Int))then
if p then(gt l.dh f).bind λal=>if decide (al>1)then(Aq q 3).bind λw=>J1 L1 o f w.2 (w.1==2)
else
J1 L1 o f q false
else
J1 L1 o f q false
else
J3 b l a q o
def AR(p:Bool)(b:Int)(l:AD)(a:AG):Nat->AZ->(List (List Int))->Int->ABi ((List AH)×AZ)
|0,_,_,_=>none
|n+1,q,o,f=>L1 p b l a (AR p b l a n) q o f
end Cc
section
open Cc
def Cc(t:AZ)(l:AD)(a:AG)(b:Int)(p:Bool):=if 0<=(a.AA.length:Int)/\(a.AA.length:Int)<=(a.AA.length:Int)/\Ap a.AA.length 24=true then
AR p b l a BQ t (List.replicate a.AA.length ([]:List Int)) 0
else none
def gC{t:AZ}{l:AD}{a:AG}{b:Int}{p:Bool}{r:(List AH)×AZ}(h:Cc t l a b p=some r):BM prog 83 [bA 2 (Gg t),.agg (Bi l),.agg (A5 a),si b,sb p] (vS 7 Aw r.1) [bA 2 (Gg r.2),.dead,.dead,.dead,.dead]:=by refine wP mix func83 (I:=⟨f83c,f83g,f83r⟩) ?_;simp only[f83c,f83g,f83r];have a1:=@cY;have a2:=@Lt;have a3:=@Dj;have l2:=i4 λn f=>∃i e c d,(f 0=bA 2 (Gg i)/\f 3=si b/\f 6=bA 7 (Bi e)/\f 7=bA 6 (A5 a)/\f 11=vO 7 Aw c/\f 12=vO 1 OX d)/\Bs b a n i e c d=some r;have l1:=i4 λn c=>∃q o f,(c 0=bA 2 (Gg q)/\c 3=si b/\c 4=sb p/\c 6=bA 7 (Bi l)/\c 7=bA 6 (A5 a)/\c 11=.own false 7 []/\c 12=vO 1 OX o/\c 22=si (a.AA.length:Int)/\c 23=si f)/\AR p b l a n q o f=some r;have c4:=iz 4 λ_ f _ _ g=>∃c d e i u,(g 0=bA 2 (Gg i)/\g 3=si b/\g 6=bA 7 (Bi e)/\g 7=bA 6 (A5 a)/\g 11=vO 7 Aw c/\g 12=vO 1 OX d/\g 65=sb u)/\J4 (Bs b a f) c d e i a u=some r;unfold Cc at h;exact walk
end
namespace D5
def J5(u:Ab)(y:lm):ABi ((List An)×Ab):=some (y,u)
def J4(L1:km)(c:Int)(t:Ab)(x:lm):=L1 t x (A8 (c+1))
def J3(L1:km)(b:Ab)(c:Int)(i e:lm)(a:AE)(w:Int):=(gt i w).bind λs=>(Ha a b s).bind λab=>if Ap (e.length+1) 16=true then
J4 L1 c ab.1 (e++[s])
else none
def J2(L1:km)(b:Ab)(c:Int)(d:i6)(e:lm)(a:AE)(i:lm):=if(i.length:Int)==0 then
J5 b e
else(gt d c).bind λq=>if¬(i.length:Int)=0 then
if decide ((q.tmod (i.length:Int))<0)then
J3 L1 b c i e a (A8 ((q.tmod (i.length:Int))+(i.length:Int)))
else
J3 L1 b c i e a (q.tmod (i.length:Int))
else none
def J1(L2:lc)(f:Int)(v:lm):=L2 v (A8 (f+1))
def L3(L2:lc)(f:Int)(j:i6)(L3:lc)(p:lm)(l:Int):=if decide (l<(j.length:Int))then(gt j l).bind λac=>if Ap (p.length+1) 16=true then
L3 (p++[(An.mk f ac)]) (A8 (l+1))
else none
else
J1 L2 f p
def E3(L2:lc)(f:Int)(j:i6):Nat->(List An)->Int->ABi ((List An)×Ab)
|0,_,_=>none
|n+1,p,l=>L3 L2 f j (E3 L2 f j n) p l
def L2(L1:km)(b:Ab)(c:Int)(d:i6)(e:lm)(a:AE)(L2:lc)(o:lm)(f:Int):=if decide (f<(a.dc.AA.length:Int))then(FL a b f).bind λaa=>if !aa then
J1 L2 f o
else(Ij a b f).bind λj=>E3 L2 f j BQ o 0
else
J2 L1 b c d e a o
def Bs(L1:km)(b:Ab)(c:Int)(d:i6)(e:lm)(a:AE):Nat->(List An)->Int->ABi ((List An)×Ab)
|0,_,_=>none
|n+1,o,f=>L2 L1 b c d e a (Bs L1 b c d e a n) o f
def L1(d:i6)(a:AE)(L1:km)(b:Ab)(e:lm)(c:Int):=if decide (c<(d.length:Int))then
Bs L1 b c d e a BQ [] 0
else
J5 b e
def AR(d:i6)(a:AE):Nat->Ab->(List An)->Int->ABi ((List An)×Ab)
|0,_,_,_=>none
|n+1,b,e,c=>L1 d a (AR d a n) b e c
end D5
section
open D5
def D5(a:AE)(d:i6):=(EL a).bind λz=>AR d a BQ z [] 0
def TZ{a:AE}{d:i6}{r:kh}(h:D5 a d=some r):Says prog 23 [.agg (Av a),vS 1 eI d] (.Bo [vS 2 HW r.1,.agg (G8 r.2)]):=by refine kF mix func23 (hn [(2,[23,24]),(7,[80,87]),(9,[45,54,61,67,73,75,81,83]),(11,[40,47,49])]) ?_;have a1:=@cH;have a2:=@fW;have a3:=@PG;have a4:=@cJ;have l1:=i4 λn f=>∃b e c,(f 1=vS 1 eI d/\f 2=bA 15 (Av a)/\f 5=bA 9 z7/\f 6=bA 9 (G8 b)/\f 7=vO 2 HW e/\f 8=si c)/\AR d a n b e c=some r;have l2:=iy λg _ _ _ n h=>∃b c e o f,(h 1=vS 1 eI d/\h 2=bA 15 (Av a)/\h 5=bA 9 z7/\h 6=bA 9 (G8 b)/\h 7=vO 2 HW e/\h 8=si c/\h 9=vO 2 HW o/\h 10=si f)/\Bs (AR d a g) b c d e a n o f=some r;have l3:=iy λg h _ _ n i=>∃b c e f j p l,(i 1=vS 1 eI d/\i 2=bA 15 (Av a)/\i 5=bA 9 z7/\i 6=bA 9 (G8 b)/\i 7=vO 2 HW e/\i 8=si c/\i 9=vO 2 HW p/\i 10=si f/\i 11=vO 1 eI j/\i 12=si l)/\E3 (Bs (AR d a g) b c d e a h) f j n p l=some r;unfold D5 at h;exact walk
end
namespace CN
def J4(a:AH)(d:AD):ABi (AD×Bool):=(gt d.dh a.db).bind λw=>some ((AD.mk d.df d.di d.AL (d.dh.set a.db.toNat (A8 (w+1)))),true)
def J3(a:AH)(b:AD)(c:AG)(o:Int):=(GG c b.df a.db a.de a.dq o).bind λi=>if !i.2.2 then
some ((AD.mk (AQ.mk [] 0 [] []) [] [] []),false)
else(JA b.di).bind λj=>(JA b.AL).bind λl=>(slices_Clone_int b.dh).bind λp=>if a.de==4 then(gt j a.dq).bind λx=>J4 a (AD.mk i.1 (j.set a.dq.toNat a.dn) l p)
else
if a.de==22 then(gt l a.dq).bind λy=>J4 a (AD.mk i.1 j (l.set a.dq.toNat a.dn) p)
else
J4 a (AD.mk i.1 j l p)
def J2(a:AH)(b:AD)(c:AG)(f:Bool):=if f then
some ((AD.mk (AQ.mk [] 0 [] []) [] [] []),false)
else
if a.de==18 then
J3 a b c a.dn
else
J3 a b c (-1)
def J1(a:AH)(b:AD)(c:AG)(e:Bool):=if e then
some ((AD.mk (AQ.mk [] 0 [] []) [] [] []),false)
else(ES c b.df a.db a.de a.dq).bind λs=>if !s then
J2 a b c true
else(EB c a).bind λt=>if !t then
J2 a b c true
else(Ah c b a).bind λu=>if !u then
J2 a b c true
else(BR b a).bind λv=>J2 a b c (!v)
end CN
section
open CN
def CN(c:AG)(b:AD)(a:AH):=(FQ c b).bind λq=>if !q then
J1 a b c true
else
if decide (a.db<0)then
J1 a b c true
else
if decide (a.db>=(c.AA.length:Int))then
J1 a b c true
else
if decide (a.de<1)then
J1 a b c true
else
J1 a b c (decide (a.de>23))
def Ua{c:AG}{b:AD}{a:AH}{r:mj}(h:CN c b a=some r):Says prog 96 [.agg (A5 c),.agg (Bi b),.agg (Aw a)] (.Bo [.agg (I5 r.1),sb r.2]):=by refine kO mix func96 (hn [(3,[25]),(4,[42,79,96,99,102]),(5,[18,23,31,36,44,46,48,72,75,81,83,85,106,112,114,121,123,128]),(9,[95]),(11,[92]),(12,[110,111,116,119,120,125,126,127,130,133,134]),(88,[77,89,90,91])] [(2,1),(5,2),(8,3)]) ?_;have a1:=@YS;have a2:=@Qp;have a3:=@Mi;have a4:=@OB;have a5:=@Ry;have a6:=@Ol;have a7:=@Rz;have a8:=@Ub;have c3:=i5 3 λd=>∃o,(d 3=bA 6 (A5 c)/\d 4=bA 7 (Bi b)/\d 5=bA 7 (Aw a)/\d 6=bA 7 z0/\d 8=si o)/\J3 a b c o=some r;have c2:=i5 2 λd=>∃f,(d 3=bA 6 (A5 c)/\d 4=bA 7 (Bi b)/\d 5=bA 7 (Aw a)/\d 6=bA 7 z0/\d 70=sb f)/\J2 a b c f=some r;have c1:=i5 1 λd=>∃e,(d 3=bA 6 (A5 c)/\d 4=bA 7 (Bi b)/\d 5=bA 7 (Aw a)/\d 6=bA 7 z0/\d 39=sb e)/\J1 a b c e=some r;unfold CN at h;exact walk
end
namespace Db
def J3(p:A4):ABi A4:=some p
def L3(a:Bx)(L3:oh)(d:A4)(i:Int):=if decide (i<(a.AA.length:Int))then(gt a.AA i).bind λe=>if 0<=e.DH/\e.DH<=e.DH/\Ap e.DH.toNat 8=true then
if 0<=e.DH/\e.DH<=e.DH/\Ap e.DH.toNat 24=true then
if Ap (d.AA.length+1) 64=true then
L3 (A4.mk d.df d.di d.AL (d.AA++[(AN.mk 0 (List.replicate e.DH.toNat (0:Int)) (List.replicate e.DH.toNat ([]:List Int)) 0)])) (A8 (i+1))
else none
else none
else none
else
J3 d
def E3(a:Bx):Nat->A4->Int->ABi A4
|0,_,_=>none
|n+1,d,i=>L3 a (E3 a n) d i
def J2(a:Bx)(o:A4):=E3 a BQ o 0
def L2(a:Bx)(L2:oh)(c:A4)(j:Int):=if decide (j<(a.dc.AL.length:Int))then
if Ap (c.AL.length+1) 8=true then
L2 (A4.mk c.df c.di (c.AL++[0]) c.AA) (A8 (j+1))
else none
else
J2 a c
def Bs(a:Bx):Nat->A4->Int->ABi A4
|0,_,_=>none
|n+1,c,j=>L2 a (Bs a n) c j
def J1(a:Bx)(l:A4):=Bs a BQ l 0
def L1(a:Bx)(L1:oh)(b:A4)(f:Int):=if decide (f<(a.dc.di.length:Int))then(gt a.dc.di f).bind λt=>if Ap (b.di.length+1) 8=true then
L1 (A4.mk b.df (b.di++[t.dg]) b.AL b.AA) (A8 (f+1))
else none
else
J1 a b
def AR(a:Bx):Nat->A4->Int->ABi A4
|0,_,_=>none
|n+1,b,f=>L1 a (AR a n) b f
end Db
section
open Db
def Db(a:Bx):=(CV a).bind λq=>if !q then
some (A4.mk (AQ.mk [] 0 [] []) [] [] [])
else(Cx a.dc).bind λs=>AR a BQ (A4.mk s [] [] []) 0
def b8{a:Bx}{r:A4}(h:Db a=some r):Says prog 138 [.agg (Kg a)] (.agg (N4 r)):=by refine kO mix func138 (hn [(1,[11,16,17,25,26,36,37,49,57,64]),(3,[23,24,34,43,44,47,55,56,74,75])] (E:=[(15,(Rc 55 [.m 3 6 3,.f 6 1,.C 6,.I 2 58 59,.U 0 60,.o (.mk 1 8 [si 0] (.t 62) (.t 62)),.f 6 1,.C 6,.I 2 65 66,.U 0 67,.o (.mk 1 24 [.sl false 1 []] (.t 69) (.t 69)),.o (.To z9 [(1,1,.t 63),(2,1,.t 70)]),.o (.Ox 4 [z9] [(0,.t 71)]),.o (.app 4 64 (.t 56) (.t 72)),.F 6 3,.S 1 74 73]))])) ?_;have a1:=@NS;have a2:=@Rg;have l3:=i4 λn b=>∃d i,(b 1=bA 7 (Kg a)/\b 2=bA 7 z4/\b 3=bA 7 (N4 d)/\b 6=si i)/\E3 a n d i=some r;have l2:=i4 λn b=>∃c j,(b 1=bA 7 (Kg a)/\b 2=bA 7 z4/\b 3=bA 7 (N4 c)/\b 5=si j)/\Bs a n c j=some r;have l1:=i4 λn c=>∃b f,(c 1=bA 7 (Kg a)/\c 2=bA 7 z4/\c 3=bA 7 (N4 b)/\c 4=si f)/\AR a n b f=some r;unfold Db at h;exact walk
end
namespace CQ
def J5:=some true
def J4(L2:AD->Int->ABi Bool)(c:Int)(e:mj)(j:Bool):=if j then
some false
else
L2 e.1 (A8 (c+1))
def L2(a:AE)(L2:AD->Int->ABi Bool)(d:AD)(c:Int):=if decide (c<(a.AB.length:Int))then(gt a.AB c).bind λf=>(CH a.dc d f).bind λe=>if !e.2 then
J4 L2 c e true
else(Fq a f.db f.Dy).bind λu=>if !u then
J4 L2 c e true
else(Fq a f.db f.DS).bind λv=>J4 L2 c e (!v)
else
J5
def Bs(a:AE):Nat->AD->Int->ABi Bool
|0,_,_=>none
|n+1,d,c=>L2 a (Bs a n) d c
def J3(a:AE):=Bs a BQ a.dg 0
def J2(L1:ja)(b:Int)(l:Bool):=if l then
some false
else
L1 (A8 (b+1))
def L1(a:AE)(L1:ja)(b:Int):=if decide (b<(a.dg.AL.length:Int))then(gt a.dg.df.Br b).bind λw=>if !w then(gt a.dg.AL b).bind λx=>J2 L1 b (x != 0)
else
J2 L1 b false
else
J3 a
def AR(a:AE):Nat->Int->ABi Bool
|0,_=>none
|n+1,b=>L1 a (AR a n) b
def J1(a:AE)(i:Bool):=if i then
some false
else
AR a BQ 0
end CQ
section
open CQ
def CQ(a:AE):=(A9 a.dc).bind λo=>if !o then
J1 a true
else(Ia a.dc a.dg).bind λp=>if !p then
J1 a true
else
if decide ((a.AB.length:Int)>16)then
J1 a true
else(GP a).bind λq=>if !q then
J1 a true
else(Cb a).bind λs=>if !s then
J1 a true
else(BI a).bind λt=>J1 a (!t)
def Rh{a:AE}{r:Bool}(h:CQ a=some r):Says prog 17 [.agg (Av a)] (sb r):=by refine kO mix func17 (hn [(1,[9,14,16,22,43,44,50,51,52,59,60,67,70,76,82]),(6,[93,95,102,104])] [(2,1)]) ?_;have a1:=@Lt;have a2:=@cG;have a3:=@KF;have a4:=@TY;have a5:=@Ym;have a6:=@Vy;have a7:=@XL;have l2:=i4 λn b=>∃d c,(b 1=bA 15 (Av a)/\b 4=bA 7 (Bi d)/\b 5=si c)/\Bs a n d c=some r;have l1:=i4 λn c=>∃b,(c 1=bA 15 (Av a)/\c 3=si b)/\AR a n b=some r;have c1:=i5 1 λb=>∃i,(b 1=bA 15 (Av a)/\b 41=sb i)/\J1 a i=some r;unfold CQ at h;exact walk
end
namespace C0
def J5(a:AY):ABi Bool:=some (decide ((a.AA.length:Int)>0))
def J4(L2:ja)(b:Int):=L2 (A8 (b+1))
def J3(L2:ja)(b:Int)(f:Bool):=if f then
some false
else
J4 L2 b
def J2(L2:ja)(b:Int)(c:DM):=(CZ c.dv).bind λl=>if !l then
J3 L2 b true
else(Hr BQ c.dz).bind λo=>J3 L2 b (!o)
def L3(L2:ja)(b:Int)(c:DM)(L3:ja)(e:Int):=if decide (e<(c.HE.length:Int))then(gt c.HE e).bind λq=>(CZ q).bind λj=>if !j then
some false
else
L3 (A8 (e+1))
else
J2 L2 b c
def E3(L2:ja)(b:Int)(c:DM):Nat->Int->ABi Bool
|0,_=>none
|n+1,e=>L3 L2 b c (E3 L2 b c n) e
def L2(a:AY)(L2:ja)(b:Int):=if decide (b<(a.AA.length:Int))then(gt a.AA b).bind λc=>E3 L2 b c BQ 0
else
J5 a
def Bs(a:AY):Nat->Int->ABi Bool
|0,_=>none
|n+1,b=>L2 a (Bs a n) b
def J1(a:AY):=Bs a BQ 0
def L1(a:AY)(L1:ja)(d:Int):=if decide (d<(a.ep.length:Int))then(gt a.ep d).bind λp=>(DK p).bind λi=>if !i then
some false
else
L1 (A8 (d+1))
else
J1 a
def AR(a:AY):Nat->Int->ABi Bool
|0,_=>none
|n+1,d=>L1 a (AR a n) d
end C0
section
open C0
def C0(a:AY):=AR a BQ 0
def YY{a:AY}{r:Bool}(h:C0 a=some r):Says prog 215 [.agg (Ct a)] (sb r):=by refine kO mix func215 (hn [(1,[8,14,22,28,57]),(5,[34,40,47,52])]) ?_;have a1:=@JE;have a2:=@Ql;have a3:=@S6;have l2:=i4 λn c=>∃b,(c 1=bA 2 (Ct a)/\c 4=si b)/\Bs a n b=some r;have l3:=iy λ_ d _ _ n f=>∃b c e,(f 1=bA 2 (Ct a)/\f 4=si b/\f 5=bA 4 (Jl c)/\f 6=si e)/\E3 (Bs a d) b c n e=some r;have l1:=i4 λn b=>∃d,(b 1=bA 2 (Ct a)/\b 3=si d)/\AR a n d=some r;unfold C0 at h;exact walk
end
namespace Fe
def J3:=some true
def J2(L1:ja)(c:Int)(i:Bool):=if i then
some false
else
L1 (A8 (c+1))
def L1(a:Bx)(b:A4)(L1:ja)(c:Int):=if decide (c<(a.AA.length:Int))then(gt b.AA c).bind λe=>if decide (e.PC<0)then
J2 L1 c true
else(gt a.AA c).bind λf=>if decide (e.PC>=(f.CO.length:Int))then
J2 L1 c true
else
if(e.DH.length:Int) != f.DH then
J2 L1 c true
else
J2 L1 c ((e.C9.length:Int) != f.DH)
else
J3
def AR(a:Bx)(b:A4):Nat->Int->ABi Bool
|0,_=>none
|n+1,c=>L1 a b (AR a b n) c
def J1(a:Bx)(b:A4)(d:Bool):=if d then
some false
else
AR a b BQ 0
end Fe
section
open Fe
def Fe(a:Bx)(b:A4):=(CV a).bind λj=>if !j then
J1 a b true
else(FZ a.dc b.df).bind λl=>if !l then
J1 a b true
else
if(b.di.length:Int) != (a.dc.di.length:Int)then
J1 a b true
else
if(b.AL.length:Int) != (a.dc.AL.length:Int)then
J1 a b true
else
J1 a b ((b.AA.length:Int) != (a.AA.length:Int))
def fS{a:Bx}{b:A4}{r:Bool}(h:Fe a b=some r):Says prog 239 [.agg (Kg a),.agg (LY b)] (sb r):=by refine kO mix func239 (hn [(2,[11,22,23,32,33,42,48,65,78,90]),(3,[13,19,29,39,54]),(6,[59,63,75,87])] [(2,1)]) ?_;have a1:=@NS;have a2:=@Of;have l1:=i4 λn d=>∃c,(d 2=bA 7 (Kg a)/\d 3=bA 7 (LY b)/\d 5=si c)/\AR a b n c=some r;have c1:=i5 1 λc=>∃d,(c 2=bA 7 (Kg a)/\c 3=bA 7 (LY b)/\c 46=sb d)/\J1 a b d=some r;unfold Fe at h;exact walk
end
namespace Gb
def J2:nw:=some (0,0)
def J1(L1:AD->Int->ABi (Int×Int))(b:Int)(d:mj)(f:Bool):=if f then
some (b,12)
else
L1 d.1 (A8 (b+1))
def L1(a:Ck)(L1:AD->Int->ABi (Int×Int))(c:AD)(b:Int):=if decide (b<(a.AB.length:Int))then(gt a.AB b).bind λe=>(CH a.dc c e).bind λd=>if !d.2 then
J1 L1 b d true
else(Dc a.AB b e.db e.Dy).bind λl=>if !l then
J1 L1 b d true
else(Dc a.AB b e.db e.DS).bind λo=>J1 L1 b d (!o)
else
J2
def AR(a:Ck):Nat->AD->Int->ABi (Int×Int)
|0,_,_=>none
|n+1,c,b=>L1 a (AR a n) c b
end Gb
section
open Gb
def Gb(a:Ck):=if decide ((a.AB.length:Int)>400)then
some (0,2)
else(A9 a.dc).bind λi=>if !i then
some (0,1)
else(Eo a.dc).bind λj=>AR a BQ j 0
def cA{a:Ck}{r:Int×Int}(h:Gb a=some r):Says prog 88 [.agg (Tu a)] (.Bo [si r.1,si r.2]):=by refine kO mix func88 (hn [(1,[9,13,17,21,27,33,43,54]),(4,[35]),(6,[46,48,57,59]),(7,[65]),(8,[40]),(37,[32,38,39])] (C:=[(55,2)])) ?_;have a1:=@KF;have a2:=@Je;have a3:=@Lt;have a4:=@cB;have l1:=i4 λn d=>∃c b,(d 1=bA 7 (Tu a)/\d 4=bA 7 (I5 c)/\d 5=si b)/\AR a n c b=some r;unfold Gb at h;exact walk
end
namespace G5
def J1(e:AD):ABi AD:=some e
def L1(b:Int)(a:Ck)(L1:AD->Int->ABi AD)(d:AD)(c:Int):=if decide (c<b)then(gt a.AB c).bind λj=>(CH a.dc d j).bind λi=>L1 i.1 (A8 (c+1))
else
J1 d
def AR(b:Int)(a:Ck):Nat->AD->Int->ABi AD
|0,_,_=>none
|n+1,d,c=>L1 b a (AR b a n) d c
end G5
section
open G5
def G5(a:Ck)(b:Int):=(Eo a.dc).bind λf=>AR b a BQ f 0
def cE{a:Ck}{b:Int}{r:AD}(h:G5 a b=some r):Says prog 89 [.agg (Tu a),si b] (.agg (I5 r)):=by refine kO mix func89 (hn [(2,[7,16,19]),(5,[18,27]),(24,[25])] (E:=[(5,(.l7 [(24,9,10,15)] [Ko 16 2 0 2,iA 17 6 16,i1 18 5 (.ld true 7 (.t 5)),Ko 19 2 6 2,iL 20 19,iC 21 6,iI 22 7 20 21,iA 23 7 22,⟨some ⟨24,[25],[]⟩,.call 55 [.t 17,.t 18,.t 23] 2,none⟩,i0 15 (.flk (.t 24) 1),i1 25 24 (.ext (.t 24) 0),i0 26 .fl,iS 7 5 25]))])) ?_;have a1:=@Je;have a2:=@Lt;have l1:=i4 λn e=>∃d c,(e 1=si b/\e 2=bA 7 (Tu a)/\e 4=bA 7 z0/\e 5=bA 7 (I5 d)/\e 6=si c)/\AR b a n d c=some r;unfold G5 at h;exact walk
end
end Go.Abs
