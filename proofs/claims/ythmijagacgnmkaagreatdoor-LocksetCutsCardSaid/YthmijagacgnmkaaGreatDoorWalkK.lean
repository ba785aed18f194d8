/- Typed programs of Go functions, and that the functions do what these say. -/
import Derived.Test.YthmijagacgnmkaaGreatDoorWalkJ
set_option linter.unusedSimpArgs false
set_option linter.unusedVariables false
namespace Go.Abs
open Go.Proofs
set_option maxRecDepth 1000000
set_option maxHeartbeats 4000000
namespace BH
def J2 (cv:BJ) (ac:Int):AB8 (Int×BJ):=
some (ac,cv)
def J4 (cw:BJ) (ad:Int):AB8 (Int×BJ):=
some (ad,cw)
def J5 (b:Bool×BJ) (ae:Int):AB8 (Int×BJ):=
some (ae,b.2)
def J7 (f:Bool×BJ) (af:Int):AB8 (Int×BJ):=
some (af,f.2)
def J8 (a:AQ) (b:Bool×BJ) (l:Bool):AB8 (Int×BJ):=
if l then
some (7,b.2)
else
(CP b.2.MR a.Name).bind λbl=>
if decide (bl≥0)then
some (8,b.2)
else
if Ak (b.2.MR.length+1) 16=true then
some (0,(BJ.mk b.2.p b.2.Be b.2.Ga (b.2.MR++[a.Name]) b.2.ZC))
else none
def J9 (b:Bool×BJ) (ai:Int):AB8 (Int×BJ):=
some (ai,b.2)
def sM (a:AQ) (b:Bool×BJ) (c:BJ) (aa:Int):AB8 (Int×BJ):=
if Ak (b.2.ZC.length+1) 16=true then
(FM c.p c.Be a.Expr).bind λce=>
(FN aa ce).bind λcf=>
some (cf,(BJ.mk b.2.p b.2.Be b.2.Ga b.2.MR (b.2.ZC++[a.Name])))
else none
def Z9 (i:Int) (a:AQ) (b:Bool×BJ) (c:BJ) (ab:Bool):AB8 (Int×BJ):=
if ab then
sM a b c 8
else
sM a b c i
def QZ (a:AQ) (b:Bool×BJ) (c:BJ) (i:Int):AB8 (Int×BJ):=
if i==0 then
(CP b.2.ZC a.Name).bind λcd=>
Z9 i a b c (decide (cd≥0))
else
Z9 i a b c false
def J6 (a:AQ) (d e b:Bool×BJ) (c:BJ) (j:Bool):AB8 (Int×BJ):=
if j then
(DT c.p c.Be a.Name 5 5).bind λw=>
if w != 0 then
some (w,b.2)
else
(Cw c.p.Decls a.Name).bind λbc=>
(gt c.p.Decls bc).bind λcy=>
(BW b.2 4 4 cy.On).bind λf=>
if d.1 then
(B1 true).bind λbe=>
J7 f be
else
if !f.1 then
(B1 true).bind λbf=>
J7 f bf
else
if a.Op==9 then
(B1 e.1).bind λbi=>
J7 f bi
else
(B1 false).bind λbj=>
J7 f bj
else
if a.Op==12 then
(DT c.p c.Be a.Name 7 7).bind λx=>
if x != 0 then
some (x,b.2)
else
(Cu c.p.AA a.Name).bind λy=>
if d.1 then
J8 a b true
else
if e.1 then
J8 a b true
else
if b.1 then
J8 a b true
else
if y==c.Be then
J8 a b true
else
J8 a b (y==0)
else
if a.Op==13 then
(DT c.p c.Be a.Name 7 7).bind λq=>
if d.1 then
(B1 true).bind λbo=>
(FN q bo).bind λbp=>
J9 b bp
else
if e.1 then
(B1 true).bind λbs=>
(FN q bs).bind λbt=>
J9 b bt
else
(Cu c.p.AA a.Name).bind λbu=>
(B1 (bu==c.Be)).bind λbv=>
(FN q bv).bind λbw=>
J9 b bw
else
if a.Op==14 then
(DT c.p c.Be a.Name 6 6).bind λz=>
if d.1 then
(B1 true).bind λbx=>
(FN z bx).bind λbz=>
QZ a b c bz
else
(B1 b.1).bind λca=>
(FN z ca).bind λcb=>
QZ a b c cb
else
(DT c.p c.Be a.Name 8 8).bind λci=>
(DT c.p c.Be a.Arg 6 6).bind λcj=>
(B1 d.1).bind λcl=>
(FN cj cl).bind λco=>
(FN ci co).bind λcp=>
some (cp,b.2)
def J3 (a:AQ) (d e b:Bool×BJ) (c:BJ) (p:Bool):AB8 (Int×BJ):=
if p then
(DT c.p c.Be a.Name 4 4).bind λu=>
if d.1 then
(B1 true).bind λav=>
(FN u av).bind λaw=>
J4 b.2 aw
else
(BW b.2 5 6 a.Name).bind λv=>
(B1 v.1).bind λax=>
(FN u ax).bind λay=>
J4 v.2 ay
else
if a.Op==7 then
(B1 d.1).bind λaz=>
some (az,b.2)
else
if a.Op==8 then
if d.1 then
(B1 true).bind λba=>
J5 b ba
else
(B1 e.1).bind λbb=>
J5 b bb
else
if a.Op==9 then
J6 a d e b c (a.Op==9)
else
if a.Op==10 then
J6 a d e b c (a.Op==10)
else
J6 a d e b c (a.Op==11)
def J1 (a:AQ) (d e b:Bool×BJ) (c:BJ) (o:Bool):AB8 (Int×BJ):=
if o then
(FM c.p c.Be a.Expr).bind λal=>
some (al,b.2)
else
if a.Op==4 then
(DT c.p c.Be a.Name 3 3).bind λs=>
if d.1 then
(B1 true).bind λao=>
(FN s ao).bind λap=>
J2 b.2 ap
else
(BW b.2 4 4 a.Name).bind λt=>
(B1 t.1).bind λaq=>
(FN s aq).bind λau=>
J2 t.2 au
else
if a.Op==5 then
J3 a d e b c (a.Op==5)
else
J3 a d e b c (a.Op==6)
end BH
section
open BH
def BH (c:BJ) (a:AQ):AB8 (Int×BJ):=
(BW c 7 7 (⟨#[]⟩:AB9)).bind λd=>
(BW d.2 8 8 (⟨#[]⟩:AB9)).bind λe=>
(BW e.2 3 3 (⟨#[]⟩:AB9)).bind λb=>
if a.Op==1 then
if(a.Index.length:Int)==0 then
(DT c.p c.Be a.Name 8 1).bind λbd=>
(FM c.p c.Be a.Expr).bind λbq=>
(FN bd bq).bind λcc=>
some (cc,b.2)
else
(DT c.p c.Be a.Name 2 2).bind λcq=>
(gt a.Index 0).bind λcx=>
(FM c.p c.Be cx).bind λcs=>
(FM c.p c.Be a.Expr).bind λct=>
(FN cs ct).bind λcu=>
(FN cq cu).bind λaj=>
some (aj,b.2)
else
if a.Op==2 then
J1 a d e b c (a.Op==2)
else
J1 a d e b c (a.Op==3)
theorem T7 {c:BJ} {a:AQ} {r:Int×BJ} (h:BH c a=some r):BA Tryz.prog 239 [bA 6 (HX c),.agg [si a.Op,si a.FA,BZ a.Name,BZ a.Arg,vS 4 BD a.Index,si a.Expr.Op,si a.Expr.N,BZ a.Expr.Name,vS 4 BD a.Expr.L,vS 11 A7 a.Body,vS 11 A7 a.Else]] (si r.1) [bA 6 (HX r.2),.dead]:=by refine kL mix Tryz.func239 (hn [(0,[15,16,17,19,20,21,23,25,27,84,101,131,188,189,190,191,197,198,199,200,205,206,245,246,247,248,255,256,257,258,263,264]),(3,[29,33,39,44,50,55,62,72,79,85,96,102,125,136,149,161,169,192,201,211,221,233,249,259,268,274,279]),(5,[132,134,167,219])] [(12,1),(17,3),(24,6),(40,8)] (E:=[(39,(.aY [(0,0,9,196)] [i0 196 .fl,i1 197 0 (.cp (.t 0)),i1 198 0 (.KK (.t 197)),Ll 199 0 4 198,Zm 200 0 199,Ll 201 3 2 3,iL 202 201,i0 203 (.Na 1 [[BZ ⟨#[]⟩]] [(0,.t 202)]),i0 204 (.app 1 16 (.t 200) (.t 203)),i1 205 0 (.KK (.t 0)),Ll 206 0 4 205,iS 1 206 204])),(47,(.aY [(0,0,9,254)] [i0 254 .fl,i1 255 0 (.cp (.t 0)),i1 256 0 (.KK (.t 255)),Ll 257 0 5 256,Zm 258 0 257,Ll 259 3 2 3,iL 260 259,i0 261 (.Na 1 [[BZ ⟨#[]⟩]] [(0,.t 260)]),i0 262 (.app 1 16 (.t 258) (.t 261)),i1 263 0 (.KK (.t 0)),Ll 264 0 5 263,iS 1 264 262]))])) ?_;have a1:= @P4;have a2:= @RX;have a3:= @Zv;have a4:= @kH;have a5:= @Ux;have a6:= @JW;have a7:= @KR;have a8:= @Hx;have c8:=λn1 n2 n3 n4:Nat=>Bm 8 λτ=>∃(b:Bool×BJ) (l:Bool),(τ 0=bA 6 (HX b.2)/\τ 3=bA 11 [si a.Op,si a.FA,BZ a.Name,BZ a.Arg,vS 4 BD a.Index,si a.Expr.Op,si a.Expr.N,BZ a.Expr.Name,vS 4 BD a.Expr.L,vS 11 A7 a.Body,vS 11 A7 a.Else]/\τ 187=sb l)/\J8 a b l=some r;have c6:=λn1 n2 n3 n4:Nat=>Bm 6 λτ=>∃(d e b:Bool×BJ) (j:Bool),(τ 0=bA 6 (HX b.2)/\τ 3=bA 11 [si a.Op,si a.FA,BZ a.Name,BZ a.Arg,vS 4 BD a.Index,si a.Expr.Op,si a.Expr.N,BZ a.Expr.Name,vS 4 BD a.Expr.L,vS 11 A7 a.Body,vS 11 A7 a.Else]/\τ 5=bA 2 (CN c.p)/\τ 6=si c.Be/\τ 7=sb d.1/\τ 8=sb e.1/\τ 9=sb b.1/\τ 30=si a.Op/\τ 119=sb j)/\J6 a d e b c j=some r;have c3:=λn1 n2 n3 n4:Nat=>Bm 3 λτ=>∃(d e b:Bool×BJ) (p:Bool),(τ 0=bA 6 (HX b.2)/\τ 3=bA 11 [si a.Op,si a.FA,BZ a.Name,BZ a.Arg,vS 4 BD a.Index,si a.Expr.Op,si a.Expr.N,BZ a.Expr.Name,vS 4 BD a.Expr.L,vS 11 A7 a.Body,vS 11 A7 a.Else]/\τ 5=bA 2 (CN c.p)/\τ 6=si c.Be/\τ 7=sb d.1/\τ 8=sb e.1/\τ 9=sb b.1/\τ 30=si a.Op/\τ 91=sb p)/\J3 a d e b c p=some r;have c1:=λn1 n2 n3 n4:Nat=>Bm 1 λτ=>∃(d e b:Bool×BJ) (o:Bool),(τ 0=bA 6 (HX b.2)/\τ 3=bA 11 [si a.Op,si a.FA,BZ a.Name,BZ a.Arg,vS 4 BD a.Index,si a.Expr.Op,si a.Expr.N,BZ a.Expr.Name,vS 4 BD a.Expr.L,vS 11 A7 a.Body,vS 11 A7 a.Else]/\τ 5=bA 2 (CN c.p)/\τ 6=si c.Be/\τ 7=sb d.1/\τ 8=sb e.1/\τ 9=sb b.1/\τ 30=si a.Op/\τ 67=sb o)/\J1 a d e b c o=some r;unfold BH at h;exact walk
end
def f105c:IC:=(Ra 10 [.b 6 [28,96] (.bx 7 (.t 1)),.b 7 [17] (.bx 6 (.t 2)),.o (.mv (.c (.own false 7 [])))]
(Ra 0 [.b 11 [50,105,110] (.mv (.c (.own false 7 [])))]
(Ra 17 [.f 4 7,.Z 18,.o (.mk 1 24 z18 (.t 19) (.t 19)),.b 12 [21,40,42,44,45,48,69,91,94,95,104] (.mv (.t 20))]
(Sq (Ra 21 [.y 12 (.cp (.t 12)),.Z 21,.Y 0]
(Bl 0 (Ra 24 [.O .lss 23 22]
(Sq (cX 24 0)
(Sq (Bk 1 (Ra 25 [.C 23,.M 13 25]
(Ra 26 [.C 4,.C 26,.G 27 true,.f 6 6,.C 13,.I 1 29 30,.L 31,.P .gtr 32 1,.e,.W 27 33,.C 34,.G 35 true,.y 0 (.cp (.t 0)),.o (.VW 104 [] (.t 36) none [.c (si 3)]),.P .eql 37 2,.e,.W 35 38]
(Ci 39 (Rc 40 [.y 12 (.cp (.t 12)),.C 13,.y 12 (.cp (.t 12)),.C 13,.J 12 1 42 43,.l 12 44,.o (.Na 1 [[si 0]] [(0,.c (si 1))]),.o (.app 1 8 (.t 45) (.t 46)),.J 12 1 40 41,.S 1 48 47])))))
(Rc 49 [.P .add 23 1,.w 23,.C 49]))))))
(Sq (Bl 2 (Sq (Nf 4 (Rc 50 [.y 11 (.cp (.t 11)),.Z 50,.C 3,.O .lss 51 52,.C 53,.G 54 true,.p 0 1,.r 0 0,.Z 62,.O .lss 58 63,.e,.W 54 64])
(cX 65 2))
(Bk 3 (Sq (.Wc [.o (i1 66 0 (.cp (.t 0))),.o (iA 67 7 6),.o (iA 68 6 7),.o (i1 69 12 (.cp (.t 12))),.lb (some ⟨70,[],[]⟩) 154 (.t 66) [.t 67,.t 68] (.t 69),.o (⟨some ⟨14,[74,80,84,89,92,98,106],[]⟩,.bx 7 (.c (.agg z2)),none⟩),.o (iS 7 14 70)])
(Sq (.gz false 14 [(0,6,7)] (.gz false 14 [(0,5,7)] (Rc 72 [.A 6 7,.A 7 6,.y 14 (.ld true 7 (.t 14)),.c 21 [72,73,74] 1,.w 71,.C 75,.w 76,.o (.ext (.t 71) 0),.o (.ext (.t 71) 1),.w 15,.o (.bx 7 (.c (.agg z0))),.S 7 15 76,.M 16 77])))
(Sq (Ra 78 [.C 16,.N 78]
(Ci 79 (.exit 3)))
(Sq (Ra 80 [.f 1 14,.Q 81 3,.C 82,.G 83 false,.f 1 14,.P .eql 85 23,.e,.V 83 86]
(Ci 87 (.aY [(12,0,16,88)] [i0 88 .fl,Ll 89 14 0 14,iL 90 89,i1 91 12 (.cp (.t 12)),Ll 92 14 0 14,iL 93 92,rL 94 12 1 91 93,Zm 95 12 94,Ll 96 6 6 6,iL 97 96,Ll 98 14 0 14,iL 99 98,iI 100 1 97 99,iL 101 100,i0 102 (.Na 1 [[si 0]] [(0,.t 101)]),i0 103 (.app 1 8 (.t 95) (.t 102)),rL 104 12 1 12 90,iS 1 104 103])))
(Ra 105 [.y 11 (.cp (.t 11)),.y 14 (.ld true 7 (.t 14)),.o (.Na 7 [z2] [(0,.t 106)]),.o (.app 7 88 (.t 105) (.t 107)),.b 11 [50,105,110] (.mv (.t 108))]
(Rc 109 [.A 7 15,.S 7 6 109])))))))))
(Rb 110 [.y 11 (.cp (.t 11)),.M 10 110]))))))
def f105g:Gi:=⟨[(17,[7]),(21,[12]),(28,[6]),(36,[0]),(40,[12]),(42,[12]),(44,[12]),(45,[12]),(48,[12]),(50,[11]),(55,[0]),(56,[0]),(57,[0]),(59,[0]),(60,[0]),(61,[0]),(62,[0]),(66,[0]),(69,[12]),(74,[14]),(80,[14]),(84,[14]),(89,[14]),(91,[12]),(92,[14]),(94,[12]),(95,[12]),(96,[6]),(98,[14]),(104,[12]),(105,[11]),(106,[14]),(110,[11])]⟩
def f105r:List RV:=[.tmp 10]
namespace Bv
def J7 (aj:AU) (z:List AG):AB8 ((List AG)×AU):=
some (z,aj)
def J6 (L2:AU->AB->(List AG)->(List (List Int))->AB8 ((List AG)×AU)) (c:List AG) (j:AG×AU) (s:AB×Bool) (ac:List (List Int)):AB8 ((List AG)×AU):=
if Ak (c.length+1) 88=true then
L2 j.2 s.1 (c++[j.1]) ac
else none
def J5 (L2:AU->AB->(List AG)->(List (List Int))->AB8 ((List AG)×AU)) (c:List AG) (d:List (List Int)) (e:AB) (j:AG×AU) (s:AB×Bool) (ae:Bool):AB8 ((List AG)×AU):=
if ae then
(gt d j.1.Thread).bind λy=>
(gt e.Count j.1.Thread).bind λao=>
if Ak (y.length+1) 8=true then
J6 L2 c j s (d.set j.1.Thread.toNat (y++[ao]))
else none
else
J6 L2 c j s d
def J4 (L2:AU->AB->(List AG)->(List (List Int))->AB8 ((List AG)×AU)) (c:List AG) (d:List (List Int)) (e:AB) (i:AU) (a:AD) (u:Bool):AB8 ((List AG)×AU):=
if u then
(DN i e a d).bind λj=>
(Bg a e j.1).bind λs=>
if !s.2 then
L2 j.2 e c d
else
if j.1.Kind==3 then
J5 L2 c d e j s true
else
J5 L2 c d e j s (j.1.Kind==23)
else
J7 i c
def L2 (b:Int) (a:AD) (L2:AU->AB->(List AG)->(List (List Int))->AB8 ((List AG)×AU)) (i:AU) (e:AB) (c:List AG) (d:List (List Int)):AB8 ((List AG)×AU):=
if decide ((c.length:Int)<b)then
J4 L2 c d e i a (decide (i.At<(i.L.length:Int)))
else
J4 L2 c d e i a false
def Cr (b:Int) (a:AD):Nat->AU->AB->(List AG)->(List (List Int))->AB8 ((List AG)×AU)
|0,_,_,_,_=>none
|n+1,i,e,c,d=>L2 b a (Cr b a n) i e c d
def J3 (b:Int) (l:AB) (a:AD) (ai:AU) (ab:List (List Int)):AB8 ((List AG)×AU):=
Cr b a BP ai l [] ab
def J2 (L1:AU->(List (List Int))->Int->AB8 ((List AG)×AU)) (f:Int) (af:AU) (aa:List (List Int)):AB8 ((List AG)×AU):=
L1 af aa (A1 (f+1))
def J1 (L1:AU->(List (List Int))->Int->AB8 ((List AG)×AU)) (o:List (List Int)) (f:Int) (v:AU) (ad:Bool):AB8 ((List AG)×AU):=
if ad then
(gt o f).bind λx=>
if Ak (x.length+1) 8=true then
J2 L1 f v (o.set f.toNat (x++[1]))
else none
else
J2 L1 f v o
def L1 (p:Bool) (b:Int) (l:AB) (a:AD) (L1:AU->(List (List Int))->Int->AB8 ((List AG)×AU)) (q:AU) (o:List (List Int)) (f:Int):AB8 ((List AG)×AU):=
if decide (f<((List.replicate a.AA.length ([]:List Int)).length:Int))then
if p then
(gt l.Count f).bind λal=>
if decide (al>1)then
(Ae q 3).bind λw=>
J1 L1 o f w.2 (w.1==2)
else
J1 L1 o f q false
else
J1 L1 o f q false
else
J3 b l a q o
def AZ (p:Bool) (b:Int) (l:AB) (a:AD):Nat->AU->(List (List Int))->Int->AB8 ((List AG)×AU)
|0,_,_,_=>none
|n+1,q,o,f=>L1 p b l a (AZ p b l a n) q o f
end Bv
section
open Bv
def Bv (t:AU) (l:AB) (a:AD) (b:Int) (p:Bool):AB8 ((List AG)×AU):=
if 0≤(a.AA.length:Int)/\(a.AA.length:Int)≤(a.AA.length:Int)/\Ak a.AA.length 24=true then
AZ p b l a BP t (List.replicate a.AA.length ([]:List Int)) 0
else none
theorem Rf {t:AU} {l:AB} {a:AD} {b:Int} {p:Bool} {r:(List AG)×AU} (h:Bv t l a b p=some r):BA Tryz.prog 105 [bA 2 (FE t),.agg (A3 l),.agg (Ah a),si b,sb p] (vS 7 BX r.1) [bA 2 (FE r.2),.dead,.dead,.dead,.dead]:=by refine wP mix Tryz.func105 (I:=⟨f105c,f105g,f105r⟩) ?_;simp only[f105c,f105g,f105r];have a1:= @Y7;have a2:= @JP;have a3:= @Cp;have l2:=λn1 n2 n3 n4:Nat=>Av λn τ=>∃(i:AU) (e:AB) (c:List AG) (d:List (List Int)),(τ 0=bA 2 (FE i)/\τ 3=si b/\τ 6=bA 7 (A3 e)/\τ 7=bA 6 (Ah a)/\τ 11=vO 7 BX c/\τ 12=vO 1 Ng d)/\Cr b a n i e c d=some r;have l1:=λn1 n2 n3 n4:Nat=>Av λn τ=>∃(q:AU) (o:List (List Int)) (f:Int),(τ 0=bA 2 (FE q)/\τ 3=si b/\τ 4=sb p/\τ 6=bA 7 (A3 l)/\τ 7=bA 6 (Ah a)/\τ 11= .own false 7 []/\τ 12=vO 1 Ng o/\τ 22=si ((List.replicate a.AA.length ([]:List Int)).length:Int)/\τ 23=si f)/\AZ p b l a n q o f=some r;have c4:=λn1 n2 n3 n4:Nat=>Bm 4 λτ=>∃(c:List AG) (d:List (List Int)) (e:AB) (i:AU) (u:Bool),(τ 0=bA 2 (FE i)/\τ 3=si b/\τ 6=bA 7 (A3 e)/\τ 7=bA 6 (Ah a)/\τ 11=vO 7 BX c/\τ 12=vO 1 Ng d/\τ 65=sb u)/\J4 (Cr b a n2) c d e i a u=some r;unfold Bv at h;exact walk
end
namespace BQ
def J4 (a:AG) (d:AB):AB8 (AB×Bool):=
(gt d.Count a.Thread).bind λw=>
some ((AB.mk d.Sync d.Cells d.AK (d.Count.set a.Thread.toNat (A1 (w+1)))),true)
def J3 (a:AG) (b:AB) (c:AD) (o:Int):AB8 (AB×Bool):=
(FL c b.Sync a.Thread a.Kind a.Obj o).bind λi=>
if !i.2.2 then
some ((AB.mk (AP.mk [] 0 [] []) [] [] []),false)
else
(FW b.Cells).bind λj=>
(FW b.AK).bind λl=>
(slices_Clone_int b.Count).bind λp=>
if a.Kind==4 then
(gt j a.Obj).bind λx=>
J4 a (AB.mk i.1 (j.set a.Obj.toNat a.Value) l p)
else
if a.Kind==22 then
(gt l a.Obj).bind λy=>
J4 a (AB.mk i.1 j (l.set a.Obj.toNat a.Value) p)
else
J4 a (AB.mk i.1 j l p)
def J2 (a:AG) (b:AB) (c:AD) (f:Bool):AB8 (AB×Bool):=
if f then
some ((AB.mk (AP.mk [] 0 [] []) [] [] []),false)
else
if a.Kind==18 then
J3 a b c a.Value
else
J3 a b c (-1)
def J1 (a:AG) (b:AB) (c:AD) (e:Bool):AB8 (AB×Bool):=
if e then
some ((AB.mk (AP.mk [] 0 [] []) [] [] []),false)
else
(Dl c b.Sync a.Thread a.Kind a.Obj).bind λs=>
if !s then
J2 a b c true
else
(DW c a).bind λt=>
if !t then
J2 a b c true
else
(Ab c b a).bind λu=>
if !u then
J2 a b c true
else
(A4 b a).bind λv=>
J2 a b c (!v)
end BQ
section
open BQ
def BQ (c:AD) (b:AB) (a:AG):AB8 (AB×Bool):=
(Ep c b).bind λq=>
if !q then
J1 a b c true
else
if decide (a.Thread<0)then
J1 a b c true
else
if decide (a.Thread≥(c.AA.length:Int))then
J1 a b c true
else
if decide (a.Kind<1)then
J1 a b c true
else
J1 a b c (decide (a.Kind>23))
theorem HE {c:AD} {b:AB} {a:AG} {r:AB×Bool} (h:BQ c b a=some r):Says Tryz.prog 16 [.agg (Ah c),.agg (A3 b),.agg (BX a)] (.BM [.agg (Dt r.1),sb r.2]):=by refine kO mix Tryz.func16 (hn [(3,[25]),(4,[42,79,96,99,102]),(5,[18,23,31,36,44,46,48,72,75,81,83,85,106,112,114,121,123,128]),(9,[95]),(11,[92]),(12,[110,111,116,119,120,125,126,127,130,133,134]),(88,[77,89,90,91])] [(2,1),(5,2),(8,3)]) ?_;have a1:= @V9;have a2:= @Kg;have a3:= @Gp;have a4:= @Mt;have a5:= @QS;have a6:= @NX;have a7:= @QT;have a8:= @Sn;have c3:=λn1 n2 n3 n4:Nat=>Bm 3 λτ=>∃(o:Int),(τ 3=bA 6 (Ah c)/\τ 4=bA 7 (A3 b)/\τ 5=bA 7 (BX a)/\τ 6=bA 7 z0/\τ 8=si o)/\J3 a b c o=some r;have c2:=λn1 n2 n3 n4:Nat=>Bm 2 λτ=>∃(f:Bool),(τ 3=bA 6 (Ah c)/\τ 4=bA 7 (A3 b)/\τ 5=bA 7 (BX a)/\τ 6=bA 7 z0/\τ 70=sb f)/\J2 a b c f=some r;have c1:=λn1 n2 n3 n4:Nat=>Bm 1 λτ=>∃(e:Bool),(τ 3=bA 6 (Ah c)/\τ 4=bA 7 (A3 b)/\τ 5=bA 7 (BX a)/\τ 6=bA 7 z0/\τ 39=sb e)/\J1 a b c e=some r;unfold BQ at h;exact walk
end
namespace C1
def J3 (p:Aj):AB8 Aj:=
some p
def L3 (a:BT) (L3:Aj->Int->AB8 Aj) (d:Aj) (i:Int):AB8 Aj:=
if decide (i<(a.AA.length:Int))then
(gt a.AA i).bind λe=>
if 0≤e.Ch/\e.Ch≤e.Ch/\Ak e.Ch.toNat 8=true then
if 0≤e.Ch/\e.Ch≤e.Ch/\Ak e.Ch.toNat 24=true then
if Ak (d.AA.length+1) 64=true then
L3 (Aj.mk d.Sync d.Cells d.AK (d.AA++[(AL.mk 0 (List.replicate e.Ch.toNat (0:Int)) (List.replicate e.Ch.toNat ([]:List Int)) 0)])) (A1 (i+1))
else none
else none
else none
else
J3 d
def Gq (a:BT):Nat->Aj->Int->AB8 Aj
|0,_,_=>none
|n+1,d,i=>L3 a (Gq a n) d i
def J2 (a:BT) (o:Aj):AB8 Aj:=
Gq a BP o 0
def L2 (a:BT) (L2:Aj->Int->AB8 Aj) (c:Aj) (j:Int):AB8 Aj:=
if decide (j<(a.World.AK.length:Int))then
if Ak (c.AK.length+1) 8=true then
L2 (Aj.mk c.Sync c.Cells (c.AK++[0]) c.AA) (A1 (j+1))
else none
else
J2 a c
def Cr (a:BT):Nat->Aj->Int->AB8 Aj
|0,_,_=>none
|n+1,c,j=>L2 a (Cr a n) c j
def J1 (a:BT) (l:Aj):AB8 Aj:=
Cr a BP l 0
def L1 (a:BT) (L1:Aj->Int->AB8 Aj) (b:Aj) (f:Int):AB8 Aj:=
if decide (f<(a.World.Cells.length:Int))then
(gt a.World.Cells f).bind λt=>
if Ak (b.Cells.length+1) 8=true then
L1 (Aj.mk b.Sync (b.Cells++[t.Init]) b.AK b.AA) (A1 (f+1))
else none
else
J1 a b
def AZ (a:BT):Nat->Aj->Int->AB8 Aj
|0,_,_=>none
|n+1,b,f=>L1 a (AZ a n) b f
end C1
section
open C1
def C1 (a:BT):AB8 Aj:=
(Bz a).bind λq=>
if !q then
some (Aj.mk (AP.mk [] 0 [] []) [] [] [])
else
(CR a.World).bind λs=>
AZ a BP (Aj.mk s [] [] []) 0
theorem Yt {a:BT} {r:Aj} (h:C1 a=some r):Says Tryz.prog 157 [.agg (Jo a)] (.agg (Mk r)):=by refine kO mix Tryz.func157 (hn [(1,[11,16,17,25,26,36,37,49,57,64]),(3,[23,24,34,43,44,47,55,56,74,75])] (E:=[(15,(Rc 55 [.m 3 6 3,.f 6 1,.C 6,.I 2 58 59,.U 0 60,.o (.mk 1 8 [si 0] (.t 62) (.t 62)),.f 6 1,.C 6,.I 2 65 66,.U 0 67,.o (.mk 1 24 [.sl false 1 []] (.t 69) (.t 69)),.o (.Uc z9 [(1,1,.t 63),(2,1,.t 70)]),.o (.Na 4 [z9] [(0,.t 71)]),.o (.app 4 64 (.t 56) (.t 72)),.F 6 3,.S 1 74 73]))])) ?_;have a1:= @MI;have a2:= @QC;have l3:=λn1 n2 n3 n4:Nat=>Av λn τ=>∃(d:Aj) (i:Int),(τ 1=bA 7 (Jo a)/\τ 2=bA 7 z3/\τ 3=bA 7 (Mk d)/\τ 6=si i)/\Gq a n d i=some r;have l2:=λn1 n2 n3 n4:Nat=>Av λn τ=>∃(c:Aj) (j:Int),(τ 1=bA 7 (Jo a)/\τ 2=bA 7 z3/\τ 3=bA 7 (Mk c)/\τ 5=si j)/\Cr a n c j=some r;have l1:=λn1 n2 n3 n4:Nat=>Av λn τ=>∃(b:Aj) (f:Int),(τ 1=bA 7 (Jo a)/\τ 2=bA 7 z3/\τ 3=bA 7 (Mk b)/\τ 4=si f)/\AZ a n b f=some r;unfold C1 at h;exact walk
end
namespace Es
def J5:AB8 Bool:=
some true
def J4 (L2:AB->Int->AB8 Bool) (c:Int) (e:AB×Bool) (j:Bool):AB8 Bool:=
if j then
some false
else
L2 e.1 (A1 (c+1))
def L2 (a:AO) (L2:AB->Int->AB8 Bool) (d:AB) (c:Int):AB8 Bool:=
if decide (c<(a.AF.length:Int))then
(gt a.AF c).bind λf=>
(Bg a.World d f).bind λe=>
if !e.2 then
J4 L2 c e true
else
(HU a f.Thread f.Du).bind λu=>
if !u then
J4 L2 c e true
else
(HU a f.Thread f.DR).bind λv=>
J4 L2 c e (!v)
else
J5
def Cr (a:AO):Nat->AB->Int->AB8 Bool
|0,_,_=>none
|n+1,d,c=>L2 a (Cr a n) d c
def J3 (a:AO):AB8 Bool:=
Cr a BP a.Init 0
def J2 (L1:Int->AB8 Bool) (b:Int) (l:Bool):AB8 Bool:=
if l then
some false
else
L1 (A1 (b+1))
def L1 (a:AO) (L1:Int->AB8 Bool) (b:Int):AB8 Bool:=
if decide (b<(a.Init.AK.length:Int))then
(gt a.Init.Sync.Bp b).bind λw=>
if !w then
(gt a.Init.AK b).bind λx=>
J2 L1 b (x != 0)
else
J2 L1 b false
else
J3 a
def AZ (a:AO):Nat->Int->AB8 Bool
|0,_=>none
|n+1,b=>L1 a (AZ a n) b
def J1 (a:AO) (i:Bool):AB8 Bool:=
if i then
some false
else
AZ a BP 0
end Es
section
open Es
def Es (a:AO):AB8 Bool:=
(As a.World).bind λo=>
if !o then
J1 a true
else
(HY a.World a.Init).bind λp=>
if !p then
J1 a true
else
if decide ((a.AF.length:Int)>16)then
J1 a true
else
(He a).bind λq=>
if !q then
J1 a true
else
(Ea a).bind λs=>
if !s then
J1 a true
else
(C5 a).bind λt=>
J1 a (!t)
theorem QD {a:AO} {r:Bool} (h:Es a=some r):Says Tryz.prog 38 [.agg (BV a)] (sb r):=by refine kO mix Tryz.func38 (hn [(1,[9,14,16,22,43,44,50,51,52,59,60,67,70,76,82]),(6,[93,95,102,104])] [(2,1)]) ?_;have a1:= @JP;have a2:= @Yx;have a3:= @JH;have a4:= @Re;have a5:= @Wb;have a6:= @UE;have a7:= @U7;have l2:=λn1 n2 n3 n4:Nat=>Av λn τ=>∃(d:AB) (c:Int),(τ 1=bA 15 (BV a)/\τ 4=bA 7 (A3 d)/\τ 5=si c)/\Cr a n d c=some r;have l1:=λn1 n2 n3 n4:Nat=>Av λn τ=>∃(b:Int),(τ 1=bA 15 (BV a)/\τ 3=si b)/\AZ a n b=some r;have c1:=λn1 n2 n3 n4:Nat=>Bm 1 λτ=>∃(i:Bool),(τ 1=bA 15 (BV a)/\τ 41=sb i)/\J1 a i=some r;unfold Es at h;exact walk
end
namespace CV
def J5 (a:AR):AB8 Bool:=
some (decide ((a.AA.length:Int)>0))
def J4 (L2:Int->AB8 Bool) (b:Int):AB8 Bool:=
L2 (A1 (b+1))
def J3 (L2:Int->AB8 Bool) (b:Int) (f:Bool):AB8 Bool:=
if f then
some false
else
J4 L2 b
def J2 (L2:Int->AB8 Bool) (b:Int) (c:Co):AB8 Bool:=
(B3 c.Name).bind λl=>
if !l then
J3 L2 b true
else
(HA BP c.Body).bind λo=>
J3 L2 b (!o)
def L3 (L2:Int->AB8 Bool) (b:Int) (c:Co) (L3:Int->AB8 Bool) (e:Int):AB8 Bool:=
if decide (e<(c.GZ.length:Int))then
(gt c.GZ e).bind λq=>
(B3 q).bind λj=>
if !j then
some false
else
L3 (A1 (e+1))
else
J2 L2 b c
def Gq (L2:Int->AB8 Bool) (b:Int) (c:Co):Nat->Int->AB8 Bool
|0,_=>none
|n+1,e=>L3 L2 b c (Gq L2 b c n) e
def L2 (a:AR) (L2:Int->AB8 Bool) (b:Int):AB8 Bool:=
if decide (b<(a.AA.length:Int))then
(gt a.AA b).bind λc=>
Gq L2 b c BP 0
else
J5 a
def Cr (a:AR):Nat->Int->AB8 Bool
|0,_=>none
|n+1,b=>L2 a (Cr a n) b
def J1 (a:AR):AB8 Bool:=
Cr a BP 0
def L1 (a:AR) (L1:Int->AB8 Bool) (d:Int):AB8 Bool:=
if decide (d<(a.Decls.length:Int))then
(gt a.Decls d).bind λp=>
(Ck p).bind λi=>
if !i then
some false
else
L1 (A1 (d+1))
else
J1 a
def AZ (a:AR):Nat->Int->AB8 Bool
|0,_=>none
|n+1,d=>L1 a (AZ a n) d
end CV
section
open CV
def CV (a:AR):AB8 Bool:=
AZ a BP 0
theorem WJ {a:AR} {r:Bool} (h:CV a=some r):Says Tryz.prog 213 [.agg (CN a)] (sb r):=by refine kO mix Tryz.func213 (hn [(1,[8,14,22,28,57]),(5,[34,40,47,52])]) ?_;have a1:= @IQ;have a2:= @PH;have a3:= @Q8;have l2:=λn1 n2 n3 n4:Nat=>Av λn τ=>∃(b:Int),(τ 1=bA 2 (CN a)/\τ 4=si b)/\Cr a n b=some r;have l3:=λn1 n2 n3 n4:Nat=>Av λn τ=>∃(b:Int) (c:Co) (e:Int),(τ 1=bA 2 (CN a)/\τ 4=si b/\τ 5=bA 4 (Iv c)/\τ 6=si e)/\Gq (Cr a n2) b c n e=some r;have l1:=λn1 n2 n3 n4:Nat=>Av λn τ=>∃(d:Int),(τ 1=bA 2 (CN a)/\τ 3=si d)/\AZ a n d=some r;unfold CV at h;exact walk
end
namespace Ey
def J3:AB8 Bool:=
some true
def J2 (L1:Int->AB8 Bool) (c:Int) (i:Bool):AB8 Bool:=
if i then
some false
else
L1 (A1 (c+1))
def L1 (a:BT) (b:Aj) (L1:Int->AB8 Bool) (c:Int):AB8 Bool:=
if decide (c<(a.AA.length:Int))then
(gt b.AA c).bind λe=>
if decide (e.PC<0)then
J2 L1 c true
else
(gt a.AA c).bind λf=>
if decide (e.PC≥(f.Bq.length:Int))then
J2 L1 c true
else
if(e.Ch.length:Int) != f.Ch then
J2 L1 c true
else
J2 L1 c ((e.Cc.length:Int) != f.Ch)
else
J3
def AZ (a:BT) (b:Aj):Nat->Int->AB8 Bool
|0,_=>none
|n+1,c=>L1 a b (AZ a b n) c
def J1 (a:BT) (b:Aj) (d:Bool):AB8 Bool:=
if d then
some false
else
AZ a b BP 0
end Ey
section
open Ey
def Ey (a:BT) (b:Aj):AB8 Bool:=
(Bz a).bind λj=>
if !j then
J1 a b true
else
(Ex a.World b.Sync).bind λl=>
if !l then
J1 a b true
else
if(b.Cells.length:Int) != (a.World.Cells.length:Int)then
J1 a b true
else
if(b.AK.length:Int) != (a.World.AK.length:Int)then
J1 a b true
else
J1 a b ((b.AA.length:Int) != (a.AA.length:Int))
theorem Z0 {a:BT} {b:Aj} {r:Bool} (h:Ey a b=some r):Says Tryz.prog 230 [.agg (Jo a),.agg (Kj b)] (sb r):=by refine kO mix Tryz.func230 (hn [(2,[11,22,23,32,33,42,48,65,78,90]),(3,[13,19,29,39,54]),(6,[59,63,75,87])] [(2,1)]) ?_;have a1:= @MI;have a2:= @NQ;have l1:=λn1 n2 n3 n4:Nat=>Av λn τ=>∃(c:Int),(τ 2=bA 7 (Jo a)/\τ 3=bA 7 (Kj b)/\τ 5=si c)/\AZ a b n c=some r;have c1:=λn1 n2 n3 n4:Nat=>Bm 1 λτ=>∃(d:Bool),(τ 2=bA 7 (Jo a)/\τ 3=bA 7 (Kj b)/\τ 46=sb d)/\J1 a b d=some r;unfold Ey at h;exact walk
end
namespace Ec
def J2:AB8 (Int×Int):=
some (0,0)
def J1 (L1:AB->Int->AB8 (Int×Int)) (b:Int) (d:AB×Bool) (f:Bool):AB8 (Int×Int):=
if f then
some (b,12)
else
L1 d.1 (A1 (b+1))
def L1 (a:Aw) (L1:AB->Int->AB8 (Int×Int)) (c:AB) (b:Int):AB8 (Int×Int):=
if decide (b<(a.AF.length:Int))then
(gt a.AF b).bind λe=>
(Bg a.World c e).bind λd=>
if !d.2 then
J1 L1 b d true
else
(C2 a.AF b e.Thread e.Du).bind λl=>
if !l then
J1 L1 b d true
else
(C2 a.AF b e.Thread e.DR).bind λo=>
J1 L1 b d (!o)
else
J2
def AZ (a:Aw):Nat->AB->Int->AB8 (Int×Int)
|0,_,_=>none
|n+1,c,b=>L1 a (AZ a n) c b
end Ec
section
open Ec
def Ec (a:Aw):AB8 (Int×Int):=
if decide ((a.AF.length:Int)>400)then
some (0,2)
else
(As a.World).bind λi=>
if !i then
some (0,1)
else
(EE a.World).bind λj=>
AZ a BP j 0
theorem MJ {a:Aw} {r:Int×Int} (h:Ec a=some r):Says Tryz.prog 18 [.agg (IV a)] (.BM [si r.1,si r.2]):=by refine kO mix Tryz.func18 (hn [(1,[9,13,17,21,27,33,43,54]),(4,[35]),(6,[46,48,57,59]),(7,[65]),(8,[40]),(37,[32,38,39])] (C:=[(21,2)])) ?_;have a1:= @JH;have a2:= @Il;have a3:= @JP;have a4:= @Yu;have l1:=λn1 n2 n3 n4:Nat=>Av λn τ=>∃(c:AB) (b:Int),(τ 1=bA 7 (IV a)/\τ 4=bA 7 (Dt c)/\τ 5=si b)/\AZ a n c b=some r;unfold Ec at h;exact walk
end
namespace Fh
def J1 (e:AB):AB8 AB:=
some e
def L1 (b:Int) (a:Aw) (L1:AB->Int->AB8 AB) (d:AB) (c:Int):AB8 AB:=
if decide (c<b)then
(gt a.AF c).bind λj=>
(Bg a.World d j).bind λi=>
L1 i.1 (A1 (c+1))
else
J1 d
def AZ (b:Int) (a:Aw):Nat->AB->Int->AB8 AB
|0,_,_=>none
|n+1,d,c=>L1 b a (AZ b a n) d c
end Fh
section
open Fh
def Fh (a:Aw) (b:Int):AB8 AB:=
(EE a.World).bind λf=>
AZ b a BP f 0
theorem QE {a:Aw} {b:Int} {r:AB} (h:Fh a b=some r):Says Tryz.prog 94 [.agg (IV a),si b] (.agg (Dt r)):=by refine kO mix Tryz.func94 (hn [(2,[7,16,19]),(5,[18,27]),(24,[25])] (E:=[(5,(.aY [(24,9,10,15)] [Ll 16 2 0 2,iA 17 6 16,i1 18 5 (.ld true 7 (.t 5)),Ll 19 2 6 2,iL 20 19,iC 21 6,iI 22 7 20 21,iA 23 7 22,⟨some ⟨24,[25],[]⟩,.call 21 [.t 17,.t 18,.t 23] 2,none⟩,i0 15 (.flk (.t 24) 1),i1 25 24 (.ext (.t 24) 0),i0 26 .fl,iS 7 5 25]))])) ?_;have a1:= @Il;have a2:= @JP;have l1:=λn1 n2 n3 n4:Nat=>Av λn τ=>∃(d:AB) (c:Int),(τ 1=si b/\τ 2=bA 7 (IV a)/\τ 4=bA 7 z0/\τ 5=bA 7 (Dt d)/\τ 6=si c)/\AZ b a n d c=some r;unfold Fh at h;exact walk
end
end Go.Abs
