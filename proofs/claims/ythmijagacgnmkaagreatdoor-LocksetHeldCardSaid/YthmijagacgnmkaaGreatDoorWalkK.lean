/- Typed programs of Go functions, and that the functions do what these say. -/
import Derived.Test.YthmijagacgnmkaaGreatDoorWalkJ
set_option linter.unusedSimpArgs false
set_option linter.unusedVariables false
namespace Go.Abs
open Go.Proofs
set_option maxRecDepth 1000000
set_option maxHeartbeats 4000000
namespace BC
def J2 (cv:BE) (ac:Int):ABr (Int×BE):=
some (ac,cv)
def J4 (cw:BE) (ad:Int):ABr (Int×BE):=
some (ad,cw)
def J5 (b:Bool×BE) (ae:Int):ABr (Int×BE):=
some (ae,b.2)
def J7 (f:Bool×BE) (af:Int):ABr (Int×BE):=
some (af,f.2)
def J8 (a:AP) (b:Bool×BE) (l:Bool):ABr (Int×BE):=
if l then
some (7,b.2)
else
(CF b.2.Lx a.Name).bind λbl=>
if decide (bl≥0)then
some (8,b.2)
else
if Af (b.2.Lx.length+1) 16=true then
some (0,(BE.mk b.2.p b.2.BX b.2.GH (b.2.Lx++[a.Name]) b.2.YO))
else none
def J9 (b:Bool×BE) (ai:Int):ABr (Int×BE):=
some (ai,b.2)
def xO (a:AP) (b:Bool×BE) (c:BE) (aa:Int):ABr (Int×BE):=
if Af (b.2.YO.length+1) 16=true then
(E4 c.p c.BX a.Expr).bind λce=>
(E5 aa ce).bind λcf=>
some (cf,(BE.mk b.2.p b.2.BX b.2.GH b.2.Lx (b.2.YO++[a.Name])))
else none
def eC (i:Int) (a:AP) (b:Bool×BE) (c:BE) (ab:Bool):ABr (Int×BE):=
if ab then
xO a b c 8
else
xO a b c i
def Rw (a:AP) (b:Bool×BE) (c:BE) (i:Int):ABr (Int×BE):=
if i==0 then
(CF b.2.YO a.Name).bind λcd=>
eC i a b c (decide (cd≥0))
else
eC i a b c false
def J6 (a:AP) (d e b:Bool×BE) (c:BE) (j:Bool):ABr (Int×BE):=
if j then
(DL c.p c.BX a.Name 5 5).bind λw=>
if w != 0 then
some (w,b.2)
else
(Cj c.p.Decls a.Name).bind λbc=>
(gt c.p.Decls bc).bind λcy=>
(BP b.2 4 4 cy.On).bind λf=>
if d.1 then
(Bs true).bind λbe=>
J7 f be
else
if !f.1 then
(Bs true).bind λbf=>
J7 f bf
else
if a.Op==9 then
(Bs e.1).bind λbi=>
J7 f bi
else
(Bs false).bind λbj=>
J7 f bj
else
if a.Op==12 then
(DL c.p c.BX a.Name 7 7).bind λx=>
if x != 0 then
some (x,b.2)
else
(Cg c.p.AA a.Name).bind λy=>
if d.1 then
J8 a b true
else
if e.1 then
J8 a b true
else
if b.1 then
J8 a b true
else
if y==c.BX then
J8 a b true
else
J8 a b (y==0)
else
if a.Op==13 then
(DL c.p c.BX a.Name 7 7).bind λq=>
if d.1 then
(Bs true).bind λbo=>
(E5 q bo).bind λbp=>
J9 b bp
else
if e.1 then
(Bs true).bind λbs=>
(E5 q bs).bind λbt=>
J9 b bt
else
(Cg c.p.AA a.Name).bind λbu=>
(Bs (bu==c.BX)).bind λbv=>
(E5 q bv).bind λbw=>
J9 b bw
else
if a.Op==14 then
(DL c.p c.BX a.Name 6 6).bind λz=>
if d.1 then
(Bs true).bind λbx=>
(E5 z bx).bind λbz=>
Rw a b c bz
else
(Bs b.1).bind λca=>
(E5 z ca).bind λcb=>
Rw a b c cb
else
(DL c.p c.BX a.Name 8 8).bind λci=>
(DL c.p c.BX a.Arg 6 6).bind λcj=>
(Bs d.1).bind λcl=>
(E5 cj cl).bind λco=>
(E5 ci co).bind λcp=>
some (cp,b.2)
def J3 (a:AP) (d e b:Bool×BE) (c:BE) (p:Bool):ABr (Int×BE):=
if p then
(DL c.p c.BX a.Name 4 4).bind λu=>
if d.1 then
(Bs true).bind λav=>
(E5 u av).bind λaw=>
J4 b.2 aw
else
(BP b.2 5 6 a.Name).bind λv=>
(Bs v.1).bind λax=>
(E5 u ax).bind λay=>
J4 v.2 ay
else
if a.Op==7 then
(Bs d.1).bind λaz=>
some (az,b.2)
else
if a.Op==8 then
if d.1 then
(Bs true).bind λba=>
J5 b ba
else
(Bs e.1).bind λbb=>
J5 b bb
else
if a.Op==9 then
J6 a d e b c (a.Op==9)
else
if a.Op==10 then
J6 a d e b c (a.Op==10)
else
J6 a d e b c (a.Op==11)
def J1 (a:AP) (d e b:Bool×BE) (c:BE) (o:Bool):ABr (Int×BE):=
if o then
(E4 c.p c.BX a.Expr).bind λal=>
some (al,b.2)
else
if a.Op==4 then
(DL c.p c.BX a.Name 3 3).bind λs=>
if d.1 then
(Bs true).bind λao=>
(E5 s ao).bind λap=>
J2 b.2 ap
else
(BP b.2 4 4 a.Name).bind λt=>
(Bs t.1).bind λaq=>
(E5 s aq).bind λau=>
J2 t.2 au
else
if a.Op==5 then
J3 a d e b c (a.Op==5)
else
J3 a d e b c (a.Op==6)
end BC
section
open BC
def BC (c:BE) (a:AP):ABr (Int×BE):=
(BP c 7 7 (⟨#[]⟩:ABs)).bind λd=>
(BP d.2 8 8 (⟨#[]⟩:ABs)).bind λe=>
(BP e.2 3 3 (⟨#[]⟩:ABs)).bind λb=>
if a.Op==1 then
if(a.Index.length:Int)==0 then
(DL c.p c.BX a.Name 8 1).bind λbd=>
(E4 c.p c.BX a.Expr).bind λbq=>
(E5 bd bq).bind λcc=>
some (cc,b.2)
else
(DL c.p c.BX a.Name 2 2).bind λcq=>
(gt a.Index 0).bind λcx=>
(E4 c.p c.BX cx).bind λcs=>
(E4 c.p c.BX a.Expr).bind λct=>
(E5 cs ct).bind λcu=>
(E5 cq cu).bind λaj=>
some (aj,b.2)
else
if a.Op==2 then
J1 a d e b c (a.Op==2)
else
J1 a d e b c (a.Op==3)
theorem TS {c:BE} {a:AP} {r:Int×BE} (h:BC c a=some r):A8 Tryz.prog 239 [bA 6 (HI c),.agg [si a.Op,si a.FG,BR a.Name,BR a.Arg,vS 4 A9 a.Index,si a.Expr.Op,si a.Expr.N,BR a.Expr.Name,vS 4 A9 a.Expr.L,vS 11 A4 a.Body,vS 11 A4 a.Else]] (si r.1) [bA 6 (HI r.2),.dead]:=by refine kL mix Tryz.func239 (hn [(0,[15,16,17,19,20,21,23,25,27,84,101,131,188,189,190,191,197,198,199,200,205,206,245,246,247,248,255,256,257,258,263,264]),(3,[29,33,39,44,50,55,62,72,79,85,96,102,125,136,149,161,169,192,201,211,221,233,249,259,268,274,279]),(5,[132,134,167,219])] [(12,1),(17,3),(24,6),(40,8)] (E:=[(39,(.dS [(0,0,9,196)] [i0 196 .fl,i1 197 0 (.cp (.t 0)),i1 198 0 (.Hx (.t 197)),Np 199 0 4 198,Zu 200 0 199,Np 201 3 2 3,iL 202 201,i0 203 (.OD 1 [[BR ⟨#[]⟩]] [(0,.t 202)]),i0 204 (.app 1 16 (.t 200) (.t 203)),i1 205 0 (.Hx (.t 0)),Np 206 0 4 205,iS 1 206 204])),(47,(.dS [(0,0,9,254)] [i0 254 .fl,i1 255 0 (.cp (.t 0)),i1 256 0 (.Hx (.t 255)),Np 257 0 5 256,Zu 258 0 257,Np 259 3 2 3,iL 260 259,i0 261 (.OD 1 [[BR ⟨#[]⟩]] [(0,.t 260)]),i0 262 (.app 1 16 (.t 258) (.t 261)),i1 263 0 (.Hx (.t 0)),Np 264 0 5 263,iS 1 264 262]))])) ?_;have a1:= @Pc;have a2:= @Qv;have a3:= @Y8;have a4:= @iE;have a5:= @UN;have a6:= @JJ;have a7:= @Jv;have a8:= @He;have c8:=λn1 n2 n3 n4:Nat=>Bo 8 λτ=>∃(b:Bool×BE) (l:Bool),(τ 0=bA 6 (HI b.2)/\τ 3=bA 11 [si a.Op,si a.FG,BR a.Name,BR a.Arg,vS 4 A9 a.Index,si a.Expr.Op,si a.Expr.N,BR a.Expr.Name,vS 4 A9 a.Expr.L,vS 11 A4 a.Body,vS 11 A4 a.Else]/\τ 187=sb l)/\J8 a b l=some r;have c6:=λn1 n2 n3 n4:Nat=>Bo 6 λτ=>∃(d e b:Bool×BE) (j:Bool),(τ 0=bA 6 (HI b.2)/\τ 3=bA 11 [si a.Op,si a.FG,BR a.Name,BR a.Arg,vS 4 A9 a.Index,si a.Expr.Op,si a.Expr.N,BR a.Expr.Name,vS 4 A9 a.Expr.L,vS 11 A4 a.Body,vS 11 A4 a.Else]/\τ 5=bA 2 (CC c.p)/\τ 6=si c.BX/\τ 7=sb d.1/\τ 8=sb e.1/\τ 9=sb b.1/\τ 30=si a.Op/\τ 119=sb j)/\J6 a d e b c j=some r;have c3:=λn1 n2 n3 n4:Nat=>Bo 3 λτ=>∃(d e b:Bool×BE) (p:Bool),(τ 0=bA 6 (HI b.2)/\τ 3=bA 11 [si a.Op,si a.FG,BR a.Name,BR a.Arg,vS 4 A9 a.Index,si a.Expr.Op,si a.Expr.N,BR a.Expr.Name,vS 4 A9 a.Expr.L,vS 11 A4 a.Body,vS 11 A4 a.Else]/\τ 5=bA 2 (CC c.p)/\τ 6=si c.BX/\τ 7=sb d.1/\τ 8=sb e.1/\τ 9=sb b.1/\τ 30=si a.Op/\τ 91=sb p)/\J3 a d e b c p=some r;have c1:=λn1 n2 n3 n4:Nat=>Bo 1 λτ=>∃(d e b:Bool×BE) (o:Bool),(τ 0=bA 6 (HI b.2)/\τ 3=bA 11 [si a.Op,si a.FG,BR a.Name,BR a.Arg,vS 4 A9 a.Index,si a.Expr.Op,si a.Expr.N,BR a.Expr.Name,vS 4 A9 a.Expr.L,vS 11 A4 a.Body,vS 11 A4 a.Else]/\τ 5=bA 2 (CC c.p)/\τ 6=si c.BX/\τ 7=sb d.1/\τ 8=sb e.1/\τ 9=sb b.1/\τ 30=si a.Op/\τ 67=sb o)/\J1 a d e b c o=some r;unfold BC at h;exact walk
end
def f105c:IC:=(Ra 10 [.b 6 [28,96] (.bx 7 (.t 1)),.b 7 [17] (.bx 6 (.t 2)),.o (.mv (.c (.own false 7 [])))]
(Ra 0 [.b 11 [50,105,110] (.mv (.c (.own false 7 [])))]
(Ra 17 [.f 4 7,.Z 18,.o (.mk 1 24 z18 (.t 19) (.t 19)),.b 12 [21,40,42,44,45,48,69,91,94,95,104] (.mv (.t 20))]
(Sq (Ra 21 [.y 12 (.cp (.t 12)),.Z 21,.Y 0]
(Bl 0 (Ra 24 [.O .lss 23 22]
(Sq (cX 24 0)
(Sq (Bk 1 (Ra 25 [.C 23,.M 13 25]
(Ra 26 [.C 4,.C 26,.G 27 true,.f 6 6,.C 13,.I 1 29 30,.L 31,.P .gtr 32 1,.e,.W 27 33,.C 34,.G 35 true,.y 0 (.cp (.t 0)),.o (.Up 104 [] (.t 36) none [.c (si 3)]),.P .eql 37 2,.e,.W 35 38]
(Ci 39 (Rc 40 [.y 12 (.cp (.t 12)),.C 13,.y 12 (.cp (.t 12)),.C 13,.J 12 1 42 43,.l 12 44,.o (.OD 1 [[si 0]] [(0,.c (si 1))]),.o (.app 1 8 (.t 45) (.t 46)),.J 12 1 40 41,.S 1 48 47])))))
(Rc 49 [.P .add 23 1,.w 23,.C 49]))))))
(Sq (Bl 2 (Sq (Od 4 (Rc 50 [.y 11 (.cp (.t 11)),.Z 50,.C 3,.O .lss 51 52,.C 53,.G 54 true,.p 0 1,.r 0 0,.Z 62,.O .lss 58 63,.e,.W 54 64])
(cX 65 2))
(Bk 3 (Sq (.nV [.o (i1 66 0 (.cp (.t 0))),.o (iA 67 7 6),.o (iA 68 6 7),.o (i1 69 12 (.cp (.t 12))),.lb (some ⟨70,[],[]⟩) 154 (.t 66) [.t 67,.t 68] (.t 69),.o (⟨some ⟨14,[74,80,84,89,92,98,106],[]⟩,.bx 7 (.c (.agg z2)),none⟩),.o (iS 7 14 70)])
(Sq (.gz false 14 [(0,6,7)] (.gz false 14 [(0,5,7)] (Rc 72 [.A 6 7,.A 7 6,.y 14 (.ld true 7 (.t 14)),.c 21 [72,73,74] 1,.w 71,.C 75,.w 76,.o (.ext (.t 71) 0),.o (.ext (.t 71) 1),.w 15,.o (.bx 7 (.c (.agg z0))),.S 7 15 76,.M 16 77])))
(Sq (Ra 78 [.C 16,.N 78]
(Ci 79 (.exit 3)))
(Sq (Ra 80 [.f 1 14,.Q 81 3,.C 82,.G 83 false,.f 1 14,.P .eql 85 23,.e,.V 83 86]
(Ci 87 (.dS [(12,0,16,88)] [i0 88 .fl,Np 89 14 0 14,iL 90 89,i1 91 12 (.cp (.t 12)),Np 92 14 0 14,iL 93 92,wZ 94 12 1 91 93,Zu 95 12 94,Np 96 6 6 6,iL 97 96,Np 98 14 0 14,iL 99 98,iI 100 1 97 99,iL 101 100,i0 102 (.OD 1 [[si 0]] [(0,.t 101)]),i0 103 (.app 1 8 (.t 95) (.t 102)),wZ 104 12 1 12 90,iS 1 104 103])))
(Ra 105 [.y 11 (.cp (.t 11)),.y 14 (.ld true 7 (.t 14)),.o (.OD 7 [z2] [(0,.t 106)]),.o (.app 7 88 (.t 105) (.t 107)),.b 11 [50,105,110] (.mv (.t 108))]
(Rc 109 [.A 7 15,.S 7 6 109])))))))))
(Rb 110 [.y 11 (.cp (.t 11)),.M 10 110]))))))
def f105g:Gi:=⟨[(17,[7]),(21,[12]),(28,[6]),(36,[0]),(40,[12]),(42,[12]),(44,[12]),(45,[12]),(48,[12]),(50,[11]),(55,[0]),(56,[0]),(57,[0]),(59,[0]),(60,[0]),(61,[0]),(62,[0]),(66,[0]),(69,[12]),(74,[14]),(80,[14]),(84,[14]),(89,[14]),(91,[12]),(92,[14]),(94,[12]),(95,[12]),(96,[6]),(98,[14]),(104,[12]),(105,[11]),(106,[14]),(110,[11])]⟩
def f105r:List RV:=[.tmp 10]
namespace Bw
def J7 (aj:Ab) (z:List AE):ABr ((List AE)×Ab):=
some (z,aj)
def J6 (L2:Ab->AD->(List AE)->(List (List Int))->ABr ((List AE)×Ab)) (c:List AE) (j:AE×Ab) (s:AD×Bool) (ac:List (List Int)):ABr ((List AE)×Ab):=
if Af (c.length+1) 88=true then
L2 j.2 s.1 (c++[j.1]) ac
else none
def J5 (L2:Ab->AD->(List AE)->(List (List Int))->ABr ((List AE)×Ab)) (c:List AE) (d:List (List Int)) (e:AD) (j:AE×Ab) (s:AD×Bool) (ae:Bool):ABr ((List AE)×Ab):=
if ae then
(gt d j.1.Thread).bind λy=>
(gt e.Count j.1.Thread).bind λao=>
if Af (y.length+1) 8=true then
J6 L2 c j s (d.set j.1.Thread.toNat (y++[ao]))
else none
else
J6 L2 c j s d
def J4 (L2:Ab->AD->(List AE)->(List (List Int))->ABr ((List AE)×Ab)) (c:List AE) (d:List (List Int)) (e:AD) (i:Ab) (a:AB) (u:Bool):ABr ((List AE)×Ab):=
if u then
(DF i e a d).bind λj=>
(BZ a e j.1).bind λs=>
if !s.2 then
L2 j.2 e c d
else
if j.1.Kind==3 then
J5 L2 c d e j s true
else
J5 L2 c d e j s (j.1.Kind==23)
else
J7 i c
def L2 (b:Int) (a:AB) (L2:Ab->AD->(List AE)->(List (List Int))->ABr ((List AE)×Ab)) (i:Ab) (e:AD) (c:List AE) (d:List (List Int)):ABr ((List AE)×Ab):=
if decide ((c.length:Int)<b)then
J4 L2 c d e i a (decide (i.At<(i.L.length:Int)))
else
J4 L2 c d e i a false
def Cf (b:Int) (a:AB):Nat->Ab->AD->(List AE)->(List (List Int))->ABr ((List AE)×Ab)
|0,_,_,_,_=>none
|n+1,i,e,c,d=>L2 b a (Cf b a n) i e c d
def J3 (b:Int) (l:AD) (a:AB) (ai:Ab) (ab:List (List Int)):ABr ((List AE)×Ab):=
Cf b a BU ai l [] ab
def J2 (L1:Ab->(List (List Int))->Int->ABr ((List AE)×Ab)) (f:Int) (af:Ab) (aa:List (List Int)):ABr ((List AE)×Ab):=
L1 af aa (Ay (f+1))
def J1 (L1:Ab->(List (List Int))->Int->ABr ((List AE)×Ab)) (o:List (List Int)) (f:Int) (v:Ab) (ad:Bool):ABr ((List AE)×Ab):=
if ad then
(gt o f).bind λx=>
if Af (x.length+1) 8=true then
J2 L1 f v (o.set f.toNat (x++[1]))
else none
else
J2 L1 f v o
def L1 (p:Bool) (b:Int) (l:AD) (a:AB) (L1:Ab->(List (List Int))->Int->ABr ((List AE)×Ab)) (q:Ab) (o:List (List Int)) (f:Int):ABr ((List AE)×Ab):=
if decide (f<((List.replicate a.AA.length ([]:List Int)).length:Int))then
if p then
(gt l.Count f).bind λal=>
if decide (al>1)then
(Ak q 3).bind λw=>
J1 L1 o f w.2 (w.1==2)
else
J1 L1 o f q false
else
J1 L1 o f q false
else
J3 b l a q o
def AZ (p:Bool) (b:Int) (l:AD) (a:AB):Nat->Ab->(List (List Int))->Int->ABr ((List AE)×Ab)
|0,_,_,_=>none
|n+1,q,o,f=>L1 p b l a (AZ p b l a n) q o f
end Bw
section
open Bw
def Bw (t:Ab) (l:AD) (a:AB) (b:Int) (p:Bool):ABr ((List AE)×Ab):=
if 0≤(a.AA.length:Int)/\(a.AA.length:Int)≤(a.AA.length:Int)/\Af a.AA.length 24=true then
AZ p b l a BU t (List.replicate a.AA.length ([]:List Int)) 0
else none
theorem ZL {t:Ab} {l:AD} {a:AB} {b:Int} {p:Bool} {r:(List AE)×Ab} (h:Bw t l a b p=some r):A8 Tryz.prog 105 [bA 2 (Gz t),.agg (BH l),.agg (Am a),si b,sb p] (vS 7 Bi r.1) [bA 2 (Gz r.2),.dead,.dead,.dead,.dead]:=by refine wP mix Tryz.func105 (I:=⟨f105c,f105g,f105r⟩) ?_;simp only[f105c,f105g,f105r];have a1:= @YJ;have a2:= @Kl;have a3:= @DO;have l2:=λn1 n2 n3 n4:Nat=>A0 λn τ=>∃(i:Ab) (e:AD) (c:List AE) (d:List (List Int)),(τ 0=bA 2 (Gz i)/\τ 3=si b/\τ 6=bA 7 (BH e)/\τ 7=bA 6 (Am a)/\τ 11=vO 7 Bi c/\τ 12=vO 1 NC d)/\Cf b a n i e c d=some r;have l1:=λn1 n2 n3 n4:Nat=>A0 λn τ=>∃(q:Ab) (o:List (List Int)) (f:Int),(τ 0=bA 2 (Gz q)/\τ 3=si b/\τ 4=sb p/\τ 6=bA 7 (BH l)/\τ 7=bA 6 (Am a)/\τ 11= .own false 7 []/\τ 12=vO 1 NC o/\τ 22=si ((List.replicate a.AA.length ([]:List Int)).length:Int)/\τ 23=si f)/\AZ p b l a n q o f=some r;have c4:=λn1 n2 n3 n4:Nat=>Bo 4 λτ=>∃(c:List AE) (d:List (List Int)) (e:AD) (i:Ab) (u:Bool),(τ 0=bA 2 (Gz i)/\τ 3=si b/\τ 6=bA 7 (BH e)/\τ 7=bA 6 (Am a)/\τ 11=vO 7 Bi c/\τ 12=vO 1 NC d/\τ 65=sb u)/\J4 (Cf b a n2) c d e i a u=some r;unfold Bw at h;exact walk
end
namespace BW
def J4 (a:AE) (d:AD):ABr (AD×Bool):=
(gt d.Count a.Thread).bind λw=>
some ((AD.mk d.Sync d.Cells d.AK (d.Count.set a.Thread.toNat (Ay (w+1)))),true)
def J3 (a:AE) (b:AD) (c:AB) (o:Int):ABr (AD×Bool):=
(E3 c b.Sync a.Thread a.Kind a.Obj o).bind λi=>
if !i.2.2 then
some ((AD.mk (AN.mk [] 0 [] []) [] [] []),false)
else
(Hs b.Cells).bind λj=>
(Hs b.AK).bind λl=>
(slices_Clone_int b.Count).bind λp=>
if a.Kind==4 then
(gt j a.Obj).bind λx=>
J4 a (AD.mk i.1 (j.set a.Obj.toNat a.Value) l p)
else
if a.Kind==22 then
(gt l a.Obj).bind λy=>
J4 a (AD.mk i.1 j (l.set a.Obj.toNat a.Value) p)
else
J4 a (AD.mk i.1 j l p)
def J2 (a:AE) (b:AD) (c:AB) (f:Bool):ABr (AD×Bool):=
if f then
some ((AD.mk (AN.mk [] 0 [] []) [] [] []),false)
else
if a.Kind==18 then
J3 a b c a.Value
else
J3 a b c (-1)
def J1 (a:AE) (b:AD) (c:AB) (e:Bool):ABr (AD×Bool):=
if e then
some ((AD.mk (AN.mk [] 0 [] []) [] [] []),false)
else
(De c b.Sync a.Thread a.Kind a.Obj).bind λs=>
if !s then
J2 a b c true
else
(DP c a).bind λt=>
if !t then
J2 a b c true
else
(AX c b a).bind λu=>
if !u then
J2 a b c true
else
(A1 b a).bind λv=>
J2 a b c (!v)
end BW
section
open BW
def BW (c:AB) (b:AD) (a:AE):ABr (AD×Bool):=
(Ed c b).bind λq=>
if !q then
J1 a b c true
else
if decide (a.Thread<0)then
J1 a b c true
else
if decide (a.Thread≥(c.AA.length:Int))then
J1 a b c true
else
if decide (a.Kind<1)then
J1 a b c true
else
J1 a b c (decide (a.Kind>23))
theorem Ht {c:AB} {b:AD} {a:AE} {r:AD×Bool} (h:BW c b a=some r):Says Tryz.prog 16 [.agg (Am c),.agg (BH b),.agg (Bi a)] (.BI [.agg (Hl r.1),sb r.2]):=by refine kO mix Tryz.func16 (hn [(3,[25]),(4,[42,79,96,99,102]),(5,[18,23,31,36,44,46,48,72,75,81,83,85,106,112,114,121,123,128]),(9,[95]),(11,[92]),(12,[110,111,116,119,120,125,126,127,130,133,134]),(88,[77,89,90,91])] [(2,1),(5,2),(8,3)]) ?_;have a1:= @VQ;have a2:= @Ou;have a3:= @I2;have a4:= @MZ;have a5:= @Pv;have a6:= @M7;have a7:= @Pw;have a8:= @Rr;have c3:=λn1 n2 n3 n4:Nat=>Bo 3 λτ=>∃(o:Int),(τ 3=bA 6 (Am c)/\τ 4=bA 7 (BH b)/\τ 5=bA 7 (Bi a)/\τ 6=bA 7 z0/\τ 8=si o)/\J3 a b c o=some r;have c2:=λn1 n2 n3 n4:Nat=>Bo 2 λτ=>∃(f:Bool),(τ 3=bA 6 (Am c)/\τ 4=bA 7 (BH b)/\τ 5=bA 7 (Bi a)/\τ 6=bA 7 z0/\τ 70=sb f)/\J2 a b c f=some r;have c1:=λn1 n2 n3 n4:Nat=>Bo 1 λτ=>∃(e:Bool),(τ 3=bA 6 (Am c)/\τ 4=bA 7 (BH b)/\τ 5=bA 7 (Bi a)/\τ 6=bA 7 z0/\τ 39=sb e)/\J1 a b c e=some r;unfold BW at h;exact walk
end
namespace Cr
def J3 (p:Ai):ABr Ai:=
some p
def L3 (a:BL) (L3:Ai->Int->ABr Ai) (d:Ai) (i:Int):ABr Ai:=
if decide (i<(a.AA.length:Int))then
(gt a.AA i).bind λe=>
if 0≤e.CY/\e.CY≤e.CY/\Af e.CY.toNat 8=true then
if 0≤e.CY/\e.CY≤e.CY/\Af e.CY.toNat 24=true then
if Af (d.AA.length+1) 64=true then
L3 (Ai.mk d.Sync d.Cells d.AK (d.AA++[(AL.mk 0 (List.replicate e.CY.toNat (0:Int)) (List.replicate e.CY.toNat ([]:List Int)) 0)])) (Ay (i+1))
else none
else none
else none
else
J3 d
def Hz (a:BL):Nat->Ai->Int->ABr Ai
|0,_,_=>none
|n+1,d,i=>L3 a (Hz a n) d i
def J2 (a:BL) (o:Ai):ABr Ai:=
Hz a BU o 0
def L2 (a:BL) (L2:Ai->Int->ABr Ai) (c:Ai) (j:Int):ABr Ai:=
if decide (j<(a.World.AK.length:Int))then
if Af (c.AK.length+1) 8=true then
L2 (Ai.mk c.Sync c.Cells (c.AK++[0]) c.AA) (Ay (j+1))
else none
else
J2 a c
def Cf (a:BL):Nat->Ai->Int->ABr Ai
|0,_,_=>none
|n+1,c,j=>L2 a (Cf a n) c j
def J1 (a:BL) (l:Ai):ABr Ai:=
Cf a BU l 0
def L1 (a:BL) (L1:Ai->Int->ABr Ai) (b:Ai) (f:Int):ABr Ai:=
if decide (f<(a.World.Cells.length:Int))then
(gt a.World.Cells f).bind λt=>
if Af (b.Cells.length+1) 8=true then
L1 (Ai.mk b.Sync (b.Cells++[t.Init]) b.AK b.AA) (Ay (f+1))
else none
else
J1 a b
def AZ (a:BL):Nat->Ai->Int->ABr Ai
|0,_,_=>none
|n+1,b,f=>L1 a (AZ a n) b f
end Cr
section
open Cr
def Cr (a:BL):ABr Ai:=
(Bq a).bind λq=>
if !q then
some (Ai.mk (AN.mk [] 0 [] []) [] [] [])
else
(B2 a.World).bind λs=>
AZ a BU (Ai.mk s [] [] []) 0
theorem X5 {a:BL} {r:Ai} (h:Cr a=some r):Says Tryz.prog 157 [.agg (JU a)] (.agg (MR r)):=by refine kO mix Tryz.func157 (hn [(1,[11,16,17,25,26,36,37,49,57,64]),(3,[23,24,34,43,44,47,55,56,74,75])] (E:=[(15,(Rc 55 [.m 3 6 3,.f 6 1,.C 6,.I 2 58 59,.U 0 60,.o (.mk 1 8 [si 0] (.t 62) (.t 62)),.f 6 1,.C 6,.I 2 65 66,.U 0 67,.o (.mk 1 24 [.sl false 1 []] (.t 69) (.t 69)),.o (.T6 z9 [(1,1,.t 63),(2,1,.t 70)]),.o (.OD 4 [z9] [(0,.t 71)]),.o (.app 4 64 (.t 56) (.t 72)),.F 6 3,.S 1 74 73]))])) ?_;have a1:= @Ls;have a2:= @Jw;have l3:=λn1 n2 n3 n4:Nat=>A0 λn τ=>∃(d:Ai) (i:Int),(τ 1=bA 7 (JU a)/\τ 2=bA 7 z3/\τ 3=bA 7 (MR d)/\τ 6=si i)/\Hz a n d i=some r;have l2:=λn1 n2 n3 n4:Nat=>A0 λn τ=>∃(c:Ai) (j:Int),(τ 1=bA 7 (JU a)/\τ 2=bA 7 z3/\τ 3=bA 7 (MR c)/\τ 5=si j)/\Cf a n c j=some r;have l1:=λn1 n2 n3 n4:Nat=>A0 λn τ=>∃(b:Ai) (f:Int),(τ 1=bA 7 (JU a)/\τ 2=bA 7 z3/\τ 3=bA 7 (MR b)/\τ 4=si f)/\AZ a n b f=some r;unfold Cr at h;exact walk
end
namespace Pj
def J5:ABr Bool:=
some true
def J4 (L2:AD->Int->ABr Bool) (c:Int) (e:AD×Bool) (j:Bool):ABr Bool:=
if j then
some false
else
L2 e.1 (Ay (c+1))
def L2 (a:BQ) (L2:AD->Int->ABr Bool) (d:AD) (c:Int):ABr Bool:=
if decide (c<(a.AH.length:Int))then
(gt a.AH c).bind λf=>
(BZ a.World d f).bind λe=>
if !e.2 then
J4 L2 c e true
else
(K1 a f.Thread f.DE).bind λu=>
if !u then
J4 L2 c e true
else
(K1 a f.Thread f.C2).bind λv=>
J4 L2 c e (!v)
else
J5
def Cf (a:BQ):Nat->AD->Int->ABr Bool
|0,_,_=>none
|n+1,d,c=>L2 a (Cf a n) d c
def J3 (a:BQ):ABr Bool:=
Cf a BU a.Init 0
def J2 (L1:Int->ABr Bool) (b:Int) (l:Bool):ABr Bool:=
if l then
some false
else
L1 (Ay (b+1))
def L1 (a:BQ) (L1:Int->ABr Bool) (b:Int):ABr Bool:=
if decide (b<(a.Init.AK.length:Int))then
(gt a.Init.Sync.B6 b).bind λw=>
if !w then
(gt a.Init.AK b).bind λx=>
J2 L1 b (x != 0)
else
J2 L1 b false
else
J3 a
def AZ (a:BQ):Nat->Int->ABr Bool
|0,_=>none
|n+1,b=>L1 a (AZ a n) b
def J1 (a:BQ) (i:Bool):ABr Bool:=
if i then
some false
else
AZ a BU 0
end Pj
section
open Pj
def Pj (a:BQ):ABr Bool:=
(Ap a.World).bind λo=>
if !o then
J1 a true
else
(HJ a.World a.Init).bind λp=>
if !p then
J1 a true
else
if decide ((a.AH.length:Int)>16)then
J1 a true
else
(LR a).bind λq=>
if !q then
J1 a true
else
(Jy a).bind λs=>
if !s then
J1 a true
else
(Km a).bind λt=>
J1 a (!t)
end
namespace CN
def J5 (a:AQ):ABr Bool:=
some (decide ((a.AA.length:Int)>0))
def J4 (L2:Int->ABr Bool) (b:Int):ABr Bool:=
L2 (Ay (b+1))
def J3 (L2:Int->ABr Bool) (b:Int) (f:Bool):ABr Bool:=
if f then
some false
else
J4 L2 b
def J2 (L2:Int->ABr Bool) (b:Int) (c:Cd):ABr Bool:=
(Bu c.Name).bind λl=>
if !l then
J3 L2 b true
else
(Gs BU c.Body).bind λo=>
J3 L2 b (!o)
def L3 (L2:Int->ABr Bool) (b:Int) (c:Cd) (L3:Int->ABr Bool) (e:Int):ABr Bool:=
if decide (e<(c.GG.length:Int))then
(gt c.GG e).bind λq=>
(Bu q).bind λj=>
if !j then
some false
else
L3 (Ay (e+1))
else
J2 L2 b c
def Hz (L2:Int->ABr Bool) (b:Int) (c:Cd):Nat->Int->ABr Bool
|0,_=>none
|n+1,e=>L3 L2 b c (Hz L2 b c n) e
def L2 (a:AQ) (L2:Int->ABr Bool) (b:Int):ABr Bool:=
if decide (b<(a.AA.length:Int))then
(gt a.AA b).bind λc=>
Hz L2 b c BU 0
else
J5 a
def Cf (a:AQ):Nat->Int->ABr Bool
|0,_=>none
|n+1,b=>L2 a (Cf a n) b
def J1 (a:AQ):ABr Bool:=
Cf a BU 0
def L1 (a:AQ) (L1:Int->ABr Bool) (d:Int):ABr Bool:=
if decide (d<(a.Decls.length:Int))then
(gt a.Decls d).bind λp=>
(Ca p).bind λi=>
if !i then
some false
else
L1 (Ay (d+1))
else
J1 a
def AZ (a:AQ):Nat->Int->ABr Bool
|0,_=>none
|n+1,d=>L1 a (AZ a n) d
end CN
section
open CN
def CN (a:AQ):ABr Bool:=
AZ a BU 0
theorem VZ {a:AQ} {r:Bool} (h:CN a=some r):Says Tryz.prog 213 [.agg (CC a)] (sb r):=by refine kO mix Tryz.func213 (hn [(1,[8,14,22,28,57]),(5,[34,40,47,52])]) ?_;have a1:= @Hy;have a2:= @Oj;have a3:= @Qc;have l2:=λn1 n2 n3 n4:Nat=>A0 λn τ=>∃(b:Int),(τ 1=bA 2 (CC a)/\τ 4=si b)/\Cf a n b=some r;have l3:=λn1 n2 n3 n4:Nat=>A0 λn τ=>∃(b:Int) (c:Cd) (e:Int),(τ 1=bA 2 (CC a)/\τ 4=si b/\τ 5=bA 4 (Ie c)/\τ 6=si e)/\Hz (Cf a n2) b c n e=some r;have l1:=λn1 n2 n3 n4:Nat=>A0 λn τ=>∃(d:Int),(τ 1=bA 2 (CC a)/\τ 3=si d)/\AZ a n d=some r;unfold CN at h;exact walk
end
namespace Eh
def J3:ABr Bool:=
some true
def J2 (L1:Int->ABr Bool) (c:Int) (i:Bool):ABr Bool:=
if i then
some false
else
L1 (Ay (c+1))
def L1 (a:BL) (b:Ai) (L1:Int->ABr Bool) (c:Int):ABr Bool:=
if decide (c<(a.AA.length:Int))then
(gt b.AA c).bind λe=>
if decide (e.PC<0)then
J2 L1 c true
else
(gt a.AA c).bind λf=>
if decide (e.PC≥(f.Bg.length:Int))then
J2 L1 c true
else
if(e.CY.length:Int) != f.CY then
J2 L1 c true
else
J2 L1 c ((e.CS.length:Int) != f.CY)
else
J3
def AZ (a:BL) (b:Ai):Nat->Int->ABr Bool
|0,_=>none
|n+1,c=>L1 a b (AZ a b n) c
def J1 (a:BL) (b:Ai) (d:Bool):ABr Bool:=
if d then
some false
else
AZ a b BU 0
end Eh
section
open Eh
def Eh (a:BL) (b:Ai):ABr Bool:=
(Bq a).bind λj=>
if !j then
J1 a b true
else
(EN a.World b.Sync).bind λl=>
if !l then
J1 a b true
else
if(b.Cells.length:Int) != (a.World.Cells.length:Int)then
J1 a b true
else
if(b.AK.length:Int) != (a.World.AK.length:Int)then
J1 a b true
else
J1 a b ((b.AA.length:Int) != (a.AA.length:Int))
theorem ZD {a:BL} {b:Ai} {r:Bool} (h:Eh a b=some r):Says Tryz.prog 230 [.agg (JU a),.agg (KR b)] (sb r):=by refine kO mix Tryz.func230 (hn [(2,[11,22,23,32,33,42,48,65,78,90]),(3,[13,19,29,39,54]),(6,[59,63,75,87])] [(2,1)]) ?_;have a1:= @Ls;have a2:= @Kk;have l1:=λn1 n2 n3 n4:Nat=>A0 λn τ=>∃(c:Int),(τ 2=bA 7 (JU a)/\τ 3=bA 7 (KR b)/\τ 5=si c)/\AZ a b n c=some r;have c1:=λn1 n2 n3 n4:Nat=>Bo 1 λτ=>∃(d:Bool),(τ 2=bA 7 (JU a)/\τ 3=bA 7 (KR b)/\τ 46=sb d)/\J1 a b d=some r;unfold Eh at h;exact walk
end
namespace D6
def J2:ABr (Int×Int):=
some (0,0)
def J1 (L1:AD->Int->ABr (Int×Int)) (b:Int) (d:AD×Bool) (f:Bool):ABr (Int×Int):=
if f then
some (b,12)
else
L1 d.1 (Ay (b+1))
def L1 (a:Ac) (L1:AD->Int->ABr (Int×Int)) (c:AD) (b:Int):ABr (Int×Int):=
if decide (b<(a.AH.length:Int))then
(gt a.AH b).bind λe=>
(BZ a.World c e).bind λd=>
if !d.2 then
J1 L1 b d true
else
(Cs a.AH b e.Thread e.DE).bind λl=>
if !l then
J1 L1 b d true
else
(Cs a.AH b e.Thread e.C2).bind λo=>
J1 L1 b d (!o)
else
J2
def AZ (a:Ac):Nat->AD->Int->ABr (Int×Int)
|0,_,_=>none
|n+1,c,b=>L1 a (AZ a n) c b
end D6
section
open D6
def D6 (a:Ac):ABr (Int×Int):=
if decide ((a.AH.length:Int)>400)then
some (0,2)
else
(Ap a.World).bind λi=>
if !i then
some (0,1)
else
(Eo a.World).bind λj=>
AZ a BU j 0
theorem Jx {a:Ac} {r:Int×Int} (h:D6 a=some r):Says Tryz.prog 18 [.agg (FP a)] (.BI [si r.1,si r.2]):=by refine kO mix Tryz.func18 (hn [(1,[9,13,17,21,27,33,43,54]),(4,[35]),(6,[46,48,57,59]),(7,[65]),(8,[40]),(37,[32,38,39])] (C:=[(21,2)])) ?_;have a1:= @LF;have a2:= @Lu;have a3:= @Kl;have a4:= @X6;have l1:=λn1 n2 n3 n4:Nat=>A0 λn τ=>∃(c:AD) (b:Int),(τ 1=bA 7 (FP a)/\τ 4=bA 7 (Hl c)/\τ 5=si b)/\AZ a n c b=some r;unfold D6 at h;exact walk
end
namespace HZ
def J1 (j:List Be):ABr (List Be):=
some j
def L1 (a:List AE) (d:List AN) (b:AB) (L1:(List Be)->Int->ABr (List Be)) (e:List Be) (c:Int):ABr (List Be):=
if decide (c<(a.length:Int))then
(gt a c).bind λl=>
(gt d c).bind λo=>
(GX b o l.Thread).bind λi=>
if Af (e.length+1) 48=true then
L1 (e++[(Be.mk i.1 i.2)]) (Ay (c+1))
else none
else
J1 e
def AZ (a:List AE) (d:List AN) (b:AB):Nat->(List Be)->Int->ABr (List Be)
|0,_,_=>none
|n+1,e,c=>L1 a d b (AZ a d b n) e c
end HZ
section
open HZ
def HZ (b:AB) (f:AN) (a:List AE):ABr (List Be):=
(Gq b f a).bind λd=>
AZ a d b BU [] 0
theorem Qy {b:AB} {f:AN} {a:List AE} {r:List Be} (h:HZ b f a=some r):Says Tryz.prog 26 [.agg (Am b),.agg (EH f),vS 7 Bi a] (vS 2 G6 r):=by refine kF mix Tryz.func26 (hn [(8,[35,42]),(10,[30])]) ?_;have a1:= @Vn;have a2:= @X2;have l1:=λn1 n2 n3 n4:Nat=>A0 λn τ=>∃(d:List AN) (e:List Be) (c:Int),(τ 3=bA 6 (Am b)/\τ 7=vS 4 EH d/\τ 8=vO 2 G6 e/\τ 17=vS 7 Bi a/\τ 18=si (a.length:Int)/\τ 19=si c)/\AZ a d b n e c=some r;unfold HZ at h;exact walk
end
end Go.Abs
