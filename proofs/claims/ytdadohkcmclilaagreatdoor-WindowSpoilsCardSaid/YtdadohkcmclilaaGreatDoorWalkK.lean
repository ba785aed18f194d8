/- Typed programs of Go functions, and that the functions do what these say. -/
import Derived.Test.YtdadohkcmclilaaGreatDoorWalkJ
import Derived.Shelf.Slices.SearchI
set_option linter.unusedSimpArgs false
set_option linter.unusedVariables false
namespace Go.Abs
open Go.Proofs
set_option maxRecDepth 1000000
set_option maxHeartbeats 4000000
namespace BF
def J2 (cv:BI) (ac:Int):ABh (Int×BI):=
some (ac,cv)
def J4 (cw:BI) (ad:Int):ABh (Int×BI):=
some (ad,cw)
def J5 (b:Bool×BI) (ae:Int):ABh (Int×BI):=
some (ae,b.2)
def J7 (f:Bool×BI) (af:Int):ABh (Int×BI):=
some (af,f.2)
def J8 (a:AR) (b:Bool×BI) (l:Bool):ABh (Int×BI):=
if l then
some (7,b.2)
else
(CN b.2.LS a.Name).bind λbl=>
if decide (bl≥0)then
some (8,b.2)
else
if Ap (b.2.LS.length+1) 16=true then
some (0,(BI.mk b.2.p b.2.Be b.2.Fi (b.2.LS++[a.Name]) b.2.Xf))
else none
def J9 (b:Bool×BI) (ai:Int):ABh (Int×BI):=
some (ai,b.2)
def wJ (a:AR) (b:Bool×BI) (c:BI) (aa:Int):ABh (Int×BI):=
if Ap (b.2.Xf.length+1) 16=true then
(E0 c.p c.Be a.Expr).bind λce=>
(E1 aa ce).bind λcf=>
some (cf,(BI.mk b.2.p b.2.Be b.2.Fi b.2.LS (b.2.Xf++[a.Name])))
else none
def fV (i:Int) (a:AR) (b:Bool×BI) (c:BI) (ab:Bool):ABh (Int×BI):=
if ab then
wJ a b c 8
else
wJ a b c i
def RX (a:AR) (b:Bool×BI) (c:BI) (i:Int):ABh (Int×BI):=
if i==0 then
(CN b.2.Xf a.Name).bind λcd=>
fV i a b c (decide (cd≥0))
else
fV i a b c false
def J6 (a:AR) (d e b:Bool×BI) (c:BI) (j:Bool):ABh (Int×BI):=
if j then
(DE c.p c.Be a.Name 5 5).bind λw=>
if w != 0 then
some (w,b.2)
else
(Cr c.p.Decls a.Name).bind λbc=>
(gt c.p.Decls bc).bind λcy=>
(BX b.2 4 4 cy.On).bind λf=>
if d.1 then
(Bx true).bind λbe=>
J7 f be
else
if !f.1 then
(Bx true).bind λbf=>
J7 f bf
else
if a.Op==9 then
(Bx e.1).bind λbi=>
J7 f bi
else
(Bx false).bind λbj=>
J7 f bj
else
if a.Op==12 then
(DE c.p c.Be a.Name 7 7).bind λx=>
if x != 0 then
some (x,b.2)
else
(Cp c.p.AA a.Name).bind λy=>
if d.1 then
J8 a b true
else
if e.1 then
J8 a b true
else
if b.1 then
J8 a b true
else
if y==c.Be then
J8 a b true
else
J8 a b (y==0)
else
if a.Op==13 then
(DE c.p c.Be a.Name 7 7).bind λq=>
if d.1 then
(Bx true).bind λbo=>
(E1 q bo).bind λbp=>
J9 b bp
else
if e.1 then
(Bx true).bind λbs=>
(E1 q bs).bind λbt=>
J9 b bt
else
(Cp c.p.AA a.Name).bind λbu=>
(Bx (bu==c.Be)).bind λbv=>
(E1 q bv).bind λbw=>
J9 b bw
else
if a.Op==14 then
(DE c.p c.Be a.Name 6 6).bind λz=>
if d.1 then
(Bx true).bind λbx=>
(E1 z bx).bind λbz=>
RX a b c bz
else
(Bx b.1).bind λca=>
(E1 z ca).bind λcb=>
RX a b c cb
else
(DE c.p c.Be a.Name 8 8).bind λci=>
(DE c.p c.Be a.Arg 6 6).bind λcj=>
(Bx d.1).bind λcl=>
(E1 cj cl).bind λco=>
(E1 ci co).bind λcp=>
some (cp,b.2)
def J3 (a:AR) (d e b:Bool×BI) (c:BI) (p:Bool):ABh (Int×BI):=
if p then
(DE c.p c.Be a.Name 4 4).bind λu=>
if d.1 then
(Bx true).bind λav=>
(E1 u av).bind λaw=>
J4 b.2 aw
else
(BX b.2 5 6 a.Name).bind λv=>
(Bx v.1).bind λax=>
(E1 u ax).bind λay=>
J4 v.2 ay
else
if a.Op==7 then
(Bx d.1).bind λaz=>
some (az,b.2)
else
if a.Op==8 then
if d.1 then
(Bx true).bind λba=>
J5 b ba
else
(Bx e.1).bind λbb=>
J5 b bb
else
if a.Op==9 then
J6 a d e b c (a.Op==9)
else
if a.Op==10 then
J6 a d e b c (a.Op==10)
else
J6 a d e b c (a.Op==11)
def J1 (a:AR) (d e b:Bool×BI) (c:BI) (o:Bool):ABh (Int×BI):=
if o then
(E0 c.p c.Be a.Expr).bind λal=>
some (al,b.2)
else
if a.Op==4 then
(DE c.p c.Be a.Name 3 3).bind λs=>
if d.1 then
(Bx true).bind λao=>
(E1 s ao).bind λap=>
J2 b.2 ap
else
(BX b.2 4 4 a.Name).bind λt=>
(Bx t.1).bind λaq=>
(E1 s aq).bind λau=>
J2 t.2 au
else
if a.Op==5 then
J3 a d e b c (a.Op==5)
else
J3 a d e b c (a.Op==6)
end BF
section
open BF
def BF (c:BI) (a:AR):ABh (Int×BI):=
(BX c 7 7 (⟨#[]⟩:ABi)).bind λd=>
(BX d.2 8 8 (⟨#[]⟩:ABi)).bind λe=>
(BX e.2 3 3 (⟨#[]⟩:ABi)).bind λb=>
if a.Op==1 then
if(a.Index.length:Int)==0 then
(DE c.p c.Be a.Name 8 1).bind λbd=>
(E0 c.p c.Be a.Expr).bind λbq=>
(E1 bd bq).bind λcc=>
some (cc,b.2)
else
(DE c.p c.Be a.Name 2 2).bind λcq=>
(gt a.Index 0).bind λcx=>
(E0 c.p c.Be cx).bind λcs=>
(E0 c.p c.Be a.Expr).bind λct=>
(E1 cs ct).bind λcu=>
(E1 cq cu).bind λaj=>
some (aj,b.2)
else
if a.Op==2 then
J1 a d e b c (a.Op==2)
else
J1 a d e b c (a.Op==3)
theorem Sw {c:BI} {a:AR} {r:Int×BI} (h:BF c a=some r):BM Tryz.prog 148 [bA 6 (Gv c),.agg [si a.Op,si a.E8,BZ a.Name,BZ a.Arg,vS 4 BC a.Index,si a.Expr.Op,si a.Expr.N,BZ a.Expr.Name,vS 4 BC a.Expr.L,vS 11 A6 a.Body,vS 11 A6 a.Else]] (si r.1) [bA 6 (Gv r.2),.dead]:=by refine kL mix Tryz.func148 (hn [(0,[15,16,17,19,20,21,23,25,27,84,101,131,188,189,190,191,197,198,199,200,205,206,245,246,247,248,255,256,257,258,263,264]),(3,[29,33,39,44,50,55,62,72,79,85,96,102,125,136,149,161,169,192,201,211,221,233,249,259,268,274,279]),(5,[132,134,167,219])] [(12,1),(17,3),(24,6),(40,8)] (E:=[(39,(.bE [(0,0,9,196)] [i0 196 .fl,i1 197 0 (.cp (.t 0)),i1 198 0 (.JW (.t 197)),ML 199 0 4 198,bL 200 0 199,ML 201 3 2 3,iL 202 201,i0 203 (.NH 1 [[BZ ⟨#[]⟩]] [(0,.t 202)]),i0 204 (.app 1 16 (.t 200) (.t 203)),i1 205 0 (.JW (.t 0)),ML 206 0 4 205,iS 1 206 204])),(47,(.bE [(0,0,9,254)] [i0 254 .fl,i1 255 0 (.cp (.t 0)),i1 256 0 (.JW (.t 255)),ML 257 0 5 256,bL 258 0 257,ML 259 3 2 3,iL 260 259,i0 261 (.NH 1 [[BZ ⟨#[]⟩]] [(0,.t 260)]),i0 262 (.app 1 16 (.t 258) (.t 261)),i1 263 0 (.JW (.t 0)),ML 264 0 5 263,iS 1 264 262]))])) ?_;have a1:= @O9;have a2:= @Qc;have a3:= @YK;have a4:= @eP;have a5:= @Tu;have a6:= @Iv;have a7:= @Jb;have a8:= @HK;have c8:=λn1 n2 n3 n4:Nat=>Bu 8 λτ=>∃(b:Bool×BI) (l:Bool),(τ 0=bA 6 (Gv b.2)/\τ 3=bA 11 [si a.Op,si a.E8,BZ a.Name,BZ a.Arg,vS 4 BC a.Index,si a.Expr.Op,si a.Expr.N,BZ a.Expr.Name,vS 4 BC a.Expr.L,vS 11 A6 a.Body,vS 11 A6 a.Else]/\τ 187=sb l)/\J8 a b l=some r;have c6:=λn1 n2 n3 n4:Nat=>Bu 6 λτ=>∃(d e b:Bool×BI) (j:Bool),(τ 0=bA 6 (Gv b.2)/\τ 3=bA 11 [si a.Op,si a.E8,BZ a.Name,BZ a.Arg,vS 4 BC a.Index,si a.Expr.Op,si a.Expr.N,BZ a.Expr.Name,vS 4 BC a.Expr.L,vS 11 A6 a.Body,vS 11 A6 a.Else]/\τ 5=bA 2 (CL c.p)/\τ 6=si c.Be/\τ 7=sb d.1/\τ 8=sb e.1/\τ 9=sb b.1/\τ 30=si a.Op/\τ 119=sb j)/\J6 a d e b c j=some r;have c3:=λn1 n2 n3 n4:Nat=>Bu 3 λτ=>∃(d e b:Bool×BI) (p:Bool),(τ 0=bA 6 (Gv b.2)/\τ 3=bA 11 [si a.Op,si a.E8,BZ a.Name,BZ a.Arg,vS 4 BC a.Index,si a.Expr.Op,si a.Expr.N,BZ a.Expr.Name,vS 4 BC a.Expr.L,vS 11 A6 a.Body,vS 11 A6 a.Else]/\τ 5=bA 2 (CL c.p)/\τ 6=si c.Be/\τ 7=sb d.1/\τ 8=sb e.1/\τ 9=sb b.1/\τ 30=si a.Op/\τ 91=sb p)/\J3 a d e b c p=some r;have c1:=λn1 n2 n3 n4:Nat=>Bu 1 λτ=>∃(d e b:Bool×BI) (o:Bool),(τ 0=bA 6 (Gv b.2)/\τ 3=bA 11 [si a.Op,si a.E8,BZ a.Name,BZ a.Arg,vS 4 BC a.Index,si a.Expr.Op,si a.Expr.N,BZ a.Expr.Name,vS 4 BC a.Expr.L,vS 11 A6 a.Body,vS 11 A6 a.Else]/\τ 5=bA 2 (CL c.p)/\τ 6=si c.Be/\τ 7=sb d.1/\τ 8=sb e.1/\τ 9=sb b.1/\τ 30=si a.Op/\τ 67=sb o)/\J1 a d e b c o=some r;unfold BF at h;exact walk
end
namespace Bm
def J4 (a:AK) (d:AB):ABh (AB×Bool):=
(gt d.Count a.Thread).bind λw=>
some ((AB.mk d.Sync d.Cells d.AH (d.Count.set a.Thread.toNat (Aq (w+1)))),true)
def J3 (a:AK) (b:AB) (c:AD) (o:Int):ABh (AB×Bool):=
(Ez c b.Sync a.Thread a.Kind a.Obj o).bind λi=>
if !i.2.2 then
some ((AB.mk (AQ.mk [] 0 [] []) [] [] []),false)
else
(E3 b.Cells).bind λj=>
(E3 b.AH).bind λl=>
(slices_Clone_int b.Count).bind λp=>
if a.Kind==4 then
(gt j a.Obj).bind λx=>
J4 a (AB.mk i.1 (j.set a.Obj.toNat a.Value) l p)
else
if a.Kind==22 then
(gt l a.Obj).bind λy=>
J4 a (AB.mk i.1 j (l.set a.Obj.toNat a.Value) p)
else
J4 a (AB.mk i.1 j l p)
def J2 (a:AK) (b:AB) (c:AD) (f:Bool):ABh (AB×Bool):=
if f then
some ((AB.mk (AQ.mk [] 0 [] []) [] [] []),false)
else
if a.Kind==18 then
J3 a b c a.Value
else
J3 a b c (-1)
def J1 (a:AK) (b:AB) (c:AD) (e:Bool):ABh (AB×Bool):=
if e then
some ((AB.mk (AQ.mk [] 0 [] []) [] [] []),false)
else
(Dc c b.Sync a.Thread a.Kind a.Obj).bind λs=>
if !s then
J2 a b c true
else
(DK c a).bind λt=>
if !t then
J2 a b c true
else
(Aa c b a).bind λu=>
if !u then
J2 a b c true
else
(A3 b a).bind λv=>
J2 a b c (!v)
end Bm
section
open Bm
def Bm (c:AD) (b:AB) (a:AK):ABh (AB×Bool):=
(Eb c b).bind λq=>
if !q then
J1 a b c true
else
if decide (a.Thread<0)then
J1 a b c true
else
if decide (a.Thread≥(c.AA.length:Int))then
J1 a b c true
else
if decide (a.Kind<1)then
J1 a b c true
else
J1 a b c (decide (a.Kind>23))
theorem I5 {c:AD} {b:AB} {a:AK} {r:AB×Bool} (h:Bm c b a=some r):Says Tryz.prog 35 [.agg (Az c),.agg (BH b),.agg (BQ a)] (.BT [.agg (Et r.1),sb r.2]):=by refine kO mix Tryz.func35 (hn [(3,[25]),(4,[42,79,96,99,102]),(5,[18,23,31,36,44,46,48,72,75,81,83,85,106,112,114,121,123,128]),(9,[95]),(11,[92]),(12,[110,111,116,119,120,125,126,127,130,133,134]),(88,[77,89,90,91])] [(2,1),(5,2),(8,3)]) ?_;have a1:= @Uv;have a2:= @Jp;have a3:= @G3;have a4:= @Lt;have a5:= @PS;have a6:= @Ma;have a7:= @PT;have a8:= @RR;have c3:=λn1 n2 n3 n4:Nat=>Bu 3 λτ=>∃(o:Int),(τ 3=bA 6 (Az c)/\τ 4=bA 7 (BH b)/\τ 5=bA 7 (BQ a)/\τ 6=bA 7 z0/\τ 8=si o)/\J3 a b c o=some r;have c2:=λn1 n2 n3 n4:Nat=>Bu 2 λτ=>∃(f:Bool),(τ 3=bA 6 (Az c)/\τ 4=bA 7 (BH b)/\τ 5=bA 7 (BQ a)/\τ 6=bA 7 z0/\τ 70=sb f)/\J2 a b c f=some r;have c1:=λn1 n2 n3 n4:Nat=>Bu 1 λτ=>∃(e:Bool),(τ 3=bA 6 (Az c)/\τ 4=bA 7 (BH b)/\τ 5=bA 7 (BQ a)/\τ 6=bA 7 z0/\τ 39=sb e)/\J1 a b c e=some r;unfold Bm at h;exact walk
end
namespace Bp
def J3 (p:Ae):ABh Ae:=
some p
def L3 (a:BB) (L3:Ae->Int->ABh Ae) (d:Ae) (i:Int):ABh Ae:=
if decide (i<(a.AA.length:Int))then
(gt a.AA i).bind λe=>
if 0≤e.B5/\e.B5≤e.B5/\Ap e.B5.toNat 8=true then
if 0≤e.B5/\e.B5≤e.B5/\Ap e.B5.toNat 24=true then
if Ap (d.AA.length+1) 64=true then
L3 (Ae.mk d.Sync d.Cells d.AH (d.AA++[(AM.mk 0 (List.replicate e.B5.toNat 0) (List.replicate e.B5.toNat ([]:List Int)) 0)])) (Aq (i+1))
else none
else none
else none
else
J3 d
def GL (a:BB):Nat->Ae->Int->ABh Ae
|0,_,_=>none
|n+1,d,i=>L3 a (GL a n) d i
def J2 (a:BB) (o:Ae):ABh Ae:=
GL a Bg o 0
def L2 (a:BB) (L2:Ae->Int->ABh Ae) (c:Ae) (j:Int):ABh Ae:=
if decide (j<(a.World.AH.length:Int))then
if Ap (c.AH.length+1) 8=true then
L2 (Ae.mk c.Sync c.Cells (c.AH++[0]) c.AA) (Aq (j+1))
else none
else
J2 a c
def DI (a:BB):Nat->Ae->Int->ABh Ae
|0,_,_=>none
|n+1,c,j=>L2 a (DI a n) c j
def J1 (a:BB) (l:Ae):ABh Ae:=
DI a Bg l 0
def L1 (a:BB) (L1:Ae->Int->ABh Ae) (b:Ae) (f:Int):ABh Ae:=
if decide (f<(a.World.Cells.length:Int))then
(gt a.World.Cells f).bind λt=>
if Ap (b.Cells.length+1) 8=true then
L1 (Ae.mk b.Sync (b.Cells++[t.Init]) b.AH b.AA) (Aq (f+1))
else none
else
J1 a b
def AZ (a:BB):Nat->Ae->Int->ABh Ae
|0,_,_=>none
|n+1,b,f=>L1 a (AZ a n) b f
end Bp
section
open Bp
def Bp (a:BB):ABh Ae:=
(BV a).bind λq=>
if !q then
some (Ae.mk (AQ.mk [] 0 [] []) [] [] [])
else
(CP a.World).bind λs=>
AZ a Bg (Ae.mk s [] [] []) 0
theorem XP {a:BB} {r:Ae} (h:Bp a=some r):Says Tryz.prog 38 [.agg (He a)] (.agg (Ll r)):=by refine kO mix Tryz.func38 (hn [(1,[11,16,17,25,26,36,37,49,57,64]),(3,[23,24,34,43,44,47,55,56,74,75])] (E:=[(15,(Rc 55 [.m 3 6 3,.f 6 1,.C 6,.I 2 58 59,.U 0 60,.o (.mk 1 8 [si 0] (.t 62) (.t 62)),.f 6 1,.C 6,.I 2 65 66,.U 0 67,.o (.mk 1 24 [.sl false 1 []] (.t 69) (.t 69)),.o (.TY z8 [(1,1,.t 63),(2,1,.t 70)]),.o (.NH 4 [z8] [(0,.t 71)]),.o (.app 4 64 (.t 56) (.t 72)),.F 6 3,.S 1 74 73]))])) ?_;have a1:= @LR;have a2:= @PH;have l3:=λn1 n2 n3 n4:Nat=>A7 λn τ=>∃(d:Ae) (i:Int),(τ 1=bA 7 (He a)/\τ 2=bA 7 z2/\τ 3=bA 7 (Ll d)/\τ 6=si i)/\GL a n d i=some r;have l2:=λn1 n2 n3 n4:Nat=>A7 λn τ=>∃(c:Ae) (j:Int),(τ 1=bA 7 (He a)/\τ 2=bA 7 z2/\τ 3=bA 7 (Ll c)/\τ 5=si j)/\DI a n c j=some r;have l1:=λn1 n2 n3 n4:Nat=>A7 λn τ=>∃(b:Ae) (f:Int),(τ 1=bA 7 (He a)/\τ 2=bA 7 z2/\τ 3=bA 7 (Ll b)/\τ 4=si f)/\AZ a n b f=some r;unfold Bp at h;exact walk
end
namespace Di
def J5:ABh Bool:=
some true
def J4 (L2:AB->Int->ABh Bool) (c:Int) (e:AB×Bool) (j:Bool):ABh Bool:=
if j then
some false
else
L2 e.1 (Aq (c+1))
def L2 (a:AP) (L2:AB->Int->ABh Bool) (d:AB) (c:Int):ABh Bool:=
if decide (c<(a.AE.length:Int))then
(gt a.AE c).bind λf=>
(Dd a.World d f).bind λe=>
if !e.2 then
J4 L2 c e true
else
(GJ a f.Thread f.EI).bind λu=>
if !u then
J4 L2 c e true
else
(GJ a f.Thread f.Dr).bind λv=>
J4 L2 c e (!v)
else
J5
def DI (a:AP):Nat->AB->Int->ABh Bool
|0,_,_=>none
|n+1,d,c=>L2 a (DI a n) d c
def J3 (a:AP):ABh Bool:=
DI a Bg a.Init 0
def J2 (L1:Int->ABh Bool) (b:Int) (l:Bool):ABh Bool:=
if l then
some false
else
L1 (Aq (b+1))
def L1 (a:AP) (L1:Int->ABh Bool) (b:Int):ABh Bool:=
if decide (b<(a.Init.AH.length:Int))then
(gt a.Init.Sync.B4 b).bind λw=>
if !w then
(gt a.Init.AH b).bind λx=>
J2 L1 b (x != 0)
else
J2 L1 b false
else
J3 a
def AZ (a:AP):Nat->Int->ABh Bool
|0,_=>none
|n+1,b=>L1 a (AZ a n) b
def J1 (a:AP) (i:Bool):ABh Bool:=
if i then
some false
else
AZ a Bg 0
end Di
section
open Di
def Di (a:AP):ABh Bool:=
(An a.World).bind λo=>
if !o then
J1 a true
else
(Hb a.World a.Init).bind λp=>
if !p then
J1 a true
else
if decide ((a.AE.length:Int)>16)then
J1 a true
else
(GZ a).bind λq=>
if !q then
J1 a true
else
(DN a).bind λs=>
if !s then
J1 a true
else
(Bz a).bind λt=>
J1 a (!t)
theorem XU {a:AP} {r:Bool} (h:Di a=some r):Says Tryz.prog 19 [.agg (BW a)] (sb r):=by refine kO mix Tryz.func19 (hn [(1,[9,14,16,22,43,44,50,51,52,59,60,67,70,76,82]),(6,[93,95,102,104])] [(2,1)] [(52,1)]) ?_;have a1:= @MS;have a2:= @XX;have a3:= @Ie;have a4:= @Qf;have a5:= @VJ;have a6:= @S8;have a7:= @T3;have l2:=λn1 n2 n3 n4:Nat=>A7 λn τ=>∃(d:AB) (c:Int),(τ 1=bA 15 (BW a)/\τ 4=bA 7 (BH d)/\τ 5=si c)/\DI a n d c=some r;have l1:=λn1 n2 n3 n4:Nat=>A7 λn τ=>∃(b:Int),(τ 1=bA 15 (BW a)/\τ 3=si b)/\AZ a n b=some r;have c1:=λn1 n2 n3 n4:Nat=>Bu 1 λτ=>∃(i:Bool),(τ 1=bA 15 (BW a)/\τ 41=sb i)/\J1 a i=some r;unfold Di at h;exact walk
end
namespace CU
def J5 (a:AU):ABh Bool:=
some (decide ((a.AA.length:Int)>0))
def J4 (L2:Int->ABh Bool) (b:Int):ABh Bool:=
L2 (Aq (b+1))
def J3 (L2:Int->ABh Bool) (b:Int) (f:Bool):ABh Bool:=
if f then
some false
else
J4 L2 b
def J2 (L2:Int->ABh Bool) (b:Int) (c:Cj):ABh Bool:=
(B1 c.Name).bind λl=>
if !l then
J3 L2 b true
else
(GX Bg c.Body).bind λo=>
J3 L2 b (!o)
def L3 (L2:Int->ABh Bool) (b:Int) (c:Cj) (L3:Int->ABh Bool) (e:Int):ABh Bool:=
if decide (e<(c.Fh.length:Int))then
(gt c.Fh e).bind λq=>
(B1 q).bind λj=>
if !j then
some false
else
L3 (Aq (e+1))
else
J2 L2 b c
def GL (L2:Int->ABh Bool) (b:Int) (c:Cj):Nat->Int->ABh Bool
|0,_=>none
|n+1,e=>L3 L2 b c (GL L2 b c n) e
def L2 (a:AU) (L2:Int->ABh Bool) (b:Int):ABh Bool:=
if decide (b<(a.AA.length:Int))then
(gt a.AA b).bind λc=>
GL L2 b c Bg 0
else
J5 a
def DI (a:AU):Nat->Int->ABh Bool
|0,_=>none
|n+1,b=>L2 a (DI a n) b
def J1 (a:AU):ABh Bool:=
DI a Bg 0
def L1 (a:AU) (L1:Int->ABh Bool) (d:Int):ABh Bool:=
if decide (d<(a.Decls.length:Int))then
(gt a.Decls d).bind λp=>
(Cg p).bind λi=>
if !i then
some false
else
L1 (Aq (d+1))
else
J1 a
def AZ (a:AU):Nat->Int->ABh Bool
|0,_=>none
|n+1,d=>L1 a (AZ a n) d
end CU
section
open CU
def CU (a:AU):ABh Bool:=
AZ a Bg 0
theorem U4 {a:AU} {r:Bool} (h:CU a=some r):Says Tryz.prog 107 [.agg (CL a)] (sb r):=by refine kO mix Tryz.func107 (hn [(1,[8,14,22,28,57]),(5,[34,40,47,52])]) ?_;have a1:= @HW;have a2:= @OK;have a3:= @QD;have l2:=λn1 n2 n3 n4:Nat=>A7 λn τ=>∃(b:Int),(τ 1=bA 2 (CL a)/\τ 4=si b)/\DI a n b=some r;have l3:=λn1 n2 n3 n4:Nat=>A7 λn τ=>∃(b:Int) (c:Cj) (e:Int),(τ 1=bA 2 (CL a)/\τ 4=si b/\τ 5=bA 4 (IE c)/\τ 6=si e)/\GL (DI a n2) b c n e=some r;have l1:=λn1 n2 n3 n4:Nat=>A7 λn τ=>∃(d:Int),(τ 1=bA 2 (CL a)/\τ 3=si d)/\AZ a n d=some r;unfold CU at h;exact walk
end
namespace Ef
def J3:ABh Bool:=
some true
def J2 (L1:Int->ABh Bool) (c:Int) (i:Bool):ABh Bool:=
if i then
some false
else
L1 (Aq (c+1))
def L1 (a:BB) (b:Ae) (L1:Int->ABh Bool) (c:Int):ABh Bool:=
if decide (c<(a.AA.length:Int))then
(gt b.AA c).bind λe=>
if decide (e.PC<0)then
J2 L1 c true
else
(gt a.AA c).bind λf=>
if decide (e.PC≥(f.Aw.length:Int))then
J2 L1 c true
else
if(e.B5.length:Int) != f.B5 then
J2 L1 c true
else
J2 L1 c ((e.CA.length:Int) != f.B5)
else
J3
def AZ (a:BB) (b:Ae):Nat->Int->ABh Bool
|0,_=>none
|n+1,c=>L1 a b (AZ a b n) c
def J1 (a:BB) (b:Ae) (d:Bool):ABh Bool:=
if d then
some false
else
AZ a b Bg 0
end Ef
section
open Ef
def Ef (a:BB) (b:Ae):ABh Bool:=
(BV a).bind λj=>
if !j then
J1 a b true
else
(Ee a.World b.Sync).bind λl=>
if !l then
J1 a b true
else
if(b.Cells.length:Int) != (a.World.Cells.length:Int)then
J1 a b true
else
if(b.AH.length:Int) != (a.World.AH.length:Int)then
J1 a b true
else
J1 a b ((b.AA.length:Int) != (a.AA.length:Int))
theorem YP {a:BB} {b:Ae} {r:Bool} (h:Ef a b=some r):Says Tryz.prog 166 [.agg (He a),.agg (Iz b)] (sb r):=by refine kO mix Tryz.func166 (hn [(2,[11,22,23,32,33,42,48,65,78,90]),(3,[13,19,29,39,54]),(6,[59,63,75,87])] [(2,1)]) ?_;have a1:= @LR;have a2:= @MR;have l1:=λn1 n2 n3 n4:Nat=>A7 λn τ=>∃(c:Int),(τ 2=bA 7 (He a)/\τ 3=bA 7 (Iz b)/\τ 5=si c)/\AZ a b n c=some r;have c1:=λn1 n2 n3 n4:Nat=>Bu 1 λτ=>∃(d:Bool),(τ 2=bA 7 (He a)/\τ 3=bA 7 (Iz b)/\τ 46=sb d)/\J1 a b d=some r;unfold Ef at h;exact walk
end
namespace Gt
def J2:ABh (Int×Int):=
some (0,0)
def J1 (L1:AB->Int->ABh (Int×Int)) (b:Int) (d:AB×Bool) (f:Bool):ABh (Int×Int):=
if f then
some (b,12)
else
L1 d.1 (Aq (b+1))
def L1 (a:BN) (L1:AB->Int->ABh (Int×Int)) (c:AB) (b:Int):ABh (Int×Int):=
if decide (b<(a.AE.length:Int))then
(gt a.AE b).bind λe=>
(Dd a.World c e).bind λd=>
if !d.2 then
J1 L1 b d true
else
(DX a.AE b e.Thread e.EI).bind λl=>
if !l then
J1 L1 b d true
else
(DX a.AE b e.Thread e.Dr).bind λo=>
J1 L1 b d (!o)
else
J2
def AZ (a:BN):Nat->AB->Int->ABh (Int×Int)
|0,_,_=>none
|n+1,c,b=>L1 a (AZ a n) c b
end Gt
section
open Gt
def Gt (a:BN):ABh (Int×Int):=
if decide ((a.AE.length:Int)>400)then
some (0,2)
else
(An a.World).bind λi=>
if !i then
some (0,1)
else
(Ga a.World).bind λj=>
AZ a Bg j 0
theorem XQ {a:BN} {r:Int×Int} (h:Gt a=some r):Says Tryz.prog 54 [.agg (Ia a)] (.BT [si r.1,si r.2]):=by refine kO mix Tryz.func54 (hn [(1,[9,13,17,21,27,33,43,54]),(4,[35]),(6,[46,48,57,59]),(7,[65]),(8,[40]),(37,[32,38,39])]) ?_;have a1:= @Ie;have a2:= @PJ;have a3:= @MS;have a4:= @XR;have l1:=λn1 n2 n3 n4:Nat=>A7 λn τ=>∃(c:AB) (b:Int),(τ 1=bA 7 (Ia a)/\τ 4=bA 7 (Et c)/\τ 5=si b)/\AZ a n c b=some r;unfold Gt at h;exact walk
end
namespace G1
def J1 (e:AB):ABh AB:=
some e
def L1 (b:Int) (a:BN) (L1:AB->Int->ABh AB) (d:AB) (c:Int):ABh AB:=
if decide (c<b)then
(gt a.AE c).bind λj=>
(Dd a.World d j).bind λi=>
L1 i.1 (Aq (c+1))
else
J1 d
def AZ (b:Int) (a:BN):Nat->AB->Int->ABh AB
|0,_,_=>none
|n+1,d,c=>L1 b a (AZ b a n) d c
end G1
section
open G1
def G1 (a:BN) (b:Int):ABh AB:=
(Ga a.World).bind λf=>
AZ b a Bg f 0
theorem XV {a:BN} {b:Int} {r:AB} (h:G1 a b=some r):Says Tryz.prog 55 [.agg (Ia a),si b] (.agg (Et r)):=by refine kO mix Tryz.func55 (hn [(2,[7,16,19]),(5,[18,27]),(24,[25])] (E:=[(5,(.bE [(24,9,10,15)] [ML 16 2 0 2,iA 17 6 16,i1 18 5 (.ld true 7 (.t 5)),ML 19 2 6 2,iL 20 19,iC 21 6,iI 22 7 20 21,iA 23 7 22,⟨some ⟨24,[25],[]⟩,.call 52 [.t 17,.t 18,.t 23] 2,none⟩,i0 15 (.flk (.t 24) 1),i1 25 24 (.ext (.t 24) 0),i0 26 .fl,iS 7 5 25]))])) ?_;have a1:= @PJ;have a2:= @MS;have l1:=λn1 n2 n3 n4:Nat=>A7 λn τ=>∃(d:AB) (c:Int),(τ 1=si b/\τ 2=bA 7 (Ia a)/\τ 4=bA 7 z0/\τ 5=bA 7 (Et d)/\τ 6=si c)/\AZ b a n d c=some r;unfold G1 at h;exact walk
end
end Go.Abs
