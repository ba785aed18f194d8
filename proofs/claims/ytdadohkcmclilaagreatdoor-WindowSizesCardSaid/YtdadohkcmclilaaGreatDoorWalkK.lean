/- Typed programs of Go functions, and that the functions do what these say. -/
import Derived.Test.YtdadohkcmclilaaGreatDoorWalkJ
import Derived.Shelf.Slices.SearchI
set_option linter.unusedSimpArgs false
set_option linter.unusedVariables false
namespace Go.Abs
open Go.Proofs
set_option maxRecDepth 1000000
set_option maxHeartbeats 4000000
namespace D3
def J5 (a:AQ):ABp Bool:=
some (decide ((a.AA.length:Int)>0))
def J4 (L2:Int->ABp Bool) (b:Int):ABp Bool:=
L2 (Ap (b+1))
def J3 (L2:Int->ABp Bool) (b:Int) (f:Bool):ABp Bool:=
if f then
some false
else
J4 L2 b
def J2 (L2:Int->ABp Bool) (b:Int) (c:CZ):ABp Bool:=
(Bp c.Name).bind λl=>
if !l then
J3 L2 b true
else
(HP BT c.Body).bind λo=>
J3 L2 b (!o)
def L3 (L2:Int->ABp Bool) (b:Int) (c:CZ) (L3:Int->ABp Bool) (e:Int):ABp Bool:=
if decide (e<(c.HB.length:Int))then
(gt c.HB e).bind λq=>
(Bp q).bind λj=>
if !j then
some false
else
L3 (Ap (e+1))
else
J2 L2 b c
def Gm (L2:Int->ABp Bool) (b:Int) (c:CZ):Nat->Int->ABp Bool
|0,_=>none
|n+1,e=>L3 L2 b c (Gm L2 b c n) e
def L2 (a:AQ) (L2:Int->ABp Bool) (b:Int):ABp Bool:=
if decide (b<(a.AA.length:Int))then
(gt a.AA b).bind λc=>
Gm L2 b c BT 0
else
J5 a
def C2 (a:AQ):Nat->Int->ABp Bool
|0,_=>none
|n+1,b=>L2 a (C2 a n) b
def J1 (a:AQ):ABp Bool:=
C2 a BT 0
def L1 (a:AQ) (L1:Int->ABp Bool) (d:Int):ABp Bool:=
if decide (d<(a.Decls.length:Int))then
(gt a.Decls d).bind λp=>
(Dc p).bind λi=>
if !i then
some false
else
L1 (Ap (d+1))
else
J1 a
def Aa (a:AQ):Nat->Int->ABp Bool
|0,_=>none
|n+1,d=>L1 a (Aa a n) d
end D3
section
open D3
def D3 (a:AQ):ABp Bool:=
Aa a BT 0
theorem Ub {a:AQ} {r:Bool} (h:D3 a=some r):Says Tryz.prog 107 [.agg (Bu a)] (sb r):=by
 refine kO mix Tryz.func107 (hn [(1,[8,14,22,28,57]),(5,[34,40,47,52])]) ?_
 have a1:= @HV
 have a2:= @N7
 have a3:= @Px
 have l2:=λn1 n2 n3 n4:Nat=>Ax λn τ=>∃(b:Int),(τ 1=bA 2 (Bu a)/\τ 4=si b)/\C2 a n b=some r
 have l3:=λn1 n2 n3 n4:Nat=>Ax λn τ=>∃(b:Int) (c:CZ) (e:Int),(τ 1=bA 2 (Bu a)/\τ 4=si b/\τ 5=bA 4 (Hz c)/\τ 6=si e)/\Gm (C2 a n2) b c n e=some r
 have l1:=λn1 n2 n3 n4:Nat=>Ax λn τ=>∃(d:Int),(τ 1=bA 2 (Bu a)/\τ 3=si d)/\Aa a n d=some r
 unfold D3 at h
 exact walk
end
namespace B2
def J2 (cv:BA) (ac:Int):ABp (Int×BA):=
some (ac,cv)
def J4 (cw:BA) (ad:Int):ABp (Int×BA):=
some (ad,cw)
def J5 (b:Bool×BA) (ae:Int):ABp (Int×BA):=
some (ae,b.2)
def J7 (f:Bool×BA) (af:Int):ABp (Int×BA):=
some (af,f.2)
def J8 (a:AP) (b:Bool×BA) (l:Bool):ABp (Int×BA):=
if l then
some (7,b.2)
else
(Ca b.2.LM a.Name).bind λbl=>
if decide (bl≥0)then
some (8,b.2)
else
if Al (b.2.LM.length+1) 16=true then
some (0,(BA.mk b.2.p b.2.BV b.2.GH (b.2.LM++[a.Name]) b.2.XM))
else none
def J9 (b:Bool×BA) (ai:Int):ABp (Int×BA):=
some (ai,b.2)
def J12 (a:AP) (b:Bool×BA) (c:BA) (aa:Int):ABp (Int×BA):=
if Al (b.2.XM.length+1) 16=true then
(FZ c.p c.BV a.Expr).bind λce=>
(E0 aa ce).bind λcf=>
some (cf,(BA.mk b.2.p b.2.BV b.2.GH b.2.LM (b.2.XM++[a.Name])))
else none
def jJ (i:Int) (a:AP) (b:Bool×BA) (c:BA) (ab:Bool):ABp (Int×BA):=
if ab then
J12 a b c 8
else
J12 a b c i
def Th (a:AP) (b:Bool×BA) (c:BA) (i:Int):ABp (Int×BA):=
if i==0 then
(Ca b.2.XM a.Name).bind λcd=>
jJ i a b c (decide (cd≥0))
else
jJ i a b c false
def J6 (a:AP) (d e b:Bool×BA) (c:BA) (j:Bool):ABp (Int×BA):=
if j then
(DH c.p c.BV a.Name 5 5).bind λw=>
if w != 0 then
some (w,b.2)
else
(DJ c.p.Decls a.Name).bind λbc=>
(gt c.p.Decls bc).bind λcy=>
(Bj b.2 4 4 cy.On).bind λf=>
if d.1 then
(Bm true).bind λbe=>
J7 f be
else
if !f.1 then
(Bm true).bind λbf=>
J7 f bf
else
if a.Op==9 then
(Bm e.1).bind λbi=>
J7 f bi
else
(Bm false).bind λbj=>
J7 f bj
else
if a.Op==12 then
(DH c.p c.BV a.Name 7 7).bind λx=>
if x != 0 then
some (x,b.2)
else
(Cu c.p.AA a.Name).bind λy=>
if d.1 then
J8 a b true
else
if e.1 then
J8 a b true
else
if b.1 then
J8 a b true
else
if y==c.BV then
J8 a b true
else
J8 a b (y==0)
else
if a.Op==13 then
(DH c.p c.BV a.Name 7 7).bind λq=>
if d.1 then
(Bm true).bind λbo=>
(E0 q bo).bind λbp=>
J9 b bp
else
if e.1 then
(Bm true).bind λbs=>
(E0 q bs).bind λbt=>
J9 b bt
else
(Cu c.p.AA a.Name).bind λbu=>
(Bm (bu==c.BV)).bind λbv=>
(E0 q bv).bind λbw=>
J9 b bw
else
if a.Op==14 then
(DH c.p c.BV a.Name 6 6).bind λz=>
if d.1 then
(Bm true).bind λbx=>
(E0 z bx).bind λbz=>
Th a b c bz
else
(Bm b.1).bind λca=>
(E0 z ca).bind λcb=>
Th a b c cb
else
(DH c.p c.BV a.Name 8 8).bind λci=>
(DH c.p c.BV a.Arg 6 6).bind λcj=>
(Bm d.1).bind λcl=>
(E0 cj cl).bind λco=>
(E0 ci co).bind λcp=>
some (cp,b.2)
def J3 (a:AP) (d e b:Bool×BA) (c:BA) (p:Bool):ABp (Int×BA):=
if p then
(DH c.p c.BV a.Name 4 4).bind λu=>
if d.1 then
(Bm true).bind λav=>
(E0 u av).bind λaw=>
J4 b.2 aw
else
(Bj b.2 5 6 a.Name).bind λv=>
(Bm v.1).bind λax=>
(E0 u ax).bind λay=>
J4 v.2 ay
else
if a.Op==7 then
(Bm d.1).bind λaz=>
some (az,b.2)
else
if a.Op==8 then
if d.1 then
(Bm true).bind λba=>
J5 b ba
else
(Bm e.1).bind λbb=>
J5 b bb
else
if a.Op==9 then
J6 a d e b c (a.Op==9)
else
if a.Op==10 then
J6 a d e b c (a.Op==10)
else
J6 a d e b c (a.Op==11)
def J1 (a:AP) (d e b:Bool×BA) (c:BA) (o:Bool):ABp (Int×BA):=
if o then
(FZ c.p c.BV a.Expr).bind λal=>
some (al,b.2)
else
if a.Op==4 then
(DH c.p c.BV a.Name 3 3).bind λs=>
if d.1 then
(Bm true).bind λao=>
(E0 s ao).bind λap=>
J2 b.2 ap
else
(Bj b.2 4 4 a.Name).bind λt=>
(Bm t.1).bind λaq=>
(E0 s aq).bind λau=>
J2 t.2 au
else
if a.Op==5 then
J3 a d e b c (a.Op==5)
else
J3 a d e b c (a.Op==6)
end B2
section
open B2
def B2 (c:BA) (a:AP):ABp (Int×BA):=
(Bj c 7 7 (⟨#[]⟩:ABq)).bind λd=>
(Bj d.2 8 8 (⟨#[]⟩:ABq)).bind λe=>
(Bj e.2 3 3 (⟨#[]⟩:ABq)).bind λb=>
if a.Op==1 then
if(a.Index.length:Int)==0 then
(DH c.p c.BV a.Name 8 1).bind λbd=>
(FZ c.p c.BV a.Expr).bind λbq=>
(E0 bd bq).bind λcc=>
some (cc,b.2)
else
(DH c.p c.BV a.Name 2 2).bind λcq=>
(gt a.Index 0).bind λcx=>
(FZ c.p c.BV cx).bind λcs=>
(FZ c.p c.BV a.Expr).bind λct=>
(E0 cs ct).bind λcu=>
(E0 cq cu).bind λaj=>
some (aj,b.2)
else
if a.Op==2 then
J1 a d e b c (a.Op==2)
else
J1 a d e b c (a.Op==3)
theorem SX {c:BA} {a:AP} {r:Int×BA} (h:B2 c a=some r):BD Tryz.prog 148 [bA 6 (Gj c),.agg [si a.Op,si a.Ep,BM a.Name,BM a.Arg,vS 4 A0 a.Index,si a.Expr.Op,si a.Expr.N,BM a.Expr.Name,vS 4 A0 a.Expr.L,vS 11 Av a.Body,vS 11 Av a.Else]] (si r.1) [bA 6 (Gj r.2),.dead]:=by
 refine kL mix Tryz.func148 (hn [(0,[15,16,17,19,20,21,23,25,27,84,101,131,188,189,190,191,197,198,199,200,205,206,245,246,247,248,255,256,257,258,263,264]),(3,[29,33,39,44,50,55,62,72,79,85,96,102,125,136,149,161,169,192,201,211,221,233,249,259,268,274,279]),(5,[132,134,167,219])] [(12,1),(17,3),(24,6),(40,8)] (E:=[(39,(.Zq [(0,0,9,196)] [i0 196 .fl,i1 197 0 (.cp (.t 0)),i1 198 0 (.JT (.t 197)),Lt 199 0 4 198,Zu 200 0 199,Lt 201 3 2 3,iL 202 201,i0 203 (.Mr 1 [[BM ⟨#[]⟩]] [(0,.t 202)]),i0 204 (.app 1 16 (.t 200) (.t 203)),i1 205 0 (.JT (.t 0)),Lt 206 0 4 205,iS 1 206 204])),(47,(.Zq [(0,0,9,254)] [i0 254 .fl,i1 255 0 (.cp (.t 0)),i1 256 0 (.JT (.t 255)),Lt 257 0 5 256,Zu 258 0 257,Lt 259 3 2 3,iL 260 259,i0 261 (.Mr 1 [[BM ⟨#[]⟩]] [(0,.t 260)]),i0 262 (.app 1 16 (.t 258) (.t 261)),i1 263 0 (.JT (.t 0)),Lt 264 0 5 263,iS 1 264 262]))])) ?_
 have a1:= @Ow
 have a2:= @QI
 have a3:= @Xt
 have a4:= @cD
 have a5:= @TV
 have a6:= @Ix
 have a7:= @JW
 have a8:= @HJ
 have c8:=λn1 n2 n3 n4:Nat=>Bh 8 λτ=>∃(b:Bool×BA) (l:Bool),(τ 0=bA 6 (Gj b.2)/\τ 3=bA 11 [si a.Op,si a.Ep,BM a.Name,BM a.Arg,vS 4 A0 a.Index,si a.Expr.Op,si a.Expr.N,BM a.Expr.Name,vS 4 A0 a.Expr.L,vS 11 Av a.Body,vS 11 Av a.Else]/\τ 187=sb l)/\J8 a b l=some r
 have c6:=λn1 n2 n3 n4:Nat=>Bh 6 λτ=>∃(d e b:Bool×BA) (j:Bool),(τ 0=bA 6 (Gj b.2)/\τ 3=bA 11 [si a.Op,si a.Ep,BM a.Name,BM a.Arg,vS 4 A0 a.Index,si a.Expr.Op,si a.Expr.N,BM a.Expr.Name,vS 4 A0 a.Expr.L,vS 11 Av a.Body,vS 11 Av a.Else]/\τ 5=bA 2 (Bu c.p)/\τ 6=si c.BV/\τ 7=sb d.1/\τ 8=sb e.1/\τ 9=sb b.1/\τ 30=si a.Op/\τ 119=sb j)/\J6 a d e b c j=some r
 have c3:=λn1 n2 n3 n4:Nat=>Bh 3 λτ=>∃(d e b:Bool×BA) (p:Bool),(τ 0=bA 6 (Gj b.2)/\τ 3=bA 11 [si a.Op,si a.Ep,BM a.Name,BM a.Arg,vS 4 A0 a.Index,si a.Expr.Op,si a.Expr.N,BM a.Expr.Name,vS 4 A0 a.Expr.L,vS 11 Av a.Body,vS 11 Av a.Else]/\τ 5=bA 2 (Bu c.p)/\τ 6=si c.BV/\τ 7=sb d.1/\τ 8=sb e.1/\τ 9=sb b.1/\τ 30=si a.Op/\τ 91=sb p)/\J3 a d e b c p=some r
 have c1:=λn1 n2 n3 n4:Nat=>Bh 1 λτ=>∃(d e b:Bool×BA) (o:Bool),(τ 0=bA 6 (Gj b.2)/\τ 3=bA 11 [si a.Op,si a.Ep,BM a.Name,BM a.Arg,vS 4 A0 a.Index,si a.Expr.Op,si a.Expr.N,BM a.Expr.Name,vS 4 A0 a.Expr.L,vS 11 Av a.Body,vS 11 Av a.Else]/\τ 5=bA 2 (Bu c.p)/\τ 6=si c.BV/\τ 7=sb d.1/\τ 8=sb e.1/\τ 9=sb b.1/\τ 30=si a.Op/\τ 67=sb o)/\J1 a d e b c o=some r
 unfold B2 at h
 exact walk
end
namespace EW
def J3 (p:Ad):ABp Ad:=
some p
def L3 (a:BF) (L3:Ad->Int->ABp Ad) (d:Ad) (i:Int):ABp Ad:=
if decide (i<(a.AA.length:Int))then
(gt a.AA i).bind λe=>
if 0≤e.Br/\e.Br≤e.Br/\Al e.Br.toNat 8=true then
if 0≤e.Br/\e.Br≤e.Br/\Al e.Br.toNat 24=true then
if Al (d.AA.length+1) 64=true then
L3 (Ad.mk d.Sync d.Cells d.AK (d.AA++[(AL.mk 0 (List.replicate e.Br.toNat 0) (List.replicate e.Br.toNat ([]:List Int)) 0)])) (Ap (i+1))
else none
else none
else none
else
J3 d
def Gm (a:BF):Nat->Ad->Int->ABp Ad
|0,_,_=>none
|n+1,d,i=>L3 a (Gm a n) d i
def J2 (a:BF) (o:Ad):ABp Ad:=
Gm a BT o 0
def L2 (a:BF) (L2:Ad->Int->ABp Ad) (c:Ad) (j:Int):ABp Ad:=
if decide (j<(a.World.AK.length:Int))then
if Al (c.AK.length+1) 8=true then
L2 (Ad.mk c.Sync c.Cells (c.AK++[0]) c.AA) (Ap (j+1))
else none
else
J2 a c
def C2 (a:BF):Nat->Ad->Int->ABp Ad
|0,_,_=>none
|n+1,c,j=>L2 a (C2 a n) c j
def J1 (a:BF) (l:Ad):ABp Ad:=
C2 a BT l 0
def L1 (a:BF) (L1:Ad->Int->ABp Ad) (b:Ad) (f:Int):ABp Ad:=
if decide (f<(a.World.Cells.length:Int))then
(gt a.World.Cells f).bind λt=>
if Al (b.Cells.length+1) 8=true then
L1 (Ad.mk b.Sync (b.Cells++[t.Init]) b.AK b.AA) (Ap (f+1))
else none
else
J1 a b
def Aa (a:BF):Nat->Ad->Int->ABp Ad
|0,_,_=>none
|n+1,b,f=>L1 a (Aa a n) b f
end EW
section
open EW
def EW (a:BF):ABp Ad:=
(CB a).bind λq=>
if !q then
some (Ad.mk (AN.mk [] 0 [] []) [] [] [])
else
(CV a.World).bind λs=>
Aa a BT (Ad.mk s [] [] []) 0
theorem Wo {a:BF} {r:Ad} (h:EW a=some r):Says Tryz.prog 38 [.agg (I6 a)] (.agg (LS r)):=by
 refine kO mix Tryz.func38 (hn [(1,[11,16,17,25,26,36,37,49,57,64]),(3,[23,24,34,43,44,47,55,56,74,75])] (E:=[(15,(Rc 55 [.m 3 6 3,.f 6 1,.C 6,.I 2 58 59,.U 0 60,.o (.mk 1 8 [si 0] (.t 62) (.t 62)),.f 6 1,.C 6,.I 2 65 66,.U 0 67,.o (.mk 1 24 [.sl false 1 []] (.t 69) (.t 69)),.o (.RD z9 [(1,1,.t 63),(2,1,.t 70)]),.o (.Mr 4 [z9] [(0,.t 71)]),.o (.app 4 64 (.t 56) (.t 72)),.F 6 3,.S 1 74 73]))])) ?_
 have a1:= @LA
 have a2:= @O2
 have l3:=λn1 n2 n3 n4:Nat=>Ax λn τ=>∃(d:Ad) (i:Int),(τ 1=bA 7 (I6 a)/\τ 2=bA 7 z4/\τ 3=bA 7 (LS d)/\τ 6=si i)/\Gm a n d i=some r
 have l2:=λn1 n2 n3 n4:Nat=>Ax λn τ=>∃(c:Ad) (j:Int),(τ 1=bA 7 (I6 a)/\τ 2=bA 7 z4/\τ 3=bA 7 (LS c)/\τ 5=si j)/\C2 a n c j=some r
 have l1:=λn1 n2 n3 n4:Nat=>Ax λn τ=>∃(b:Ad) (f:Int),(τ 1=bA 7 (I6 a)/\τ 2=bA 7 z4/\τ 3=bA 7 (LS b)/\τ 4=si f)/\Aa a n b f=some r
 unfold EW at h
 exact walk
end
namespace ES
def J3:ABp Bool:=
some true
def J2 (L1:Int->ABp Bool) (c:Int) (i:Bool):ABp Bool:=
if i then
some false
else
L1 (Ap (c+1))
def L1 (a:BF) (b:Ad) (L1:Int->ABp Bool) (c:Int):ABp Bool:=
if decide (c<(a.AA.length:Int))then
(gt b.AA c).bind λe=>
if decide (e.PC<0)then
J2 L1 c true
else
(gt a.AA c).bind λf=>
if decide (e.PC≥(f.A1.length:Int))then
J2 L1 c true
else
if(e.Br.length:Int) != f.Br then
J2 L1 c true
else
J2 L1 c ((e.Bn.length:Int) != f.Br)
else
J3
def Aa (a:BF) (b:Ad):Nat->Int->ABp Bool
|0,_=>none
|n+1,c=>L1 a b (Aa a b n) c
def J1 (a:BF) (b:Ad) (d:Bool):ABp Bool:=
if d then
some false
else
Aa a b BT 0
end ES
section
open ES
def ES (a:BF) (b:Ad):ABp Bool:=
(CB a).bind λj=>
if !j then
J1 a b true
else
(ER a.World b.Sync).bind λl=>
if !l then
J1 a b true
else
if(b.Cells.length:Int) != (a.World.Cells.length:Int)then
J1 a b true
else
if(b.AK.length:Int) != (a.World.AK.length:Int)then
J1 a b true
else
J1 a b ((b.AA.length:Int) != (a.AA.length:Int))
theorem Xy {a:BF} {b:Ad} {r:Bool} (h:ES a b=some r):Says Tryz.prog 166 [.agg (I6 a),.agg (Jp b)] (sb r):=by
 refine kO mix Tryz.func166 (hn [(2,[11,22,23,32,33,42,48,65,78,90]),(3,[13,19,29,39,54]),(6,[59,63,75,87])] [(2,1)]) ?_
 have a1:= @LA
 have a2:= @Lz
 have l1:=λn1 n2 n3 n4:Nat=>Ax λn τ=>∃(c:Int),(τ 2=bA 7 (I6 a)/\τ 3=bA 7 (Jp b)/\τ 5=si c)/\Aa a b n c=some r
 have c1:=λn1 n2 n3 n4:Nat=>Bh 1 λτ=>∃(d:Bool),(τ 2=bA 7 (I6 a)/\τ 3=bA 7 (Jp b)/\τ 46=sb d)/\J1 a b d=some r
 unfold ES at h
 exact walk
end
namespace HU
def J2 (e:List AO):ABp ((List AO)×Int):=
some (e,0)
def L1 (b:Int) (a:Az) (L1:(List AO)->Int->ABp ((List AO)×Int)) (d:List AO) (c:Int):ABp ((List AO)×Int):=
if decide (c<(a.AF.length:Int))then
(G7 a c).bind λj=>
if 0≤c/\0≤(if(a.AF.length:Int)<(Ap (c+b))then(a.AF.length:Int)else(Ap (c+b)))/\c.toNat≤((if(a.AF.length:Int)<(Ap (c+b))then(a.AF.length:Int)else(Ap (c+b))).toNat)/\((if(a.AF.length:Int)<(Ap (c+b))then(a.AF.length:Int)else(Ap (c+b))).toNat)≤a.AF.length then
if Al (d.length+1) 328=true then
L1 (d++[(AO.mk a.World c j ((a.AF.drop c.toNat).take (((if(a.AF.length:Int)<(Ap (c+b))then(a.AF.length:Int)else(Ap (c+b))).toNat)-c.toNat)))]) (Ap (c+b))
else none
else none
else
J2 d
def Aa (b:Int) (a:Az):Nat->(List AO)->Int->ABp ((List AO)×Int)
|0,_,_=>none
|n+1,d,c=>L1 b a (Aa b a n) d c
def J1 (b:Int) (a:Az) (f:Bool):ABp ((List AO)×Int):=
if f then
some ([],1)
else
Aa b a BT [] 0
end HU
section
open HU
def HU (a:Az) (b:Int):ABp ((List AO)×Int):=
(Gr a).bind λi=>
if i.2 != 0 then
some ([],12)
else
if decide (b<1)then
J1 b a true
else
J1 b a (decide (b>16))
theorem Wr {a:Az} {b:Int} {r:(List AO)×Int} (h:HU a b=some r):Says Tryz.prog 22 [.agg (Hj a),si b] (.BJ [vO 15 Iq r.1,si r.2]):=by
 refine kO mix Tryz.func22 (hn [(2,[24,32,38,44]),(8,[31,52])]) ?_
 have a1:= @O3
 have a2:= @O5
 have l1:=λn1 n2 n3 n4:Nat=>Ax λn τ=>∃(d:List AO) (c:Int),(τ 1=si b/\τ 2=bA 7 (Hj a)/\τ 8=vO 15 Iq d/\τ 9=si c)/\Aa b a n d c=some r
 unfold HU at h
 exact walk
end
namespace GO
def J1 (a:Int) (b:Az) (c:Bool):ABp (AB×Int):=
if c then
some ((AB.mk (AN.mk [] 0 [] []) [] [] []),1)
else
(G7 b a).bind λe=>
some (e,0)
end GO
section
open GO
def GO (b:Az) (a:Int):ABp (AB×Int):=
(Gr b).bind λd=>
if d.2 != 0 then
some ((AB.mk (AN.mk [] 0 [] []) [] [] []),12)
else
if decide (a<0)then
J1 a b true
else
J1 a b (decide (a>(b.AF.length:Int)))
theorem Se {b:Az} {a:Int} {r:AB×Int} (h:GO b a=some r):Says Tryz.prog 24 [.agg (Hj b),si a] (.BJ [.agg (CG r.1),si r.2]):=by
 refine kO mix Tryz.func24 (hn [(2,[20])]) ?_
 have a1:= @O3
 have a2:= @O5
 unfold GO at h
 exact walk
end
end Go.Abs
