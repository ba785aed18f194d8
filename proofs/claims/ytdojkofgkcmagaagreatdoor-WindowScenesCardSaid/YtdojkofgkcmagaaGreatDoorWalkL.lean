/- Typed programs of Go functions, and that the functions do what these say. -/
import Derived.Test.YtdojkofgkcmagaaGreatDoorWalkK
set_option linter.unusedSimpArgs false
set_option linter.unusedVariables false
namespace Go.Abs
open Go.Proofs
set_option maxRecDepth 1000000
set_option maxHeartbeats 4000000
def f108c:IC:=(Ra 0 [.b 1 [10,14,18,21,22,26,35] (.bx 7 (.t 0)),.K 2 0,.K 3 0]
(Sq (Ra 10 [.f 6 1,.Z 11,.P .gtr 12 400]
(Ci 13 (Rb 0 [.K 2 0,.K 3 2])))
(Sq (Ra 14 [.F 0 1,.A 6 14,.c 43 [15] 0,.N 16]
(Ci 17 (Rb 0 [.K 2 0,.K 3 1])))
(Ra 18 [.F 0 1,.A 6 18,.c 109 [19] 2,.b 4 [37] (.bx 7 (.c (.agg z0))),.S 7 4 20]
(Ra 21 [.F 0 1,.h 1 4 21,.Z 23,.o (.mk 1 24 z15 (.t 24) (.t 24)),.b 5 [45,48,49,58,61,62,73] (.mv (.t 25))]
(Sq (Ra 26 [.f 6 1,.Z 27,.Y 0]
(Bl 0 (Ra 30 [.O .lss 29 28]
(Sq (cX 30 0)
(Sq (Bk 1 (Ra 31 [.C 29,.I 7 27 29,.A 7 32,.b 7 [46,56,59,63,67] (.bx 7 (.c (.agg z3))),.M 6 31,.S 7 7 33]
(Ra 35 [.F 0 1,.A 6 35,.y 4 (.ld true 7 (.t 4)),.A 7 7,.b 39 [34,40,41] (.call 96 [.t 36,.t 37,.t 38] 2),.w 34,.y 39 (.cp (.t 39)),.w 40,.y 39 (.ext (.t 34) 0),.y 39 (.ext (.t 34) 1),.b 8 [74] (.bx 7 (.c (.agg z0))),.S 7 8 40,.b 9 [42] (.mv (.t 41))]
(Sq (Ra 42 [.y 9 (.cp (.t 9)),.N 42,.C 43,.G 44 false,.y 5 (.cp (.t 5)),.f 0 7,.y 5 (.WX 1 (.t 45) (.t 47)),.l 5 48,.o (.ld true 7 (.t 7)),.c 158 [49,50] 0,.N 51,.e,.V 44 52]
(Ci 53 (Rb 54 [.C 6,.M 2 54,.K 3 12])))
(Sq (.bY [(5,0,18,55)] [i0 55 .fl,LU 56 7 0 7,iL 57 56,i1 58 5 (.cp (.t 5)),LU 59 7 0 7,iL 60 59,xG 61 5 1 58 60,Zk 62 5 61,LU 63 7 1 7,iL 64 63,iQ 65 64 3,iC 66 65,jFr 67 7 1 7 66 false,jL 68 67 66 false,jP 69 .eql 68 23 66 false,iOr 70 66 69,i0 71 (.Nk 1 [[sb false]] [(0,.t 70)]),i0 72 (.app 1 1 (.t 62) (.t 71)),xG 73 5 1 5 57,iS 1 73 72])
(Rc 74 [.y 8 (.ld true 7 (.t 8)),.S 7 4 74]))))))
(Rc 75 [.P .add 29 1,.w 29,.C 75]))))))
(Rb 0 [.K 2 0,.K 3 0])))))))
def f108g:Gi:=⟨[(10,[1]),(14,[1]),(18,[1]),(21,[1]),(22,[1]),(26,[1]),(34,[39]),(35,[1]),(37,[4]),(40,[39]),(41,[39]),(42,[9]),(45,[5]),(46,[7]),(48,[5]),(49,[5]),(56,[7]),(58,[5]),(59,[7]),(61,[5]),(62,[5]),(63,[7]),(67,[7]),(73,[5]),(74,[8])]⟩
def f108r:List RV:=[.tmp 2,.tmp 3]
namespace C3
def J3:ABd (Int×Int):=
some (0,0)
def J2 (L1:AB->(List (List Bool))->Int->ABd (Int×Int)) (b:Int) (e:AB×Bool) (j:List (List Bool)):ABd (Int×Int):=
L1 e.1 j (BA (b+1))
def J1 (L1:AB->(List (List Bool))->Int->ABd (Int×Int)) (c:List (List Bool)) (b:Int) (e:AB×Bool) (d:AG) (l:Bool):ABd (Int×Int):=
if l then
some (b,12)
else
(gt c d.Thread).bind λi=>
if d.Kind==3 then
if Ap (i.length+1) 1=true then
J2 L1 b e (c.set d.Thread.toNat (i++[true]))
else none
else
if Ap (i.length+1) 1=true then
J2 L1 b e (c.set d.Thread.toNat (i++[d.Kind==23]))
else none
def L1 (a:CC) (L1:AB->(List (List Bool))->Int->ABd (Int×Int)) (f:AB) (c:List (List Bool)) (b:Int):ABd (Int×Int):=
if decide (b<(a.AE.length:Int))then
(gt a.AE b).bind λd=>
(Bc a.World f d).bind λe=>
if !e.2 then
J1 L1 c b e d true
else
(gt c d.Thread).bind λs=>
(Aw s d).bind λq=>
J1 L1 c b e d (!q)
else
J3
def Aa (a:CC):Nat->AB->(List (List Bool))->Int->ABd (Int×Int)
|0,_,_,_=>none
|n+1,f,c,b=>L1 a (Aa a n) f c b
end C3
section
open C3
def C3 (a:CC):ABd (Int×Int):=
if decide ((a.AE.length:Int)>400)then
some (0,2)
else
(Be a.World).bind λo=>
if !o then
some (0,1)
else
(Db a.World).bind λp=>
if 0≤(a.World.AA.length:Int)/\(a.World.AA.length:Int)≤(a.World.AA.length:Int)/\Ap a.World.AA.length 24=true then
Aa a BW p (List.replicate a.World.AA.length ([]:List Bool)) 0
else none
theorem mJ {a:CC} {r:Int×Int} (h:C3 a=some r):Says Tryz.prog 108 [.agg (ND a)] (.BQ [si r.1,si r.2]):=by refine wO mix Tryz.func108 (I:=⟨f108c,f108g,f108r⟩) ?_;simp only[f108c,f108g,f108r];have a1:= @Lq;have a2:= @V6;have a3:= @Kd;have a4:= @fD;have l1:=λn1 n2 n3 n4:Nat=>A3 λn τ=>∃(f:AB) (c:List (List Bool)) (b:Int),(τ 1=bA 7 (ND a)/\τ 4=bA 7 (GG f)/\τ 5=vO 1 Yw c/\τ 27=vS 7 B1 a.AE/\τ 28=si (a.AE.length:Int)/\τ 29=si b)/\Aa a n f c b=some r;unfold C3 at h;exact walk
end
namespace Cj
def J5 (t:AG):ABd (AG×Bool):=
some (t,true)
def J4 (d:AG) (c:AM) (a:Ad) (u:Bool):ABd (AG×Bool):=
if u then
(gt c.Cd a.B).bind λs=>
if Ap (d.DM.length+s.length) 8=true then
J5 (AG.mk d.Thread d.Kind d.Obj d.Value d.Site d.Dw (d.DM++s))
else none
else
J5 d
def J3 (c:AM) (a:Ad) (d:AG):ABd (AG×Bool):=
if a.Op==8 then
J4 d c a true
else
if a.Op==9 then
J4 d c a true
else
J4 d c a (a.Op==26)
def J2 (b i j:Int) (c:AM) (a:Ad) (v:Bool):ABd (AG×Bool):=
if v then
(gt c.Cd a.C).bind λq=>
if Ap (q.length) 8=true then
J3 c a (AG.mk b i j 0 a.Site q [])
else none
else
J3 c a (AG.mk b i j 0 a.Site [] [])
def J1 (e:BT) (f:Al) (b:Int) (l:Bool):ABd (AG×Bool):=
if l then
some ((AG.mk 0 0 0 0 0 [] []),false)
else
(gt f.AA b).bind λc=>
(gt e.AA b).bind λx=>
(gt x.Br c.PC).bind λa=>
(gt f.Sync.AA b).bind λo=>
if o.Status==1 then
some ((AG.mk b 1 (-1) 0 (-1) [] []),true)
else
if o.Status==4 then
some ((AG.mk b 17 o.Dg 0 a.Site [] []),true)
else
if o.Status==2 then
(Hk a.Op).bind λi=>
(E8 a c).bind λj=>
if i==0 then
some ((AG.mk 0 0 0 0 0 [] []),false)
else
if a.Op==10 then
(gt c.Cd a.A).bind λp=>
if Ap (p.length) 8=true then
J3 c a (AG.mk b i j 0 a.Site p [])
else none
else
if a.Op==7 then
J2 b i j c a (a.Op==7)
else
J2 b i j c a (a.Op==9)
else
some ((AG.mk 0 0 0 0 0 [] []),false)
end Cj
section
open Cj
def Cj (e:BT) (f:Al) (b:Int):ABd (AG×Bool):=
(Ej e f).bind λw=>
if !w then
J1 e f b true
else
if decide (b<0)then
J1 e f b true
else
J1 e f b (decide (b≥(e.AA.length:Int)))
theorem UX {e:BT} {f:Al} {b:Int} {r:AG×Bool} (h:Cj e f b=some r):Says Tryz.prog 212 [.agg (JS e),.agg (KQ f),si b] (.BQ [.agg (Ic r.1),sb r.2]):=by refine kO mix Tryz.func212 (hn [(3,[21,32]),(4,[27,46,47,60,61]),(8,[38,90,103,126]),(9,[43,72,84,92,105,111,115,120,128]),(10,[67,68,69,78,79,80,88,89,97,101,102,110,124,125,133,134])] [(2,1),(20,3)] (E:=[(11,(Rc 60 [.F 0 4,.h 4 3 60,.C 2,.I 3 62 63,.U 1 64,.F 1 10,.x ⟨none,.WU (.t 67) (.c (si 17)),none⟩,.F 2 10,.x ⟨none,.WU (.t 68) (.t 66),none⟩])),(14,(Rc 72 [.f 0 9,.c 240 [73] 0,.A 6 9,.A 4 8,.c 241 [75,76] 0,.F 1 10,.x ⟨none,.WU (.t 78) (.t 74),none⟩,.F 2 10,.x ⟨none,.WU (.t 79) (.t 77),none⟩]))])) ?_;have a1:= @ZY;have a2:= @Vw;have a3:= @ZW;have c3:=λn1 n2 n3 n4:Nat=>Bs 3 λτ=>∃(c:AM) (a:Ad) (d:AG),(τ 6=bA 7 z3/\τ 8=bA 4 (E0 c)/\τ 9=bA 6 (EF a)/\τ 10=bA 7 (Ic d))/\J3 c a d=some r;have c1:=λn1 n2 n3 n4:Nat=>Bs 1 λτ=>∃(l:Bool),(τ 2=si b/\τ 3=bA 7 (JS e)/\τ 4=bA 7 (KQ f)/\τ 6=bA 7 z3/\τ 25=sb l)/\J1 e f b l=some r;unfold Cj at h;exact walk
end
def f49c:IC:=(Ra 0 [.b 1 [13,15,16,20,28,52,53] (.bx 15 (.t 0)),.B 2 false]
(Ra 13 [.F 7 1,.A 7 13,.w 3,.o (.bx 7 (.c (.agg z0))),.S 7 3 14]
(Ra 15 [.F 0 1,.h 1 4 15,.Z 17,.o (.mk 1 24 z15 (.t 18) (.t 18)),.b 4 [64,67,68,72,75,76,78,88,91,92,103] (.mv (.t 19))]
(Sq (Ra 20 [.f 14 1,.Z 21,.Y 0]
(Bl 0 (Ra 24 [.O .lss 23 22]
(Sq (cX 24 0)
(Sq (Bk 1 (Ra 25 [.I 7 21 23,.A 7 25,.b 6 [37,39,55,65,73,86,89,93,97] (.bx 7 (.c (.agg z3))),.S 7 6 26]
(Ra 28 [.F 0 1,.A 6 28,.A 7 3,.A 7 6,.c 96 [29,30,31] 1,.w 27,.C 32,.w 33,.o (.ext (.t 27) 0),.o (.ext (.t 27) 1),.w 7,.o (.bx 7 (.c (.agg z0))),.S 7 7 33,.M 8 34]
(Sq (Ra 35 [.C 8,.N 35]
(Ci 36 (Rb 0 [.B 2 false])))
(Sq (Ra 37 [.f 5 6,.f 6 6,.o (.T2 z18 [(0,1,.t 38),(1,1,.t 40)]),.Y 0]
(Bl 2 (Ra 43 [.P .lss 42 2]
(Sq (cX 43 2)
(Sq (Bk 3 (Np 1 (Rc 44 [.o (.idx false 2 1 (.t 41) (.t 42)),.M 10 44])
(Ra 45 [.C 10,.Z 45,.Y 0]
(Bl 4 (Ra 48 [.O .lss 47 46]
(Sq (cX 48 4)
(Sq (Bk 5 (Ra 49 [.I 1 45 47,.L 49,.M 12 50]
(Ra 51 [.C 12,.F 7 1,.h 1 6 52,.f 0 6,.I 1 54 56,.L 57,.O .sub 51 58,.M 12 59]
(Ra 60 [.C 12,.P .geq 60 0,.C 61,.G 62 true,.C 12,.y 4 (.cp (.t 4)),.f 0 6,.y 4 (.WX 1 (.t 64) (.t 66)),.l 4 67,.Z 68,.O .geq 63 69,.C 70,.G 71 false,.y 4 (.cp (.t 4)),.f 0 6,.y 4 (.WX 1 (.t 72) (.t 74)),.l 4 75,.C 12,.y 4 (.WX 1 (.t 76) (.t 77)),.L 78,.N 79,.G 62 true,.o (.pick (.t 71) (.c (sb true)) (.t 80)),.e,.W 62 81]
(Ci 82 (Rb 0 [.B 2 false]))))))
(Rc 83 [.P .add 47 1,.w 47,.C 83]))))))))
(Rc 84 [.P .add 42 1,.w 42,.C 84]))))))
(Sq (.bY [(4,0,18,85)] [i0 85 .fl,LU 86 6 0 6,iL 87 86,i1 88 4 (.cp (.t 4)),LU 89 6 0 6,iL 90 89,xG 91 4 1 88 90,Zk 92 4 91,LU 93 6 1 6,iL 94 93,iQ 95 94 3,iC 96 95,jFr 97 6 1 6 96 false,jL 98 97 96 false,jP 99 .eql 98 23 96 false,iOr 100 96 99,i0 101 (.Nk 1 [[sb false]] [(0,.t 100)]),i0 102 (.app 1 1 (.t 92) (.t 101)),xG 103 4 1 4 87,iS 1 103 102])
(Rc 104 [.A 7 7,.S 7 3 104])))))))
(Rc 105 [.P .add 23 1,.w 23,.C 105]))))))
(Rb 0 [.B 2 true])))))
def f49g:Gi:=⟨[(13,[1]),(15,[1]),(16,[1]),(20,[1]),(28,[1]),(37,[6]),(39,[6]),(52,[1]),(53,[1]),(55,[6]),(64,[4]),(65,[6]),(67,[4]),(68,[4]),(72,[4]),(73,[6]),(75,[4]),(76,[4]),(78,[4]),(86,[6]),(88,[4]),(89,[6]),(91,[4]),(92,[4]),(93,[6]),(97,[6]),(103,[4])]⟩
def f49r:List RV:=[.tmp 2]
namespace Av
def J7:ABd Bool:=
some true
def J6 (L1:AB->(List (List Bool))->Int->ABd Bool) (d:Int) (v:AB) (u:List (List Bool)):ABd Bool:=
L1 v u (BA (d+1))
def J5 (L1:AB->(List (List Bool))->Int->ABd Bool) (d:Int) (f:AB×Bool) (t:List (List Bool)):ABd Bool:=
J6 L1 d f.1 t
def J4 (L1:AB->(List (List Bool))->Int->ABd Bool) (c:List (List Bool)) (d:Int) (f:AB×Bool) (b:AG):ABd Bool:=
(gt c b.Thread).bind λo=>
if b.Kind==3 then
if Ap (o.length+1) 1=true then
J5 L1 d f (c.set b.Thread.toNat (o++[true]))
else none
else
if Ap (o.length+1) 1=true then
J5 L1 d f (c.set b.Thread.toNat (o++[b.Kind==23]))
else none
def J3 (L2:Int->ABd Bool) (e:Int):ABd Bool:=
L2 (BA (e+1))
def J2 (L3:Int->ABd Bool) (l:Int) (w:Bool):ABd Bool:=
if w then
some false
else
L3 (BA (l+1))
def L3 (L2:Int->ABd Bool) (i:List Int) (c:List (List Bool)) (e:Int) (a:AL) (b:AG) (L3:Int->ABd Bool) (l:Int):ABd Bool:=
if decide (l<(i.length:Int))then
(gt i l).bind λp=>
(gt a.Init.Count b.Thread).bind λq=>
if decide ((BA (p-q))≥0)then
(gt c b.Thread).bind λs=>
if decide ((BA (p-q))≥(s.length:Int))then
J2 L3 l true
else
(gt s (BA (p-q))).bind λx=>
J2 L3 l (!x)
else
J2 L3 l false
else
J3 L2 e
def Gg (L2:Int->ABd Bool) (i:List Int) (c:List (List Bool)) (e:Int) (a:AL) (b:AG):Nat->Int->ABd Bool
|0,_=>none
|n+1,l=>L3 L2 i c e a b (Gg L2 i c e a b n) l
def J1 (L2:Int->ABd Bool) (c:List (List Bool)) (e:Int) (a:AL) (b:AG) (i:List Int):ABd Bool:=
Gg L2 i c e a b BW 0
def L2 (L1:AB->(List (List Bool))->Int->ABd Bool) (c:List (List Bool)) (d:Int) (f:AB×Bool) (a:AL) (b:AG) (L2:Int->ABd Bool) (e:Int):ABd Bool:=
if decide (e<2)then
if e==0 then
J1 L2 c e a b b.Dw
else
if e==1 then
J1 L2 c e a b b.DM
else
none
else
J4 L1 c d f b
def DF (L1:AB->(List (List Bool))->Int->ABd Bool) (c:List (List Bool)) (d:Int) (f:AB×Bool) (a:AL) (b:AG):Nat->Int->ABd Bool
|0,_=>none
|n+1,e=>L2 L1 c d f a b (DF L1 c d f a b n) e
def L1 (a:AL) (L1:AB->(List (List Bool))->Int->ABd Bool) (j:AB) (c:List (List Bool)) (d:Int):ABd Bool:=
if decide (d<(a.AE.length:Int))then
(gt a.AE d).bind λb=>
(Bc a.World j b).bind λf=>
if !f.2 then
some false
else
DF L1 c d f a b BW 0
else
J7
def Aa (a:AL):Nat->AB->(List (List Bool))->Int->ABd Bool
|0,_,_,_=>none
|n+1,j,c,d=>L1 a (Aa a n) j c d
end Av
section
open Av
def Av (a:AL):ABd Bool:=
if 0≤(a.World.AA.length:Int)/\(a.World.AA.length:Int)≤(a.World.AA.length:Int)/\Ap a.World.AA.length 24=true then
Aa a BW a.Init (List.replicate a.World.AA.length ([]:List Bool)) 0
else none
theorem SA {a:AL} {r:Bool} (h:Av a=some r):Says Tryz.prog 49 [.agg (B0 a)] (sb r):=by refine wO mix Tryz.func49 (I:=⟨f49c,f49g,f49r⟩) ?_;simp only[f49c,f49g,f49r];have a1:= @Kd;have l1:=λn1 n2 n3 n4:Nat=>A3 λn τ=>∃(j:AB) (c:List (List Bool)) (d:Int),(τ 1=bA 15 (B0 a)/\τ 3=bA 7 (BI j)/\τ 4=vO 1 Yw c/\τ 21=vS 7 B1 a.AE/\τ 22=si (a.AE.length:Int)/\τ 23=si d)/\Aa a n j c d=some r;have l2:=λn1 n2 n3 n4:Nat=>A3 λn τ=>∃(c:List (List Bool)) (d:Int) (f:AB×Bool) (b:AG) (e:Int) (j:AB),(τ 1=bA 15 (B0 a)/\τ 3=bA 7 (BI j)/\τ 4=vO 1 Yw c/\τ 6=bA 7 (B1 b)/\τ 7=bA 7 (BI f.1)/\τ 21=vS 7 B1 a.AE/\τ 22=si (a.AE.length:Int)/\τ 23=si d/\τ 41= .agg [vS 1 eI b.Dw,vS 1 eI b.DM]/\τ 42=si e)/\DF (Aa a n1) c d f a b n e=some r;have l3:=λn1 n2 n3 n4:Nat=>A3 λn τ=>∃(c:List (List Bool)) (d:Int) (f:AB×Bool) (b:AG) (i:List Int) (e l:Int) (j:AB),(τ 1=bA 15 (B0 a)/\τ 3=bA 7 (BI j)/\τ 4=vO 1 Yw c/\τ 6=bA 7 (B1 b)/\τ 7=bA 7 (BI f.1)/\τ 21=vS 7 B1 a.AE/\τ 22=si (a.AE.length:Int)/\τ 23=si d/\τ 41= .agg [vS 1 eI b.Dw,vS 1 eI b.DM]/\τ 42=si e/\τ 45=vS 1 eI i/\τ 46=si (i.length:Int)/\τ 47=si l)/\Gg (DF (Aa a n1) c d f a b n2) i c e a b n l=some r;have c1:=λn1 n2 n3 n4:Nat=>Bs 1 λτ=>∃(c:List (List Bool)) (d:Int) (f:AB×Bool) (b:AG) (e:Int) (i:List Int) (j:AB),(τ 1=bA 15 (B0 a)/\τ 3=bA 7 (BI j)/\τ 4=vO 1 Yw c/\τ 6=bA 7 (B1 b)/\τ 7=bA 7 (BI f.1)/\τ 10=vS 1 eI i/\τ 21=vS 7 B1 a.AE/\τ 22=si (a.AE.length:Int)/\τ 23=si d/\τ 41= .agg [vS 1 eI b.Dw,vS 1 eI b.DM]/\τ 42=si e)/\J1 (DF (Aa a n1) c d f a b n2) c e a b i=some r;unfold Av at h;exact walk
end
def f219c:IC:=(Ra 0 [.K 4 0,.K 5 0]
(Sq (Ra 0 [.K 6 0]
(Bl 0 (Sq (Ra 10 [.C 6,.C 1,.Z 11,.O .lss 10 12]
(cX 13 0))
(Sq (Bk 1 (Ra 16 [.C 1,.C 6,.I 11 16 17,.A 11 18,.b 7 [33,48,57] (.bx 11 (.c (.agg z6))),.S 11 7 19]
(Ra 20 [.y 0 (.cp (.t 0)),.A 11 7,.o (.Uv 248 [] (.t 20) none [.t 21]),.M 8 22]
(Np 1 (Ra 23 [.r 0 3,.Z 26,.P .add 27 1,.P .gtr 28 6]
(Ci 29 (Rc 0 [.K 8 2])))
(Sq (Ra 30 [.C 8,.P .neq 30 0]
(Ci 31 (Rb 32 [.C 8,.f 1 7,.M 4 32,.M 5 34])))
(Sq (.apd ⟨42,43,45,7,8,9,11,12⟩ [i1 35 0 (.cp (.t 0)),i1 36 0 (.Jp (.t 35)),LU 37 0 3 36,Zk 38 0 37,iA 39 11 7,iZ 40 38,i0 41 (.Nk 11 [z6] [(0,.c (.agg z6))]),⟨some ⟨42,[43],[]⟩,.app 11 176 (.t 38) (.t 41),none⟩,xG 43 42 11 42 40,iS 11 43 39,i1 44 0 (.Jp (.t 35)),LU 45 0 3 44,⟨none,.std (.t 45),none⟩])
(Ra 47 [.y 0 (.cp (.t 0)),.f 9 7,.o (.Uv 219 [] (.t 47) none [.t 49]),.w 46,.C 50,.w 51,.o (.ext (.t 46) 0),.o (.ext (.t 46) 1),.M 8 51,.M 9 52]
(Sq (Ra 53 [.C 8,.Q 53 0]
(Ci 54 (Rc 56 [.y 0 (.cp (.t 0)),.f 10 7,.o (.Uv 219 [] (.t 56) none [.t 58]),.w 55,.C 59,.w 60,.o (.ext (.t 55) 0),.o (.ext (.t 55) 1),.M 8 60,.M 9 61])))
(Sq (.bY [(0,0,12,62)] [i0 62 .fl,i1 63 0 (.cp (.t 0)),i1 64 0 (.Jp (.t 63)),LU 65 0 3 64,Zk 66 0 65,i1 67 0 (.cp (.t 0)),i1 68 0 (.Jp (.t 67)),LU 69 0 3 68,Zk 70 0 69,iZ 71 70,iP 72 .sub 71 1,i0 73 (.slc 11 false (.t 66) none (some (.t 72)) none),i1 74 0 (.Jp (.t 0)),LU 75 0 3 74,iS 1 75 73])
(Ra 76 [.C 8,.P .neq 76 0]
(Ci 77 (Rb 78 [.C 8,.C 9,.M 4 78,.M 5 79]))))))))))))
(Rc 14 [.C 6,.P .add 14 1,.M 6 15])))))
(Rb 0 [.K 4 0,.K 5 0])))
def f219g:Gi:=⟨[(20,[0]),(23,[0]),(24,[0]),(25,[0]),(26,[0]),(33,[7]),(35,[0]),(36,[0]),(37,[0]),(38,[0]),(43,[42]),(44,[0]),(45,[0]),(47,[0]),(48,[7]),(56,[0]),(57,[7]),(63,[0]),(64,[0]),(65,[0]),(66,[0]),(67,[0]),(68,[0]),(69,[0]),(70,[0]),(74,[0]),(75,[0])]⟩
def f219r:List RV:=[.tmp 4,.tmp 5]
namespace B6
def J3 (s:BN):ABd (Int×Int×BN):=
some (0,0,s)
def J2 (L1:BN->Int->ABd (Int×Int×BN)) (c:Int) (d:BN) (p q:Int):ABd (Int×Int×BN):=
if 0≤(BA ((d.GD.length:Int)-1))/\((BA ((d.GD.length:Int)-1)).toNat)≤d.GD.length then
if p != 0 then
some (p,q,(BN.mk d.p d.Bb (d.GD.take ((BA ((d.GD.length:Int)-1)).toNat)) d.Lo d.Yh))
else
L1 (BN.mk d.p d.Bb (d.GD.take ((BA ((d.GD.length:Int)-1)).toNat)) d.Lo d.Yh) (BA (c+1))
else none
def J1 (L1:BN->Int->ABd (Int×Int×BN)) (R100:BN->(List AQ)->ABd (Int×Int×BN)) (c:Int) (b:Int×BN) (a:AQ) (i:Int):ABd (Int×Int×BN):=
if i != 0 then
some (i,a.FK,b.2)
else
if Ap (b.2.GD.length+1) 176=true then
(gt (b.2.GD++[(AQ.mk 0 0 (⟨#[]⟩:ABe) (⟨#[]⟩:ABe) [] (BE.mk 0 0 (⟨#[]⟩:ABe) []) [] [])]) (b.2.GD.length:Int)).bind λt=>
(R100 (BN.mk b.2.p b.2.Bb ((b.2.GD++[(AQ.mk 0 0 (⟨#[]⟩:ABe) (⟨#[]⟩:ABe) [] (BE.mk 0 0 (⟨#[]⟩:ABe) []) [] [])]).set b.2.GD.length a) b.2.Lo b.2.Yh) a.Body).bind λj=>
if j.1==0 then
(R100 j.2.2 a.Else).bind λo=>
J2 L1 c o.2.2 o.1 o.2.1
else
J2 L1 c j.2.2 j.1 j.2.1
else none
def L1 (R100:BN->(List AQ)->ABd (Int×Int×BN)) (e:List AQ) (L1:BN->Int->ABd (Int×Int×BN)) (f:BN) (c:Int):ABd (Int×Int×BN):=
if decide (c<(e.length:Int))then
(gt e c).bind λa=>
(BL f a).bind λb=>
if decide ((BA ((b.2.GD.length:Int)+1))>6)then
J1 L1 R100 c b a 2
else
J1 L1 R100 c b a b.1
else
J3 f
def Aa (R100:BN->(List AQ)->ABd (Int×Int×BN)) (e:List AQ):Nat->BN->Int->ABd (Int×Int×BN)
|0,_,_=>none
|n+1,f,c=>L1 R100 e (Aa R100 e n) f c
end B6
section
open B6
def B6 (R100:BN->(List AQ)->ABd (Int×Int×BN)) (l:BN) (e:List AQ):ABd (Int×Int×BN):=
Aa R100 e BW l 0
theorem TU {R100:BN->(List AQ)->ABd (Int×Int×BN)} (H100:∀{x0 x1 r},R100 x0 x1=some r->BD Tryz.prog 219 [bA 6 (HA x0),vS 11 A7 x1] (.BQ [si r.1,si r.2.1]) [bA 6 (HA r.2.2),.dead]) {l:BN} {e:List AQ} {r:Int×Int×BN} (h:B6 R100 l e=some r):BD Tryz.prog 219 [bA 6 (HA l),vS 11 A7 e] (.BQ [si r.1,si r.2.1]) [bA 6 (HA r.2.2),.dead]:=by refine wL mix Tryz.func219 (I:=⟨f219c,f219g,f219r⟩) ?_;simp only[f219c,f219g,f219r];have a1:= @TV;have a2:= @H100;have l1:=λn1 n2 n3 n4:Nat=>A3 λn τ=>∃(f:BN) (c:Int),(τ 0=bA 6 (HA f)/\τ 1=vS 11 A7 e/\τ 6=si c)/\Aa R100 e n f c=some r;have c1:=λn1 n2 n3 n4:Nat=>Bs 1 λτ=>∃(c:Int) (b:Int×BN) (a:AQ) (i:Int),(τ 0=bA 6 (HA b.2)/\τ 1=vS 11 A7 e/\τ 6=si c/\τ 7=bA 11 [si a.Op,si a.FK,BZ a.Name,BZ a.Arg,vS 4 BH a.Index,si a.Expr.Op,si a.Expr.N,BZ a.Expr.Name,vS 4 BH a.Expr.L,vS 11 A7 a.Body,vS 11 A7 a.Else]/\τ 8=si i)/\J1 (Aa R100 e n1) R100 c b a i=some r;unfold B6 at h;exact walk
end
def OW:Nat->(BN->(List AQ)->ABd (Int×Int×BN))
|0=>(λ_ _=>none)
|n+1=>B6 ((OW n))
def Ed (n:Nat):BN->(List AQ)->ABd (Int×Int×BN):=(OW n)
theorem Rm (n:Nat):(∀{x0 x1 r},(Ed n) x0 x1=some r->BD Tryz.prog 219 [bA 6 (HA x0),.sl false 11 (x1.map A7)] (.BQ [si r.1,si r.2.1]) [bA 6 (HA r.2.2),.dead]):=by
  induction n with
  |zero=>exactλh=>ET h
  |succ n ih=>exactλh=>TU ih h
theorem Rn {n:Nat}:∀{x0 x1 r},(Ed n) x0 x1=some r->BD Tryz.prog 219 [bA 6 (HA x0),.sl false 11 (x1.map A7)] (.BQ [si r.1,si r.2.1]) [bA 6 (HA r.2.2),.dead]:=(Rm n)
namespace De
def J2 (b:Int) (c:AB×AU) (e:AL):ABd AL:=
(B8 c.2 e.Init e.World (if 16<(if 0>b then 0 else b)then 16 else(if 0>b then 0 else b)) true).bind λl=>
(CB (AL.mk e.World e.Start e.Init l.1)).bind λo=>
if !o then
(Gd).bind λp=>
(Gd).bind λq=>
(EU q).bind λs=>
some (AL.mk p 0 s [])
else
some (AL.mk e.World e.Start e.Init l.1)
def L1 (b:Int) (c:AB×AU) (L1:AL->Int->ABd AL) (a:AL) (d:Int):ABd AL:=
if decide (d<(c.1.Count.length:Int))then
(gt c.1.Count d).bind λt=>
L1 (AL.mk a.World (BA (a.Start+t)) a.Init a.AE) (BA (d+1))
else
J2 b c a
def Aa (b:Int) (c:AB×AU):Nat->AL->Int->ABd AL
|0,_,_=>none
|n+1,a,d=>L1 b c (Aa b c n) a d
def J1 (b:Int) (i:List Int):ABd AL:=
(Gd).bind λj=>
(Af (AU.mk i 0) j).bind λc=>
Aa b c BW (AL.mk j 0 c.1 []) 0
end De
section
open De
def De (f:List Int) (b:Int):ABd AL:=
if decide ((f.length:Int)>400)then
if 400≤f.length then
J1 b (f.take 400)
else none
else
J1 b f
theorem Vy {f:List Int} {b:Int} {r:AL} (h:De f b=some r):Says Tryz.prog 40 [vS 1 cZ f,si b] (.agg (B0 r)):=by refine kF mix Tryz.func40 (hn [(5,[19,38]),(6,[20,21,23,24,25,26,30,32,36,39,40,41,42,47,48,55])] [(1,1)] [(84,1)]) ?_;have a1:= @Ya;have a2:= @Ru;have a3:= @Za;have a4:= @Tc;have a5:= @Jz;have l1:=λn1 n2 n3 n4:Nat=>A3 λn τ=>∃(c:AB×AU) (a:AL) (d:Int),(τ 1=si b/\τ 4=bA 15 z2/\τ 5=bA 2 (FO c.2)/\τ 6=bA 15 [vS 5 Gy a.World.Cells,vS 2 Hy a.World.AF,vS 2 Hx a.World.Ai,vS 1 eS a.World.AK,vS 1 eS a.World.AA,vS 3 Gb a.World.BU,si a.Start,vS 2 DS a.Init.Sync.AF,si a.Init.Sync.Tx,vS 1 eB a.Init.Sync.Bn,vS 3 An a.Init.Sync.AA,vS 1 eI a.Init.Cells,vS 1 eI a.Init.AK,vS 1 eI a.Init.Count,vO 7 B1 a.AE]/\τ 26=vS 1 eI c.1.Count/\τ 27=si (c.1.Count.length:Int)/\τ 28=si d)/\Aa b c n a d=some r;have c1:=λn1 n2 n3 n4:Nat=>Bs 1 λτ=>∃(i:List Int),(τ 0=vS 1 cZ i/\τ 1=si b/\τ 4=bA 15 z2)/\J1 b i=some r;unfold De at h;exact walk
end
namespace Ep
def J2 (e:List AL):ABd ((List AL)×Int):=
some (e,0)
def L1 (b:Int) (a:CC) (L1:(List AL)->Int->ABd ((List AL)×Int)) (d:List AL) (c:Int):ABd ((List AL)×Int):=
if decide (c<(a.AE.length:Int))then
(F7 a c).bind λj=>
if 0≤c/\0≤(if(a.AE.length:Int)<(BA (c+b))then(a.AE.length:Int)else(BA (c+b)))/\c.toNat≤((if(a.AE.length:Int)<(BA (c+b))then(a.AE.length:Int)else(BA (c+b))).toNat)/\((if(a.AE.length:Int)<(BA (c+b))then(a.AE.length:Int)else(BA (c+b))).toNat)≤a.AE.length then
if Ap (d.length+1) 328=true then
L1 (d++[(AL.mk a.World c j ((a.AE.drop c.toNat).take (((if(a.AE.length:Int)<(BA (c+b))then(a.AE.length:Int)else(BA (c+b))).toNat)-c.toNat)))]) (BA (c+b))
else none
else none
else
J2 d
def Aa (b:Int) (a:CC):Nat->(List AL)->Int->ABd ((List AL)×Int)
|0,_,_=>none
|n+1,d,c=>L1 b a (Aa b a n) d c
def J1 (b:Int) (a:CC) (f:Bool):ABd ((List AL)×Int):=
if f then
some ([],1)
else
Aa b a BW [] 0
end Ep
section
open Ep
def Ep (a:CC) (b:Int):ABd ((List AL)×Int):=
(FG a).bind λi=>
if i.2 != 0 then
some ([],12)
else
if decide (b<1)then
J1 b a true
else
J1 b a (decide (b>16))
theorem YO {a:CC} {b:Int} {r:(List AL)×Int} (h:Ep a b=some r):Says Tryz.prog 42 [.agg (ND a),si b] (.BQ [vO 15 Jk r.1,si r.2]):=by refine kO mix Tryz.func42 (hn [(2,[24,32,38,44]),(8,[31,52])]) ?_;have a1:= @YL;have a2:= @YP;have l1:=λn1 n2 n3 n4:Nat=>A3 λn τ=>∃(d:List AL) (c:Int),(τ 1=si b/\τ 2=bA 7 (ND a)/\τ 8=vO 15 Jk d/\τ 9=si c)/\Aa b a n d c=some r;unfold Ep at h;exact walk
end
end Go.Abs
