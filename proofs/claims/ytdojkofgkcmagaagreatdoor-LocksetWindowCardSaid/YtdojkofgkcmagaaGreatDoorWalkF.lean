/- Typed programs of Go functions, and that the functions do what these say. -/
import Derived.Test.YtdojkofgkcmagaaGreatDoorWalkD
import Derived.Test.YtdojkofgkcmagaaGreatDoorWalkE
set_option linter.defProp false
set_option linter.unusedSimpArgs false
set_option linter.unusedVariables false
namespace Go.Abs
open Go.Proofs Tryz
set_option maxRecDepth 1000000
set_option maxHeartbeats 4000000
namespace C3
def J3:ii:=
some (0,0)
def J2(L1:fh)(b:Int)(e:fD)(j:d3):=
L1 e.1 j (BA (b+1))
def J1(L1:fh)(c:d3)(b:Int)(e:fD)(d:AG)(l:Bool):=
if l then
some (b,12)
else
(gt c d.Thread).bind λi=>
if d.Kind==3 then
if Ap (i.length+1) 1=true then
J2 L1 b e (c.set d.Thread.toNat (i++[true]))
else none
else
if Ap (i.length+1) 1=true then
J2 L1 b e (c.set d.Thread.toNat (i++[d.Kind==23]))
else none
def L1(a:CC)(L1:fh)(f:AB)(c:d3)(b:Int):=
if decide (b<(a.AE.length:Int))then
(gt a.AE b).bind λd=>
(Bc a.World f d).bind λe=>
if !e.2 then
J1 L1 c b e d true
else
(gt c d.Thread).bind λs=>
(Aw s d).bind λq=>
J1 L1 c b e d (!q)
else
J3
def Aa(a:CC):Nat->AB->(List (List Bool))->Int->ABd (Int×Int)
|0,_,_,_=>none
|n+1,f,c,b=>L1 a (Aa a n) f c b
end C3
section
open C3
def C3(a:CC):=
if decide ((a.AE.length:Int)>400)then
some (0,2)
else
(Be a.World).bind λo=>
if !o then
some (0,1)
else
(Db a.World).bind λp=>
if 0<=(a.World.AA.length:Int)/\(a.World.AA.length:Int)<=(a.World.AA.length:Int)/\Ap a.World.AA.length 24=true then
Aa a BW p (List.replicate a.World.AA.length ([]:List Bool)) 0
else none
end
namespace Cj
def J5(t:AG):ABd (AG×Bool):=
some (t,true)
def J4(d:AG)(c:AM)(a:Ad)(u:Bool):=
if u then
(gt c.Cd a.B).bind λs=>
if Ap (d.DM.length+s.length) 8=true then
J5 (AG.mk d.Thread d.Kind d.Obj d.Value d.Site d.Dw (d.DM++s))
else none
else
J5 d
def J3(c:AM)(a:Ad)(d:AG):=
if a.Op==8 then
J4 d c a true
else
if a.Op==9 then
J4 d c a true
else
J4 d c a (a.Op==26)
def J2(b i j:Int)(c:AM)(a:Ad)(v:Bool):=
if v then
(gt c.Cd a.C).bind λq=>
if Ap (q.length) 8=true then
J3 c a (AG.mk b i j 0 a.Site q [])
else none
else
J3 c a (AG.mk b i j 0 a.Site [] [])
def J1(e:BT)(f:Al)(b:Int)(l:Bool):=
if l then
some ((AG.mk 0 0 0 0 0 [] []),false)
else
(gt f.AA b).bind λc=>
(gt e.AA b).bind λx=>
(gt x.Br c.PC).bind λa=>
(gt f.Sync.AA b).bind λo=>
if o.Status==1 then
some ((AG.mk b 1 (-1) 0 (-1) [] []),true)
else
if o.Status==4 then
some ((AG.mk b 17 o.Dg 0 a.Site [] []),true)
else
if o.Status==2 then
(Hk a.Op).bind λi=>
(E8 a c).bind λj=>
if i==0 then
some ((AG.mk 0 0 0 0 0 [] []),false)
else
if a.Op==10 then
(gt c.Cd a.A).bind λp=>
if Ap (p.length) 8=true then
J3 c a (AG.mk b i j 0 a.Site p [])
else none
else
if a.Op==7 then
J2 b i j c a (a.Op==7)
else
J2 b i j c a (a.Op==9)
else
some ((AG.mk 0 0 0 0 0 [] []),false)
end Cj
section
open Cj
def Cj(e:BT)(f:Al)(b:Int):=
(Ej e f).bind λw=>
if !w then
J1 e f b true
else
if decide (b<0)then
J1 e f b true
else
J1 e f b (decide (b>=(e.AA.length:Int)))
def UX{e:BT}{f:Al}{b:Int}{r:AG×Bool}(h:Cj e f b=some r):Says prog 212 [.agg (JS e),.agg (KQ f),si b] (.BQ [.agg (Ic r.1),sb r.2]):=by refine kO mix func212 (hn [(3,[21,32]),(4,[27,46,47,60,61]),(8,[38,90,103,126]),(9,[43,72,84,92,105,111,115,120,128]),(10,[67,68,69,78,79,80,88,89,97,101,102,110,124,125,133,134])] [(2,1),(20,3)] (E:=[(11,(Rc 60 [.F 0 4,.h 4 3 60,.C 2,.I 3 62 63,.U 1 64,.F 1 10,.x ⟨none,.WU (.t 67) (.c (si 17)),none⟩,.F 2 10,.x ⟨none,.WU (.t 68) (.t 66),none⟩])),(14,(Rc 72 [.f 0 9,.c 240 [73] 0,.A 6 9,.A 4 8,.c 241 [75,76] 0,.F 1 10,.x ⟨none,.WU (.t 78) (.t 74),none⟩,.F 2 10,.x ⟨none,.WU (.t 79) (.t 77),none⟩]))])) ?_;have a1:= @ZY;have a2:= @Vw;have a3:= @ZW;have c3:=db 3 λ_ _ _ _ b=>∃c a d,(b 6=bA 7 z3/\b 8=bA 4 (E0 c)/\b 9=bA 6 (EF a)/\b 10=bA 7 (Ic d))/\J3 c a d=some r;have c1:=db 1 λ_ _ _ _ a=>∃l,(a 2=si b/\a 3=bA 7 (JS e)/\a 4=bA 7 (KQ f)/\a 6=bA 7 z3/\a 25=sb l)/\J1 e f b l=some r;unfold Cj at h;exact walk
end
def f49c:IC:=(Ra 0 [.b 1 [13,15,16,20,28,52,53] (.bx 15 (.t 0)),.B 2 false]
(Ra 13 [.F 7 1,.A 7 13,.w 3,.o (.bx 7 (.c (.agg z0))),.S 7 3 14]
(Ra 15 [.F 0 1,.h 1 4 15,.Z 17,.o (.mk 1 24 z15 (.t 18) (.t 18)),.b 4 [64,67,68,72,75,76,78,88,91,92,103] (.mv (.t 19))]
(Sq (Ra 20 [.f 14 1,.Z 21,.Y 0]
(Bl 0 (Ra 24 [.O .lss 23 22]
(Sq (cX 24 0)
(Sq (Bk 1 (Ra 25 [.I 7 21 23,.A 7 25,.b 6 [37,39,55,65,73,86,89,93,97] (.bx 7 (.c (.agg z3))),.S 7 6 26]
(Ra 28 [.F 0 1,.A 6 28,.A 7 3,.A 7 6,.c 96 [29,30,31] 1,.w 27,.C 32,.w 33,.o (.ext (.t 27) 0),.o (.ext (.t 27) 1),.w 7,.o (.bx 7 (.c (.agg z0))),.S 7 7 33,.M 8 34]
(Sq (Ra 35 [.C 8,.N 35]
(Ci 36 (Rb 0 [.B 2 false])))
(Sq (Ra 37 [.f 5 6,.f 6 6,.o (.T2 z18 [(0,1,.t 38),(1,1,.t 40)]),.Y 0]
(Bl 2 (Ra 43 [.P .lss 42 2]
(Sq (cX 43 2)
(Sq (Bk 3 (Np 1 (Rc 44 [.o (.idx false 2 1 (.t 41) (.t 42)),.M 10 44])
(Ra 45 [.C 10,.Z 45,.Y 0]
(Bl 4 (Ra 48 [.O .lss 47 46]
(Sq (cX 48 4)
(Sq (Bk 5 (Ra 49 [.I 1 45 47,.L 49,.M 12 50]
(Ra 51 [.C 12,.F 7 1,.h 1 6 52,.f 0 6,.I 1 54 56,.L 57,.O .sub 51 58,.M 12 59]
(Ra 60 [.C 12,.P .geq 60 0,.C 61,.G 62 true,.C 12,.y 4 (.cp (.t 4)),.f 0 6,.y 4 (.WX 1 (.t 64) (.t 66)),.l 4 67,.Z 68,.O .geq 63 69,.C 70,.G 71 false,.y 4 (.cp (.t 4)),.f 0 6,.y 4 (.WX 1 (.t 72) (.t 74)),.l 4 75,.C 12,.y 4 (.WX 1 (.t 76) (.t 77)),.L 78,.N 79,.G 62 true,.o (.pick (.t 71) (.c (sb true)) (.t 80)),.e,.W 62 81]
(Ci 82 (Rb 0 [.B 2 false]))))))
(Rc 83 [.P .add 47 1,.w 47,.C 83]))))))))
(Rc 84 [.P .add 42 1,.w 42,.C 84]))))))
(Sq (.bY [(4,0,18,85)] [i0 85 .fl,LU 86 6 0 6,iL 87 86,i1 88 4 (.cp (.t 4)),LU 89 6 0 6,iL 90 89,xG 91 4 1 88 90,Zk 92 4 91,LU 93 6 1 6,iL 94 93,iQ 95 94 3,iC 96 95,jFr 97 6 1 6 96 false,jL 98 97 96 false,jP 99 .eql 98 23 96 false,iOr 100 96 99,i0 101 (.Nk 1 [[sb false]] [(0,.t 100)]),i0 102 (.app 1 1 (.t 92) (.t 101)),xG 103 4 1 4 87,iS 1 103 102])
(Rc 104 [.A 7 7,.S 7 3 104])))))))
(Rc 105 [.P .add 23 1,.w 23,.C 105]))))))
(Rb 0 [.B 2 true])))))
def f49g:Gi:=⟨[(13,[1]),(15,[1]),(16,[1]),(20,[1]),(28,[1]),(37,[6]),(39,[6]),(52,[1]),(53,[1]),(55,[6]),(64,[4]),(65,[6]),(67,[4]),(68,[4]),(72,[4]),(73,[6]),(75,[4]),(76,[4]),(78,[4]),(86,[6]),(88,[4]),(89,[6]),(91,[4]),(92,[4]),(93,[6]),(97,[6]),(103,[4])]⟩
def f49r:List RV:=[.tmp 2]
namespace Av
def J7:=
some true
def J6(L1:ed)(d:Int)(v:AB)(u:d3):=
L1 v u (BA (d+1))
def J5(L1:ed)(d:Int)(f:fD)(t:d3):=
J6 L1 d f.1 t
def J4(L1:ed)(c:d3)(d:Int)(f:fD)(b:AG):=
(gt c b.Thread).bind λo=>
if b.Kind==3 then
if Ap (o.length+1) 1=true then
J5 L1 d f (c.set b.Thread.toNat (o++[true]))
else none
else
if Ap (o.length+1) 1=true then
J5 L1 d f (c.set b.Thread.toNat (o++[b.Kind==23]))
else none
def J3(L2:df)(e:Int):=
L2 (BA (e+1))
def J2(L3:df)(l:Int)(w:Bool):=
if w then
some false
else
L3 (BA (l+1))
def L3(L2:df)(i:dc)(c:d3)(e:Int)(a:AL)(b:AG)(L3:df)(l:Int):=
if decide (l<(i.length:Int))then
(gt i l).bind λp=>
(gt a.Init.Count b.Thread).bind λq=>
if decide ((BA (p-q))>=0)then
(gt c b.Thread).bind λs=>
if decide ((BA (p-q))>=(s.length:Int))then
J2 L3 l true
else
(gt s (BA (p-q))).bind λx=>
J2 L3 l (!x)
else
J2 L3 l false
else
J3 L2 e
def Gg(L2:df)(i:dc)(c:d3)(e:Int)(a:AL)(b:AG):Nat->Int->ABd Bool
|0,_=>none
|n+1,l=>L3 L2 i c e a b (Gg L2 i c e a b n) l
def J1(L2:df)(c:d3)(e:Int)(a:AL)(b:AG)(i:dc):=
Gg L2 i c e a b BW 0
def L2(L1:ed)(c:d3)(d:Int)(f:fD)(a:AL)(b:AG)(L2:df)(e:Int):=
if decide (e<2)then
if e==0 then
J1 L2 c e a b b.Dw
else
if e==1 then
J1 L2 c e a b b.DM
else
none
else
J4 L1 c d f b
def DF(L1:ed)(c:d3)(d:Int)(f:fD)(a:AL)(b:AG):Nat->Int->ABd Bool
|0,_=>none
|n+1,e=>L2 L1 c d f a b (DF L1 c d f a b n) e
def L1(a:AL)(L1:ed)(j:AB)(c:d3)(d:Int):=
if decide (d<(a.AE.length:Int))then
(gt a.AE d).bind λb=>
(Bc a.World j b).bind λf=>
if !f.2 then
some false
else
DF L1 c d f a b BW 0
else
J7
def Aa(a:AL):Nat->AB->(List (List Bool))->Int->ABd Bool
|0,_,_,_=>none
|n+1,j,c,d=>L1 a (Aa a n) j c d
end Av
section
open Av
def Av(a:AL):=
if 0<=(a.World.AA.length:Int)/\(a.World.AA.length:Int)<=(a.World.AA.length:Int)/\Ap a.World.AA.length 24=true then
Aa a BW a.Init (List.replicate a.World.AA.length ([]:List Bool)) 0
else none
def SA{a:AL}{r:Bool}(h:Av a=some r):Says prog 49 [.agg (B0 a)] (sb r):=by refine wO mix func49 (I:=⟨f49c,f49g,f49r⟩) ?_;simp only[f49c,f49g,f49r];have a1:= @Kd;have l1:=da λ_ _ _ _ n b=>∃j c d,(b 1=bA 15 (B0 a)/\b 3=bA 7 (BI j)/\b 4=vO 1 Yw c/\b 21=vS 7 B1 a.AE/\b 22=si (a.AE.length:Int)/\b 23=si d)/\Aa a n j c d=some r;have l2:=da λg _ _ _ n h=>∃(c:d3)(d:Int)(f:fD)(b:AG)(e:Int)(j:AB),(h 1=bA 15 (B0 a)/\h 3=bA 7 (BI j)/\h 4=vO 1 Yw c/\h 6=bA 7 (B1 b)/\h 7=bA 7 (BI f.1)/\h 21=vS 7 B1 a.AE/\h 22=si (a.AE.length:Int)/\h 23=si d/\h 41= .agg [vS 1 eI b.Dw,vS 1 eI b.DM]/\h 42=si e)/\DF (Aa a g) c d f a b n e=some r;have l3:=da λg h _ _ n k=>∃(c:d3)(d:Int)(f:fD)(b:AG)(i:dc)(e l:Int)(j:AB),(k 1=bA 15 (B0 a)/\k 3=bA 7 (BI j)/\k 4=vO 1 Yw c/\k 6=bA 7 (B1 b)/\k 7=bA 7 (BI f.1)/\k 21=vS 7 B1 a.AE/\k 22=si (a.AE.length:Int)/\k 23=si d/\k 41= .agg [vS 1 eI b.Dw,vS 1 eI b.DM]/\k 42=si e/\k 45=vS 1 eI i/\k 46=si (i.length:Int)/\k 47=si l)/\Gg (DF (Aa a g) c d f a b h) i c e a b n l=some r;have c1:=db 1 λg h _ _ k=>∃(c:d3)(d:Int)(f:fD)(b:AG)(e:Int)(i:dc)(j:AB),(k 1=bA 15 (B0 a)/\k 3=bA 7 (BI j)/\k 4=vO 1 Yw c/\k 6=bA 7 (B1 b)/\k 7=bA 7 (BI f.1)/\k 10=vS 1 eI i/\k 21=vS 7 B1 a.AE/\k 22=si (a.AE.length:Int)/\k 23=si d/\k 41= .agg [vS 1 eI b.Dw,vS 1 eI b.DM]/\k 42=si e)/\J1 (DF (Aa a g) c d f a b h) c e a b i=some r;unfold Av at h;exact walk
end
def f219c:IC:=(Ra 0 [.K 4 0,.K 5 0]
(Sq (Ra 0 [.K 6 0]
(Bl 0 (Sq (Ra 10 [.C 6,.C 1,.Z 11,.O .lss 10 12]
(cX 13 0))
(Sq (Bk 1 (Ra 16 [.C 1,.C 6,.I 11 16 17,.A 11 18,.b 7 [33,48,57] (.bx 11 (.c (.agg z6))),.S 11 7 19]
(Ra 20 [.y 0 (.cp (.t 0)),.A 11 7,.o (.Uv 248 [] (.t 20) none [.t 21]),.M 8 22]
(Np 1 (Ra 23 [.r 0 3,.Z 26,.P .add 27 1,.P .gtr 28 6]
(Ci 29 (Rc 0 [.K 8 2])))
(Sq (Ra 30 [.C 8,.P .neq 30 0]
(Ci 31 (Rb 32 [.C 8,.f 1 7,.M 4 32,.M 5 34])))
(Sq (.apd ⟨42,43,45,7,8,9,11,12⟩ [i1 35 0 (.cp (.t 0)),i1 36 0 (.Jp (.t 35)),LU 37 0 3 36,Zk 38 0 37,iA 39 11 7,iZ 40 38,i0 41 (.Nk 11 [z6] [(0,.c (.agg z6))]),⟨some ⟨42,[43],[]⟩,.app 11 176 (.t 38) (.t 41),none⟩,xG 43 42 11 42 40,iS 11 43 39,i1 44 0 (.Jp (.t 35)),LU 45 0 3 44,⟨none,.std (.t 45),none⟩])
(Ra 47 [.y 0 (.cp (.t 0)),.f 9 7,.o (.Uv 219 [] (.t 47) none [.t 49]),.w 46,.C 50,.w 51,.o (.ext (.t 46) 0),.o (.ext (.t 46) 1),.M 8 51,.M 9 52]
(Sq (Ra 53 [.C 8,.Q 53 0]
(Ci 54 (Rc 56 [.y 0 (.cp (.t 0)),.f 10 7,.o (.Uv 219 [] (.t 56) none [.t 58]),.w 55,.C 59,.w 60,.o (.ext (.t 55) 0),.o (.ext (.t 55) 1),.M 8 60,.M 9 61])))
(Sq (.bY [(0,0,12,62)] [i0 62 .fl,i1 63 0 (.cp (.t 0)),i1 64 0 (.Jp (.t 63)),LU 65 0 3 64,Zk 66 0 65,i1 67 0 (.cp (.t 0)),i1 68 0 (.Jp (.t 67)),LU 69 0 3 68,Zk 70 0 69,iZ 71 70,iP 72 .sub 71 1,i0 73 (.slc 11 false (.t 66) none (some (.t 72)) none),i1 74 0 (.Jp (.t 0)),LU 75 0 3 74,iS 1 75 73])
(Ra 76 [.C 8,.P .neq 76 0]
(Ci 77 (Rb 78 [.C 8,.C 9,.M 4 78,.M 5 79]))))))))))))
(Rc 14 [.C 6,.P .add 14 1,.M 6 15])))))
(Rb 0 [.K 4 0,.K 5 0])))
def f219g:Gi:=⟨[(20,[0]),(23,[0]),(24,[0]),(25,[0]),(26,[0]),(33,[7]),(35,[0]),(36,[0]),(37,[0]),(38,[0]),(43,[42]),(44,[0]),(45,[0]),(47,[0]),(48,[7]),(56,[0]),(57,[7]),(63,[0]),(64,[0]),(65,[0]),(66,[0]),(67,[0]),(68,[0]),(69,[0]),(70,[0]),(74,[0]),(75,[0])]⟩
def f219r:List RV:=[.tmp 4,.tmp 5]
namespace B6
def J3(s:BN):ABd (Int×Int×BN):=
some (0,0,s)
def J2(L1:gn)(c:Int)(d:BN)(p q:Int):=
if 0<=(BA ((d.GD.length:Int)-1))/\((BA ((d.GD.length:Int)-1)).toNat)<=d.GD.length then
if p != 0 then
some (p,q,(BN.mk d.p d.Bb (d.GD.take ((BA ((d.GD.length:Int)-1)).toNat)) d.Lo d.Yh))
else
L1 (BN.mk d.p d.Bb (d.GD.take ((BA ((d.GD.length:Int)-1)).toNat)) d.Lo d.Yh) (BA (c+1))
else none
def J1(L1:gn)(R100:e6)(c:Int)(b:Int×BN)(a:AQ)(i:Int):=
if i != 0 then
some (i,a.FK,b.2)
else
if Ap (b.2.GD.length+1) 176=true then
(gt (b.2.GD++[(AQ.mk 0 0 (⟨#[]⟩:ABe) (⟨#[]⟩:ABe) [] (BE.mk 0 0 (⟨#[]⟩:ABe) []) [] [])]) (b.2.GD.length:Int)).bind λt=>
(R100 (BN.mk b.2.p b.2.Bb ((b.2.GD++[(AQ.mk 0 0 (⟨#[]⟩:ABe) (⟨#[]⟩:ABe) [] (BE.mk 0 0 (⟨#[]⟩:ABe) []) [] [])]).set b.2.GD.length a) b.2.Lo b.2.Yh) a.Body).bind λj=>
if j.1==0 then
(R100 j.2.2 a.Else).bind λo=>
J2 L1 c o.2.2 o.1 o.2.1
else
J2 L1 c j.2.2 j.1 j.2.1
else none
def L1(R100:e6)(e:d5)(L1:gn)(f:BN)(c:Int):=
if decide (c<(e.length:Int))then
(gt e c).bind λa=>
(BL f a).bind λb=>
if decide ((BA ((b.2.GD.length:Int)+1))>6)then
J1 L1 R100 c b a 2
else
J1 L1 R100 c b a b.1
else
J3 f
def Aa(R100:e6)(e:d5):Nat->BN->Int->ABd (Int×Int×BN)
|0,_,_=>none
|n+1,f,c=>L1 R100 e (Aa R100 e n) f c
end B6
variable{f:e6}{c:BN}{d:d5}{a:Int×Int×BN}
section
open B6
def B6(R100:e6)(l:BN)(e:d5):=
Aa R100 e BW l 0
theorem TU(H100:∀{x0 x1 a},f x0 x1=some a->BD prog 219 [bA 6 (HA x0),vS 11 A7 x1] (.BQ [si a.1,si a.2.1]) [bA 6 (HA a.2.2),.dead])(h:B6 f c d=some a):BD prog 219 [bA 6 (HA c),vS 11 A7 d] (.BQ [si a.1,si a.2.1]) [bA 6 (HA a.2.2),.dead]:=by refine wL mix func219 (I:=⟨f219c,f219g,f219r⟩) ?_;simp only[f219c,f219g,f219r];have a1:= @TV;have a2:= @H100;have l1:=da λ_ _ _ _ n r=>∃R100 l,(r 0=bA 6 (HA R100)/\r 1=vS 11 A7 d/\r 6=si l)/\Aa f d n R100 l=some a;have c1:=db 1 λe _ _ _ R100=>∃(l:Int)(b:Int×BN)(r:AQ)(i:Int),(R100 0=bA 6 (HA b.2)/\R100 1=vS 11 A7 d/\R100 6=si l/\R100 7=bA 11 [si r.Op,si r.FK,BZ r.Name,BZ r.Arg,vS 4 BH r.Index,si r.Expr.Op,si r.Expr.N,BZ r.Expr.Name,vS 4 BH r.Expr.L,vS 11 A7 r.Body,vS 11 A7 r.Else]/\R100 8=si i)/\J1 (Aa f d e) f l b r i=some a;unfold B6 at h;exact walk
end
def OW:Nat->(BN->(List AQ)->ABd (Int×Int×BN))
|0=>(λ_ _=>none)
|n+1=>B6 ((OW n))
def Ed(n:Nat):BN->(List AQ)->ABd (Int×Int×BN):=(OW n)
theorem Rm(n:Nat):(∀{x0 x1 r},(Ed n) x0 x1=some r->BD prog 219 [bA 6 (HA x0),.sl false 11 (x1.map A7)] (.BQ [si r.1,si r.2.1]) [bA 6 (HA r.2.2),.dead]):=by
  induction n with
  |zero=>exactλh=>ET h
  |succ n ih=>exactλh=>TU ih h
def Rn{n:Nat}:∀{x0 x1 r},(Ed n) x0 x1=some r->BD prog 219 [bA 6 (HA x0),.sl false 11 (x1.map A7)] (.BQ [si r.1,si r.2.1]) [bA 6 (HA r.2.2),.dead]:=(Rm n)
namespace De
def J2(b:Int)(c:AB×AU)(e:AL):ABd AL:=
(B8 c.2 e.Init e.World (if 16<(if 0>b then 0 else b)then 16 else(if 0>b then 0 else b)) true).bind λl=>
(CB (AL.mk e.World e.Start e.Init l.1)).bind λo=>
if !o then
(Gd).bind λp=>
(Gd).bind λq=>
(EU q).bind λs=>
some (AL.mk p 0 s [])
else
some (AL.mk e.World e.Start e.Init l.1)
def L1(b:Int)(c:AB×AU)(L1:AL->Int->ABd AL)(a:AL)(d:Int):=
if decide (d<(c.1.Count.length:Int))then
(gt c.1.Count d).bind λt=>
L1 (AL.mk a.World (BA (a.Start+t)) a.Init a.AE) (BA (d+1))
else
J2 b c a
def Aa(b:Int)(c:AB×AU):Nat->AL->Int->ABd AL
|0,_,_=>none
|n+1,a,d=>L1 b c (Aa b c n) a d
def J1(b:Int)(i:dc):=
(Gd).bind λj=>
(Af (AU.mk i 0) j).bind λc=>
Aa b c BW (AL.mk j 0 c.1 []) 0
end De
section
open De
def De(f:dc)(b:Int):=
if decide ((f.length:Int)>400)then
if 400<=f.length then
J1 b (f.take 400)
else none
else
J1 b f
theorem Vy{f:dc}{b:Int}{r:AL}(h:De f b=some r):Says prog 40 [vS 1 cZ f,si b] (.agg (B0 r)):=by refine kF mix func40 (hn [(5,[19,38]),(6,[20,21,23,24,25,26,30,32,36,39,40,41,42,47,48,55])] [(1,1)] [(84,1)]) ?_;have a1:= @Ya;have a2:= @Ru;have a3:= @Za;have a4:= @Tc;have a5:= @Jz;have l1:=da λ_ _ _ _ n e=>∃(c:AB×AU)(a:AL)(d:Int),(e 1=si b/\e 4=bA 15 z2/\e 5=bA 2 (FO c.2)/\e 6=bA 15 [vS 5 Gy a.World.Cells,vS 2 Hy a.World.AF,vS 2 Hx a.World.Ai,vS 1 eS a.World.AK,vS 1 eS a.World.AA,vS 3 Gb a.World.BU,si a.Start,vS 2 DS a.Init.Sync.AF,si a.Init.Sync.Tx,vS 1 eB a.Init.Sync.Bn,vS 3 An a.Init.Sync.AA,vS 1 eI a.Init.Cells,vS 1 eI a.Init.AK,vS 1 eI a.Init.Count,vO 7 B1 a.AE]/\e 26=vS 1 eI c.1.Count/\e 27=si (c.1.Count.length:Int)/\e 28=si d)/\Aa b c n a d=some r;have c1:=db 1 λ_ _ _ _ a=>∃i,(a 0=vS 1 cZ i/\a 1=si b/\a 4=bA 15 z2)/\J1 b i=some r;unfold De at h;exact walk
end
namespace Ep
def J2(e:List AL):ABd ((List AL)×Int):=
some (e,0)
def L1(b:Int)(a:CC)(L1:(List AL)->Int->ABd ((List AL)×Int))(d:List AL)(c:Int):=
if decide (c<(a.AE.length:Int))then
(F7 a c).bind λj=>
if 0<=c/\0<=(if(a.AE.length:Int)<(BA (c+b))then(a.AE.length:Int)else(BA (c+b)))/\c.toNat<=((if(a.AE.length:Int)<(BA (c+b))then(a.AE.length:Int)else(BA (c+b))).toNat)/\((if(a.AE.length:Int)<(BA (c+b))then(a.AE.length:Int)else(BA (c+b))).toNat)<=a.AE.length then
if Ap (d.length+1) 328=true then
L1 (d++[(AL.mk a.World c j ((a.AE.drop c.toNat).take (((if(a.AE.length:Int)<(BA (c+b))then(a.AE.length:Int)else(BA (c+b))).toNat)-c.toNat)))]) (BA (c+b))
else none
else none
else
J2 d
def Aa(b:Int)(a:CC):Nat->(List AL)->Int->ABd ((List AL)×Int)
|0,_,_=>none
|n+1,d,c=>L1 b a (Aa b a n) d c
def J1(b:Int)(a:CC)(f:Bool):=
if f then
some ([],1)
else
Aa b a BW [] 0
end Ep
section
open Ep
def Ep(a:CC)(b:Int):=
(FG a).bind λi=>
if i.2 != 0 then
some ([],12)
else
if decide (b<1)then
J1 b a true
else
J1 b a (decide (b>16))
theorem YO{a:CC}{b:Int}{r:(List AL)×Int}(h:Ep a b=some r):Says prog 42 [.agg (ND a),si b] (.BQ [vO 15 Jk r.1,si r.2]):=by refine kO mix func42 (hn [(2,[24,32,38,44]),(8,[31,52])]) ?_;have a1:= @YL;have a2:= @YP;have l1:=da λ_ _ _ _ n e=>∃d c,(e 1=si b/\e 2=bA 7 (ND a)/\e 8=vO 15 Jk d/\e 9=si c)/\Aa b a n d c=some r;unfold Ep at h;exact walk
end
namespace Ho
def J1(o:gb):ABd (List FL):=
some o
def L1(a:dx)(c:AD)(L1:AB->(List FL)->Int->ABd (List FL))(e:AB)(d:gb)(b:Int):=
if decide (b<(a.length:Int))then
(gt a b).bind λj=>
(GX c e.Sync j.Thread).bind λi=>
(gt d b).bind λl=>
(gt (d.set b.toNat (FL.mk i.1 l.M9)) b).bind λq=>
(Bc c e j).bind λp=>
L1 p.1 ((d.set b.toNat (FL.mk i.1 l.M9)).set b.toNat (FL.mk q.Hb i.2)) (BA (b+1))
else
J1 d
def Aa(a:dx)(c:AD):Nat->AB->(List FL)->Int->ABd (List FL)
|0,_,_,_=>none
|n+1,e,d,b=>L1 a c (Aa a c n) e d b
end Ho
section
open Ho
def Ho(c:AD)(f:AB)(a:dx):=
if 0<=(a.length:Int)/\(a.length:Int)<=(a.length:Int)/\Ap a.length 48=true then
Aa a c BW f (List.replicate a.length (FL.mk [] [])) 0
else none
theorem sY{c:AD}{f:AB}{a:dx}{r:gb}(h:Ho c f a=some r):Says prog 58 [.agg (Aq c),.agg (BI f),vS 7 B1 a] (vS 2 MH r):=by refine kF mix func58 (hn [(4,[26]),(7,[21,23,33,34,35,36,45]),(9,[28])] (C:=[(96,1)]) (E:=[(1,(Rc 10 [.C 2,.Z 10,.o (.mk 2 48 [.sl false 1 [],.sl false 1 []] (.t 11) (.t 11)),.b 7 [21,23,33,34,35,36,45] (.mv (.t 12))]))])) ?_;have a1:= @object_Holds_ok;have a2:= @Kd;have l1:=da λ_ _ _ _ n f=>∃e d b,(f 3=bA 6 (Aq c)/\f 4=bA 7 (BI e)/\f 7=vO 2 MH d/\f 13=vS 7 B1 a/\f 14=si (a.length:Int)/\f 15=si b)/\Aa a c n e d b=some r;unfold Ho at h;exact walk
end
namespace A5
def J2:ii:=
some (0,0)
def L2(a:AR)(L2:BN->Int->ABd (Int×Int))(c:BN)(b:Int):=
if decide (b<(a.AA.length:Int))then
(gt a.AA b).bind λs=>
(Ed BW (BN.mk c.p b c.GD c.Lo c.Yh) s.Body).bind λf=>
if f.1 != 0 then
some (f.1,f.2.1)
else
L2 f.2.2 (BA (b+1))
else
J2
def DF(a:AR):Nat->BN->Int->ABd (Int×Int)
|0,_,_=>none
|n+1,c,b=>L2 a (DF a n) c b
def J1(a:AR)(l:Int):=
if decide (l>60)then
some (2,0)
else
DF a BW (BN.mk a 0 [] [] []) 0
def L1(a:AR)(L1:Int->Int->ABd (Int×Int))(e d:Int):=
if decide (d<(a.AA.length:Int))then
(gt a.AA d).bind λq=>
(GY BW q.Body).bind λp=>
L1 (BA (e+p)) (BA (d+1))
else
J1 a e
def Aa(a:AR):Nat->Int->Int->ABd (Int×Int)
|0,_,_=>none
|n+1,e,d=>L1 a (Aa a n) e d
end A5
section
open A5
def A5(a:AR):=
(CZ a).bind λo=>
if !o then
some (3,0)
else
(HZ a.Decls).bind λi=>
if i.1 != 0 then
some (i.1,i.2)
else
if decide ((a.AA.length:Int)>4)then
some (2,0)
else
(CM a).bind λj=>
if j.1 != 0 then
some (j.1,j.2)
else
Aa a BW 0 0
theorem Kc{a:AR}{r:Int×Int}(h:A5 a=some r):Says prog 181 [.agg (CS a)] (.BQ [si r.1,si r.2]):=by refine kO mix func181 (hn [(1,[18,27,41,48,62,74]),(10,[68,70,71,73])]) ?_;have a1:= @Vk;have a2:= @X8;have a3:= @US;have a4:= @Rn;have a5:= @Vm;have l2:=da λ_ _ _ _ n d=>∃c b,(d 1=bA 2 (CS a)/\d 10=bA 6 (HA c)/\d 11=si b)/\DF a n c b=some r;have l1:=da λ_ _ _ _ n b=>∃e d,(b 1=bA 2 (CS a)/\b 8=si e/\b 9=si d)/\Aa a n e d=some r;unfold A5 at h;exact walk
end
namespace Gt
def J1(b:Bool):ABd Bool:=
some b
end Gt
section
open Gt
def Gt(a:AL):=
(Be a.World).bind λc=>
if c then
(IX a.World a.Init).bind λd=>
if d then
if decide ((a.AE.length:Int)<=16)then
(CA a).bind λe=>
if e then
(BC a).bind λf=>
if f then
(Ac a).bind λi=>
if i then
(Bf a.Init).bind λj=>
if j then
(Av a).bind λl=>
J1 l
else
J1 false
else
J1 false
else
J1 false
else
J1 false
else
J1 false
else
J1 false
else
J1 false
theorem RA{a:AL}{r:Bool}(h:Gt a=some r):Says prog 16 [.agg (B0 a)] (sb r):=by refine kO mix func16 (hn [(1,[3,7,9,14,32])]) ?_;have a1:= @Lq;have a2:= @Ys;have a3:= @T0;have a4:= @OI;have a5:= @OH;have a6:= @OG;have a7:= @SA;unfold Gt at h;exact walk
end
def f180c:IC:=(Ra 6 [.b 3 [30,60,185] (.bx 7 (.t 0)),.b 4 [19,32,33,50,53,54,55,58,59,86,87,90,95,96,99,111,112,117,127,128,133,195,196,200,201] (.bx 7 (.t 1)),.b 5 [20,34,40,56,62,187,197] (.bx 2 (.t 2)),.o (.bx 7 (.c (.agg z4))),.o (.bx 7 (.c (.agg z3))),.B 8 false]
(Ra 18 [.A 7 3,.y 4 (.ld true 7 (.t 4)),.f 0 5,.b 22 [17,23,24] (.call 212 [.t 18,.t 19,.t 21] 2),.w 17,.y 22 (.cp (.t 22)),.w 23,.y 22 (.ext (.t 17) 0),.y 22 (.ext (.t 17) 1),.b 9 [36,38,75,76,88,92,97,101,110,113,115,126,129,131,136,144,147,151,159,176,180,202] (.bx 7 (.c (.agg z3))),.S 7 9 23,.b 10 [25] (.mv (.t 24))]
(Sq (Ra 25 [.y 10 (.cp (.t 10)),.N 25]
(Ci 26 (Rb 27 [.o (.T2 z4 []),.o (.T2 z3 []),.S 7 6 27,.S 7 7 28,.B 8 false])))
(Ra 30 [.F 0 3,.A 6 30,.F 0 4,.y 4 (.ld true 4 (.t 32)),.f 0 5,.f 1 9,.f 2 9,.f 1 5,.b 42 [29,43,44,45] (.call 106 [.t 31,.t 33,.t 35,.t 37,.t 39,.t 41] 2),.w 29,.y 42 (.cp (.t 42)),.w 43,.y 42 (.ext (.t 29) 0),.y 42 (.ext (.t 29) 1),.y 42 (.ext (.t 29) 2),.b 11 [52] (.bx 4 (.c (.agg z5))),.S 4 11 43,.b 12 [74] (.mv (.t 44)),.b 13 [46] (.mv (.t 45))]
(Sq (Ra 46 [.y 13 (.cp (.t 13)),.N 46]
(Ci 47 (Rb 48 [.o (.T2 z4 []),.o (.T2 z3 []),.S 7 6 48,.S 7 7 49,.B 8 false])))
(Ra 50 [.y 4 (.ld true 7 (.t 4)),.c 213 [50] 3,.S 7 4 51]
(Ra 52 [.y 11 (.ld true 4 (.t 11)),.F 0 4,.S 4 53 52]
(Ra 54 [.m 4 6 4,.f 0 5,.J 4 4 55 57,.y 4 (.ld true 4 (.t 58)),.b 14 [67,71,82,104,105,108,120,121,124,137,138,141,155,156,161,162,163,166,169,170,173,175,191,199] (.bx 4 (.c (.agg z9))),.S 4 14 59]
(Ra 60 [.f 6 3,.f 0 5,.I 2 61 63,.U 1 64,.f 0 14,.I 6 66 68,.A 6 69,.b 15 [106,122,139,145,157,164] (.bx 6 (.c (.agg z17))),.S 6 15 70]
(Ra 71 [.f 0 14,.P .add 72 1,.M 16 73]
(Ra 74 [.y 12 (.cp (.t 12)),.F 3 9,.S 1 75 74]
(Np 2 (Ra 76 [.f 1 9]
(Bk 0 (Np 1 (Ra 79 [.q 77 1 78]
(Cn 78 .skip (Ra 80 [.q 77 16 78]
(Cn 78 .skip (Rc 81 [.q 77 2 78])))))
(Cn 78 (Rc 82 [.f 0 14,.M 16 83]) (Ra 85 [.q 77 3 84]
(Cn 84 (Rc 86 [.m 4 4 4,.f 2 9,.J 4 1 87 89,.L 90,.F 3 9,.S 1 92 91]) (Ra 94 [.q 77 23 93]
(Cn 93 (Rc 95 [.m 4 5 4,.f 2 9,.J 4 1 96 98,.L 99,.F 3 9,.S 1 101 100]) (Ra 103 [.q 77 4 102]
(Cn 102 (Ra 104 [.m 14 1 14,.f 2 15,.J 14 1 105 107,.L 108,.F 3 9,.S 1 110 109]
(Rc 111 [.m 4 4 4,.f 2 9,.f 3 9,.J 4 1 112 114,.S 1 117 116])) (Ra 119 [.q 77 22 118]
(Cn 118 (Ra 120 [.m 14 1 14,.f 2 15,.J 14 1 121 123,.L 124,.F 3 9,.S 1 126 125]
(Rc 127 [.m 4 5 4,.f 2 9,.f 3 9,.J 4 1 128 130,.S 1 133 132])) (Ra 135 [.q 77 5 134]
(Ci 134 (Ra 136 [.F 3 9,.T 136 1]
(Ra 137 [.m 14 1 14,.f 1 15,.J 14 1 138 140,.L 141,.Q 142 0]
(Ci 143 (Ra 144 [.F 3 9,.T 144 0]
(Rc 145 [.f 2 15,.M 16 146])))))))))))))))))))
(Sq (Ra 147 [.f 1 9,.Q 148 3,.C 149,.G 150 false,.f 1 9,.P .eql 152 23,.e,.V 150 153]
(Ci 154 (Ra 155 [.m 14 1 14,.f 1 15,.f 3 9,.J 14 1 156 158,.S 1 161 160]
(.pg true 14 [(0,2,0)] (Rc 162 [.m 14 2 14,.f 1 15,.f 3 14,.o (.Nk 1 [[si 0]] [(0,.t 167)]),.J 14 1 163 165,.S 1 169 168])))))
(Ra 170 [.f 3 14,.P .add 171 1,.F 3 14,.S 1 173 172]
(Ra 174 [.C 16,.F 0 14,.S 1 175 174]
(Sq (Ra 176 [.f 1 9,.P .neq 177 16,.C 178,.G 179 true,.f 1 9,.P .neq 181 2,.e,.W 179 182]
(Ci 183 (.gz false 14 [(0,2,0)] (.gz false 14 [(0,1,0)] (.bY [(192,8,9,184)] [LU 185 3 6 3,iL 186 185,LU 187 5 0 5,iL 188 187,iI 189 2 186 188,iA 190 2 189,i1 191 14 (.ld true 4 (.t 14)),⟨some ⟨192,[193],[]⟩,.call 214 [.t 190,.t 191] 3,none⟩,i0 184 (.flk (.t 192) 1),i1 193 192 (.ext (.t 192) 0),i0 194 .fl,iS 4 14 193])))))
(Ra 195 [.m 4 6 4,.f 0 5,.y 14 (.ld true 4 (.t 14)),.J 4 4 196 198,.S 4 200 199]
(Rb 201 [.y 4 (.ld true 7 (.t 4)),.y 9 (.ld true 7 (.t 9)),.S 7 6 201,.S 7 7 202,.B 8 true]))))))))))))))))))
def f180g:Gi:=⟨[(17,[22]),(19,[4]),(20,[5]),(23,[22]),(24,[22]),(25,[10]),(29,[42]),(30,[3]),(32,[4]),(33,[4]),(34,[5]),(36,[9]),(38,[9]),(40,[5]),(43,[42]),(44,[42]),(45,[42]),(46,[13]),(50,[4]),(52,[11]),(53,[4]),(54,[4]),(55,[4]),(56,[5]),(58,[4]),(59,[4]),(60,[3]),(62,[5]),(67,[14]),(71,[14]),(74,[12]),(75,[9]),(76,[9]),(82,[14]),(86,[4]),(87,[4]),(88,[9]),(90,[4]),(92,[9]),(95,[4]),(96,[4]),(97,[9]),(99,[4]),(101,[9]),(104,[14]),(105,[14]),(106,[15]),(108,[14]),(110,[9]),(111,[4]),(112,[4]),(113,[9]),(115,[9]),(117,[4]),(120,[14]),(121,[14]),(122,[15]),(124,[14]),(126,[9]),(127,[4]),(128,[4]),(129,[9]),(131,[9]),(133,[4]),(136,[9]),(137,[14]),(138,[14]),(139,[15]),(141,[14]),(144,[9]),(145,[15]),(147,[9]),(151,[9]),(155,[14]),(156,[14]),(157,[15]),(159,[9]),(161,[14]),(162,[14]),(163,[14]),(164,[15]),(166,[14]),(169,[14]),(170,[14]),(173,[14]),(175,[14]),(176,[9]),(180,[9]),(185,[3]),(187,[5]),(191,[14]),(193,[192]),(195,[4]),(196,[4]),(197,[5]),(199,[14]),(200,[4]),(201,[4]),(202,[9])]⟩
def f180r:List RV:=[.cell 6 true 7,.cell 7 true 7,.tmp 8]
namespace DK
def J6(d:C5)(j:AG)(l o:dc)(e:ft)(b:Al)(y:AM):ABd (Al×AG×Bool):=
(gt b.AA d.Thread).bind λaj=>
some ((Al.mk e.1 l o (b.AA.set d.Thread.toNat y)),j,true)
def J5(f:BT)(d:C5)(j:AG)(p:Int)(l o:dc)(q:AM)(e:ft)(b:Al)(x:Bool):=
if x then
(gt f.AA d.Thread).bind λab=>
(Dd ab (AM.mk p q.Ck q.Cd (BA (q.AE+1)))).bind λz=>
J6 d j l o e b z.1
else
J6 d j l o e b (AM.mk p q.Ck q.Cd (BA (q.AE+1)))
def J4(f:BT)(d:C5)(j:AG)(p:Int)(l o:dc)(e:ft)(b:Al)(q:AM):=
if j.Kind != 16 then
J5 f d j p l o q e b (j.Kind != 2)
else
J5 f d j p l o q e b false
def J3(f:BT)(d:C5)(j:AG)(p:Int)(l o:dc)(e:ft)(b:Al)(c:AM)(i:Ad)(w:Bool):=
if w then
(gt c.Ck i.A).bind λaf=>
(gt c.Cd i.A).bind λai=>
J4 f d j p l o e b (AM.mk c.PC (c.Ck.set i.A.toNat j.Value) (c.Cd.set i.A.toNat [c.AE]) c.AE)
else
J4 f d j p l o e b c
def J2(f:BT)(d:C5)(e:ft)(b:Al)(c:AM)(i:Ad)(l o:dc)(j:AG)(p:Int):=
if j.Kind==3 then
J3 f d j p l o e b c i true
else
J3 f d j p l o e b c i (j.Kind==23)
def J1(f:BT)(d:C5)(a:AG×Bool)(e:ft)(b:Al)(c:AM)(i:Ad)(t:Bool):=
if t then
J2 f d e b c i b.Cells b.AK (AG.mk a.1.Thread a.1.Kind a.1.Obj e.2.1 a.1.Site a.1.Dw a.1.DM) c.PC
else
if a.1.Kind==3 then
(gt b.Cells a.1.Obj).bind λac=>
J2 f d e b c i b.Cells b.AK (AG.mk a.1.Thread a.1.Kind a.1.Obj ac a.1.Site a.1.Dw a.1.DM) (BA (c.PC+1))
else
if a.1.Kind==23 then
(gt b.AK a.1.Obj).bind λad=>
J2 f d e b c i b.Cells b.AK (AG.mk a.1.Thread a.1.Kind a.1.Obj ad a.1.Site a.1.Dw a.1.DM) (BA (c.PC+1))
else
if a.1.Kind==4 then
(gt c.Ck i.B).bind λu=>
(gt b.Cells a.1.Obj).bind λal=>
J2 f d e b c i (b.Cells.set a.1.Obj.toNat u) b.AK (AG.mk a.1.Thread a.1.Kind a.1.Obj u a.1.Site a.1.Dw a.1.DM) (BA (c.PC+1))
else
if a.1.Kind==22 then
(gt c.Ck i.B).bind λv=>
(gt b.AK a.1.Obj).bind λao=>
J2 f d e b c i b.Cells (b.AK.set a.1.Obj.toNat v) (AG.mk a.1.Thread a.1.Kind a.1.Obj v a.1.Site a.1.Dw a.1.DM) (BA (c.PC+1))
else
if a.1.Kind==5 then
(gt c.Ck i.A).bind λae=>
if ae==0 then
J2 f d e b c i b.Cells b.AK (AG.mk a.1.Thread a.1.Kind a.1.Obj 0 a.1.Site a.1.Dw a.1.DM) i.B
else
J2 f d e b c i b.Cells b.AK (AG.mk a.1.Thread a.1.Kind a.1.Obj 1 a.1.Site a.1.Dw a.1.DM) (BA (c.PC+1))
else
J2 f d e b c i b.Cells b.AK (AG.mk a.1.Thread a.1.Kind a.1.Obj e.2.1 a.1.Site a.1.Dw a.1.DM) (BA (c.PC+1))
end DK
section
open DK
def DK(f:BT)(s:Al)(d:C5):=
(Cj f s d.Thread).bind λa=>
if !a.2 then
some ((Al.mk (AP.mk [] 0 [] []) [] [] []),(AG.mk 0 0 0 0 0 [] []),false)
else
(DN f.World s.Sync d.Thread a.1.Kind a.1.Obj d.UB).bind λe=>
if !e.2.2 then
some ((Al.mk (AP.mk [] 0 [] []) [] [] []),(AG.mk 0 0 0 0 0 [] []),false)
else
(Fg s).bind λb=>
(gt b.AA d.Thread).bind λc=>
(gt f.AA d.Thread).bind λaa=>
(gt aa.Br c.PC).bind λi=>
if a.1.Kind==1 then
J1 f d a e b c i (a.1.Kind==1)
else
if a.1.Kind==16 then
J1 f d a e b c i (a.1.Kind==16)
else
J1 f d a e b c i (a.1.Kind==2)
theorem ZV{f:BT}{s:Al}{d:C5}{r:Al×AG×Bool}(h:DK f s d=some r):Says prog 180 [.agg (JS f),.agg (KQ s),.agg (JC d)] (.BQ [.agg (MI r.1),.agg (Ic r.2.1),sb r.2.2]):=by refine wO mix func180 (I:=⟨f180c,f180g,f180r⟩) ?_;simp only[f180c,f180g,f180r];have a1:= @UX;have a2:= @NU;have a3:= @ZU;have a4:= @Vv;have c2:=db 2 λ_ _ _ _ a=>∃(e:ft)(b:Al)(c:AM)(i:Ad)(l o:dc)(j:AG)(p:Int),(a 3=bA 7 (JS f)/\a 4=bA 7 [vO 2 Bo e.1.AF,si e.1.Tx,vO 1 eB e.1.Bn,vO 3 An e.1.AA,vO 1 eI l,vO 1 eI o,.own false 4 ((b.AA.map B2).set d.Thread.toNat [si c.PC,.dead,.dead,si c.AE])]/\a 5=bA 2 (JC d)/\a 6=bA 7 z4/\a 7=bA 7 z3/\a 9=bA 7 (Ic j)/\a 14=bA 4 (B2 c)/\a 15=bA 6 (EF i)/\a 16=si p)/\J2 f d e b c i l o j p=some r;have c1:=db 1 λ_ _ _ _ g=>∃(a:AG×Bool)(e:ft)(b:Al)(c:AM)(i:Ad)(t:Bool),(g 3=bA 7 (JS f)/\g 4=bA 7 [vO 2 Bo e.1.AF,si e.1.Tx,vO 1 eB e.1.Bn,vO 3 An e.1.AA,vO 1 eI b.Cells,vO 1 eI b.AK,.own false 4 ((b.AA.map B2).set d.Thread.toNat [si c.PC,.dead,.dead,si c.AE])]/\g 5=bA 2 (JC d)/\g 6=bA 7 z4/\g 7=bA 7 z3/\g 9=bA 7 [si a.1.Thread,si a.1.Kind,si a.1.Obj,si e.2.1,si a.1.Site,vO 1 eI a.1.Dw,vO 1 eI a.1.DM]/\g 14=bA 4 (B2 c)/\g 15=bA 6 (EF i)/\g 16=si (BA (c.PC+1))/\g 77=si a.1.Kind/\g 78=sb t)/\J1 f d a e b c i t=some r;unfold DK at h;exact walk
end
def f140c:IC:=(Ra 2 [.o (.bx 2 (.c (.agg z14)))]
(Ra 12 [.C 0,.o (.T2 [.own false 1 [],si 0] [(0,1,.t 12)]),.o (.bx 2 (.t 13)),.o (.T2 z19 [(0,1,.t 14),(2,1,.c (si 20))]),.o (.bx 8 (.t 15)),.b 3 [19,20,21,22,31,33,34,61,62,63,64,73,74,75,76] (.mv (.t 16))]
(Ra 17 [.c 186 [] 2,.o (.T2 z14 [(0,1,.t 17)]),.b 4 [89,90,94,96,110] (.bx 2 (.c (.agg z14))),.S 2 4 18]
(Ra 19 [.r 3 0,.o (.Uv 132 [] (.t 22) none [.c (si 3)]),.o (.bin .add (.c (si 2)) (.t 23)),.M 5 24]
(Ra 25 [.o (.Nk 1 [[BZ ⟨#[]⟩],[BZ ⟨#[]⟩],[BZ ⟨#[]⟩],[BZ ⟨#[]⟩]] [(0,.c (BZ ⟨#[109,97,105,110]⟩)),(1,.c (BZ ⟨#[116,49]⟩)),(2,.c (BZ ⟨#[116,50]⟩)),(3,.c (BZ ⟨#[116,51]⟩))]),.b 6 [35,37,50,52,82,83] (.mv (.t 25))]
(Sq (Ra 0 [.K 7 0]
(Bl 0 (Sq (Ra 26 [.C 7,.C 5,.O .lss 26 27]
(cX 28 0))
(Sq (Bk 1 (Ra 31 [.y 3 (.cp (.t 3)),.C 7,.y 3 (.Jp (.t 31)),.H 3 1 33,.S 1 34 32]
(Ra 35 [.y 6 (.cp (.t 6)),.C 7,.J 6 1 35 36,.L 37,.o (.Nk 1 [[BZ ⟨#[]⟩],[BZ ⟨#[]⟩]] [(0,.c (BZ ⟨#[97]⟩)),(1,.c (BZ ⟨#[98]⟩))]),.o (.T2 z11 [(0,1,.t 38),(2,1,.t 39)]),.b 8 [48,49,57,58,59,69,80,81,88,91] (.bx 4 (.c (.agg z11))),.S 4 8 40]
(Sq (Ra 41 [.C 7,.Q 41 0]
(Ci 42 (Ra 0 [.K 9 1]
(Bl 2 (Sq (Ra 43 [.C 9,.C 5,.O .lss 43 44]
(cX 45 2))
(Sq (Bk 3 (Rc 48 [.m 8 3 8,.y 6 (.cp (.t 6)),.C 9,.J 6 1 50 51,.L 52,.o (.T2 z6 [(0,1,.c (si 12)),(2,1,.t 53)]),.o (.Nk 11 [z6] [(0,.t 54)]),.o (.app 11 176 (.t 49) (.t 55)),.F 3 8,.S 1 57 56]))
(Rc 46 [.C 9,.P .add 46 1,.M 9 47])))))))
(Sq (.bY [(3,2,9,60)] [LU 58 8 3 8,Zk 59 8 58,i0 60 .fl,i1 61 3 (.cp (.t 3)),i1 62 3 (.Jp (.t 61)),LU 63 3 0 62,Zk 64 3 63,i0 65 (.Uv 132 [] (.t 64) none [.c (si 3)]),i0 66 (.bin .add (.c (si 1)) (.t 65)),i0 67 (.Uv 187 [] (.t 3) none [.c (si 2),.t 66]),i0 68 (.app 11 176 (.t 59) (.t 67)),LU 69 8 3 8,iS 1 69 68])
(Sq (Ra 70 [.C 7,.Q 70 0,.C 71,.G 72 true,.r 3 0,.o (.Uv 132 [] (.t 76) none [.c (si 3)]),.P .eql 77 2,.e,.W 72 78]
(Ci 79 (Rc 80 [.m 8 3 8,.y 6 (.cp (.t 6)),.y 6 (.WX 1 (.t 82) (.c (si 1))),.L 83,.o (.T2 z6 [(0,1,.c (si 13)),(2,1,.t 84)]),.o (.Nk 11 [z6] [(0,.t 85)]),.o (.app 11 176 (.t 81) (.t 86)),.F 3 8,.S 1 88 87])))
(.gz false 8 [(0,3,0)] (.gz false 8 [(0,2,0)] (Rc 89 [.m 4 1 4,.y 8 (.ld true 4 (.t 8)),.o (.Nk 4 [z11] [(0,.t 91)]),.o (.app 4 72 (.t 90) (.t 92)),.F 1 4,.S 1 94 93])))))))))
(Rc 29 [.C 7,.P .add 29 1,.M 7 30])))))
(Sq (Ra 96 [.y 4 (.ld true 2 (.t 4)),.c 181 [96] 0,.w 95,.C 97,.w 98,.o (.ext (.t 95) 0),.o (.ext (.t 95) 1),.M 10 98,.M 11 99]
(Ra 100 [.C 10,.P .neq 100 0]
(Ci 101 (Rb 102 [.c 186 [] 2,.o (.Nk 1 [[BZ ⟨#[]⟩],[BZ ⟨#[]⟩]] [(0,.c (BZ ⟨#[97]⟩)),(1,.c (BZ ⟨#[98]⟩))]),.o (.call 189 [.c (si 1)] 1),.o (.call 188 [.c (BZ ⟨#[120]⟩),.t 104] 1),.o (.Nk 11 [z6] [(0,.t 105)]),.o (.T2 z11 [(0,1,.c (BZ ⟨#[109,97,105,110]⟩)),(2,1,.t 103),(3,1,.t 106)]),.o (.Nk 4 [z11] [(0,.t 107)]),.o (.T2 z14 [(0,1,.t 102),(1,1,.t 108)]),.S 2 2 109]))))
(Rb 110 [.y 4 (.ld true 2 (.t 4)),.S 2 2 110]))))))))
def f140g:Gi:=⟨[(19,[3]),(20,[3]),(21,[3]),(22,[3]),(31,[3]),(33,[3]),(34,[3]),(35,[6]),(37,[6]),(48,[8]),(49,[8]),(50,[6]),(52,[6]),(57,[8]),(58,[8]),(59,[8]),(61,[3]),(62,[3]),(63,[3]),(64,[3]),(69,[8]),(73,[3]),(74,[3]),(75,[3]),(76,[3]),(80,[8]),(81,[8]),(82,[6]),(83,[6]),(88,[8]),(89,[4]),(90,[4]),(91,[8]),(94,[4]),(96,[4]),(110,[4])]⟩
def f140r:List RV:=[.cell 2 true 2]
def f140:FI:=⟨f140c,f140g,f140r⟩
theorem chk140:M6 prog Tryz.f140 f140=true:=by kernel_rfl
namespace Bu
def J5(p_2:AR):ABd AR:=
(A5 p_2).bind λv_5=>
if v_5.1 != 0 then
(Ei).bind λv_6=>
(Jo 1).bind λv_7=>
(En (⟨#[120]⟩:ABe) v_7).bind λv_8=>
some (AR.mk v_6 [(Cq.mk (⟨#[109,97,105,110]⟩:ABe) 0 [(⟨#[97]⟩:ABe),(⟨#[98]⟩:ABe)] [v_8])])
else
some p_2
def J4(L1:fj)(i:Int)(m_3:AO)(p_1:AR):=
L1 m_3 p_1 (BA (i+1))
def J3(L1:fj)(i:Int)(p:AR)(m_2:AO)(t_2:Cq):=
if Ap (p.AA.length+1) 72=true then
J4 L1 i m_2 (AR.mk p.Decls (p.AA++[t_2]))
else none
def J2(L1:fj)(i:Int)(p:AR)(zF:Cq)(mI:(List AQ)×AO)(m_1:AO)(t79v:Bool):=
if t79v then
if Ap ((zF.Body++mI.1).length+1) 176=true then
J3 L1 i p m_1 (Cq.mk zF.Name zF.FK zF.GA ((zF.Body++mI.1)++[(AQ.mk 13 0 (⟨#[116,49]⟩:ABe) (⟨#[]⟩:ABe) [] (BE.mk 0 0 (⟨#[]⟩:ABe) []) [] [])]))
else none
else
J3 L1 i p m_1 (Cq.mk zF.Name zF.FK zF.GA (zF.Body++mI.1))
def J1(L1:fj)(i:Int)(m:AO)(p:AR)(zF:Cq):=
(Ah m.t 3).bind λv_2=>
(Du BW (AO.mk v_2.2 i m.left m.HR m.tx m.atomic m.loop m.held) 2 (BA (1+v_2.1))).bind λmI=>
if Ap (zF.Body.length+mI.1.length) 176=true then
if i==0 then
(Ah mI.2.t 3).bind λv_4=>
J2 L1 i p zF mI (AO.mk v_4.2 mI.2.Bb mI.2.left mI.2.HR mI.2.tx mI.2.atomic mI.2.loop mI.2.held) (v_4.1==2)
else
J2 L1 i p zF mI mI.2 false
else none
def L2(L1:fj)(i:Int)(m:AO)(p:AR)(bV:d4)(L2:Cq->Int->ABd AR)(t:Cq)(k:Int):=
if decide (k<(BA (2+bV.1)))then
(gt [(⟨#[109,97,105,110]⟩:ABe),(⟨#[116,49]⟩:ABe),(⟨#[116,50]⟩:ABe),(⟨#[116,51]⟩:ABe)] k).bind λx_1=>
if Ap (t.Body.length+1) 176=true then
L2 (Cq.mk t.Name t.FK t.GA (t.Body++[(AQ.mk 12 0 x_1 (⟨#[]⟩:ABe) [] (BE.mk 0 0 (⟨#[]⟩:ABe) []) [] [])])) (BA (k+1))
else none
else
J1 L1 i m p t
def DF(L1:fj)(i:Int)(m:AO)(p:AR)(bV:d4):Nat->Cq->Int->ABd AR
|0,_,_=>none
|n+1,t,k=>L2 L1 i m p bV (DF L1 i m p bV n) t k
def L1(bV:d4)(L1:fj)(m:AO)(p:AR)(i:Int):=
if decide (i<(BA (2+bV.1)))then
(gt [(⟨#[109,97,105,110]⟩:ABe),(⟨#[116,49]⟩:ABe),(⟨#[116,50]⟩:ABe),(⟨#[116,51]⟩:ABe)] i).bind λx=>
if i==0 then
DF L1 i m p bV BW (Cq.mk x 0 [(⟨#[97]⟩:ABe),(⟨#[98]⟩:ABe)] []) 1
else
J1 L1 i m p (Cq.mk x 0 [(⟨#[97]⟩:ABe),(⟨#[98]⟩:ABe)] [])
else
J5 p
def Aa(bV:d4):Nat->AO->AR->Int->ABd AR
|0,_,_,_=>none
|n+1,m,p,i=>L1 bV (Aa bV n) m p i
end Bu
section
open Bu
def Bu(l:dc):=
(Ei).bind λv=>
(Ah (AU.mk l 0) 3).bind λbV=>
Aa bV BW (AO.mk bV.2 0 20 false false false false []) (AR.mk v []) 0
theorem Vb{l:dc}{r:AR}(h:Bu l=some r):Says prog 140 [vS 1 cZ l] (.agg (CS r)):=by
 refine lM mix func140 chk140 (AAO (by kernel_rfl)) rfl ?_;simp only[f140,f140c,f140g,f140r]
 repeat' first
  |with_reducible exact ET h
  |with_reducible refine gBm eS h λ_ _ h=> ?_
  |with_reducible refine gBe h bm λh=> ?_
  |with_reducible refine gBk h λ_ _ h=> ?_
  | (with_reducible refine cSk h λg h=> ?_
     try simp only[ABK,List.nil_append,ABM]at g)
  | (with_reducible refine bSs h λh=> ?_
     try simp +decide only[go_sem, *]
     refine⟨_,by first|exact Qy bm,?_⟩)
  | (with_reducible refine bSk h λ_ g h=> ?_
     try simp +decide only[go_sem, *]
     refine⟨_,by first|exact Qy g|exact Kc g|exact Pc g|exact PY g,?_⟩)
  | (with_reducible refine bSk h λ_ g h=> ?_
     try simp +decide only[go_sem, *]
     refine uF.intro (by first|exact DD g|exact Pb g) rfl ?_ ?_ ?_
     . rfl
     . first|rfl|simp +decide only[go_sem, *])
  | (with_reducible cases h
     simp +decide only[go_sem, *]
     done)
  |simp only[eq_self,AAi,AAT,AAM]at h
  |simp +decide only[go_sem, *]
  | (with_reducible refine kC (λn j=>∃bV:Int×AU,∃m:AO,∃p:AR,∃i:Int,(j 2=bA 2 z14/\j 3=bA 8 (CX m)/\j 4=bA 2 [vO 6 Jj p.Decls,vO 4 Ie p.AA]/\j 5=si (BA (2+bV.1))/\j 6= .own false 1 (z16)/\j 7=si i)/\Aa bV n m p i=some r) ⟨_,_,_,_,?_,h⟩ ?_
     rotate_left;rintro(_|n1) j N ⟨bV,_,_,_,_,h⟩ k1
     . exact ET h
     rw[Aa]at h)
  | (with_reducible refine kC (λn j=>∃i:Int,∃m:AO,∃p:AR,∃t:Cq,∃k:Int,(j 2=bA 2 z14/\j 3=bA 8 [bA 2 (FO m.t),si i,si m.left,sb m.HR,sb m.tx,sb m.atomic,sb m.loop,vO 1 eS m.held]/\j 4=bA 2 [vO 6 Jj p.Decls,vO 4 Ie p.AA]/\j 5=si (BA (2+bV.1))/\j 6= .own false 1 (z16)/\j 7=si i/\j 8=bA 4 (iT t)/\j 9=si k)/\DF (Aa bV n1) i m p bV n t k=some r) ⟨_,_,_,_,_,?_,h⟩ ?_
     rotate_left;rintro(_|n2) j N ⟨i,m,p,_,_,_,h⟩ k2
     . exact ET h
     rw[DF]at h)
  |with_reducible refine backI k2 ⟨_,_,_,_,_,?_,h⟩
  |with_reducible refine backI k1 ⟨_,_,_,_,?_,h⟩
  |simp only[*,eq_self,AAi,AAT,AAM,decide_true,decide_false]at h
  | (with_reducible refine bI h ?_ ?_
     all_goals clear h;intro _ h)
  | (simp[Ie,eS];done)
  |unfold Bu at h
  |unfold J5 at h
  |unfold J4 at h
  |unfold J3 at h
  |unfold J2 at h
  |unfold J1 at h
  |unfold L2 at h
  |unfold L1 at h
end
namespace Bt
def J5(w:AD):ABd AD:=
some w
def L3(d:AR)(L3:ez)(f:AD)(i:Int):=
if decide (i<(d.AA.length:Int))then
(gt d.AA i).bind λo=>
if Ap (f.AA.length+1) 16=true then
(GZ BW f.BU i 0 o.Body).bind λt=>
L3 (AD.mk f.Cells f.AF f.Ai f.AK (f.AA++[o.Name]) t.1) (BA (i+1))
else none
else
J5 f
def Gg(d:AR):Nat->AD->Int->ABd AD
|0,_,_=>none
|n+1,f,i=>L3 d (Gg d n) f i
def J4(d:AR)(v:AD):=
Gg d BW v 0
def J3(L1:ez)(c:Int)(u:AD):=
L1 u (BA (c+1))
def L2(L1:ez)(c:Int)(b:EX)(L2:ez)(e:AD)(j:Int):=
if decide (j<(if 1>b.Bq then 1 else b.Bq))then
if Ap (e.Cells.length+1) 48=true then
L2 (AD.mk (e.Cells++[(DR.mk b.Name j b.Bq (b.Kind==2) b.Init)]) e.AF e.Ai e.AK e.AA e.BU) (BA (j+1))
else none
else
J3 L1 c e
def DF(L1:ez)(c:Int)(b:EX):Nat->AD->Int->ABd AD
|0,_,_=>none
|n+1,e,j=>L2 L1 c b (DF L1 c b n) e j
def J2(L1:ez)(c:Int)(a:AD)(b:EX)(p:Bool):=
if p then
if Ap (a.AF.length+1) 24=true then
J3 L1 c (AD.mk a.Cells (a.AF++[(I7.mk b.Name (b.Kind==4))]) a.Ai a.AK a.AA a.BU)
else none
else
if b.Kind==5 then
(Dv a.AF b.On).bind λs=>
if Ap (a.Ai.length+1) 24=true then
J3 L1 c (AD.mk a.Cells a.AF (a.Ai++[(O3.mk b.Name s)]) a.AK a.AA a.BU)
else none
else
if Ap (a.AK.length+1) 16=true then
J3 L1 c (AD.mk a.Cells a.AF a.Ai (a.AK++[b.Name]) a.AA a.BU)
else none
def J1(L1:ez)(c:Int)(a:AD)(b:EX)(l:Bool):=
if l then
DF L1 c b BW a 0
else
if b.Kind==3 then
J2 L1 c a b (b.Kind==3)
else
J2 L1 c a b (b.Kind==4)
def L1(d:AR)(L1:ez)(a:AD)(c:Int):=
if decide (c<(d.Decls.length:Int))then
(gt d.Decls c).bind λb=>
if b.Kind==1 then
J1 L1 c a b (b.Kind==1)
else
J1 L1 c a b (b.Kind==2)
else
J4 d a
def Aa(d:AR):Nat->AD->Int->ABd AD
|0,_,_=>none
|n+1,a,c=>L1 d (Aa d n) a c
end Bt
section
open Bt
def Bt(d:AR):=
(A5 d).bind λq=>
if q.1 != 0 then
some (AD.mk [] [] [] [] [] [])
else
Aa d BW (AD.mk [] [] [] [] [] []) 0
theorem YC{d:AR}{r:AD}(h:Bt d=some r):Says prog 182 [.agg (CS d)] (.agg (K5 r)):=by refine kO mix func182 (hn [(1,[19,25,95,103,116]),(3,[17,32,33,38,49,50,64,68,69,78,81,82,85,86,93,101,102,111,113,114,125,126]),(7,[30,34,43,51,54,56,59,70,72,83,87]),(122,[123])] [(13,1)] (E:=[(26,(.bY [(122,10,11,112)] [LU 113 3 5 3,Zk 114 3 113,iC 115 9,LU 116 1 1 1,iL 117 116,iC 118 9,iI 119 4 117 118,iF 120 3 119,iL 121 120,⟨some ⟨122,[123],[]⟩,.call 221 [.t 114,.t 115,.c (si 0),.t 121] 3,none⟩,i0 112 (.flk (.t 122) 1),i1 123 122 (.ext (.t 122) 0),i0 124 .fl,LU 125 3 5 3,iS 1 125 123]))])) ?_;have a1:= @Kc;have a2:= @Vu;have a3:= @Oa;have l3:=da λ_ _ _ _ n a=>∃f i,(a 1=bA 2 (CS d)/\a 2=bA 6 z8/\a 3=bA 6 (K5 f)/\a 9=si i)/\Gg d n f i=some r;have l1:=da λ_ _ _ _ n b=>∃a c,(b 1=bA 2 (CS d)/\b 2=bA 6 z8/\b 3=bA 6 (K5 a)/\b 6=si c)/\Aa d n a c=some r;have l2:=da λa _ _ _ n f=>∃c b e j,(f 1=bA 2 (CS d)/\f 2=bA 6 z8/\f 3=bA 6 (K5 e)/\f 6=si c/\f 7=bA 6 (Jj b)/\f 8=si j)/\DF (Aa d a) c b n e j=some r;have c1:=db 1 λe _ _ _ f=>∃(c:Int)(a:AD)(b:EX)(l:Bool),(f 1=bA 2 (CS d)/\f 2=bA 6 z8/\f 3=bA 6 (K5 a)/\f 6=si c/\f 7=bA 6 (Jj b)/\f 31=si b.Kind/\f 39=sb l)/\J1 (Aa d e) c a b l=some r;unfold Bt at h;exact walk
end
namespace E7
def J3(o:dx)(q:Al):ABd ((List AG)×Al):=
some (o,q)
def J2(L1:fo)(c:Int)(l:dx)(p:Al):=
L1 l p (BA (c+1))
def J1(L1:fo)(b:BT)(a:List C5)(c:Int)(d:dx)(e:Al)(s:Bool):=
if s then
(gt a c).bind λt=>
(DK b e t).bind λj=>
if j.2.2 then
if Ap (d.length+1) 88=true then
J2 L1 c (d++[j.2.1]) j.1
else none
else
J2 L1 c d e
else
J3 d e
def L1(b:BT)(a:List C5)(L1:fo)(d:dx)(e:Al)(c:Int):=
if decide (c<(a.length:Int))then
J1 L1 b a c d e (decide ((d.length:Int)<400))
else
J1 L1 b a c d e false
def Aa(b:BT)(a:List C5):Nat->(List AG)->Al->Int->ABd ((List AG)×Al)
|0,_,_,_=>none
|n+1,d,e,c=>L1 b a (Aa b a n) d e c
end E7
section
open E7
def E7(b:BT)(i:Al)(f:dx)(a:List C5):=
Aa b a BW f i 0
theorem ZX{b:BT}{i:Al}{f:dx}{a:List C5}{r:(List AG)×Al}(h:E7 b i f a=some r):Says prog 137 [.agg (JS b),.agg (KQ i),vO 7 B1 f,vS 2 JC a] (.BQ [vO 7 B1 r.1,.agg (KQ r.2)]):=by refine kO mix func137 (hn [(2,[19,38,42])]) ?_;have a1:= @ZV;have l1:=da λ_ _ _ _ n f=>∃d e c,(f 2=vO 7 B1 d/\f 3=vS 2 JC a/\f 4=bA 7 (JS b)/\f 5=bA 7 (KQ e)/\f 9=bA 7 z4/\f 10=si c)/\Aa b a n d e c=some r;unfold E7 at h;exact walk
end
def PX(a:AL):ABd (List FL):=
(Gt a).bind λb=>
if !b then
some []
else
(Ho a.World a.Init a.AE).bind λc=>
some c
theorem sX{a:AL}{r:gb}(h:PX a=some r):Says prog 20 [.agg (B0 a)] (vS 2 MH r):=by refine kF mix func20 (hn [(1,[6,8,10])]) ?_;have a1:= @RA;have a2:= @sY;unfold PX at h;exact walk
namespace Ax
def J4(v:BT):ABd (BT×Int×Int):=
some (v,0,0)
def J3(L1:e7)(b:Int)(u:BT)(w:Int):=
L1 u w (BA (b+1))
def J2(L1:e7)(a:BT)(b:Int)(e:BB)(y:Az):=
if Ap (a.AA.length+1) 32=true then
J3 L1 b (BT.mk a.World (a.AA++[y])) e.next
else none
def J1(L2:fg)(c:Int)(x:Az):=
L2 x (BA (c+1))
def L3(L2:fg)(c:Int)(i:dc)(L3:fg)(j:Az)(l:Int):=
if decide (l<(i.length:Int))then
(gt i l).bind λt=>
L3 (Az.mk (if(BA (t+1))>j.Ck then(BA (t+1))else j.Ck) j.Br) (BA (l+1))
else
J1 L2 c j
def Gg(L2:fg)(c:Int)(i:dc):Nat->Az->Int->ABd (BT×Int×Int)
|0,_,_=>none
|n+1,j,l=>L3 L2 c i (Gg L2 c i n) j l
def L2(L1:e7)(a:BT)(b:Int)(e f:BB)(L2:fg)(o:Az)(c:Int):=
if decide (c<(f.out.length:Int))then
(gt f.out c).bind λaa=>
(AZ aa).bind λi=>
Gg L2 c i BW o 0
else
J2 L1 a b e o
def DF(L1:e7)(a:BT)(b:Int)(e f:BB):Nat->Az->Int->ABd (BT×Int×Int)
|0,_,_=>none
|n+1,o,c=>L2 L1 a b e f (DF L1 a b e f n) o c
def L1(d:AR)(L1:e7)(a:BT)(p b:Int):=
if decide (b<(d.AA.length:Int))then
(gt d.AA b).bind λs=>
(DU BW (BB.mk a.World s.GA [] 0 p) s.Body).bind λe=>
(A6 (BB.mk e.w e.locals e.out (-1) e.next) (Ad.mk 28 0 0 0 0 0)).bind λf=>
DF L1 a b e f BW (Az.mk (f.locals.length:Int) f.out) 0
else
J4 a
def Aa(d:AR):Nat->BT->Int->Int->ABd (BT×Int×Int)
|0,_,_,_=>none
|n+1,a,p,b=>L1 d (Aa d n) a p b
end Ax
section
open Ax
def Ax(d:AR):=
(A5 d).bind λq=>
if q.1 != 0 then
some ((BT.mk (AD.mk [] [] [] [] [] []) []),q.1,q.2)
else
(Bt d).bind λz=>
Aa d BW (BT.mk z []) 0 0
theorem UT{d:AR}{r:BT×Int×Int}(h:Ax d=some r):Says prog 139 [.agg (CS d)] (.BQ [.agg (JS r.1),si r.2.1,si r.2.2]):=by refine kF mix func139 (hn [(1,[29,37,47]),(7,[35,36,106,107,111,112]),(10,[46,54,55,56,58,59,60,61,64,65,66,67,69,70,71,72,75,76,77,78,83,84,85,86,88]),(11,[97,105,108]),(13,[92,99,101])] (Z:=[(14,false,10,[(0,7,0)])])) ?_;have a1:= @Kc;have a2:= @YC;have a3:= @Qk;have a4:= @Gl;have a5:= @JO;have l1:=da λ_ _ _ _ n c=>∃(a:BT)(p b:Int),(c 1=bA 2 (CS d)/\c 2=bA 7 z10/\c 7=bA 7 [vS 5 Gy a.World.Cells,vS 2 Hy a.World.AF,vS 2 Hx a.World.Ai,vS 1 eS a.World.AK,vS 1 eS a.World.AA,vS 3 Gb a.World.BU,vO 2 Cf a.AA]/\c 8=si p/\c 9=si b)/\Aa d n a p b=some r;have l2:=da λg _ _ _ n h=>∃(a:BT)(b:Int)(e f:BB)(o:Az)(c:Int),(h 1=bA 2 (CS d)/\h 2=bA 7 z10/\h 7=bA 7 [vS 5 Gy a.World.Cells,vS 2 Hy a.World.AF,vS 2 Hx a.World.Ai,vS 1 eS a.World.AK,vS 1 eS a.World.AA,vS 3 Gb a.World.BU,vO 2 Cf a.AA]/\h 8=si e.next/\h 9=si b/\h 10=bA 10 (egen f)/\h 11=bA 2 (Cf o)/\h 12=si c)/\DF (Aa d g) a b e f n o c=some r;have l3:=da λg h _ _ n k=>∃(a:BT)(b:Int)(e f:BB)(c:Int)(i:dc)(j:Az)(l:Int),(k 1=bA 2 (CS d)/\k 2=bA 7 z10/\k 7=bA 7 [vS 5 Gy a.World.Cells,vS 2 Hy a.World.AF,vS 2 Hx a.World.Ai,vS 1 eS a.World.AK,vS 1 eS a.World.AA,vS 3 Gb a.World.BU,vO 2 Cf a.AA]/\k 8=si e.next/\k 9=si b/\k 10=bA 10 (egen f)/\k 11=bA 2 (Cf j)/\k 12=si c/\k 13=vO 1 eI i/\k 14=si l)/\Gg (DF (Aa d g) a b e f h) c i n j l=some r;unfold Ax at h;exact walk
end
def f85c:IC:=(Ra 4 [.b 2 [21] (.bx 7 (.t 0)),.o (.bx 7 (.c (.agg z12))),.o (.bx 7 (.c (.agg z13)))]
(Sq (Ra 8 [.A 7 2,.c 136 [8] 0,.N 9]
(Ci 10 (Rb 11 [.o (.T2 z12 []),.o (.T2 z13 []),.S 7 4 11,.S 7 5 12])))
(Ra 14 [.A 7 2,.A 7 2,.c 138 [15] 1,.C 1,.b 18 [6,13,19,20,23] (.call 137 [.t 14,.t 16,.c (.own false 7 []),.t 17] 3),.w 13,.y 18 (.cp (.t 18)),.w 19,.y 18 (.ext (.t 13) 0),.y 18 (.ext (.t 13) 1),.b 7 [25] (.bx 7 (.c (.agg z13))),.w 6,.y 18 (.cp (.t 19)),.S 7 7 20]
(Rb 21 [.F 0 2,.A 6 21,.y 18 (.cp (.t 6)),.o (.T2 z12 [(0,6,.t 22),(6,1,.t 23)]),.y 7 (.ld true 7 (.t 7)),.S 7 4 24,.S 7 5 25]))))
def f85g:Gi:=⟨[(6,[18]),(13,[18]),(19,[18]),(20,[18]),(21,[2]),(23,[18]),(25,[7])]⟩
def f85r:List RV:=[.cell 4 true 7,.cell 5 true 7]
def LS(a:BT)(b:List C5):ABd (CC×Al):=
(Bz a).bind λd=>
if !d then
some ((CC.mk (AD.mk [] [] [] [] [] []) []),(Al.mk (AP.mk [] 0 [] []) [] [] []))
else
(C0 a).bind λe=>
(E7 a e [] b).bind λc=>
some ((CC.mk a.World c.1),c.2)
theorem eD{a:BT}{b:List C5}{r:CC×Al}(h:LS a b=some r):Says prog 85 [.agg (JS a),vS 2 JC b] (.BQ [.agg (cV r.1),.agg (KQ r.2)]):=by refine wO mix func85 (I:=⟨f85c,f85g,f85r⟩) ?_;simp only[f85c,f85g,f85r];have a1:= @Ln;have a2:= @YK;have a3:= @ZX;unfold LS at h;exact walk
def NM(a:dc):ABd BT:=
(Bu a).bind λb=>
(Ax b).bind λc=>
some c.1
theorem dQ{a:dc}{r:BT}(h:NM a=some r):Says prog 86 [vS 1 cZ a] (.agg (JS r)):=by refine kF mix func86 hn ?_;have a1:= @Vb;have a2:= @UT;unfold NM at h;exact walk
def LA(a b:dc):ABd CC:=
(NM a).bind λc=>
(Eb b).bind λd=>
(LS c d).bind λe=>
some e.1
theorem Uf{a b:dc}{r:CC}(h:LA a b=some r):Says prog 41 [vS 1 cZ a,vS 1 cZ b] (.agg (cV r)):=by refine kO mix func41 (hn [(5,[15]),(12,[7,13,14])]) ?_;have a1:= @dQ;have a2:= @Va;have a3:= @eD;unfold LA at h;exact walk
def G8(a:M8)(b:Int):ABd AL:=
if decide ((a.fY.length:Int)>0)then
if¬b=0 then
(De a.fY (BA (1+((BA a.Bq).tmod b)))).bind λd=>
some d
else none
else
if 0<=(if 80<(a.FM.length:Int)then 80 else(a.FM.length:Int))/\((if 80<(a.FM.length:Int)then 80 else(a.FM.length:Int)).toNat)<=a.FM.length then
(LA a.Program (a.FM.take ((if 80<(a.FM.length:Int)then 80 else(a.FM.length:Int)).toNat))).bind λe=>
if¬b=0 then
(Ep e (BA (1+((BA a.Bq).tmod b)))).bind λc=>
if(c.1.length:Int)==0 then
(De [] 0).bind λf=>
some f
else
if¬(c.1.length:Int)=0 then
(gt c.1 ((BA a.Zp).tmod (c.1.length:Int))).bind λi=>
some i
else none
else none
else none
theorem Pv{a:M8}{b:Int}{r:AL}(h:G8 a b=some r):Says prog 15 [.agg (iV a),si b] (.agg (B0 r)):=by refine kF mix func15 (hn [(2,[8,12,14,21,23,25,33,47])]) ?_;have a1:= @Vy;have a2:= @Uf;have a3:= @YO;unfold G8 at h;exact walk
namespace HJ
def J1(c:Bool):ABd Bool:=
some c
end HJ
variable{e:M8}{b:Bool}
section
open HJ
def HJ(a:M8):=
(G8 a 16).bind λb=>
(PX b).bind λd=>
(LC b.World b.Init.Sync b.AE).bind λe=>
(Hq d e).bind λf=>
if f then
(PV).bind λi=>
J1 i
else
J1 false
theorem dO(h:HJ e=some b):Says prog 4 [.agg (iV e)] (sb b):=by refine kO mix func4 (hn [(3,[8,10,11,13])]) ?_;have a1:= @Pv;have a2:= @sX;have a3:= @ref27_Held_ok;have a4:= @tF;have a5:= @law28_awake_ok;unfold HJ at h;exact walk
end
end Go.Abs
