/- Typed programs of Go functions, and that the functions do what these say. -/
import Derived.Test.YthmijagacgnmkaaGreatDoorWalkK
set_option linter.unusedSimpArgs false
set_option linter.unusedVariables false
namespace Go.Abs
open Go.Proofs
set_option maxRecDepth 1000000
set_option maxHeartbeats 4000000
def f86c:IC:=(Ra 0 [.b 1 [13,15,16,20,28,52,53] (.bx 15 (.t 0)),.B 2 false]
(Ra 13 [.F 7 1,.A 7 13,.w 3,.o (.bx 7 (.c (.agg z0))),.S 7 3 14]
(Ra 15 [.F 0 1,.h 1 4 15,.Z 17,.o (.mk 1 24 z18 (.t 18) (.t 18)),.b 4 [64,67,68,72,75,76,78,88,91,92,103] (.mv (.t 19))]
(Sq (Ra 20 [.f 14 1,.Z 21,.Y 0]
(Bl 0 (Ra 24 [.O .lss 23 22]
(Sq (cX 24 0)
(Sq (Bk 1 (Ra 25 [.I 7 21 23,.A 7 25,.b 6 [37,39,55,65,73,86,89,93,97] (.bx 7 (.c (.agg z2))),.S 7 6 26]
(Ra 28 [.F 0 1,.A 6 28,.A 7 3,.A 7 6,.c 16 [29,30,31] 1,.w 27,.C 32,.w 33,.o (.ext (.t 27) 0),.o (.ext (.t 27) 1),.w 7,.o (.bx 7 (.c (.agg z0))),.S 7 7 33,.M 8 34]
(Sq (Ra 35 [.C 8,.N 35]
(Ci 36 (Rb 0 [.B 2 false])))
(Sq (Ra 37 [.f 5 6,.f 6 6,.o (.Uc z21 [(0,1,.t 38),(1,1,.t 40)]),.Y 0]
(Bl 2 (Ra 43 [.P .lss 42 2]
(Sq (cX 43 2)
(Sq (Bk 3 (Nf 1 (Rc 44 [.o (.idx false 2 1 (.t 41) (.t 42)),.M 10 44])
(Ra 45 [.C 10,.Z 45,.Y 0]
(Bl 4 (Ra 48 [.O .lss 47 46]
(Sq (cX 48 4)
(Sq (Bk 5 (Ra 49 [.I 1 45 47,.L 49,.M 12 50]
(Ra 51 [.C 12,.F 7 1,.h 1 6 52,.f 0 6,.I 1 54 56,.L 57,.O .sub 51 58,.M 12 59]
(Ra 60 [.C 12,.P .geq 60 0,.C 61,.G 62 true,.C 12,.y 4 (.cp (.t 4)),.f 0 6,.y 4 (.W4 1 (.t 64) (.t 66)),.l 4 67,.Z 68,.O .geq 63 69,.C 70,.G 71 false,.y 4 (.cp (.t 4)),.f 0 6,.y 4 (.W4 1 (.t 72) (.t 74)),.l 4 75,.C 12,.y 4 (.W4 1 (.t 76) (.t 77)),.L 78,.N 79,.G 62 true,.o (.pick (.t 71) (.c (sb true)) (.t 80)),.e,.W 62 81]
(Ci 82 (Rb 0 [.B 2 false]))))))
(Rc 83 [.P .add 47 1,.w 47,.C 83]))))))))
(Rc 84 [.P .add 42 1,.w 42,.C 84]))))))
(Sq (.aY [(4,0,18,85)] [i0 85 .fl,Ll 86 6 0 6,iL 87 86,i1 88 4 (.cp (.t 4)),Ll 89 6 0 6,iL 90 89,rL 91 4 1 88 90,Zm 92 4 91,Ll 93 6 1 6,iL 94 93,iQ 95 94 3,iC 96 95,jFr 97 6 1 6 96 false,jL 98 97 96 false,jP 99 .eql 98 23 96 false,iOr 100 96 99,i0 101 (.Na 1 [[sb false]] [(0,.t 100)]),i0 102 (.app 1 1 (.t 92) (.t 101)),rL 103 4 1 4 87,iS 1 103 102])
(Rc 104 [.A 7 7,.S 7 3 104])))))))
(Rc 105 [.P .add 23 1,.w 23,.C 105]))))))
(Rb 0 [.B 2 true])))))
def f86g:Gi:=⟨[(13,[1]),(15,[1]),(16,[1]),(20,[1]),(28,[1]),(37,[6]),(39,[6]),(52,[1]),(53,[1]),(55,[6]),(64,[4]),(65,[6]),(67,[4]),(68,[4]),(72,[4]),(73,[6]),(75,[4]),(76,[4]),(78,[4]),(86,[6]),(88,[4]),(89,[6]),(91,[4]),(92,[4]),(93,[6]),(97,[6]),(103,[4])]⟩
def f86r:List RV:=[.tmp 2]
namespace BK
def J7:AB8 Bool:=
some true
def J6 (L1:AB->(List (List Bool))->Int->AB8 Bool) (d:Int) (v:AB) (u:List (List Bool)):AB8 Bool:=
L1 v u (A1 (d+1))
def J5 (L1:AB->(List (List Bool))->Int->AB8 Bool) (d:Int) (f:AB×Bool) (t:List (List Bool)):AB8 Bool:=
J6 L1 d f.1 t
def J4 (L1:AB->(List (List Bool))->Int->AB8 Bool) (c:List (List Bool)) (d:Int) (f:AB×Bool) (b:AG):AB8 Bool:=
(gt c b.Thread).bind λo=>
if b.Kind==3 then
if Ak (o.length+1) 1=true then
J5 L1 d f (c.set b.Thread.toNat (o++[true]))
else none
else
if Ak (o.length+1) 1=true then
J5 L1 d f (c.set b.Thread.toNat (o++[b.Kind==23]))
else none
def J3 (L2:Int->AB8 Bool) (e:Int):AB8 Bool:=
L2 (A1 (e+1))
def J2 (L3:Int->AB8 Bool) (l:Int) (w:Bool):AB8 Bool:=
if w then
some false
else
L3 (A1 (l+1))
def L3 (L2:Int->AB8 Bool) (i:List Int) (c:List (List Bool)) (e:Int) (a:AO) (b:AG) (L3:Int->AB8 Bool) (l:Int):AB8 Bool:=
if decide (l<(i.length:Int))then
(gt i l).bind λp=>
(gt a.Init.Count b.Thread).bind λq=>
if decide ((A1 (p-q))≥0)then
(gt c b.Thread).bind λs=>
if decide ((A1 (p-q))≥(s.length:Int))then
J2 L3 l true
else
(gt s (A1 (p-q))).bind λx=>
J2 L3 l (!x)
else
J2 L3 l false
else
J3 L2 e
def Gq (L2:Int->AB8 Bool) (i:List Int) (c:List (List Bool)) (e:Int) (a:AO) (b:AG):Nat->Int->AB8 Bool
|0,_=>none
|n+1,l=>L3 L2 i c e a b (Gq L2 i c e a b n) l
def J1 (L2:Int->AB8 Bool) (c:List (List Bool)) (e:Int) (a:AO) (b:AG) (i:List Int):AB8 Bool:=
Gq L2 i c e a b BP 0
def L2 (L1:AB->(List (List Bool))->Int->AB8 Bool) (c:List (List Bool)) (d:Int) (f:AB×Bool) (a:AO) (b:AG) (L2:Int->AB8 Bool) (e:Int):AB8 Bool:=
if decide (e<2)then
if e==0 then
J1 L2 c e a b b.Du
else
if e==1 then
J1 L2 c e a b b.DR
else
none
else
J4 L1 c d f b
def Cr (L1:AB->(List (List Bool))->Int->AB8 Bool) (c:List (List Bool)) (d:Int) (f:AB×Bool) (a:AO) (b:AG):Nat->Int->AB8 Bool
|0,_=>none
|n+1,e=>L2 L1 c d f a b (Cr L1 c d f a b n) e
def L1 (a:AO) (L1:AB->(List (List Bool))->Int->AB8 Bool) (j:AB) (c:List (List Bool)) (d:Int):AB8 Bool:=
if decide (d<(a.AF.length:Int))then
(gt a.AF d).bind λb=>
(BQ a.World j b).bind λf=>
if !f.2 then
some false
else
Cr L1 c d f a b BP 0
else
J7
def AZ (a:AO):Nat->AB->(List (List Bool))->Int->AB8 Bool
|0,_,_,_=>none
|n+1,j,c,d=>L1 a (AZ a n) j c d
end BK
section
open BK
def BK (a:AO):AB8 Bool:=
if 0≤(a.World.AA.length:Int)/\(a.World.AA.length:Int)≤(a.World.AA.length:Int)/\Ak a.World.AA.length 24=true then
AZ a BP a.Init (List.replicate a.World.AA.length ([]:List Bool)) 0
else none
theorem Sr {a:AO} {r:Bool} (h:BK a=some r):Says Tryz.prog 86 [.agg (BV a)] (sb r):=by refine wO mix Tryz.func86 (I:=⟨f86c,f86g,f86r⟩) ?_;simp only[f86c,f86g,f86r];have a1:= @HE;have l1:=λn1 n2 n3 n4:Nat=>Av λn τ=>∃(j:AB) (c:List (List Bool)) (d:Int),(τ 1=bA 15 (BV a)/\τ 3=bA 7 (A3 j)/\τ 4=vO 1 Xk c/\τ 21=vS 7 BX a.AF/\τ 22=si (a.AF.length:Int)/\τ 23=si d)/\AZ a n j c d=some r;have l2:=λn1 n2 n3 n4:Nat=>Av λn τ=>∃(c:List (List Bool)) (d:Int) (f:AB×Bool) (b:AG) (e:Int) (j:AB),(τ 1=bA 15 (BV a)/\τ 3=bA 7 (A3 j)/\τ 4=vO 1 Xk c/\τ 6=bA 7 (BX b)/\τ 7=bA 7 (A3 f.1)/\τ 21=vS 7 BX a.AF/\τ 22=si (a.AF.length:Int)/\τ 23=si d/\τ 41= .agg [vS 1 eI b.Du,vS 1 eI b.DR]/\τ 42=si e)/\Cr (AZ a n1) c d f a b n e=some r;have l3:=λn1 n2 n3 n4:Nat=>Av λn τ=>∃(c:List (List Bool)) (d:Int) (f:AB×Bool) (b:AG) (i:List Int) (e l:Int) (j:AB),(τ 1=bA 15 (BV a)/\τ 3=bA 7 (A3 j)/\τ 4=vO 1 Xk c/\τ 6=bA 7 (BX b)/\τ 7=bA 7 (A3 f.1)/\τ 21=vS 7 BX a.AF/\τ 22=si (a.AF.length:Int)/\τ 23=si d/\τ 41= .agg [vS 1 eI b.Du,vS 1 eI b.DR]/\τ 42=si e/\τ 45=vS 1 eI i/\τ 46=si (i.length:Int)/\τ 47=si l)/\Gq (Cr (AZ a n1) c d f a b n2) i c e a b n l=some r;have c1:=λn1 n2 n3 n4:Nat=>Bm 1 λτ=>∃(c:List (List Bool)) (d:Int) (f:AB×Bool) (b:AG) (e:Int) (i:List Int) (j:AB),(τ 1=bA 15 (BV a)/\τ 3=bA 7 (A3 j)/\τ 4=vO 1 Xk c/\τ 6=bA 7 (BX b)/\τ 7=bA 7 (A3 f.1)/\τ 10=vS 1 eI i/\τ 21=vS 7 BX a.AF/\τ 22=si (a.AF.length:Int)/\τ 23=si d/\τ 41= .agg [vS 1 eI b.Du,vS 1 eI b.DR]/\τ 42=si e)/\J1 (Cr (AZ a n1) c d f a b n2) c e a b i=some r;unfold BK at h;exact walk
end
def f217c:IC:=(Ra 0 [.K 4 0,.K 5 0]
(Sq (Ra 0 [.K 6 0]
(Bl 0 (Sq (Ra 10 [.C 6,.C 1,.Z 11,.O .lss 10 12]
(cX 13 0))
(Sq (Bk 1 (Ra 16 [.C 1,.C 6,.I 11 16 17,.A 11 18,.b 7 [33,48,57] (.bx 11 (.c (.agg z5))),.S 11 7 19]
(Ra 20 [.y 0 (.cp (.t 0)),.A 11 7,.o (.VW 239 [] (.t 20) none [.t 21]),.M 8 22]
(Nf 1 (Ra 23 [.r 0 3,.Z 26,.P .add 27 1,.P .gtr 28 6]
(Ci 29 (Rc 0 [.K 8 2])))
(Sq (Ra 30 [.C 8,.P .neq 30 0]
(Ci 31 (Rb 32 [.C 8,.f 1 7,.M 4 32,.M 5 34])))
(Sq (.apd ⟨42,43,45,7,8,9,11,12⟩ [i1 35 0 (.cp (.t 0)),i1 36 0 (.KK (.t 35)),Ll 37 0 3 36,Zm 38 0 37,iA 39 11 7,iZ 40 38,i0 41 (.Na 11 [z5] [(0,.c (.agg z5))]),⟨some ⟨42,[43],[]⟩,.app 11 176 (.t 38) (.t 41),none⟩,rL 43 42 11 42 40,iS 11 43 39,i1 44 0 (.KK (.t 35)),Ll 45 0 3 44,⟨none,.std (.t 45),none⟩])
(Ra 47 [.y 0 (.cp (.t 0)),.f 9 7,.o (.VW 217 [] (.t 47) none [.t 49]),.w 46,.C 50,.w 51,.o (.ext (.t 46) 0),.o (.ext (.t 46) 1),.M 8 51,.M 9 52]
(Sq (Ra 53 [.C 8,.Q 53 0]
(Ci 54 (Rc 56 [.y 0 (.cp (.t 0)),.f 10 7,.o (.VW 217 [] (.t 56) none [.t 58]),.w 55,.C 59,.w 60,.o (.ext (.t 55) 0),.o (.ext (.t 55) 1),.M 8 60,.M 9 61])))
(Sq (.aY [(0,0,12,62)] [i0 62 .fl,i1 63 0 (.cp (.t 0)),i1 64 0 (.KK (.t 63)),Ll 65 0 3 64,Zm 66 0 65,i1 67 0 (.cp (.t 0)),i1 68 0 (.KK (.t 67)),Ll 69 0 3 68,Zm 70 0 69,iZ 71 70,iP 72 .sub 71 1,i0 73 (.zC 11 false (.t 66) none (some (.t 72)) none),i1 74 0 (.KK (.t 0)),Ll 75 0 3 74,iS 1 75 73])
(Ra 76 [.C 8,.P .neq 76 0]
(Ci 77 (Rb 78 [.C 8,.C 9,.M 4 78,.M 5 79]))))))))))))
(Rc 14 [.C 6,.P .add 14 1,.M 6 15])))))
(Rb 0 [.K 4 0,.K 5 0])))
def f217g:Gi:=⟨[(20,[0]),(23,[0]),(24,[0]),(25,[0]),(26,[0]),(33,[7]),(35,[0]),(36,[0]),(37,[0]),(38,[0]),(43,[42]),(44,[0]),(45,[0]),(47,[0]),(48,[7]),(56,[0]),(57,[7]),(63,[0]),(64,[0]),(65,[0]),(66,[0]),(67,[0]),(68,[0]),(69,[0]),(70,[0]),(74,[0]),(75,[0])]⟩
def f217r:List RV:=[.tmp 4,.tmp 5]
namespace B4
def J3 (s:BJ):AB8 (Int×Int×BJ):=
some (0,0,s)
def J2 (L1:BJ->Int->AB8 (Int×Int×BJ)) (c:Int) (d:BJ) (p q:Int):AB8 (Int×Int×BJ):=
if 0≤(A1 ((d.Ga.length:Int)-1))/\((A1 ((d.Ga.length:Int)-1)).toNat)≤d.Ga.length then
if p != 0 then
some (p,q,(BJ.mk d.p d.Be (d.Ga.take ((A1 ((d.Ga.length:Int)-1)).toNat)) d.MR d.ZC))
else
L1 (BJ.mk d.p d.Be (d.Ga.take ((A1 ((d.Ga.length:Int)-1)).toNat)) d.MR d.ZC) (A1 (c+1))
else none
def J1 (L1:BJ->Int->AB8 (Int×Int×BJ)) (R100:BJ->(List AQ)->AB8 (Int×Int×BJ)) (c:Int) (b:Int×BJ) (a:AQ) (i:Int):AB8 (Int×Int×BJ):=
if i != 0 then
some (i,a.FA,b.2)
else
if Ak (b.2.Ga.length+1) 176=true then
(gt (b.2.Ga++[(AQ.mk 0 0 (⟨#[]⟩:AB9) (⟨#[]⟩:AB9) [] (BB.mk 0 0 (⟨#[]⟩:AB9) []) [] [])]) (b.2.Ga.length:Int)).bind λt=>
(R100 (BJ.mk b.2.p b.2.Be ((b.2.Ga++[(AQ.mk 0 0 (⟨#[]⟩:AB9) (⟨#[]⟩:AB9) [] (BB.mk 0 0 (⟨#[]⟩:AB9) []) [] [])]).set b.2.Ga.length a) b.2.MR b.2.ZC) a.Body).bind λj=>
if j.1==0 then
(R100 j.2.2 a.Else).bind λo=>
J2 L1 c o.2.2 o.1 o.2.1
else
J2 L1 c j.2.2 j.1 j.2.1
else none
def L1 (R100:BJ->(List AQ)->AB8 (Int×Int×BJ)) (e:List AQ) (L1:BJ->Int->AB8 (Int×Int×BJ)) (f:BJ) (c:Int):AB8 (Int×Int×BJ):=
if decide (c<(e.length:Int))then
(gt e c).bind λa=>
(BH f a).bind λb=>
if decide ((A1 ((b.2.Ga.length:Int)+1))>6)then
J1 L1 R100 c b a 2
else
J1 L1 R100 c b a b.1
else
J3 f
def AZ (R100:BJ->(List AQ)->AB8 (Int×Int×BJ)) (e:List AQ):Nat->BJ->Int->AB8 (Int×Int×BJ)
|0,_,_=>none
|n+1,f,c=>L1 R100 e (AZ R100 e n) f c
end B4
section
open B4
def B4 (R100:BJ->(List AQ)->AB8 (Int×Int×BJ)) (l:BJ) (e:List AQ):AB8 (Int×Int×BJ):=
AZ R100 e BP l 0
theorem T6 {R100:BJ->(List AQ)->AB8 (Int×Int×BJ)} (H100:∀{x0 x1 r},R100 x0 x1=some r->BA Tryz.prog 217 [bA 6 (HX x0),vS 11 A7 x1] (.BM [si r.1,si r.2.1]) [bA 6 (HX r.2.2),.dead]) {l:BJ} {e:List AQ} {r:Int×Int×BJ} (h:B4 R100 l e=some r):BA Tryz.prog 217 [bA 6 (HX l),vS 11 A7 e] (.BM [si r.1,si r.2.1]) [bA 6 (HX r.2.2),.dead]:=by refine wL mix Tryz.func217 (I:=⟨f217c,f217g,f217r⟩) ?_;simp only[f217c,f217g,f217r];have a1:= @T7;have a2:= @H100;have l1:=λn1 n2 n3 n4:Nat=>Av λn τ=>∃(f:BJ) (c:Int),(τ 0=bA 6 (HX f)/\τ 1=vS 11 A7 e/\τ 6=si c)/\AZ R100 e n f c=some r;have c1:=λn1 n2 n3 n4:Nat=>Bm 1 λτ=>∃(c:Int) (b:Int×BJ) (a:AQ) (i:Int),(τ 0=bA 6 (HX b.2)/\τ 1=vS 11 A7 e/\τ 6=si c/\τ 7=bA 11 [si a.Op,si a.FA,BZ a.Name,BZ a.Arg,vS 4 BD a.Index,si a.Expr.Op,si a.Expr.N,BZ a.Expr.Name,vS 4 BD a.Expr.L,vS 11 A7 a.Body,vS 11 A7 a.Else]/\τ 8=si i)/\J1 (AZ R100 e n1) R100 c b a i=some r;unfold B4 at h;exact walk
end
def Ow:Nat->(BJ->(List AQ)->AB8 (Int×Int×BJ))
|0=>(λ_ _=>none)
|n+1=>B4 ((Ow n))
def Eo (n:Nat):BJ->(List AQ)->AB8 (Int×Int×BJ):=(Ow n)
theorem SY (n:Nat):(∀{x0 x1 r},(Eo n) x0 x1=some r->BA Tryz.prog 217 [bA 6 (HX x0),.sl false 11 (x1.map A7)] (.BM [si r.1,si r.2.1]) [bA 6 (HX r.2.2),.dead]):=by
  induction n with
  |zero=>exactλh=>DP h
  |succ n ih=>exactλh=>T6 ih h
theorem SZ {n:Nat}:∀{x0 x1 r},(Eo n) x0 x1=some r->BA Tryz.prog 217 [bA 6 (HX x0),.sl false 11 (x1.map A7)] (.BM [si r.1,si r.2.1]) [bA 6 (HX r.2.2),.dead]:=(SY n)
def f17c:IC:=(Ra 0 [.b 1 [10,14,18,21,22,26,35] (.bx 7 (.t 0)),.K 2 0,.K 3 0]
(Sq (Ra 10 [.f 6 1,.Z 11,.P .gtr 12 400]
(Ci 13 (Rb 0 [.K 2 0,.K 3 2])))
(Sq (Ra 14 [.F 0 1,.A 6 14,.c 61 [15] 0,.N 16]
(Ci 17 (Rb 0 [.K 2 0,.K 3 1])))
(Ra 18 [.F 0 1,.A 6 18,.c 15 [19] 2,.b 4 [37] (.bx 7 (.c (.agg z0))),.S 7 4 20]
(Ra 21 [.F 0 1,.h 1 4 21,.Z 23,.o (.mk 1 24 z18 (.t 24) (.t 24)),.b 5 [45,48,49,58,61,62,73] (.mv (.t 25))]
(Sq (Ra 26 [.f 6 1,.Z 27,.Y 0]
(Bl 0 (Ra 30 [.O .lss 29 28]
(Sq (cX 30 0)
(Sq (Bk 1 (Ra 31 [.C 29,.I 7 27 29,.A 7 32,.b 7 [46,56,59,63,67] (.bx 7 (.c (.agg z2))),.M 6 31,.S 7 7 33]
(Ra 35 [.F 0 1,.A 6 35,.y 4 (.ld true 7 (.t 4)),.A 7 7,.b 39 [34,40,41] (.call 16 [.t 36,.t 37,.t 38] 2),.w 34,.y 39 (.cp (.t 39)),.w 40,.y 39 (.ext (.t 34) 0),.y 39 (.ext (.t 34) 1),.b 8 [74] (.bx 7 (.c (.agg z0))),.S 7 8 40,.b 9 [42] (.mv (.t 41))]
(Sq (Ra 42 [.y 9 (.cp (.t 9)),.N 42,.C 43,.G 44 false,.y 5 (.cp (.t 5)),.f 0 7,.y 5 (.W4 1 (.t 45) (.t 47)),.l 5 48,.o (.ld true 7 (.t 7)),.c 62 [49,50] 0,.N 51,.e,.V 44 52]
(Ci 53 (Rb 54 [.C 6,.M 2 54,.K 3 12])))
(Sq (.aY [(5,0,18,55)] [i0 55 .fl,Ll 56 7 0 7,iL 57 56,i1 58 5 (.cp (.t 5)),Ll 59 7 0 7,iL 60 59,rL 61 5 1 58 60,Zm 62 5 61,Ll 63 7 1 7,iL 64 63,iQ 65 64 3,iC 66 65,jFr 67 7 1 7 66 false,jL 68 67 66 false,jP 69 .eql 68 23 66 false,iOr 70 66 69,i0 71 (.Na 1 [[sb false]] [(0,.t 70)]),i0 72 (.app 1 1 (.t 62) (.t 71)),rL 73 5 1 5 57,iS 1 73 72])
(Rc 74 [.y 8 (.ld true 7 (.t 8)),.S 7 4 74]))))))
(Rc 75 [.P .add 29 1,.w 29,.C 75]))))))
(Rb 0 [.K 2 0,.K 3 0])))))))
def f17g:Gi:=⟨[(10,[1]),(14,[1]),(18,[1]),(21,[1]),(22,[1]),(26,[1]),(34,[39]),(35,[1]),(37,[4]),(40,[39]),(41,[39]),(42,[9]),(45,[5]),(46,[7]),(48,[5]),(49,[5]),(56,[7]),(58,[5]),(59,[7]),(61,[5]),(62,[5]),(63,[7]),(67,[7]),(73,[5]),(74,[8])]⟩
def f17r:List RV:=[.tmp 2,.tmp 3]
namespace B5
def J3:AB8 (Int×Int):=
some (0,0)
def J2 (L1:AB->(List (List Bool))->Int->AB8 (Int×Int)) (b:Int) (e:AB×Bool) (j:List (List Bool)):AB8 (Int×Int):=
L1 e.1 j (A1 (b+1))
def J1 (L1:AB->(List (List Bool))->Int->AB8 (Int×Int)) (c:List (List Bool)) (b:Int) (e:AB×Bool) (d:AG) (l:Bool):AB8 (Int×Int):=
if l then
some (b,12)
else
(gt c d.Thread).bind λi=>
if d.Kind==3 then
if Ak (i.length+1) 1=true then
J2 L1 b e (c.set d.Thread.toNat (i++[true]))
else none
else
if Ak (i.length+1) 1=true then
J2 L1 b e (c.set d.Thread.toNat (i++[d.Kind==23]))
else none
def L1 (a:Aw) (L1:AB->(List (List Bool))->Int->AB8 (Int×Int)) (f:AB) (c:List (List Bool)) (b:Int):AB8 (Int×Int):=
if decide (b<(a.AF.length:Int))then
(gt a.AF b).bind λd=>
(BQ a.World f d).bind λe=>
if !e.2 then
J1 L1 c b e d true
else
(gt c d.Thread).bind λs=>
(Aq s d).bind λq=>
J1 L1 c b e d (!q)
else
J3
def AZ (a:Aw):Nat->AB->(List (List Bool))->Int->AB8 (Int×Int)
|0,_,_,_=>none
|n+1,f,c,b=>L1 a (AZ a n) f c b
end B5
section
open B5
def B5 (a:Aw):AB8 (Int×Int):=
if decide ((a.AF.length:Int)>400)then
some (0,2)
else
(Bf a.World).bind λo=>
if !o then
some (0,1)
else
(CX a.World).bind λp=>
if 0≤(a.World.AA.length:Int)/\(a.World.AA.length:Int)≤(a.World.AA.length:Int)/\Ak a.World.AA.length 24=true then
AZ a BP p (List.replicate a.World.AA.length ([]:List Bool)) 0
else none
theorem JK {a:Aw} {r:Int×Int} (h:B5 a=some r):Says Tryz.prog 17 [.agg (IV a)] (.BM [si r.1,si r.2]):=by refine wO mix Tryz.func17 (I:=⟨f17c,f17g,f17r⟩) ?_;simp only[f17c,f17g,f17r];have a1:= @Kb;have a2:= @Hg;have a3:= @HE;have a4:= @Od;have l1:=λn1 n2 n3 n4:Nat=>Av λn τ=>∃(f:AB) (c:List (List Bool)) (b:Int),(τ 1=bA 7 (IV a)/\τ 4=bA 7 (Dt f)/\τ 5=vO 1 Xk c/\τ 27=vS 7 BX a.AF/\τ 28=si (a.AF.length:Int)/\τ 29=si b)/\AZ a n f c b=some r;unfold B5 at h;exact walk
end
namespace EM
def J4 (a:Int) (b:Int×AU) (q:Aw) (y:AB):AB8 Aw:=
(Bv b.2 y q.World (if 60<(if 0>a then 0 else a)then 60 else(if 0>a then 0 else a)) false).bind λt=>
if Ak (q.AF.length+t.1.length) 88=true then
(Ec (Aw.mk q.World (q.AF++t.1))).bind λz=>
if z.2 != 0 then
(Fi).bind λaa=>
some (Aw.mk aa [])
else
some (Aw.mk q.World (q.AF++t.1))
else none
def J3 (L2:Aw->AB->Int->AB8 Aw) (f:Int) (w:Aw) (x:AB):AB8 Aw:=
L2 w x (A1 (f+1))
def L2 (d:List AG) (a:Int) (b:Int×AU) (L2:Aw->AB->Int->AB8 Aw) (e:Aw) (o:AB) (f:Int):AB8 Aw:=
if decide (f<(d.length:Int))then
(gt d f).bind λv=>
(Bg e.World o v).bind λu=>
if u.2 then
if Ak (e.AF.length+1) 88=true then
J3 L2 f (Aw.mk e.World (e.AF++[v])) u.1
else none
else
J3 L2 f e o
else
J4 a b e o
def Cr (d:List AG) (a:Int) (b:Int×AU):Nat->Aw->AB->Int->AB8 Aw
|0,_,_,_=>none
|n+1,e,o,f=>L2 d a b (Cr d a b n) e o f
def J2 (a:Int) (c:AD) (i:AB) (b:Int×AU) (d:List AG):AB8 Aw:=
Cr d a b BP (Aw.mk c []) i 0
def L1 (a:Int) (c:AD) (i:AB) (b:Int×AU) (L1:(List AG)->Int->AB8 Aw) (l:List AG) (j:Int):AB8 Aw:=
if decide (j≤(A1 (1+b.1)))then
if Ak (l.length+2) 88=true then
L1 (l++[(AG.mk 0 20 j 0 0 [] []),(AG.mk j 1 (-1) 0 (-1) [] [])]) (A1 (j+1))
else none
else
J2 a c i b l
def AZ (a:Int) (c:AD) (i:AB) (b:Int×AU):Nat->(List AG)->Int->AB8 Aw
|0,_,_=>none
|n+1,l,j=>L1 a c i b (AZ a c i b n) l j
def J1 (a:Int) (s:List Int):AB8 Aw:=
(Fi).bind λc=>
(EE c).bind λi=>
(Ae (AU.mk s 0) 3).bind λb=>
AZ a c i b BP [(AG.mk 0 1 (-1) 0 (-1) [] [])] 1
end EM
section
open EM
def EM (p:List Int) (a:Int):AB8 Aw:=
if decide ((p.length:Int)>600)then
if 600≤p.length then
J1 a (p.take 600)
else none
else
J1 a p
theorem Y5 {p:List Int} {a:Int} {r:Aw} (h:EM p a=some r):Says Tryz.prog 50 [vS 1 Ww p,si a] (.agg (IV r)):=by refine kF mix Tryz.func50 (hn [(5,[32,72]),(6,[27,28,54,55,63,64,68,70,71,74,75,81,83,91]),(8,[40,47,51,52]),(12,[57,65])] [(1,1)] [(20,1)] [(12,false,8,[]),(5,false,6,[(0,0,7)]),(5,false,6,[(0,1,7)]),(5,false,6,[(0,2,7)]),(5,false,6,[(0,3,7)]),(5,false,6,[(0,4,7)]),(5,false,6,[(0,5,7)])]) ?_;have a1:= @QL;have a2:= @Il;have a3:= @Cp;have a4:= @Rf;have a5:= @MJ;have a6:= @JP;have l2:=λn1 n2 n3 n4:Nat=>Av λn τ=>∃(d:List AG) (b:Int×AU) (e:Aw) (o:AB) (f:Int),(τ 1=si a/\τ 4=bA 7 z10/\τ 5=bA 2 (FE b.2)/\τ 6=bA 7 (Wv e)/\τ 7=bA 7 (A3 o)/\τ 47=vS 7 BX d/\τ 48=si (d.length:Int)/\τ 49=si f)/\Cr d a b n e o f=some r;have l1:=λn1 n2 n3 n4:Nat=>Av λn τ=>∃(c:AD) (i:AB) (b:Int×AU) (l:List AG) (j:Int),(τ 1=si a/\τ 4=bA 7 z10/\τ 5=bA 2 (FE b.2)/\τ 6=bA 7 [vS 5 Gx c.Cells,vS 2 Hu c.AE,vS 2 Ht c.Af,vS 1 eS c.AK,vS 1 eS c.AA,vS 3 GX c.BL,.own false 7 []]/\τ 7=bA 7 (A3 i)/\τ 8=vO 7 IE l/\τ 9=si (A1 (1+b.1))/\τ 10=si j)/\AZ a c i b n l j=some r;have c1:=λn1 n2 n3 n4:Nat=>Bm 1 λτ=>∃(s:List Int),(τ 0=vS 1 Ww s/\τ 1=si a/\τ 4=bA 7 z10)/\J1 a s=some r;unfold EM at h;exact walk
end
namespace Cg
def J5 (t:AG):AB8 (AG×Bool):=
some (t,true)
def J4 (d:AG) (c:AL) (a:Ac) (u:Bool):AB8 (AG×Bool):=
if u then
(gt c.Cc a.B).bind λs=>
if Ak (d.DR.length+s.length) 8=true then
J5 (AG.mk d.Thread d.Kind d.Obj d.Value d.Site d.Du (d.DR++s))
else none
else
J5 d
def J3 (c:AL) (a:Ac) (d:AG):AB8 (AG×Bool):=
if a.Op==8 then
J4 d c a true
else
if a.Op==9 then
J4 d c a true
else
J4 d c a (a.Op==26)
def J2 (b i j:Int) (c:AL) (a:Ac) (v:Bool):AB8 (AG×Bool):=
if v then
(gt c.Cc a.C).bind λq=>
if Ak (q.length) 8=true then
J3 c a (AG.mk b i j 0 a.Site q [])
else none
else
J3 c a (AG.mk b i j 0 a.Site [] [])
def J1 (e:BT) (f:Aj) (b:Int) (l:Bool):AB8 (AG×Bool):=
if l then
some ((AG.mk 0 0 0 0 0 [] []),false)
else
(gt f.AA b).bind λc=>
(gt e.AA b).bind λx=>
(gt x.Bq c.PC).bind λa=>
(gt f.Sync.AA b).bind λo=>
if o.Status==1 then
some ((AG.mk b 1 (-1) 0 (-1) [] []),true)
else
if o.Status==4 then
some ((AG.mk b 17 o.D7 0 a.Site [] []),true)
else
if o.Status==2 then
(II a.Op).bind λi=>
(FQ a c).bind λj=>
if i==0 then
some ((AG.mk 0 0 0 0 0 [] []),false)
else
if a.Op==10 then
(gt c.Cc a.A).bind λp=>
if Ak (p.length) 8=true then
J3 c a (AG.mk b i j 0 a.Site p [])
else none
else
if a.Op==7 then
J2 b i j c a (a.Op==7)
else
J2 b i j c a (a.Op==9)
else
some ((AG.mk 0 0 0 0 0 [] []),false)
end Cg
section
open Cg
def Cg (e:BT) (f:Aj) (b:Int):AB8 (AG×Bool):=
(Ey e f).bind λw=>
if !w then
J1 e f b true
else
if decide (b<0)then
J1 e f b true
else
J1 e f b (decide (b≥(e.AA.length:Int)))
theorem U5 {e:BT} {f:Aj} {b:Int} {r:AG×Bool} (h:Cg e f b=some r):Says Tryz.prog 210 [.agg (Jo e),.agg (Kj f),si b] (.BM [.agg (IE r.1),sb r.2]):=by refine kO mix Tryz.func210 (hn [(3,[21,32]),(4,[27,46,47,60,61]),(8,[38,90,103,126]),(9,[43,72,84,92,105,111,115,120,128]),(10,[67,68,69,78,79,80,88,89,97,101,102,110,124,125,133,134])] [(2,1),(20,3)] (E:=[(11,(Rc 60 [.F 0 4,.h 4 3 60,.C 2,.I 3 62 63,.U 1 64,.F 1 10,.x ⟨none,.XC (.t 67) (.c (si 17)),none⟩,.F 2 10,.x ⟨none,.XC (.t 68) (.t 66),none⟩])),(14,(Rc 72 [.f 0 9,.c 231 [73] 0,.A 6 9,.A 4 8,.c 232 [75,76] 0,.F 1 10,.x ⟨none,.XC (.t 78) (.t 74),none⟩,.F 2 10,.x ⟨none,.XC (.t 79) (.t 77),none⟩]))])) ?_;have a1:= @Z2;have a2:= @Wa;have a3:= @Z0;have c3:=λn1 n2 n3 n4:Nat=>Bm 3 λτ=>∃(c:AL) (a:Ac) (d:AG),(τ 6=bA 7 z2/\τ 8=bA 4 (FF c)/\τ 9=bA 6 (EN a)/\τ 10=bA 7 (IE d))/\J3 c a d=some r;have c1:=λn1 n2 n3 n4:Nat=>Bm 1 λτ=>∃(l:Bool),(τ 2=si b/\τ 3=bA 7 (Jo e)/\τ 4=bA 7 (Kj f)/\τ 6=bA 7 z2/\τ 25=sb l)/\J1 e f b l=some r;unfold Cg at h;exact walk
end
namespace GR
def J2 (b:Int) (c:AB×AU) (e:AO):AB8 AO:=
(Bv c.2 e.Init e.World (if 16<(if 0>b then 0 else b)then 16 else(if 0>b then 0 else b)) true).bind λl=>
(Es (AO.mk e.World e.Start e.Init l.1)).bind λo=>
if !o then
(Fi).bind λp=>
(Fi).bind λq=>
(EE q).bind λs=>
some (AO.mk p 0 s [])
else
some (AO.mk e.World e.Start e.Init l.1)
def L1 (b:Int) (c:AB×AU) (L1:AO->Int->AB8 AO) (a:AO) (d:Int):AB8 AO:=
if decide (d<(c.1.Count.length:Int))then
(gt c.1.Count d).bind λt=>
L1 (AO.mk a.World (A1 (a.Start+t)) a.Init a.AF) (A1 (d+1))
else
J2 b c a
def AZ (b:Int) (c:AB×AU):Nat->AO->Int->AB8 AO
|0,_,_=>none
|n+1,a,d=>L1 b c (AZ b c n) a d
def J1 (b:Int) (i:List Int):AB8 AO:=
(Fi).bind λj=>
(Bt (AU.mk i 0) j).bind λc=>
AZ b c BP (AO.mk j 0 c.1 []) 0
end GR
section
open GR
def GR (f:List Int) (b:Int):AB8 AO:=
if decide ((f.length:Int)>400)then
if 400≤f.length then
J1 b (f.take 400)
else none
else
J1 b f
theorem Wd {f:List Int} {b:Int} {r:AO} (h:GR f b=some r):Says Tryz.prog 80 [vS 1 Ww f,si b] (.agg (BV r)):=by refine kF mix Tryz.func80 (hn [(5,[19,38]),(6,[20,21,23,24,25,26,30,32,36,39,40,41,42,47,48,55])] [(1,1)] [(20,1),(103,1)]) ?_;have a1:= @QL;have a2:= @Sj;have a3:= @Rf;have a4:= @QD;have a5:= @Il;have l1:=λn1 n2 n3 n4:Nat=>Av λn τ=>∃(c:AB×AU) (a:AO) (d:Int),(τ 1=si b/\τ 4=bA 15 z7/\τ 5=bA 2 (FE c.2)/\τ 6=bA 15 [vS 5 Gx a.World.Cells,vS 2 Hu a.World.AE,vS 2 Ht a.World.Af,vS 1 eS a.World.AK,vS 1 eS a.World.AA,vS 3 GX a.World.BL,si a.Start,vS 2 DS a.Init.Sync.AE,si a.Init.Sync.Tx,vS 1 eB a.Init.Sync.Bp,vS 3 An a.Init.Sync.AA,vS 1 eI a.Init.Cells,vS 1 eI a.Init.AK,vS 1 eI a.Init.Count,vO 7 BX a.AF]/\τ 26=vS 1 eI c.1.Count/\τ 27=si (c.1.Count.length:Int)/\τ 28=si d)/\AZ b c n a d=some r;have c1:=λn1 n2 n3 n4:Nat=>Bm 1 λτ=>∃(i:List Int),(τ 0=vS 1 Ww i/\τ 1=si b/\τ 4=bA 15 z7)/\J1 b i=some r;unfold GR at h;exact walk
end
namespace EF
def J2 (e:List AO):AB8 ((List AO)×Int):=
some (e,0)
def L1 (b:Int) (a:Aw) (L1:(List AO)->Int->AB8 ((List AO)×Int)) (d:List AO) (c:Int):AB8 ((List AO)×Int):=
if decide (c<(a.AF.length:Int))then
(Fh a c).bind λj=>
if 0≤c/\0≤(if(a.AF.length:Int)<(A1 (c+b))then(a.AF.length:Int)else(A1 (c+b)))/\c.toNat≤((if(a.AF.length:Int)<(A1 (c+b))then(a.AF.length:Int)else(A1 (c+b))).toNat)/\((if(a.AF.length:Int)<(A1 (c+b))then(a.AF.length:Int)else(A1 (c+b))).toNat)≤a.AF.length then
if Ak (d.length+1) 328=true then
L1 (d++[(AO.mk a.World c j ((a.AF.drop c.toNat).take (((if(a.AF.length:Int)<(A1 (c+b))then(a.AF.length:Int)else(A1 (c+b))).toNat)-c.toNat)))]) (A1 (c+b))
else none
else none
else
J2 d
def AZ (b:Int) (a:Aw):Nat->(List AO)->Int->AB8 ((List AO)×Int)
|0,_,_=>none
|n+1,d,c=>L1 b a (AZ b a n) d c
def J1 (b:Int) (a:Aw) (f:Bool):AB8 ((List AO)×Int):=
if f then
some ([],1)
else
AZ b a BP [] 0
end EF
section
open EF
def EF (a:Aw) (b:Int):AB8 ((List AO)×Int):=
(Ec a).bind λi=>
if i.2 != 0 then
some ([],12)
else
if decide (b<1)then
J1 b a true
else
J1 b a (decide (b>16))
theorem ML {a:Aw} {b:Int} {r:(List AO)×Int} (h:EF a b=some r):Says Tryz.prog 42 [.agg (IV a),si b] (.BM [vO 15 JM r.1,si r.2]):=by refine kO mix Tryz.func42 (hn [(2,[24,32,38,44]),(8,[31,52])]) ?_;have a1:= @MJ;have a2:= @QE;have l1:=λn1 n2 n3 n4:Nat=>Av λn τ=>∃(d:List AO) (c:Int),(τ 1=si b/\τ 2=bA 7 (IV a)/\τ 8=vO 15 JM d/\τ 9=si c)/\AZ b a n d c=some r;unfold EF at h;exact walk
end
namespace FH
def J1 (o:List D5):AB8 (List D5):=
some o
def L1 (a:List AG) (c:AD) (L1:AB->(List D5)->Int->AB8 (List D5)) (e:AB) (d:List D5) (b:Int):AB8 (List D5):=
if decide (b<(a.length:Int))then
(gt a b).bind λj=>
(Fm c e.Sync j.Thread).bind λi=>
(gt d b).bind λl=>
(gt (d.set b.toNat (D5.mk i.1 l.MX)) b).bind λq=>
(BQ c e j).bind λp=>
L1 p.1 ((d.set b.toNat (D5.mk i.1 l.MX)).set b.toNat (D5.mk q.HW i.2)) (A1 (b+1))
else
J1 d
def AZ (a:List AG) (c:AD):Nat->AB->(List D5)->Int->AB8 (List D5)
|0,_,_,_=>none
|n+1,e,d,b=>L1 a c (AZ a c n) e d b
end FH
section
open FH
def FH (c:AD) (f:AB) (a:List AG):AB8 (List D5):=
if 0≤(a.length:Int)/\(a.length:Int)≤(a.length:Int)/\Ak a.length 48=true then
AZ a c BP f (List.replicate a.length (D5.mk [] [])) 0
else none
theorem Mp {c:AD} {f:AB} {a:List AG} {r:List D5} (h:FH c f a=some r):Says Tryz.prog 74 [.agg (Ah c),.agg (A3 f),vS 7 BX a] (vS 2 K6 r):=by refine kF mix Tryz.func74 (hn [(4,[26]),(7,[21,23,33,34,35,36,45]),(9,[28])] (C:=[(16,1)]) (E:=[(1,(Rc 10 [.C 2,.Z 10,.o (.mk 2 48 [.sl false 1 [],.sl false 1 []] (.t 11) (.t 11)),.b 7 [21,23,33,34,35,36,45] (.mv (.t 12))]))])) ?_;have a1:= @WA;have a2:= @HE;have l1:=λn1 n2 n3 n4:Nat=>Av λn τ=>∃(e:AB) (d:List D5) (b:Int),(τ 3=bA 6 (Ah c)/\τ 4=bA 7 (A3 e)/\τ 7=vO 2 K6 d/\τ 13=vS 7 BX a/\τ 14=si (a.length:Int)/\τ 15=si b)/\AZ a c n e d b=some r;unfold FH at h;exact walk
end
namespace HB
def J1 (a:Int) (b:Aw) (c:Bool):AB8 (AB×Int):=
if c then
some ((AB.mk (AP.mk [] 0 [] []) [] [] []),1)
else
(Fh b a).bind λe=>
some (e,0)
end HB
section
open HB
def HB (b:Aw) (a:Int):AB8 (AB×Int):=
(Ec b).bind λd=>
if d.2 != 0 then
some ((AB.mk (AP.mk [] 0 [] []) [] [] []),12)
else
if decide (a<0)then
J1 a b true
else
J1 a b (decide (a>(b.AF.length:Int)))
theorem UD {b:Aw} {a:Int} {r:AB×Int} (h:HB b a=some r):Says Tryz.prog 44 [.agg (IV b),si a] (.BM [.agg (Dt r.1),si r.2]):=by refine kO mix Tryz.func44 (hn [(2,[20])]) ?_;have a1:= @MJ;have a2:= @QE;unfold HB at h;exact walk
end
end Go.Abs
