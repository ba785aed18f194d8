/- Typed programs of Go functions, and that the functions do what these say. -/
import Derived.Test.YthmijagacgnmkaaGreatDoorWalkK
set_option linter.unusedSimpArgs false
set_option linter.unusedVariables false
namespace Go.Abs
open Go.Proofs
set_option maxRecDepth 1000000
set_option maxHeartbeats 4000000
def f217c:IC:=(Ra 0 [.K 4 0,.K 5 0]
(Sq (Ra 0 [.K 6 0]
(Bl 0 (Sq (Ra 10 [.C 6,.C 1,.Z 11,.O .lss 10 12]
(cX 13 0))
(Sq (Bk 1 (Ra 16 [.C 1,.C 6,.I 11 16 17,.A 11 18,.b 7 [33,48,57] (.bx 11 (.c (.agg z5))),.S 11 7 19]
(Ra 20 [.y 0 (.cp (.t 0)),.A 11 7,.o (.Up 239 [] (.t 20) none [.t 21]),.M 8 22]
(Od 1 (Ra 23 [.r 0 3,.Z 26,.P .add 27 1,.P .gtr 28 6]
(Ci 29 (Rc 0 [.K 8 2])))
(Sq (Ra 30 [.C 8,.P .neq 30 0]
(Ci 31 (Rb 32 [.C 8,.f 1 7,.M 4 32,.M 5 34])))
(Sq (.apd ⟨42,43,45,7,8,9,11,12⟩ [i1 35 0 (.cp (.t 0)),i1 36 0 (.Hx (.t 35)),Np 37 0 3 36,Zu 38 0 37,iA 39 11 7,iZ 40 38,i0 41 (.OD 11 [z5] [(0,.c (.agg z5))]),⟨some ⟨42,[43],[]⟩,.app 11 176 (.t 38) (.t 41),none⟩,wZ 43 42 11 42 40,iS 11 43 39,i1 44 0 (.Hx (.t 35)),Np 45 0 3 44,⟨none,.std (.t 45),none⟩])
(Ra 47 [.y 0 (.cp (.t 0)),.f 9 7,.o (.Up 217 [] (.t 47) none [.t 49]),.w 46,.C 50,.w 51,.o (.ext (.t 46) 0),.o (.ext (.t 46) 1),.M 8 51,.M 9 52]
(Sq (Ra 53 [.C 8,.Q 53 0]
(Ci 54 (Rc 56 [.y 0 (.cp (.t 0)),.f 10 7,.o (.Up 217 [] (.t 56) none [.t 58]),.w 55,.C 59,.w 60,.o (.ext (.t 55) 0),.o (.ext (.t 55) 1),.M 8 60,.M 9 61])))
(Sq (.dS [(0,0,12,62)] [i0 62 .fl,i1 63 0 (.cp (.t 0)),i1 64 0 (.Hx (.t 63)),Np 65 0 3 64,Zu 66 0 65,i1 67 0 (.cp (.t 0)),i1 68 0 (.Hx (.t 67)),Np 69 0 3 68,Zu 70 0 69,iZ 71 70,iP 72 .sub 71 1,i0 73 (.qZ 11 false (.t 66) none (some (.t 72)) none),i1 74 0 (.Hx (.t 0)),Np 75 0 3 74,iS 1 75 73])
(Ra 76 [.C 8,.P .neq 76 0]
(Ci 77 (Rb 78 [.C 8,.C 9,.M 4 78,.M 5 79]))))))))))))
(Rc 14 [.C 6,.P .add 14 1,.M 6 15])))))
(Rb 0 [.K 4 0,.K 5 0])))
def f217g:Gi:=⟨[(20,[0]),(23,[0]),(24,[0]),(25,[0]),(26,[0]),(33,[7]),(35,[0]),(36,[0]),(37,[0]),(38,[0]),(43,[42]),(44,[0]),(45,[0]),(47,[0]),(48,[7]),(56,[0]),(57,[7]),(63,[0]),(64,[0]),(65,[0]),(66,[0]),(67,[0]),(68,[0]),(69,[0]),(70,[0]),(74,[0]),(75,[0])]⟩
def f217r:List RV:=[.tmp 4,.tmp 5]
namespace Bv
def J3 (s:BE):ABr (Int×Int×BE):=
some (0,0,s)
def J2 (L1:BE->Int->ABr (Int×Int×BE)) (c:Int) (d:BE) (p q:Int):ABr (Int×Int×BE):=
if 0≤(Ay ((d.GH.length:Int)-1))/\((Ay ((d.GH.length:Int)-1)).toNat)≤d.GH.length then
if p != 0 then
some (p,q,(BE.mk d.p d.BX (d.GH.take ((Ay ((d.GH.length:Int)-1)).toNat)) d.Lx d.YO))
else
L1 (BE.mk d.p d.BX (d.GH.take ((Ay ((d.GH.length:Int)-1)).toNat)) d.Lx d.YO) (Ay (c+1))
else none
def J1 (L1:BE->Int->ABr (Int×Int×BE)) (R100:BE->(List AP)->ABr (Int×Int×BE)) (c:Int) (b:Int×BE) (a:AP) (i:Int):ABr (Int×Int×BE):=
if i != 0 then
some (i,a.FG,b.2)
else
if Af (b.2.GH.length+1) 176=true then
(gt (b.2.GH++[(AP.mk 0 0 (⟨#[]⟩:ABs) (⟨#[]⟩:ABs) [] (A7.mk 0 0 (⟨#[]⟩:ABs) []) [] [])]) (b.2.GH.length:Int)).bind λt=>
(R100 (BE.mk b.2.p b.2.BX ((b.2.GH++[(AP.mk 0 0 (⟨#[]⟩:ABs) (⟨#[]⟩:ABs) [] (A7.mk 0 0 (⟨#[]⟩:ABs) []) [] [])]).set b.2.GH.length a) b.2.Lx b.2.YO) a.Body).bind λj=>
if j.1==0 then
(R100 j.2.2 a.Else).bind λo=>
J2 L1 c o.2.2 o.1 o.2.1
else
J2 L1 c j.2.2 j.1 j.2.1
else none
def L1 (R100:BE->(List AP)->ABr (Int×Int×BE)) (e:List AP) (L1:BE->Int->ABr (Int×Int×BE)) (f:BE) (c:Int):ABr (Int×Int×BE):=
if decide (c<(e.length:Int))then
(gt e c).bind λa=>
(BC f a).bind λb=>
if decide ((Ay ((b.2.GH.length:Int)+1))>6)then
J1 L1 R100 c b a 2
else
J1 L1 R100 c b a b.1
else
J3 f
def AZ (R100:BE->(List AP)->ABr (Int×Int×BE)) (e:List AP):Nat->BE->Int->ABr (Int×Int×BE)
|0,_,_=>none
|n+1,f,c=>L1 R100 e (AZ R100 e n) f c
end Bv
section
open Bv
def Bv (R100:BE->(List AP)->ABr (Int×Int×BE)) (l:BE) (e:List AP):ABr (Int×Int×BE):=
AZ R100 e BU l 0
theorem TR {R100:BE->(List AP)->ABr (Int×Int×BE)} (H100:∀{x0 x1 r},R100 x0 x1=some r->A8 Tryz.prog 217 [bA 6 (HI x0),vS 11 A4 x1] (.BI [si r.1,si r.2.1]) [bA 6 (HI r.2.2),.dead]) {l:BE} {e:List AP} {r:Int×Int×BE} (h:Bv R100 l e=some r):A8 Tryz.prog 217 [bA 6 (HI l),vS 11 A4 e] (.BI [si r.1,si r.2.1]) [bA 6 (HI r.2.2),.dead]:=by refine wL mix Tryz.func217 (I:=⟨f217c,f217g,f217r⟩) ?_;simp only[f217c,f217g,f217r];have a1:= @TS;have a2:= @H100;have l1:=λn1 n2 n3 n4:Nat=>A0 λn τ=>∃(f:BE) (c:Int),(τ 0=bA 6 (HI f)/\τ 1=vS 11 A4 e/\τ 6=si c)/\AZ R100 e n f c=some r;have c1:=λn1 n2 n3 n4:Nat=>Bo 1 λτ=>∃(c:Int) (b:Int×BE) (a:AP) (i:Int),(τ 0=bA 6 (HI b.2)/\τ 1=vS 11 A4 e/\τ 6=si c/\τ 7=bA 11 [si a.Op,si a.FG,BR a.Name,BR a.Arg,vS 4 A9 a.Index,si a.Expr.Op,si a.Expr.N,BR a.Expr.Name,vS 4 A9 a.Expr.L,vS 11 A4 a.Body,vS 11 A4 a.Else]/\τ 8=si i)/\J1 (AZ R100 e n1) R100 c b a i=some r;unfold Bv at h;exact walk
end
def OO:Nat->(BE->(List AP)->ABr (Int×Int×BE))
|0=>(λ_ _=>none)
|n+1=>Bv ((OO n))
def Eb (n:Nat):BE->(List AP)->ABr (Int×Int×BE):=(OO n)
theorem Rf (n:Nat):(∀{x0 x1 r},(Eb n) x0 x1=some r->A8 Tryz.prog 217 [bA 6 (HI x0),.sl false 11 (x1.map A4)] (.BI [si r.1,si r.2.1]) [bA 6 (HI r.2.2),.dead]):=by
  induction n with
  |zero=>exactλh=>EO h
  |succ n ih=>exactλh=>TR ih h
theorem Rg {n:Nat}:∀{x0 x1 r},(Eb n) x0 x1=some r->A8 Tryz.prog 217 [bA 6 (HI x0),.sl false 11 (x1.map A4)] (.BI [si r.1,si r.2.1]) [bA 6 (HI r.2.2),.dead]:=(Rf n)
def f17c:IC:=(Ra 0 [.b 1 [10,14,18,21,22,26,35] (.bx 7 (.t 0)),.K 2 0,.K 3 0]
(Sq (Ra 10 [.f 6 1,.Z 11,.P .gtr 12 400]
(Ci 13 (Rb 0 [.K 2 0,.K 3 2])))
(Sq (Ra 14 [.F 0 1,.A 6 14,.c 61 [15] 0,.N 16]
(Ci 17 (Rb 0 [.K 2 0,.K 3 1])))
(Ra 18 [.F 0 1,.A 6 18,.c 15 [19] 2,.b 4 [37] (.bx 7 (.c (.agg z0))),.S 7 4 20]
(Ra 21 [.F 0 1,.h 1 4 21,.Z 23,.o (.mk 1 24 z18 (.t 24) (.t 24)),.b 5 [45,48,49,58,61,62,73] (.mv (.t 25))]
(Sq (Ra 26 [.f 6 1,.Z 27,.Y 0]
(Bl 0 (Ra 30 [.O .lss 29 28]
(Sq (cX 30 0)
(Sq (Bk 1 (Ra 31 [.C 29,.I 7 27 29,.A 7 32,.b 7 [46,56,59,63,67] (.bx 7 (.c (.agg z2))),.M 6 31,.S 7 7 33]
(Ra 35 [.F 0 1,.A 6 35,.y 4 (.ld true 7 (.t 4)),.A 7 7,.b 39 [34,40,41] (.call 16 [.t 36,.t 37,.t 38] 2),.w 34,.y 39 (.cp (.t 39)),.w 40,.y 39 (.ext (.t 34) 0),.y 39 (.ext (.t 34) 1),.b 8 [74] (.bx 7 (.c (.agg z0))),.S 7 8 40,.b 9 [42] (.mv (.t 41))]
(Sq (Ra 42 [.y 9 (.cp (.t 9)),.N 42,.C 43,.G 44 false,.y 5 (.cp (.t 5)),.f 0 7,.y 5 (.Yz 1 (.t 45) (.t 47)),.l 5 48,.o (.ld true 7 (.t 7)),.c 62 [49,50] 0,.N 51,.e,.V 44 52]
(Ci 53 (Rb 54 [.C 6,.M 2 54,.K 3 12])))
(Sq (.dS [(5,0,18,55)] [i0 55 .fl,Np 56 7 0 7,iL 57 56,i1 58 5 (.cp (.t 5)),Np 59 7 0 7,iL 60 59,wZ 61 5 1 58 60,Zu 62 5 61,Np 63 7 1 7,iL 64 63,iQ 65 64 3,iC 66 65,jFr 67 7 1 7 66 false,jL 68 67 66 false,jP 69 .eql 68 23 66 false,iOr 70 66 69,i0 71 (.OD 1 [[sb false]] [(0,.t 70)]),i0 72 (.app 1 1 (.t 62) (.t 71)),wZ 73 5 1 5 57,iS 1 73 72])
(Rc 74 [.y 8 (.ld true 7 (.t 8)),.S 7 4 74]))))))
(Rc 75 [.P .add 29 1,.w 29,.C 75]))))))
(Rb 0 [.K 2 0,.K 3 0])))))))
def f17g:Gi:=⟨[(10,[1]),(14,[1]),(18,[1]),(21,[1]),(22,[1]),(26,[1]),(34,[39]),(35,[1]),(37,[4]),(40,[39]),(41,[39]),(42,[9]),(45,[5]),(46,[7]),(48,[5]),(49,[5]),(56,[7]),(58,[5]),(59,[7]),(61,[5]),(62,[5]),(63,[7]),(67,[7]),(73,[5]),(74,[8])]⟩
def f17r:List RV:=[.tmp 2,.tmp 3]
namespace Bc
def J3:ABr (Int×Int):=
some (0,0)
def J2 (L1:AD->(List (List Bool))->Int->ABr (Int×Int)) (b:Int) (e:AD×Bool) (j:List (List Bool)):ABr (Int×Int):=
L1 e.1 j (Ay (b+1))
def J1 (L1:AD->(List (List Bool))->Int->ABr (Int×Int)) (c:List (List Bool)) (b:Int) (e:AD×Bool) (d:AE) (l:Bool):ABr (Int×Int):=
if l then
some (b,12)
else
(gt c d.Thread).bind λi=>
if d.Kind==3 then
if Af (i.length+1) 1=true then
J2 L1 b e (c.set d.Thread.toNat (i++[true]))
else none
else
if Af (i.length+1) 1=true then
J2 L1 b e (c.set d.Thread.toNat (i++[d.Kind==23]))
else none
def L1 (a:Ac) (L1:AD->(List (List Bool))->Int->ABr (Int×Int)) (f:AD) (c:List (List Bool)) (b:Int):ABr (Int×Int):=
if decide (b<(a.AH.length:Int))then
(gt a.AH b).bind λd=>
(BW a.World f d).bind λe=>
if !e.2 then
J1 L1 c b e d true
else
(gt c d.Thread).bind λs=>
(An s d).bind λq=>
J1 L1 c b e d (!q)
else
J3
def AZ (a:Ac):Nat->AD->(List (List Bool))->Int->ABr (Int×Int)
|0,_,_,_=>none
|n+1,f,c,b=>L1 a (AZ a n) f c b
end Bc
section
open Bc
def Bc (a:Ac):ABr (Int×Int):=
if decide ((a.AH.length:Int)>400)then
some (0,2)
else
(Bh a.World).bind λo=>
if !o then
some (0,1)
else
(Cc a.World).bind λp=>
if 0≤(a.World.AA.length:Int)/\(a.World.AA.length:Int)≤(a.World.AA.length:Int)/\Af a.World.AA.length 24=true then
AZ a BU p (List.replicate a.World.AA.length ([]:List Bool)) 0
else none
theorem HR {a:Ac} {r:Int×Int} (h:Bc a=some r):Says Tryz.prog 17 [.agg (FP a)] (.BI [si r.1,si r.2]):=by refine wO mix Tryz.func17 (I:=⟨f17c,f17g,f17r⟩) ?_;simp only[f17c,f17g,f17r];have a1:= @OZ;have a2:= @I4;have a3:= @Ht;have a4:= @N9;have l1:=λn1 n2 n3 n4:Nat=>A0 λn τ=>∃(f:AD) (c:List (List Bool)) (b:Int),(τ 1=bA 7 (FP a)/\τ 4=bA 7 (Hl f)/\τ 5=vO 1 mD c/\τ 27=vS 7 Bi a.AH/\τ 28=si (a.AH.length:Int)/\τ 29=si b)/\AZ a n f c b=some r;unfold Bc at h;exact walk
end
namespace C8
def J4 (a:Int) (b:Int×Ab) (q:Ac) (y:AD):ABr Ac:=
(Bw b.2 y q.World (if 60<(if 0>a then 0 else a)then 60 else(if 0>a then 0 else a)) false).bind λt=>
if Af (q.AH.length+t.1.length) 88=true then
(D6 (Ac.mk q.World (q.AH++t.1))).bind λz=>
if z.2 != 0 then
(HG).bind λaa=>
some (Ac.mk aa [])
else
some (Ac.mk q.World (q.AH++t.1))
else none
def J3 (L2:Ac->AD->Int->ABr Ac) (f:Int) (w:Ac) (x:AD):ABr Ac:=
L2 w x (Ay (f+1))
def L2 (d:List AE) (a:Int) (b:Int×Ab) (L2:Ac->AD->Int->ABr Ac) (e:Ac) (o:AD) (f:Int):ABr Ac:=
if decide (f<(d.length:Int))then
(gt d f).bind λv=>
(BZ e.World o v).bind λu=>
if u.2 then
if Af (e.AH.length+1) 88=true then
J3 L2 f (Ac.mk e.World (e.AH++[v])) u.1
else none
else
J3 L2 f e o
else
J4 a b e o
def Cf (d:List AE) (a:Int) (b:Int×Ab):Nat->Ac->AD->Int->ABr Ac
|0,_,_,_=>none
|n+1,e,o,f=>L2 d a b (Cf d a b n) e o f
def J2 (a:Int) (c:AB) (i:AD) (b:Int×Ab) (d:List AE):ABr Ac:=
Cf d a b BU (Ac.mk c []) i 0
def L1 (a:Int) (c:AB) (i:AD) (b:Int×Ab) (L1:(List AE)->Int->ABr Ac) (l:List AE) (j:Int):ABr Ac:=
if decide (j≤(Ay (1+b.1)))then
if Af (l.length+2) 88=true then
L1 (l++[(AE.mk 0 20 j 0 0 [] []),(AE.mk j 1 (-1) 0 (-1) [] [])]) (Ay (j+1))
else none
else
J2 a c i b l
def AZ (a:Int) (c:AB) (i:AD) (b:Int×Ab):Nat->(List AE)->Int->ABr Ac
|0,_,_=>none
|n+1,l,j=>L1 a c i b (AZ a c i b n) l j
def J1 (a:Int) (s:List Int):ABr Ac:=
(HG).bind λc=>
(Eo c).bind λi=>
(Ak (Ab.mk s 0) 3).bind λb=>
AZ a c i b BU [(AE.mk 0 1 (-1) 0 (-1) [] [])] 1
end C8
section
open C8
def C8 (p:List Int) (a:Int):ABr Ac:=
if decide ((p.length:Int)>600)then
if 600≤p.length then
J1 a (p.take 600)
else none
else
J1 a p
theorem YG {p:List Int} {a:Int} {r:Ac} (h:C8 p a=some r):Says Tryz.prog 50 [vS 1 Yf p,si a] (.agg (FP r)):=by refine kF mix Tryz.func50 (hn [(5,[32,72]),(6,[27,28,54,55,63,64,68,70,71,74,75,81,83,91]),(8,[40,47,51,52]),(12,[57,65])] [(1,1)] [(20,1)] [(12,false,8,[]),(5,false,6,[(0,0,7)]),(5,false,6,[(0,1,7)]),(5,false,6,[(0,2,7)]),(5,false,6,[(0,3,7)]),(5,false,6,[(0,4,7)]),(5,false,6,[(0,5,7)])]) ?_;have a1:= @YH;have a2:= @Lu;have a3:= @DO;have a4:= @ZL;have a5:= @Jx;have a6:= @Kl;have l2:=λn1 n2 n3 n4:Nat=>A0 λn τ=>∃(d:List AE) (b:Int×Ab) (e:Ac) (o:AD) (f:Int),(τ 1=si a/\τ 4=bA 7 z10/\τ 5=bA 2 (Gz b.2)/\τ 6=bA 7 (V2 e)/\τ 7=bA 7 (BH o)/\τ 47=vS 7 Bi d/\τ 48=si (d.length:Int)/\τ 49=si f)/\Cf d a b n e o f=some r;have l1:=λn1 n2 n3 n4:Nat=>A0 λn τ=>∃(c:AB) (i:AD) (b:Int×Ab) (l:List AE) (j:Int),(τ 1=si a/\τ 4=bA 7 z10/\τ 5=bA 2 (Gz b.2)/\τ 6=bA 7 [vS 5 Hj c.Cells,vS 2 Je c.AF,vS 2 Jd c.Ah,vS 1 eS c.AK,vS 1 eS c.AA,vS 3 HP c.BF,.own false 7 []]/\τ 7=bA 7 (BH i)/\τ 8=vO 7 Ic l/\τ 9=si (Ay (1+b.1))/\τ 10=si j)/\AZ a c i b n l j=some r;have c1:=λn1 n2 n3 n4:Nat=>Bo 1 λτ=>∃(s:List Int),(τ 0=vS 1 Yf s/\τ 1=si a/\τ 4=bA 7 z10)/\J1 a s=some r;unfold C8 at h;exact walk
end
namespace Ep
def J5 (q:List Int):ABr (List Int):=
some q
def J4 (L2:(List Int)->(List Ae)->Int->ABr (List Int)) (b:Int) (p:List Int) (s:List Ae):ABr (List Int):=
L2 p s (Ay (b+1))
def J3 (L2:(List Int)->(List Ae)->Int->ABr (List Int)) (c:List Int) (e:List Ae) (b:Int) (l:Ae×Bool) (d:AE) (u:Bool):ABr (List Int):=
if u then
(gt c d.Obj).bind λac=>
J4 L2 b (c.set d.Obj.toNat b) (e.set d.Obj.toNat l.1)
else
J4 L2 b c (e.set d.Obj.toNat l.1)
def J2 (L2:(List Int)->(List Ae)->Int->ABr (List Int)) (c:List Int) (e:List Ae) (b:Int) (f:List Be) (d:AE) (t:Bool):ABr (List Int):=
if t then
J4 L2 b c e
else
(gt e d.Obj).bind λy=>
(gt f b).bind λz=>
(Gw y d.Thread (d.Kind==4) z).bind λl=>
if l.2 then
(gt c d.Obj).bind λaa=>
J3 L2 c e b l d (decide (aa<0))
else
J3 L2 c e b l d false
def L2 (a:Ac) (f:List Be) (L2:(List Int)->(List Ae)->Int->ABr (List Int)) (c:List Int) (e:List Ae) (b:Int):ABr (List Int):=
if decide (b<(a.AH.length:Int))then
(gt a.AH b).bind λd=>
(Ge d).bind λw=>
if !w then
J2 L2 c e b f d true
else
(HD a.World d).bind λx=>
J2 L2 c e b f d x
else
J5 c
def Cf (a:Ac) (f:List Be):Nat->(List Int)->(List Ae)->Int->ABr (List Int)
|0,_,_,_=>none
|n+1,c,e,b=>L2 a f (Cf a f n) c e b
def J1 (a:Ac) (o:List Int):ABr (List Int):=
if 0≤(a.World.Cells.length:Int)/\(a.World.Cells.length:Int)≤(a.World.Cells.length:Int)/\Af a.World.Cells.length 40=true then
(B2 a.World).bind λv=>
(HZ a.World v a.AH).bind λf=>
Cf a f BU o (List.replicate a.World.Cells.length (Ae.mk 0 0 [])) 0
else none
def L1 (a:Ac) (L1:(List Int)->Int->ABr (List Int)) (j:List Int) (i:Int):ABr (List Int):=
if decide (i<((List.replicate a.World.Cells.length (0:Int)).length:Int))then
(gt j i).bind λab=>
L1 (j.set i.toNat (-1)) (Ay (i+1))
else
J1 a j
def AZ (a:Ac):Nat->(List Int)->Int->ABr (List Int)
|0,_,_=>none
|n+1,j,i=>L1 a (AZ a n) j i
end Ep
section
open Ep
def Ep (a:Ac):ABr (List Int):=
if 0≤(a.World.Cells.length:Int)/\(a.World.Cells.length:Int)≤(a.World.Cells.length:Int)/\Af a.World.Cells.length 8=true then
AZ a BU (List.replicate a.World.Cells.length (0:Int)) 0
else none
theorem Td {a:Ac} {r:List Int} (h:Ep a=some r):Says Tryz.prog 31 [.agg (FP a)] (vO 1 eI r):=by refine kO mix Tryz.func31 (hn [(1,[11,12,25,26,30,32,35,38,50]),(3,[16,21,23,80,83,87,91,93]),(5,[56,59,73,77]),(8,[57,61,63,74,81,88])] (E:=[(1,(Rc 11 [.F 0 1,.h 1 0 11,.Z 13,.o (.mk 1 8 [si 0] (.t 14) (.t 14)),.b 3 [16,21,23,80,83,87,91,93] (.mv (.t 15))])),(7,(Rc 25 [.F 0 1,.h 1 0 25,.Z 27,.o (.mk 3 40 [si 0,si 0,.sl false 1 []] (.t 28) (.t 28)),.b 5 [56,59,73,77] (.mv (.t 29))]))])) ?_;have a1:= @Jw;have a2:= @Qy;have a3:= @Vm;have a4:= @LC;have a5:= @Ta;have l2:=λn1 n2 n3 n4:Nat=>A0 λn τ=>∃(f:List Be) (c:List Int) (e:List Ae) (b:Int),(τ 1=bA 7 (FP a)/\τ 3=vO 1 eI c/\τ 5=vO 3 G5 e/\τ 6=vS 2 G6 f/\τ 39=vS 7 Bi a.AH/\τ 40=si (a.AH.length:Int)/\τ 41=si b)/\Cf a f n c e b=some r;have l1:=λn1 n2 n3 n4:Nat=>A0 λn τ=>∃(j:List Int) (i:Int),(τ 1=bA 7 (FP a)/\τ 3=vO 1 eI j/\τ 17=si ((List.replicate a.World.Cells.length (0:Int)).length:Int)/\τ 18=si i)/\AZ a n j i=some r;unfold Ep at h;exact walk
end
namespace CW
def J5 (t:AE):ABr (AE×Bool):=
some (t,true)
def J4 (d:AE) (c:AL) (a:Aa) (u:Bool):ABr (AE×Bool):=
if u then
(gt c.CS a.B).bind λs=>
if Af (d.C2.length+s.length) 8=true then
J5 (AE.mk d.Thread d.Kind d.Obj d.Value d.Site d.DE (d.C2++s))
else none
else
J5 d
def J3 (c:AL) (a:Aa) (d:AE):ABr (AE×Bool):=
if a.Op==8 then
J4 d c a true
else
if a.Op==9 then
J4 d c a true
else
J4 d c a (a.Op==26)
def J2 (b i j:Int) (c:AL) (a:Aa) (v:Bool):ABr (AE×Bool):=
if v then
(gt c.CS a.C).bind λq=>
if Af (q.length) 8=true then
J3 c a (AE.mk b i j 0 a.Site q [])
else none
else
J3 c a (AE.mk b i j 0 a.Site [] [])
def J1 (e:BL) (f:Ai) (b:Int) (l:Bool):ABr (AE×Bool):=
if l then
some ((AE.mk 0 0 0 0 0 [] []),false)
else
(gt f.AA b).bind λc=>
(gt e.AA b).bind λx=>
(gt x.Bg c.PC).bind λa=>
(gt f.Sync.AA b).bind λo=>
if o.Status==1 then
some ((AE.mk b 1 (-1) 0 (-1) [] []),true)
else
if o.Status==4 then
some ((AE.mk b 17 o.Es 0 a.Site [] []),true)
else
if o.Status==2 then
(Hr a.Op).bind λi=>
(E8 a c).bind λj=>
if i==0 then
some ((AE.mk 0 0 0 0 0 [] []),false)
else
if a.Op==10 then
(gt c.CS a.A).bind λp=>
if Af (p.length) 8=true then
J3 c a (AE.mk b i j 0 a.Site p [])
else none
else
if a.Op==7 then
J2 b i j c a (a.Op==7)
else
J2 b i j c a (a.Op==9)
else
some ((AE.mk 0 0 0 0 0 [] []),false)
end CW
section
open CW
def CW (e:BL) (f:Ai) (b:Int):ABr (AE×Bool):=
(Eh e f).bind λw=>
if !w then
J1 e f b true
else
if decide (b<0)then
J1 e f b true
else
J1 e f b (decide (b≥(e.AA.length:Int)))
theorem US {e:BL} {f:Ai} {b:Int} {r:AE×Bool} (h:CW e f b=some r):Says Tryz.prog 210 [.agg (JU e),.agg (KR f),si b] (.BI [.agg (Ic r.1),sb r.2]):=by refine kO mix Tryz.func210 (hn [(3,[21,32]),(4,[27,46,47,60,61]),(8,[38,90,103,126]),(9,[43,72,84,92,105,111,115,120,128]),(10,[67,68,69,78,79,80,88,89,97,101,102,110,124,125,133,134])] [(2,1),(20,3)] (E:=[(11,(Rc 60 [.F 0 4,.h 4 3 60,.C 2,.I 3 62 63,.U 1 64,.F 1 10,.x ⟨none,.WC (.t 67) (.c (si 17)),none⟩,.F 2 10,.x ⟨none,.WC (.t 68) (.t 66),none⟩])),(14,(Rc 72 [.f 0 9,.c 231 [73] 0,.A 6 9,.A 4 8,.c 232 [75,76] 0,.F 1 10,.x ⟨none,.WC (.t 78) (.t 74),none⟩,.F 2 10,.x ⟨none,.WC (.t 79) (.t 77),none⟩]))])) ?_;have a1:= @ZF;have a2:= @Vl;have a3:= @ZD;have c3:=λn1 n2 n3 n4:Nat=>Bo 3 λτ=>∃(c:AL) (a:Aa) (d:AE),(τ 6=bA 7 z2/\τ 8=bA 4 (E0 c)/\τ 9=bA 6 (EC a)/\τ 10=bA 7 (Ic d))/\J3 c a d=some r;have c1:=λn1 n2 n3 n4:Nat=>Bo 1 λτ=>∃(l:Bool),(τ 2=si b/\τ 3=bA 7 (JU e)/\τ 4=bA 7 (KR f)/\τ 6=bA 7 z2/\τ 25=sb l)/\J1 e f b l=some r;unfold CW at h;exact walk
end
namespace EV
def J1 (o:List Be):ABr (List Be):=
some o
def L1 (a:List AE) (c:AB) (L1:AD->(List Be)->Int->ABr (List Be)) (e:AD) (d:List Be) (b:Int):ABr (List Be):=
if decide (b<(a.length:Int))then
(gt a b).bind λj=>
(Dc c e.Sync j.Thread).bind λi=>
(gt d b).bind λl=>
(gt (d.set b.toNat (Be.mk i.1 l.JK)) b).bind λq=>
(BW c e j).bind λp=>
L1 p.1 ((d.set b.toNat (Be.mk i.1 l.JK)).set b.toNat (Be.mk q.E9 i.2)) (Ay (b+1))
else
J1 d
def AZ (a:List AE) (c:AB):Nat->AD->(List Be)->Int->ABr (List Be)
|0,_,_,_=>none
|n+1,e,d,b=>L1 a c (AZ a c n) e d b
end EV
section
open EV
def EV (c:AB) (f:AD) (a:List AE):ABr (List Be):=
if 0≤(a.length:Int)/\(a.length:Int)≤(a.length:Int)/\Af a.length 48=true then
AZ a c BU f (List.replicate a.length (Be.mk [] [])) 0
else none
theorem Su {c:AB} {f:AD} {a:List AE} {r:List Be} (h:EV c f a=some r):Says Tryz.prog 74 [.agg (Am c),.agg (BH f),vS 7 Bi a] (vS 2 G6 r):=by refine kF mix Tryz.func74 (hn [(4,[26]),(7,[21,23,33,34,35,36,45]),(9,[28])] (C:=[(16,1)]) (E:=[(1,(Rc 10 [.C 2,.Z 10,.o (.mk 2 48 [.sl false 1 [],.sl false 1 []] (.t 11) (.t 11)),.b 7 [21,23,33,34,35,36,45] (.mv (.t 12))]))])) ?_;have a1:= @VR;have a2:= @Ht;have l1:=λn1 n2 n3 n4:Nat=>A0 λn τ=>∃(e:AD) (d:List Be) (b:Int),(τ 3=bA 6 (Am c)/\τ 4=bA 7 (BH e)/\τ 7=vO 2 G6 d/\τ 13=vS 7 Bi a/\τ 14=si (a.length:Int)/\τ 15=si b)/\AZ a c n e d b=some r;unfold EV at h;exact walk
end
end Go.Abs
