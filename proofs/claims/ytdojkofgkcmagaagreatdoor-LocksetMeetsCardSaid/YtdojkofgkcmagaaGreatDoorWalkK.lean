/- Typed programs of Go functions, and that the functions do what these say. -/
import Derived.Test.YtdojkofgkcmagaaGreatDoorWalkI
import Derived.Test.YtdojkofgkcmagaaGreatDoorWalkJ
set_option linter.defProp false
set_option linter.unusedSimpArgs false
set_option linter.unusedVariables false
namespace Go.Abs
open Go.Proofs Tryz
set_option maxRecDepth 1000000
set_option maxHeartbeats 4000000
def f150c:IC:=(Ra 12 [.b 6 [119,142] (.bx 6 (.t 0)),.b 7 [18,25,30,31,33,34,37,38,40,41,45,46,49,50,54,55,57,58,61,62,64,65,66,72,73,77,78,84,85,87,88,89,92,93,97,100,103,104,106,107,110,111,113,114,117,118,125,126,127,128,130,131,134,135,136,137,140,141,149,150,151,152,154,155,157,158,159,160,163,169,174,175,177,178,181,182,184,185] (.bx 4 (.t 1)),.b 8 [90] (.bx 1 (.t 2)),.o (.bx 4 (.c (.agg z5))),.K 13 0,.B 14 false]
(Sq (Ra 17 [.A 6 6,.y 7 (.ld true 4 (.t 7)),.L 8,.C 3,.C 4,.c 146 [17,18,19,20,21] 0,.N 22]
(Ci 23 (Rb 24 [.o (.TK z5 []),.S 4 12 24,.K 13 0,.B 14 false])))
(Ra 25 [.y 7 (.ld true 4 (.t 7)),.c 193 [25] 2,.S 4 7 26]
(Ra 0 [.K 15 0]
(O6 3 (Ra 27 [.C 3]
(Bk 0 (Ra 29 [.q 27 1 28]
(Cn 28 (Rc 30 [.m 7 3 7,.L 8,.J 7 3 31 32,.H 7 0 33,.T 34 2]) (Ra 36 [.q 27 2 35]
(Cn 35 (Rc 37 [.m 7 3 7,.L 8,.J 7 3 38 39,.H 7 0 40,.T 41 5]) (O6 1 (Ra 43 [.q 27 6 42]
(Cn 42 .skip (Rc 44 [.q 27 10 42])))
(Cn 42 (Rc 45 [.m 7 0 7,.C 4,.L 8,.J 7 2 46 47,.H 7 0 49,.S 1 50 48]) (O6 2 (Ra 52 [.q 27 7 51]
(Cn 51 .skip (Rc 53 [.q 27 11 51])))
(Cn 51 (Rc 54 [.m 7 0 7,.C 4,.J 7 2 55 56,.H 7 0 57,.T 58 (-1)]) (Ra 60 [.q 27 8 59]
(Cn 59 (Ra 61 [.m 7 0 7,.C 4,.J 7 2 62 63,.m 7 1 64,.L 8,.o (.OR 1 [[si 0]] [(0,.t 67)]),.o (.app 1 8 (.t 66) (.t 68)),.b 16 [70,75] (.mv (.t 69))]
(Ra 70 [.y 16 (.cp (.t 16)),.o (.Vx 169 [] (.t 70) none [])]
(Rc 72 [.m 7 0 7,.C 4,.y 16 (.cp (.t 16)),.c 170 [75] 3,.J 7 2 73 74,.H 7 1 77,.S 1 78 76]))) (Ra 80 [.q 27 9 79]
(Cn 79 (.flo ⟨7,0,4,0,1,11,81,82⟩ [i0 81 .fl,i0 82 .fl,iC 83 4,Kf 84 7 0 7,Vg 85 7 84,iC 86 4,tY 87 7 2 85 86,Kf 88 7 1 87,Vg 89 7 88,i1 90 8 (.mkf 195 [.t 8]),i0 91 (.call 194 [.t 89,.t 90] 4),i1 92 7 (.nW 7 0 4 2 (.t 83))]
[Kf 93 7 1 92,iS 1 93 91]) (Ra 95 [.q 27 12 94]
(Cn 94 (Rc 96 [.L 8,.F 1 7,.S 1 97 96]) (Ra 99 [.q 27 13 98]
(Cn 98 (Rc 100 [.F 1 7,.T 100 (-1)]) (Ra 102 [.q 27 14 101]
(Cn 101 (Rc 103 [.m 7 3 7,.L 8,.J 7 3 104 105,.H 7 2 106,.x ⟨none,.st 1 (.t 107) (.c (sb true)),none⟩]) (Ra 109 [.q 27 15 108]
(Cn 108 (Rc 110 [.m 7 3 7,.L 8,.J 7 3 111 112,.H 7 2 113,.x ⟨none,.st 1 (.t 114) (.c (sb false)),none⟩]) (Ra 116 [.q 27 16 115]
(Cn 115 (Ra 117 [.m 7 0 7,.f 2 6,.C 4,.I 2 120 121,.U 1 122,.J 7 2 118 124,.H 7 0 125,.T 126 (-1)]
(Rc 127 [.F 3 7,.y 7 (.ZX (.t 127)),.L 8,.F 3 7,.y 7 (.ZX (.t 130)),.L 8,.C 4,.J 7 3 128 129,.H 7 0 134,.x ⟨none,.YM (.t 135) (.c (si 3)),none⟩,.J 7 3 131 132,.H 7 1 136,.x ⟨none,.YM (.t 137) (.t 133),none⟩])) (Ra 139 [.q 27 17 138]
(Cn 138 (Ra 140 [.m 7 0 7,.f 2 6,.C 4,.I 2 143 144,.U 1 145,.L 8,.J 7 2 141 147,.H 7 0 149,.S 1 150 148]
(Rc 151 [.F 3 7,.y 7 (.ZX (.t 151)),.L 8,.F 3 7,.y 7 (.ZX (.t 154)),.L 8,.J 7 3 152 153,.H 7 0 157,.x ⟨none,.YM (.t 158) (.c (si 2)),none⟩,.J 7 3 155 156,.H 7 1 159,.x ⟨none,.YM (.t 160) (.c (si 0)),none⟩])) (Ra 162 [.q 27 18 161]
(Cn 161 (Rc 163 [.y 7 (.ld true 4 (.t 7)),.C 4,.C 5,.o (.Vx 196 [] (.t 163) (some 3) [.t 164,.t 165]),.M 15 166]) (Ra 168 [.q 27 19 167]
(Cn 167 (Rc 169 [.y 7 (.ld true 4 (.t 7)),.C 4,.o (.Vx 197 [] (.t 169) (some 3) [.t 170]),.M 15 171]) (Ra 173 [.q 27 20 172]
(Cn 172 (Rc 174 [.m 7 3 7,.C 4,.J 7 3 175 176,.H 7 0 177,.T 178 1]) (Ra 180 [.q 27 22 179]
(Ci 179 (Rc 181 [.m 7 2 7,.C 4,.J 7 1 182 183,.x ⟨none,.st 1 (.t 184) (.c (sb true)),none⟩])))))))))))))))))))))))))))))))))))
(Rb 185 [.y 7 (.ld true 4 (.t 7)),.C 15,.S 4 12 185,.M 13 186,.B 14 true]))))))
def f150g:Gi:=⟨[(18,[7]),(25,[7]),(30,[7]),(31,[7]),(33,[7]),(34,[7]),(37,[7]),(38,[7]),(40,[7]),(41,[7]),(45,[7]),(46,[7]),(49,[7]),(50,[7]),(54,[7]),(55,[7]),(57,[7]),(58,[7]),(61,[7]),(62,[7]),(64,[7]),(65,[7]),(66,[7]),(70,[16]),(72,[7]),(73,[7]),(75,[16]),(77,[7]),(78,[7]),(84,[7]),(85,[7]),(87,[7]),(88,[7]),(89,[7]),(90,[8]),(92,[7]),(93,[7]),(97,[7]),(100,[7]),(103,[7]),(104,[7]),(106,[7]),(107,[7]),(110,[7]),(111,[7]),(113,[7]),(114,[7]),(117,[7]),(118,[7]),(119,[6]),(125,[7]),(126,[7]),(127,[7]),(128,[7]),(130,[7]),(131,[7]),(134,[7]),(135,[7]),(136,[7]),(137,[7]),(140,[7]),(141,[7]),(142,[6]),(149,[7]),(150,[7]),(151,[7]),(152,[7]),(154,[7]),(155,[7]),(157,[7]),(158,[7]),(159,[7]),(160,[7]),(163,[7]),(169,[7]),(174,[7]),(175,[7]),(177,[7]),(178,[7]),(181,[7]),(182,[7]),(184,[7]),(185,[7])]⟩
def f150r:List RV:=[.cell 12 true 4,.tmp 13,.tmp 14]
namespace Fk
def J3(j:AQ)(p:Int):ABu (AQ×Int×Bool):=
some (j,p,true)
def J2(c d b:Int)(a:AQ)(f:Int)(e:AF)(o:Bool):=
if o then
(gt a.AK d).bind λau=>
J3 (AQ.mk (a.AK.set d.toNat (AY.mk (-1) au.An)) a.Tx a.Bp a.AA) 0
else
if c==8 then
(gt a.AK d).bind λt=>
if Am (t.An.length+1) 8=true then
(MD (t.An++[b])).bind λaj=>
(slices_Compact aj).bind λal=>
J3 (AQ.mk (a.AK.set d.toNat (AY.mk t.B9 al)) a.Tx a.Bp a.AA) 0
else none
else
if c==9 then
(gt a.AK d).bind λac=>
(JO ac.An b).bind λao=>
J3 (AQ.mk (a.AK.set d.toNat (AY.mk ac.B9 ao)) a.Tx a.Bp a.AA) 0
else
if c==12 then
J3 (AQ.mk a.AK b a.Bp a.AA) 0
else
if c==13 then
J3 (AQ.mk a.AK (-1) a.Bp a.AA) 0
else
if c==14 then
(gt a.AA b).bind λad=>
J3 (AQ.mk a.AK a.Tx a.Bp (a.AA.set b.toNat (AM.mk ad.dg ad.Dy true))) 0
else
if c==15 then
(gt a.AA b).bind λae=>
J3 (AQ.mk a.AK a.Tx a.Bp (a.AA.set b.toNat (AM.mk ae.dg ae.Dy false))) 0
else
if c==16 then
(gt e.Ak d).bind λaf=>
(gt a.AK af.dm).bind λav=>
(gt a.AA b).bind λq=>
(gt (a.AA.set b.toNat (AM.mk 3 q.Dy q.dy)) b).bind λy=>
J3 (AQ.mk (a.AK.set af.dm.toNat (AY.mk (-1) av.An)) a.Tx a.Bp ((a.AA.set b.toNat (AM.mk 3 q.Dy q.dy)).set b.toNat (AM.mk y.dg d y.dy))) 0
else
if c==17 then
(gt e.Ak d).bind λz=>
(gt a.AK z.dm).bind λap=>
(gt a.AA b).bind λs=>
(gt (a.AA.set b.toNat (AM.mk 2 s.Dy s.dy)) b).bind λaa=>
J3 (AQ.mk (a.AK.set z.dm.toNat (AY.mk b ap.An)) a.Tx a.Bp ((a.AA.set b.toNat (AM.mk 2 s.Dy s.dy)).set b.toNat (AM.mk aa.dg 0 aa.dy))) 0
else
if c==18 then
(DZ a.Tx a.AA d f).bind λu=>
J3 (AQ.mk a.AK a.Tx a.Bp u.2) u.1
else
if c==19 then
(DO a.Tx a.AA d).bind λv=>
J3 (AQ.mk a.AK a.Tx a.Bp v.2) v.1
else
if c==20 then
(gt a.AA d).bind λab=>
J3 (AQ.mk a.AK a.Tx a.Bp (a.AA.set d.toNat (AM.mk 1 ab.Dy ab.dy))) 0
else
if c==22 then
(gt a.Bp d).bind λaw=>
J3 (AQ.mk a.AK a.Tx (a.Bp.set d.toNat true) a.AA) 0
else
J3 a 0
def J1(c d b:Int)(a:AQ)(f:Int)(e:AF)(l:Bool):=
if l then
(gt a.AK d).bind λaq=>
J3 (AQ.mk (a.AK.set d.toNat (AY.mk b aq.An)) a.Tx a.Bp a.AA) 0
else
if c==7 then
J2 c d b a f e (c==7)
else
J2 c d b a f e (c==11)
end Fk
section
open Fk
def Fk(e:AF)(i:AQ)(b c d f:Int):=
(D8 e i b c d).bind λai=>
if !ai then
some ((AQ.mk [] 0 [] []),0,false)
else
(Ef i).bind λa=>
if c==1 then
(gt a.AA b).bind λw=>
J3 (AQ.mk a.AK a.Tx a.Bp (a.AA.set b.toNat (AM.mk 2 w.Dy w.dy))) 0
else
if c==2 then
(gt a.AA b).bind λx=>
J3 (AQ.mk a.AK a.Tx a.Bp (a.AA.set b.toNat (AM.mk 5 x.Dy x.dy))) 0
else
if c==6 then
J1 c d b a f e (c==6)
else
J1 c d b a f e (c==10)
def XY{e:AF}{i:AQ}{b c d f:Int}{r:kr}(h:Fk e i b c d f=some r):Says prog 150 [.agg (Aw e),.agg (He i),si b,si c,si d,si f] (.BZ [.agg (JB r.1),si r.2.1,sb r.2.2]):=by refine wO mix func150 (I:=⟨f150c,f150g,f150r⟩) ?_;simp only[f150c,f150g,f150r];have a1:= @Ng;have a2:= @Xb;have a3:= @RH;have a4:= @Ns;have a5:= @Om;have a6:= @V0;have a7:= @SU;have c3:=ip 3 λ_ _ _ _ a=>∃j p,(a 7=bA 4 (JB j)/\a 12=bA 4 z5/\a 15=si p)/\J3 j p=some r;have c2:=ip 2 λ_ _ _ _ g=>∃a o,(g 4=si d/\g 5=si f/\g 6=bA 6 (Aw e)/\g 7=bA 4 (JB a)/\g 8=bA 1 [si b]/\g 12=bA 4 z5/\g 15=si 0/\g 27=si c/\g 51=sb o)/\J2 c d b a f e o=some r;have c1:=ip 1 λ_ _ _ _ g=>∃a l,(g 4=si d/\g 5=si f/\g 6=bA 6 (Aw e)/\g 7=bA 4 (JB a)/\g 8=bA 1 [si b]/\g 12=bA 4 z5/\g 15=si 0/\g 27=si c/\g 42=sb l)/\J1 c d b a f e l=some r;unfold Fk at h;exact walk
end
namespace C8
def J1:=
some true
def L1(R101:AR->ABu Bool)(a:ju)(L1:ir)(b:Int):=
if decide (b<(a.length:Int))then
(gt a b).bind λd=>
(R101 d).bind λc=>
if !c then
some false
else
L1 (A6 (b+1))
else
J1
def AW(R101:AR->ABu Bool)(a:ju):Nat->Int->ABu Bool
|0,_=>none
|n+1,b=>L1 R101 a (AW R101 a n) b
end C8
variable{d:AR->ABu Bool}{b:ju}{a:Bool}
section
open C8
def C8(R101:AR->ABu Bool)(a:ju):=
AW R101 a BT 0
theorem Qw(H101:∀{x0 a},d x0=some a->Says prog 268 [.agg [si x0.Op,si x0.GH,Bq x0.di,Bq x0.ep,vS 4 BR x0.dz,si x0.dv.Op,si x0.dv.N,Bq x0.dv.di,vS 4 BR x0.dv.L,vS 11 BJ x0.dx,vS 11 BJ x0.d7]] (sb a))(h:C8 d b=some a):Says prog 245 [vS 11 BJ b] (sb a):=by refine kO mix func245 hn ?_;have a1:= @H101;have l1:=im λ_ _ _ _ n c=>∃r,(c 0=vS 11 BJ b/\c 3=si r)/\AW d b n r=some a;unfold C8 at h;exact walk
end
namespace BA
def QP(p:Bool):ABu Bool:=
some p
def J9(R100:j8)(a:AR)(f:Bool):=
if f then
some false
else
(R100 a.dx).bind λx=>
if x then
(R100 a.d7).bind λy=>
QP y
else
QP false
def J8(R100:j8)(a:AR)(b:Bool):=
if !b then
if decide ((a.dx.length:Int)>0)then
J9 R100 a true
else
if a.Op != 2 then
J9 R100 a (decide ((a.d7.length:Int)>0))
else
J9 R100 a false
else
if a.Op != 2 then
J9 R100 a (decide ((a.d7.length:Int)>0))
else
J9 R100 a false
def J7(R100:j8)(a:AR)(d:Bool):=
if d then
some false
else
if decide (a.Op>=2)then
J8 R100 a (decide (a.Op<=8))
else
J8 R100 a false
def J6(R100:j8)(a:AR)(o:Bool):=
if o then
(DU BT a.dv).bind λv=>
if !v then
J7 R100 a true
else
J7 R100 a false
else
(Ib a.dv).bind λw=>
J7 R100 a (!w)
def J5(R100:j8)(a:AR)(l:Bool):=
if l then
some false
else
if a.Op==1 then
J6 R100 a true
else
if a.Op==2 then
J6 R100 a true
else
if a.Op==3 then
J6 R100 a true
else
J6 R100 a (a.Op==14)
def J4(R100:j8)(a:AR)(j:Bool):=
if j then
some false
else
if decide ((a.dz.length:Int)>1)then
J5 R100 a true
else
if a.Op != 1 then
if decide ((a.dz.length:Int)>0)then
J5 R100 a true
else
if(a.dz.length:Int)==1 then
(gt a.dz 0).bind λz=>
(DU BT z).bind λt=>
J5 R100 a (!t)
else
J5 R100 a false
else
if(a.dz.length:Int)==1 then
(gt a.dz 0).bind λaa=>
(DU BT aa).bind λu=>
J5 R100 a (!u)
else
J5 R100 a false
def J3(R100:j8)(a:AR)(i:Bool):=
if i then
some false
else
if a.Op==15 then
(CO a.ep).bind λs=>
if !s then
J4 R100 a true
else
if a.Op != 15 then
J4 R100 a (!(a.ep.toList==(⟨#[]⟩:ABv).toList))
else
J4 R100 a false
else
if a.Op != 15 then
J4 R100 a (!(a.ep.toList==(⟨#[]⟩:ABv).toList))
else
J4 R100 a false
def J2(R100:j8)(a:AR)(c:Bool):=
if c then
if !(a.di.toList==(⟨#[]⟩:ABv).toList)then
J3 R100 a true
else
J3 R100 a false
else
(CO a.di).bind λq=>
J3 R100 a (!q)
def J1(R100:j8)(a:AR)(e:Bool):=
if e then
some false
else
if a.Op==2 then
J2 R100 a true
else
if a.Op==3 then
J2 R100 a true
else
if a.Op==7 then
J2 R100 a true
else
J2 R100 a (a.Op==8)
end BA
variable{e:j8}{c:AR}
section
open BA
def BA(R100:j8)(a:AR):=
if decide (a.Op<1)then
J1 R100 a true
else
J1 R100 a (decide (a.Op>15))
theorem SW(H100:∀{x0 a},e x0=some a->Says prog 245 [vS 11 BJ x0] (sb a))(h:BA e c=some a):Says prog 268 [.agg [si c.Op,si c.GH,Bq c.di,Bq c.ep,vS 4 BR c.dz,si c.dv.Op,si c.dv.N,Bq c.dv.di,vS 4 BR c.dv.L,vS 11 BJ c.dx,vS 11 BJ c.d7]] (sb a):=by refine kO mix func268 (hn [(1,[6,10,14,18,23,28,34,42,48,52,58,62,67,72,76,83,88,96,100,105,110,116,125,131,135,142,148,152,158,162])] [(2,1),(4,2),(6,3),(9,4),(12,5),(14,6),(16,7),(18,8),(20,9)]) ?_;have a1:= @H100;have a2:= @Lx;have a3:= @Zn;have a4:= @Iq;have c9:=ip 9 λ_ _ _ _ b=>∃f,(b 1=bA 11 [si c.Op,si c.GH,Bq c.di,Bq c.ep,vS 4 BR c.dz,si c.dv.Op,si c.dv.N,Bq c.dv.di,vS 4 BR c.dv.L,vS 11 BJ c.dx,vS 11 BJ c.d7]/\b 157=sb f)/\J9 e c f=some a;have c8:=ip 8 λ_ _ _ _ r=>∃b,(r 1=bA 11 [si c.Op,si c.GH,Bq c.di,Bq c.ep,vS 4 BR c.dz,si c.dv.Op,si c.dv.N,Bq c.dv.di,vS 4 BR c.dv.L,vS 11 BJ c.dx,vS 11 BJ c.d7]/\r 5=sb b)/\J8 e c b=some a;have c7:=ip 7 λ_ _ _ _ b=>∃d,(b 1=bA 11 [si c.Op,si c.GH,Bq c.di,Bq c.ep,vS 4 BR c.dz,si c.dv.Op,si c.dv.N,Bq c.dv.di,vS 4 BR c.dv.L,vS 11 BJ c.dx,vS 11 BJ c.d7]/\b 130=sb d)/\J7 e c d=some a;have c6:=ip 6 λ_ _ _ _ b=>∃o,(b 1=bA 11 [si c.Op,si c.GH,Bq c.di,Bq c.ep,vS 4 BR c.dz,si c.dv.Op,si c.dv.N,Bq c.dv.di,vS 4 BR c.dv.L,vS 11 BJ c.dx,vS 11 BJ c.d7]/\b 4=sb o)/\J6 e c o=some a;have c5:=ip 5 λ_ _ _ _ b=>∃l,(b 1=bA 11 [si c.Op,si c.GH,Bq c.di,Bq c.ep,vS 4 BR c.dz,si c.dv.Op,si c.dv.N,Bq c.dv.di,vS 4 BR c.dv.L,vS 11 BJ c.dx,vS 11 BJ c.d7]/\b 95=sb l)/\J5 e c l=some a;have c4:=ip 4 λ_ _ _ _ b=>∃j,(b 1=bA 11 [si c.Op,si c.GH,Bq c.di,Bq c.ep,vS 4 BR c.dz,si c.dv.Op,si c.dv.N,Bq c.dv.di,vS 4 BR c.dv.L,vS 11 BJ c.dx,vS 11 BJ c.d7]/\b 66=sb j)/\J4 e c j=some a;have c3:=ip 3 λ_ _ _ _ b=>∃i,(b 1=bA 11 [si c.Op,si c.GH,Bq c.di,Bq c.ep,vS 4 BR c.dz,si c.dv.Op,si c.dv.N,Bq c.dv.di,vS 4 BR c.dv.L,vS 11 BJ c.dx,vS 11 BJ c.d7]/\b 47=sb i)/\J3 e c i=some a;have c2:=ip 2 λ_ _ _ _ b=>∃r,(b 1=bA 11 [si c.Op,si c.GH,Bq c.di,Bq c.ep,vS 4 BR c.dz,si c.dv.Op,si c.dv.N,Bq c.dv.di,vS 4 BR c.dv.L,vS 11 BJ c.dx,vS 11 BJ c.d7]/\b 3=sb r)/\J2 e c r=some a;have c1:=ip 1 λ_ _ _ _ b=>∃R100,(b 1=bA 11 [si c.Op,si c.GH,Bq c.di,Bq c.ep,vS 4 BR c.dz,si c.dv.Op,si c.dv.N,Bq c.dv.di,vS 4 BR c.dv.L,vS 11 BJ c.dx,vS 11 BJ c.d7]/\b 13=sb R100)/\J1 e c R100=some a;unfold BA at h;exact walk
end
def Il:Nat->((List AR)->ABu Bool)×(AR->ABu Bool)
|0=>((λ_=>none),(λ_=>none))
|n+1=>(C8 ((Il n).2),BA ((Il n).1))
def HX(n:Nat):(List AR)->ABu Bool:=(Il n).1
def K0(n:Nat):AR->ABu Bool:=(Il n).2
theorem QF(n:Nat):(∀{x0 r},(HX n) x0=some r->Says prog 245 [vS 11 BJ x0] (sb r))/\(∀{x0 r},(K0 n) x0=some r->Says prog 268 [.agg [si x0.Op,si x0.GH,Bq x0.di,Bq x0.ep,vS 4 BR x0.dz,si x0.dv.Op,si x0.dv.N,Bq x0.dv.di,vS 4 BR x0.dv.L,vS 11 BJ x0.dx,vS 11 BJ x0.d7]] (sb r)):=by
  induction n with
  |zero=>exact⟨λh=>Et h,λh=>Et h⟩
  |succ n ih=>exact⟨λh=>Qw ih.2 h,λh=>SW ih.1 h⟩
def QG{n:Nat}:∀{x0 r},(HX n) x0=some r->Says prog 245 [vS 11 BJ x0] (sb r):=(QF n).1
namespace B1
def bT(a:AH)(e:AD):ABu (AD×Bool):=
(gt e.dc a.cr).bind λae=>
some ((AD.mk e.de e.df e.AL (e.dc.set a.cr.toNat (A6 (ae+1)))),true)
def QP(a:AH)(d:AD):ABu (AD×Bool):=
if a.da==22 then
(gt d.AL a.dn).bind λai=>
bT a (AD.mk d.de d.df (d.AL.set a.dn.toNat a.dh) d.dc)
else
bT a d
def J9(a:AH)(b:AD)(c:AF)(ab:Int):=
(De c b.de a.cr a.da a.dn ab).bind λp=>
if a.da==4 then
(gt b.df a.dn).bind λaf=>
QP a (AD.mk p.1 (b.df.set a.dn.toNat a.dh) b.AL b.dc)
else
QP a (AD.mk p.1 b.df b.AL b.dc)
def J8(a:AH)(b:AD)(c:AF)(l:Bool):=
if l then
some ((AD.mk (AQ.mk [] 0 [] []) [] [] []),false)
else
if Am (b.df.length) 8=true then
if Am (b.AL.length) 8=true then
if Am (b.dc.length) 8=true then
if a.da==18 then
J9 a b c a.dh
else
J9 a b c (-1)
else none
else none
else none
def J7(a:AH)(b:AD)(c:AF)(j:Bool):=
if j then
some ((AD.mk (AQ.mk [] 0 [] []) [] [] []),false)
else
(gt b.dc a.cr).bind λq=>
(EC a.EA q).bind λy=>
if !y then
J8 a b c true
else
(EC a.DW q).bind λz=>
if !z then
J8 a b c true
else
(Gq b a).bind λaa=>
J8 a b c (!aa)
def J6(a:AH)(b:AD)(c:AF)(i:Bool):=
if i then
some ((AD.mk (AQ.mk [] 0 [] []) [] [] []),false)
else
if decide ((a.DW.length:Int)>0)then
if a.da != 4 then
J7 a b c (a.da != 22)
else
J7 a b c false
else
J7 a b c false
def J5(a:AH)(b:AD)(c:AF)(f:Bool):=
if decide ((a.EA.length:Int)>0)then
if a.da != 5 then
if f then
(gt c.df a.dn).bind λad=>
J6 a b c (!(ad.B3 != 0))
else
J6 a b c true
else
J6 a b c false
else
J6 a b c false
def J4(a:AH)(b:AD)(c:AF):=
if a.da==3 then
J5 a b c true
else
J5 a b c (a.da==4)
def J3(a:AH)(b:AD)(c:AF)(t:Bool):=
if t then
some ((AD.mk (AQ.mk [] 0 [] []) [] [] []),false)
else
J4 a b c
def J2(a:AH)(b:AD)(c:AF)(s:Bool):=
if s then
if a.d3 != (-1)then
some ((AD.mk (AQ.mk [] 0 [] []) [] [] []),false)
else
J4 a b c
else
(Lz a.d3 (c.Be.length:Int)).bind λx=>
if !x then
J3 a b c true
else
(gt c.Be a.d3).bind λac=>
J3 a b c (ac.cr != a.cr)
def J1(a:AH)(b:AD)(c:AF)(o:Bool):=
if o then
some ((AD.mk (AQ.mk [] 0 [] []) [] [] []),false)
else
if a.da==1 then
J2 a b c true
else
J2 a b c (a.da==2)
end B1
section
open B1
def B1(c:AF)(b:AD)(a:AH):=
(IB c b).bind λu=>
if !u then
J1 a b c true
else
(Lz a.cr (c.AA.length:Int)).bind λv=>
if !v then
J1 a b c true
else
if decide (a.da<1)then
J1 a b c true
else
if decide (a.da>23)then
J1 a b c true
else
(Cu c b.de a.cr a.da a.dn).bind λw=>
J1 a b c (!w)
theorem Lk{c:AF}{b:AD}{a:AH}{r:ls}(h:B1 c b a=some r):Says prog 55 [.agg (Aw c),.agg (BQ b),.agg (A7 a)] (.BZ [.agg (Ii r.1),sb r.2]):=by refine kO mix func55 (hn [(3,[18,62,68,100]),(4,[36,129,140,157,161,165,176]),(5,[16,25,30,38,40,42,48,52,56,60,70,75,80,84,88,93,102,112,117,122,127,131,138,142,169,172,178,180,182,190,195,197,200,205,207,212]),(9,[189,193,194,199,203,204,209,210,211,214,217,218]),(185,[174,186,187,188])] [(2,1),(4,4),(10,5),(12,6),(15,7),(18,8)]) ?_;have a1:= @ND;have a2:= @WC;have a3:= @Z4;have a4:= @oW;have a5:= @S4;have a6:= @LZ;have c8:=ip 8 λ_ _ _ _ d=>∃l,(d 3=bA 6 (Aw c)/\d 4=bA 7 (BQ b)/\d 5=bA 7 (A7 a)/\d 6=bA 7 z0/\d 154=sb l)/\J8 a b c l=some r;have c7:=ip 7 λ_ _ _ _ d=>∃j,(d 3=bA 6 (Aw c)/\d 4=bA 7 (BQ b)/\d 5=bA 7 (A7 a)/\d 6=bA 7 z0/\d 125=sb j)/\J7 a b c j=some r;have c6:=ip 6 λ_ _ _ _ d=>∃i,(d 3=bA 6 (Aw c)/\d 4=bA 7 (BQ b)/\d 5=bA 7 (A7 a)/\d 6=bA 7 z0/\d 110=sb i)/\J6 a b c i=some r;have c5:=ip 5 λ_ _ _ _ d=>∃f,(d 3=bA 6 (Aw c)/\d 4=bA 7 (BQ b)/\d 5=bA 7 (A7 a)/\d 6=bA 7 z0/\d 8=sb f)/\J5 a b c f=some r;have c4:=ip 4 λ_ _ _ _ d=>(d 3=bA 6 (Aw c)/\d 4=bA 7 (BQ b)/\d 5=bA 7 (A7 a)/\d 6=bA 7 z0)/\J4 a b c=some r;have c1:=ip 1 λ_ _ _ _ d=>∃o,(d 3=bA 6 (Aw c)/\d 4=bA 7 (BQ b)/\d 5=bA 7 (A7 a)/\d 6=bA 7 z0/\d 46=sb o)/\J1 a b c o=some r;unfold B1 at h;exact walk
end
namespace Ji
def J2(p:Ac):ABu (Ac×Bool):=
some (p,true)
def J1(b:Int)(a:Ac)(d:kr)(c:AH)(j:FC):=
if c.da==3 then
(gt a.df c.dn).bind λl=>
if l.Pl then
(gt a.Ej b).bind λu=>
J2 (Ac.mk d.1 a.df a.AL (a.du++[b]) (a.Ej.set b.toNat (l.dh==c.dh)) a.Nw)
else
(gt a.Ej b).bind λv=>
J2 (Ac.mk d.1 a.df a.AL (a.du++[b]) (a.Ej.set b.toNat false) a.Nw)
else
if c.da==23 then
(gt a.AL c.dn).bind λo=>
if o.Pl then
(gt a.Ej b).bind λw=>
J2 (Ac.mk d.1 a.df a.AL (a.du++[b]) (a.Ej.set b.toNat (o.dh==c.dh)) a.Nw)
else
(gt a.Ej b).bind λx=>
J2 (Ac.mk d.1 a.df a.AL (a.du++[b]) (a.Ej.set b.toNat false) a.Nw)
else
if c.da==4 then
(gt a.df c.dn).bind λy=>
J2 (Ac.mk d.1 (a.df.set c.dn.toNat j) a.AL (a.du++[b]) a.Ej a.Nw)
else
if c.da==22 then
(gt a.AL c.dn).bind λz=>
J2 (Ac.mk d.1 a.df (a.AL.set c.dn.toNat j) (a.du++[b]) a.Ej a.Nw)
else
if c.da==18 then
if decide (d.2.1>=0)then
(gt a.Nw b).bind λaa=>
J2 (Ac.mk d.1 a.df a.AL (a.du++[b]) a.Ej (a.Nw.set b.toNat 1))
else
J2 (Ac.mk d.1 a.df a.AL (a.du++[b]) a.Ej a.Nw)
else
if c.da==19 then
(gt a.Nw b).bind λt=>
J2 (Ac.mk d.1 a.df a.AL (a.du++[b]) a.Ej (a.Nw.set b.toNat d.2.1))
else
J2 (Ac.mk d.1 a.df a.AL (a.du++[b]) a.Ej a.Nw)
end Ji
section
open Ji
def Ji(f:AG)(i:Ac)(e:Ao):=
(E5 f i e.cr).bind λq=>
if !q then
some ((Ac.mk (AQ.mk [] 0 [] []) [] [] [] [] []),false)
else
(Gj f i e.cr).bind λb=>
(gt f.AB b).bind λc=>
(EY f i e.cr c.DW).bind λs=>
(QO i).bind λa=>
(De f.cT a.de e.cr c.da c.dn e.TD).bind λd=>
if Am (a.du.length+1) 8=true then
if s then
J1 b a d c (FC.mk c.dh true)
else
J1 b a d c (FC.mk 0 false)
else none
theorem dD{f:AG}{i:Ac}{e:Ao}{r:Ac×Bool}(h:Ji f i e=some r):Says prog 64 [.agg (A4 f),.agg (IH i),.agg (HD e)] (.BZ [.agg (OU r.1),sb r.2]):=by refine kO mix func64 (hn [(3,[27,42]),(4,[16,23,33,39,44,45,59,60,61,65,75,76,78,79,82,83,86,87,90,91,97,100,101,103,104,107,108,111,112,115,116,122,125,126,130,133,134,138,143,144,146,149,150,153,154]),(5,[17,24,34,46,52]),(9,[36,48,50,68,71,80,88,93,105,113,118,127,135]),(11,[58]),(12,[141,152]),(54,[41,55,56,57])] [(12,1)]) ?_;have a1:= @Lb;have a2:= @Ll;have a3:= @Nn;have a4:= @dC;have a5:= @ND;have c1:=ip 1 λ_ _ _ _ e=>∃(b:Int)(a:Ac)(d:kr)(c:AH)(j:FC),(e 4=bA 9 [vO 2 Bf d.1.AK,si d.1.Tx,vO 1 eB d.1.Bp,vO 3 Ap d.1.AA,vO 2 Hm a.df,vO 2 Hm a.AL,vO 1 eI (a.du++[b]),vO 1 eB a.Ej,vO 1 eI a.Nw]/\e 6=bA 9 z7/\e 8=si b/\e 9=bA 7 (A7 c)/\e 12=si d.2.1/\e 14=bA 2 (Hm j))/\J1 b a d c j=some r;unfold Ji at h;exact walk
end
namespace CJ
def J2:=
some true
def L1(a:Bj)(L1:ir)(b:Int):=
if decide (b<(a.AA.length:Int))then
(gt a.AA b).bind λf=>
(AZ a.cT b f).bind λe=>
if !e then
some false
else
L1 (A6 (b+1))
else
J2
def AW(a:Bj):Nat->Int->ABu Bool
|0,_=>none
|n+1,b=>L1 a (AW a n) b
def J1(a:Bj)(c:Bool):=
if c then
some false
else
AW a BT 0
end CJ
section
open CJ
def CJ(a:Bj):=
(Ay a.cT).bind λd=>
if !d then
J1 a true
else
J1 a ((a.AA.length:Int) != (a.cT.AA.length:Int))
theorem NC{a:Bj}{r:Bool}(h:CJ a=some r):Says prog 136 [.agg (KV a)] (sb r):=by refine kO mix func136 (hn [(1,[4,9,12,13,19,25,28])]) ?_;have a1:= @Q0;have a2:= @Jt;have l1:=im λ_ _ _ _ n c=>∃b,(c 1=bA 7 (KV a)/\c 3=si b)/\AW a n b=some r;unfold CJ at h;exact walk
end
namespace Fl
def J1(a:BO)(b:AU)(c:Int)(e:Bool):ABu Int:=
if e then
some 2
else
(Jc BT b c a).bind λi=>
some i
end Fl
section
open Fl
def Fl(b:AU)(c:Int)(a:BO):=
(DU BT a).bind λf=>
if !f then
some 3
else
(K3 BT a).bind λd=>
if decide (d.1>24)then
J1 a b c true
else
J1 a b c (decide (d.2>6))
theorem cU{b:AU}{c:Int}{a:BO}{r:Int}(h:Fl b c a=some r):Says prog 272 [.agg (Cf b),si c,.agg [si a.Op,si a.N,Bq a.di,vS 4 BR a.L]] (si r):=by refine kO mix func272 hn ?_;have a1:= @Lx;have a2:= @Xk;have a3:= @Xm;unfold Fl at h;exact walk
end
namespace I3
def J1(c:Bool):ABu Bool:=
some c
end I3
section
open I3
def I3:=
(Hq (Dh.mk 0 0 []) 0 true (Em.mk [0] [])).bind λb=>
(Hq b.1 1 true (Em.mk [1] [])).bind λa=>
(Hq a.1 0 true (Em.mk [0] [])).bind λd=>
if !b.2 then
if !a.2 then
if d.2 then
if a.1.d8==3 then
(HM a.1.AK [1]).bind λe=>
J1 e
else
J1 false
else
J1 false
else
J1 false
else
J1 false
theorem ZU{r:Bool}(h:I3=some r):Says prog 22 [] (sb r):=by refine kO mix func22 (hn [(3,[38,43])]) ?_;have a1:= @XU;have a2:= @Q8;unfold I3 at h;exact walk
end
namespace GX
def J1(c:Bool):ABu Bool:=
some c
end GX
section
open GX
def GX(a b:Em):=
(Gt a.F6 b.F6).bind λd=>
if d then
J1 true
else
(Gt a.F6 b.MG).bind λe=>
if e then
J1 true
else
(Gt a.MG b.F6).bind λf=>
J1 f
theorem SJ{a b:Em}{r:Bool}(h:GX a b=some r):Says prog 26 [.agg (NZ a),.agg (NZ b)] (sb r):=by refine kO mix func26 (hn [(2,[5,11,18]),(3,[7,13,20])]) ?_;have a1:= @SK;unfold GX at h;exact walk
end
end Go.Abs
