/- Go functions do what typed programs say. -/
import Derived.Test.YtdojkofgkcmagaaGreatDoorWalkK
import Derived.Shelf.Slices.SearchI
set_option linter.all false
namespace Go.Abs
open Go.Proofs Tryz
set_option maxRecDepth 1000000
set_option maxHeartbeats 4000000
def f150c:IC:=(Ra 12 [.b 6 [119,142] (.bx 6 (.t 0)),.b 7 [18,25,30,31,33,34,37,38,40,41,45,46,49,50,54,55,57,58,61,62,64,65,66,72,73,77,78,84,85,87,88,89,92,93,97,100,103,104,106,107,110,111,113,114,117,118,125,126,127,128,130,131,134,135,136,137,140,141,149,150,151,152,154,155,157,158,159,160,163,169,174,175,177,178,181,182,184,185] (.bx 4 (.t 1)),.b 8 [90] (.bx 1 (.t 2)),.o (.bx 4 (.c (.agg z5))),.K 13 0,.B 14 false]
(Sq (Ra 17 [.A 6 6,.y 7 (.ld true 4 (.t 7)),.L 8,.C 3,.C 4,.c 146 [17,18,19,20,21] 0,.N 22]
(Ci 23 (Rb 24 [.o (.To z5 []),.S 4 12 24,.K 13 0,.B 14 false])))
(Ra 25 [.y 7 (.ld true 4 (.t 7)),.c 193 [25] 2,.S 4 7 26]
(Ra 0 [.K 15 0]
(Nh 3 (Ra 27 [.C 3]
(Bk 0 (Ra 29 [.q 27 1 28]
(Cn 28 (Rc 30 [.m 7 3 7,.L 8,.J 7 3 31 32,.H 7 0 33,.T 34 2]) (Ra 36 [.q 27 2 35]
(Cn 35 (Rc 37 [.m 7 3 7,.L 8,.J 7 3 38 39,.H 7 0 40,.T 41 5]) (Nh 1 (Ra 43 [.q 27 6 42]
(Cn 42 .skip (Rc 44 [.q 27 10 42])))
(Cn 42 (Rc 45 [.m 7 0 7,.C 4,.L 8,.J 7 2 46 47,.H 7 0 49,.S 1 50 48]) (Nh 2 (Ra 52 [.q 27 7 51]
(Cn 51 .skip (Rc 53 [.q 27 11 51])))
(Cn 51 (Rc 54 [.m 7 0 7,.C 4,.J 7 2 55 56,.H 7 0 57,.T 58 (-1)]) (Ra 60 [.q 27 8 59]
(Cn 59 (Ra 61 [.m 7 0 7,.C 4,.J 7 2 62 63,.m 7 1 64,.L 8,.o (.Ox 1 [[si 0]] [(0,.t 67)]),.o (.app 1 8 (.t 66) (.t 68)),.b 16 [70,75] (.mv (.t 69))]
(Ra 70 [.y 16 (.cp (.t 16)),.o (.W0 169 [] (.t 70) none [])]
(Rc 72 [.m 7 0 7,.C 4,.y 16 (.cp (.t 16)),.c 170 [75] 3,.J 7 2 73 74,.H 7 1 77,.S 1 78 76]))) (Ra 80 [.q 27 9 79]
(Cn 79 (.flo ⟨7,0,4,0,1,11,81,82⟩ [i0 81 .fl,i0 82 .fl,iC 83 4,Ko 84 7 0 7,We 85 7 84,iC 86 4,xN 87 7 2 85 86,Ko 88 7 1 87,We 89 7 88,i1 90 8 (.mkf 195 [.t 8]),i0 91 (.call 194 [.t 89,.t 90] 4),i1 92 7 (.qX 7 0 4 2 (.t 83))]
[Ko 93 7 1 92,iS 1 93 91]) (Ra 95 [.q 27 12 94]
(Cn 94 (Rc 96 [.L 8,.F 1 7,.S 1 97 96]) (Ra 99 [.q 27 13 98]
(Cn 98 (Rc 100 [.F 1 7,.T 100 (-1)]) (Ra 102 [.q 27 14 101]
(Cn 101 (Rc 103 [.m 7 3 7,.L 8,.J 7 3 104 105,.H 7 2 106,.x ⟨none,.st 1 (.t 107) (.c (sb true)),none⟩]) (Ra 109 [.q 27 15 108]
(Cn 108 (Rc 110 [.m 7 3 7,.L 8,.J 7 3 111 112,.H 7 2 113,.x ⟨none,.st 1 (.t 114) (.c (sb false)),none⟩]) (Ra 116 [.q 27 16 115]
(Cn 115 (Ra 117 [.m 7 0 7,.f 2 6,.C 4,.I 2 120 121,.U 1 122,.J 7 2 118 124,.H 7 0 125,.T 126 (-1)]
(Rc 127 [.F 3 7,.y 7 (.aR (.t 127)),.L 8,.F 3 7,.y 7 (.aR (.t 130)),.L 8,.C 4,.J 7 3 128 129,.H 7 0 134,.x ⟨none,.ZE (.t 135) (.c (si 3)),none⟩,.J 7 3 131 132,.H 7 1 136,.x ⟨none,.ZE (.t 137) (.t 133),none⟩])) (Ra 139 [.q 27 17 138]
(Cn 138 (Ra 140 [.m 7 0 7,.f 2 6,.C 4,.I 2 143 144,.U 1 145,.L 8,.J 7 2 141 147,.H 7 0 149,.S 1 150 148]
(Rc 151 [.F 3 7,.y 7 (.aR (.t 151)),.L 8,.F 3 7,.y 7 (.aR (.t 154)),.L 8,.J 7 3 152 153,.H 7 0 157,.x ⟨none,.ZE (.t 158) (.c (si 2)),none⟩,.J 7 3 155 156,.H 7 1 159,.x ⟨none,.ZE (.t 160) (.c (si 0)),none⟩])) (Ra 162 [.q 27 18 161]
(Cn 161 (Rc 163 [.y 7 (.ld true 4 (.t 7)),.C 4,.C 5,.o (.W0 196 [] (.t 163) (some 3) [.t 164,.t 165]),.M 15 166]) (Ra 168 [.q 27 19 167]
(Cn 167 (Rc 169 [.y 7 (.ld true 4 (.t 7)),.C 4,.o (.W0 197 [] (.t 169) (some 3) [.t 170]),.M 15 171]) (Ra 173 [.q 27 20 172]
(Cn 172 (Rc 174 [.m 7 3 7,.C 4,.J 7 3 175 176,.H 7 0 177,.T 178 1]) (Ra 180 [.q 27 22 179]
(Ci 179 (Rc 181 [.m 7 2 7,.C 4,.J 7 1 182 183,.x ⟨none,.st 1 (.t 184) (.c (sb true)),none⟩])))))))))))))))))))))))))))))))))))
(Rb 185 [.y 7 (.ld true 4 (.t 7)),.C 15,.S 4 12 185,.M 13 186,.B 14 true]))))))
def f150g:Gi:=⟨[(18,[7]),(25,[7]),(30,[7]),(31,[7]),(33,[7]),(34,[7]),(37,[7]),(38,[7]),(40,[7]),(41,[7]),(45,[7]),(46,[7]),(49,[7]),(50,[7]),(54,[7]),(55,[7]),(57,[7]),(58,[7]),(61,[7]),(62,[7]),(64,[7]),(65,[7]),(66,[7]),(70,[16]),(72,[7]),(73,[7]),(75,[16]),(77,[7]),(78,[7]),(84,[7]),(85,[7]),(87,[7]),(88,[7]),(89,[7]),(90,[8]),(92,[7]),(93,[7]),(97,[7]),(100,[7]),(103,[7]),(104,[7]),(106,[7]),(107,[7]),(110,[7]),(111,[7]),(113,[7]),(114,[7]),(117,[7]),(118,[7]),(119,[6]),(125,[7]),(126,[7]),(127,[7]),(128,[7]),(130,[7]),(131,[7]),(134,[7]),(135,[7]),(136,[7]),(137,[7]),(140,[7]),(141,[7]),(142,[6]),(149,[7]),(150,[7]),(151,[7]),(152,[7]),(154,[7]),(155,[7]),(157,[7]),(158,[7]),(159,[7]),(160,[7]),(163,[7]),(169,[7]),(174,[7]),(175,[7]),(177,[7]),(178,[7]),(181,[7]),(182,[7]),(184,[7]),(185,[7])]⟩
def f150r:List RV:=[.cell 12 true 4,.tmp 13,.tmp 14]
namespace GG
def J3(j:AQ)(p:Int):ABi (AQ×Int×Bool):=some (j,p,true)
def J2(c d b:Int)(a:AQ)(f:Int)(e:AG)(o:Bool):=if o then(gt a.AK d).bind λau=>J3 (AQ.mk (a.AK.set d.toNat (AW.mk (-1) au.Am)) a.Tx a.Br a.AA) 0
else
if c==8 then(gt a.AK d).bind λt=>if Ap (t.Am.length+1) 8=true then(OL (t.Am++[b])).bind λaj=>(slices_Compact aj).bind λal=>J3 (AQ.mk (a.AK.set d.toNat (AW.mk t.B6 al)) a.Tx a.Br a.AA) 0
else none
else
if c==9 then(gt a.AK d).bind λac=>(Jg ac.Am b).bind λao=>J3 (AQ.mk (a.AK.set d.toNat (AW.mk ac.B6 ao)) a.Tx a.Br a.AA) 0
else
if c==12 then
J3 (AQ.mk a.AK b a.Br a.AA) 0
else
if c==13 then
J3 (AQ.mk a.AK (-1) a.Br a.AA) 0
else
if c==14 then(gt a.AA b).bind λad=>J3 (AQ.mk a.AK a.Tx a.Br (a.AA.set b.toNat (AM.mk ad.dm ad.D7 true))) 0
else
if c==15 then(gt a.AA b).bind λae=>J3 (AQ.mk a.AK a.Tx a.Br (a.AA.set b.toNat (AM.mk ae.dm ae.D7 false))) 0
else
if c==16 then(gt e.Al d).bind λaf=>(gt a.AK af.dr).bind λav=>(gt a.AA b).bind λq=>(gt (a.AA.set b.toNat (AM.mk 3 q.D7 q.d6)) b).bind λy=>J3 (AQ.mk (a.AK.set af.dr.toNat (AW.mk (-1) av.Am)) a.Tx a.Br ((a.AA.set b.toNat (AM.mk 3 q.D7 q.d6)).set b.toNat (AM.mk y.dm d y.d6))) 0
else
if c==17 then(gt e.Al d).bind λz=>(gt a.AK z.dr).bind λap=>(gt a.AA b).bind λs=>(gt (a.AA.set b.toNat (AM.mk 2 s.D7 s.d6)) b).bind λaa=>J3 (AQ.mk (a.AK.set z.dr.toNat (AW.mk b ap.Am)) a.Tx a.Br ((a.AA.set b.toNat (AM.mk 2 s.D7 s.d6)).set b.toNat (AM.mk aa.dm 0 aa.d6))) 0
else
if c==18 then(Dp a.Tx a.AA d f).bind λu=>J3 (AQ.mk a.AK a.Tx a.Br u.2) u.1
else
if c==19 then(Dh a.Tx a.AA d).bind λv=>J3 (AQ.mk a.AK a.Tx a.Br v.2) v.1
else
if c==20 then(gt a.AA d).bind λab=>J3 (AQ.mk a.AK a.Tx a.Br (a.AA.set d.toNat (AM.mk 1 ab.D7 ab.d6))) 0
else
if c==22 then(gt a.Br d).bind λaw=>J3 (AQ.mk a.AK a.Tx (a.Br.set d.toNat true) a.AA) 0
else
J3 a 0
def J1(c d b:Int)(a:AQ)(f:Int)(e:AG)(l:Bool):=if l then(gt a.AK d).bind λaq=>J3 (AQ.mk (a.AK.set d.toNat (AW.mk b aq.Am)) a.Tx a.Br a.AA) 0
else
if c==7 then
J2 c d b a f e (c==7)
else
J2 c d b a f e (c==11)
end GG
section
open GG
def GG(e:AG)(i:AQ)(b c d f:Int):=(ES e i b c d).bind λai=>if !ai then
some ((AQ.mk [] 0 [] []),0,false)
else(Ey i).bind λa=>if c==1 then(gt a.AA b).bind λw=>J3 (AQ.mk a.AK a.Tx a.Br (a.AA.set b.toNat (AM.mk 2 w.D7 w.d6))) 0
else
if c==2 then(gt a.AA b).bind λx=>J3 (AQ.mk a.AK a.Tx a.Br (a.AA.set b.toNat (AM.mk 5 x.D7 x.d6))) 0
else
if c==6 then
J1 c d b a f e (c==6)
else
J1 c d b a f e (c==10)
def YS{e:AG}{i:AQ}{b c d f:Int}{r:lr}(h:GG e i b c d f=some r):Says prog 150 [.agg (A5 e),.agg (Hq i),si b,si c,si d,si f] (.Bo [.agg (JV r.1),si r.2.1,sb r.2.2]):=by refine wO mix func150 (I:=⟨f150c,f150g,f150r⟩) ?_;simp only[f150c,f150g,f150r];have a1:=@OB;have a2:=@YU;have a3:=@dI;have a4:=@WL;have a5:=@PK;have a6:=@W6;have a7:=@Sz;have c3:=i5 3 λa=>∃j p,(a 7=bA 4 (JV j)/\a 12=bA 4 z5/\a 15=si p)/\J3 j p=some r;have c2:=i5 2 λg=>∃a o,(g 4=si d/\g 5=si f/\g 6=bA 6 (A5 e)/\g 7=bA 4 (JV a)/\g 8=bA 1 [si b]/\g 12=bA 4 z5/\g 15=si 0/\g 27=si c/\g 51=sb o)/\J2 c d b a f e o=some r;have c1:=i5 1 λg=>∃a l,(g 4=si d/\g 5=si f/\g 6=bA 6 (A5 e)/\g 7=bA 4 (JV a)/\g 8=bA 1 [si b]/\g 12=bA 4 z5/\g 15=si 0/\g 27=si c/\g 42=sb l)/\J1 c d b a f e l=some r;unfold GG at h;exact walk
end
namespace DN
def J1:=some true
def L1(R101:AU->ABi Bool)(a:kf)(L1:ja)(b:Int):=if decide (b<(a.length:Int))then(gt a b).bind λd=>(R101 d).bind λc=>if !c then
some false
else
L1 (A8 (b+1))
else
J1
def AR(R101:AU->ABi Bool)(a:kf):Nat->Int->ABi Bool
|0,_=>none
|n+1,b=>L1 R101 a (AR R101 a n) b
end DN
variable{d:AU->ABi Bool}{b:kf}{a:Bool}
section
open DN
def DN(R101:AU->ABi Bool)(a:kf):=AR R101 a BQ 0
theorem RT(H101:∀{x0 a},d x0=some a->Says prog 268 [.agg [si x0.Op,si x0.Gd,B4 x0.dv,B4 x0.eT,vS 4 Bc x0.d8,si x0.dX.Op,si x0.dX.N,B4 x0.dX.dv,vS 4 Bc x0.dX.L,vS 11 BV x0.dz,vS 11 BV x0.ed]] (sb a))(h:DN d b=some a):Says prog 245 [vS 11 BV b] (sb a):=by refine kO mix func245 hn ?_;have a1:=@H101;have l1:=i4 λn c=>∃r,(c 0=vS 11 BV b/\c 3=si r)/\AR d b n r=some a;unfold DN at h;exact walk
end
namespace BL
def OS(p:Bool):ABi Bool:=some p
def J9(R100:kw)(a:AU)(f:Bool):=if f then
some false
else(R100 a.dz).bind λx=>if x then(R100 a.ed).bind λy=>OS y
else
OS false
def J8(R100:kw)(a:AU)(b:Bool):=if !b then
if decide ((a.dz.length:Int)>0)then
J9 R100 a true
else
if a.Op != 2 then
J9 R100 a (decide ((a.ed.length:Int)>0))
else
J9 R100 a false
else
if a.Op != 2 then
J9 R100 a (decide ((a.ed.length:Int)>0))
else
J9 R100 a false
def J7(R100:kw)(a:AU)(d:Bool):=if d then
some false
else
if decide (a.Op>=2)then
J8 R100 a (decide (a.Op<=8))
else
J8 R100 a false
def J6(R100:kw)(a:AU)(o:Bool):=if o then(Dk BQ a.dX).bind λv=>if !v then
J7 R100 a true
else
J7 R100 a false
else(Iz a.dX).bind λw=>J7 R100 a (!w)
def J5(R100:kw)(a:AU)(l:Bool):=if l then
some false
else
if a.Op==1 then
J6 R100 a true
else
if a.Op==2 then
J6 R100 a true
else
if a.Op==3 then
J6 R100 a true
else
J6 R100 a (a.Op==14)
def J4(R100:kw)(a:AU)(j:Bool):=if j then
some false
else
if decide ((a.d8.length:Int)>1)then
J5 R100 a true
else
if a.Op != 1 then
if decide ((a.d8.length:Int)>0)then
J5 R100 a true
else
if(a.d8.length:Int)==1 then(gt a.d8 0).bind λz=>(Dk BQ z).bind λt=>J5 R100 a (!t)
else
J5 R100 a false
else
if(a.d8.length:Int)==1 then(gt a.d8 0).bind λaa=>(Dk BQ aa).bind λu=>J5 R100 a (!u)
else
J5 R100 a false
def J3(R100:kw)(a:AU)(i:Bool):=if i then
some false
else
if a.Op==15 then(CZ a.eT).bind λs=>if !s then
J4 R100 a true
else
if a.Op != 15 then
J4 R100 a (!(a.eT.toList==(⟨#[]⟩:ABj).toList))
else
J4 R100 a false
else
if a.Op != 15 then
J4 R100 a (!(a.eT.toList==(⟨#[]⟩:ABj).toList))
else
J4 R100 a false
def J2(R100:kw)(a:AU)(c:Bool):=if c then
if !(a.dv.toList==(⟨#[]⟩:ABj).toList)then
J3 R100 a true
else
J3 R100 a false
else(CZ a.dv).bind λq=>J3 R100 a (!q)
def J1(R100:kw)(a:AU)(e:Bool):=if e then
some false
else
if a.Op==2 then
J2 R100 a true
else
if a.Op==3 then
J2 R100 a true
else
if a.Op==7 then
J2 R100 a true
else
J2 R100 a (a.Op==8)
end BL
variable{e:kw}{c:AU}
section
open BL
def BL(R100:kw)(a:AU):=if decide (a.Op<1)then
J1 R100 a true
else
J1 R100 a (decide (a.Op>15))
theorem S5(H100:∀{x0 a},e x0=some a->Says prog 245 [vS 11 BV x0] (sb a))(h:BL e c=some a):Says prog 268 [.agg [si c.Op,si c.Gd,B4 c.dv,B4 c.eT,vS 4 Bc c.d8,si c.dX.Op,si c.dX.N,B4 c.dX.dv,vS 4 Bc c.dX.L,vS 11 BV c.dz,vS 11 BV c.ed]] (sb a):=by refine kO mix func268 (hn [(1,[6,10,14,18,23,28,34,42,48,52,58,62,67,72,76,83,88,96,100,105,110,116,125,131,135,142,148,152,158,162])] [(2,1),(4,2),(6,3),(9,4),(12,5),(14,6),(16,7),(18,8),(20,9)]) ?_;have a1:=@H100;have a2:=@MJ;have a3:=@bM;have a4:=@JE;have c9:=i5 9 λb=>∃f,(b 1=bA 11 [si c.Op,si c.Gd,B4 c.dv,B4 c.eT,vS 4 Bc c.d8,si c.dX.Op,si c.dX.N,B4 c.dX.dv,vS 4 Bc c.dX.L,vS 11 BV c.dz,vS 11 BV c.ed]/\b 157=sb f)/\J9 e c f=some a;have c8:=i5 8 λr=>∃b,(r 1=bA 11 [si c.Op,si c.Gd,B4 c.dv,B4 c.eT,vS 4 Bc c.d8,si c.dX.Op,si c.dX.N,B4 c.dX.dv,vS 4 Bc c.dX.L,vS 11 BV c.dz,vS 11 BV c.ed]/\r 5=sb b)/\J8 e c b=some a;have c7:=i5 7 λb=>∃d,(b 1=bA 11 [si c.Op,si c.Gd,B4 c.dv,B4 c.eT,vS 4 Bc c.d8,si c.dX.Op,si c.dX.N,B4 c.dX.dv,vS 4 Bc c.dX.L,vS 11 BV c.dz,vS 11 BV c.ed]/\b 130=sb d)/\J7 e c d=some a;have c6:=i5 6 λb=>∃o,(b 1=bA 11 [si c.Op,si c.Gd,B4 c.dv,B4 c.eT,vS 4 Bc c.d8,si c.dX.Op,si c.dX.N,B4 c.dX.dv,vS 4 Bc c.dX.L,vS 11 BV c.dz,vS 11 BV c.ed]/\b 4=sb o)/\J6 e c o=some a;have c5:=i5 5 λb=>∃l,(b 1=bA 11 [si c.Op,si c.Gd,B4 c.dv,B4 c.eT,vS 4 Bc c.d8,si c.dX.Op,si c.dX.N,B4 c.dX.dv,vS 4 Bc c.dX.L,vS 11 BV c.dz,vS 11 BV c.ed]/\b 95=sb l)/\J5 e c l=some a;have c4:=i5 4 λb=>∃j,(b 1=bA 11 [si c.Op,si c.Gd,B4 c.dv,B4 c.eT,vS 4 Bc c.d8,si c.dX.Op,si c.dX.N,B4 c.dX.dv,vS 4 Bc c.dX.L,vS 11 BV c.dz,vS 11 BV c.ed]/\b 66=sb j)/\J4 e c j=some a;have c3:=i5 3 λb=>∃i,(b 1=bA 11 [si c.Op,si c.Gd,B4 c.dv,B4 c.eT,vS 4 Bc c.d8,si c.dX.Op,si c.dX.N,B4 c.dX.dv,vS 4 Bc c.dX.L,vS 11 BV c.dz,vS 11 BV c.ed]/\b 47=sb i)/\J3 e c i=some a;have c2:=i5 2 λb=>∃r,(b 1=bA 11 [si c.Op,si c.Gd,B4 c.dv,B4 c.eT,vS 4 Bc c.d8,si c.dX.Op,si c.dX.N,B4 c.dX.dv,vS 4 Bc c.dX.L,vS 11 BV c.dz,vS 11 BV c.ed]/\b 3=sb r)/\J2 e c r=some a;have c1:=i5 1 λb=>∃R100,(b 1=bA 11 [si c.Op,si c.Gd,B4 c.dv,B4 c.eT,vS 4 Bc c.d8,si c.dX.Op,si c.dX.N,B4 c.dX.dv,vS 4 Bc c.dX.L,vS 11 BV c.dz,vS 11 BV c.ed]/\b 13=sb R100)/\J1 e c R100=some a;unfold BL at h;exact walk
end
def I8:Nat->((List AU)->ABi Bool)×(AU->ABi Bool)
|0=>((λ_=>none),(λ_=>none))
|n+1=>(DN ((I8 n).2),BL ((I8 n).1))
def Hr(n:Nat):(List AU)->ABi Bool:=(I8 n).1
def LC(n:Nat):AU->ABi Bool:=(I8 n).2
theorem Qk(n:Nat):(∀{x0 r},(Hr n) x0=some r->Says prog 245 [vS 11 BV x0] (sb r))/\(∀{x0 r},(LC n) x0=some r->Says prog 268 [.agg [si x0.Op,si x0.Gd,B4 x0.dv,B4 x0.eT,vS 4 Bc x0.d8,si x0.dX.Op,si x0.dX.N,B4 x0.dX.dv,vS 4 Bc x0.dX.L,vS 11 BV x0.dz,vS 11 BV x0.ed]] (sb r)):=by induction n with|zero=>exact⟨λh=>DT h,λh=>DT h⟩|succ n ih=>exact⟨λh=>RT ih.2 h,λh=>S5 ih.1 h⟩
def Ql{n:Nat}:∀{x0 r},(Hr n) x0=some r->Says prog 245 [vS 11 BV x0] (sb r):=(Qk n).1
namespace CH
def Qu(a:AH)(e:AD):ABi (AD×Bool):=(gt e.dh a.db).bind λae=>some ((AD.mk e.df e.di e.AL (e.dh.set a.db.toNat (A8 (ae+1)))),true)
def OS(a:AH)(d:AD):=if a.de==22 then(gt d.AL a.dq).bind λai=>Qu a (AD.mk d.df d.di (d.AL.set a.dq.toNat a.dn) d.dh)
else
Qu a d
def J9(a:AH)(b:AD)(c:AG)(ab:Int):=(Du c b.df a.db a.de a.dq ab).bind λp=>if a.de==4 then(gt b.di a.dq).bind λaf=>OS a (AD.mk p.1 (b.di.set a.dq.toNat a.dn) b.AL b.dh)
else
OS a (AD.mk p.1 b.di b.AL b.dh)
def J8(a:AH)(b:AD)(c:AG)(l:Bool):=if l then
some ((AD.mk (AQ.mk [] 0 [] []) [] [] []),false)
else
if Ap (b.di.length) 8=true then
if Ap (b.AL.length) 8=true then
if Ap (b.dh.length) 8=true then
if a.de==18 then
J9 a b c a.dn
else
J9 a b c (-1)
else none
else none
else none
def J7(a:AH)(b:AD)(c:AG)(j:Bool):=if j then
some ((AD.mk (AQ.mk [] 0 [] []) [] [] []),false)
else(gt b.dh a.db).bind λq=>(EW a.Dy q).bind λy=>if !y then
J8 a b c true
else(EW a.DS q).bind λz=>if !z then
J8 a b c true
else(G4 b a).bind λaa=>J8 a b c (!aa)
def J6(a:AH)(b:AD)(c:AG)(i:Bool):=if i then
some ((AD.mk (AQ.mk [] 0 [] []) [] [] []),false)
else
if decide ((a.DS.length:Int)>0)then
if a.de != 4 then
J7 a b c (a.de != 22)
else
J7 a b c false
else
J7 a b c false
def J5(a:AH)(b:AD)(c:AG)(f:Bool):=if decide ((a.Dy.length:Int)>0)then
if a.de != 5 then
if f then(gt c.di a.dq).bind λad=>J6 a b c (!(ad.CM != 0))
else
J6 a b c true
else
J6 a b c false
else
J6 a b c false
def J4(a:AH)(b:AD)(c:AG):=if a.de==3 then
J5 a b c true
else
J5 a b c (a.de==4)
def J3(a:AH)(b:AD)(c:AG)(t:Bool):=if t then
some ((AD.mk (AQ.mk [] 0 [] []) [] [] []),false)
else
J4 a b c
def J2(a:AH)(b:AD)(c:AG)(s:Bool):=if s then
if a.d7 != (-1)then
some ((AD.mk (AQ.mk [] 0 [] []) [] [] []),false)
else
J4 a b c
else(MM a.d7 (c.Bt.length:Int)).bind λx=>if !x then
J3 a b c true
else(gt c.Bt a.d7).bind λac=>J3 a b c (ac.db != a.db)
def J1(a:AH)(b:AD)(c:AG)(o:Bool):=if o then
some ((AD.mk (AQ.mk [] 0 [] []) [] [] []),false)
else
if a.de==1 then
J2 a b c true
else
J2 a b c (a.de==2)
end CH
section
open CH
def CH(c:AG)(b:AD)(a:AH):=(Ia c b).bind λu=>if !u then
J1 a b c true
else(MM a.db (c.AA.length:Int)).bind λv=>if !v then
J1 a b c true
else
if decide (a.de<1)then
J1 a b c true
else
if decide (a.de>23)then
J1 a b c true
else(C2 c b.df a.db a.de a.dq).bind λw=>J1 a b c (!w)
theorem Lt{c:AG}{b:AD}{a:AH}{r:mj}(h:CH c b a=some r):Says prog 55 [.agg (A5 c),.agg (Bi b),.agg (Aw a)] (.Bo [.agg (I5 r.1),sb r.2]):=by refine kO mix func55 (hn [(3,[18,62,68,100]),(4,[36,129,140,157,161,165,176]),(5,[16,25,30,38,40,42,48,52,56,60,70,75,80,84,88,93,102,112,117,122,127,131,138,142,169,172,178,180,182,190,195,197,200,205,207,212]),(9,[189,193,194,199,203,204,209,210,211,214,217,218]),(185,[174,186,187,188])] [(2,1),(4,4),(10,5),(12,6),(15,7),(18,8)]) ?_;have a1:=@NU;have a2:=@XK;have a3:=@cC;have a4:=@rU;have a5:=@TY;have a6:=@Ll;have c8:=i5 8 λd=>∃l,(d 3=bA 6 (A5 c)/\d 4=bA 7 (Bi b)/\d 5=bA 7 (Aw a)/\d 6=bA 7 z0/\d 154=sb l)/\J8 a b c l=some r;have c7:=i5 7 λd=>∃j,(d 3=bA 6 (A5 c)/\d 4=bA 7 (Bi b)/\d 5=bA 7 (Aw a)/\d 6=bA 7 z0/\d 125=sb j)/\J7 a b c j=some r;have c6:=i5 6 λd=>∃i,(d 3=bA 6 (A5 c)/\d 4=bA 7 (Bi b)/\d 5=bA 7 (Aw a)/\d 6=bA 7 z0/\d 110=sb i)/\J6 a b c i=some r;have c5:=i5 5 λd=>∃f,(d 3=bA 6 (A5 c)/\d 4=bA 7 (Bi b)/\d 5=bA 7 (Aw a)/\d 6=bA 7 z0/\d 8=sb f)/\J5 a b c f=some r;have c4:=i5 4 λd=>(d 3=bA 6 (A5 c)/\d 4=bA 7 (Bi b)/\d 5=bA 7 (Aw a)/\d 6=bA 7 z0)/\J4 a b c=some r;have c1:=i5 1 λd=>∃o,(d 3=bA 6 (A5 c)/\d 4=bA 7 (Bi b)/\d 5=bA 7 (Aw a)/\d 6=bA 7 z0/\d 46=sb o)/\J1 a b c o=some r;unfold CH at h;exact walk
end
namespace Ha
def J2(p:Ab):ABi (Ab×Bool):=some (p,true)
def J1(b:Int)(a:Ab)(d:lr)(c:AH)(j:EO):=if c.de==3 then(gt a.di c.dq).bind λl=>if l.Nc then(gt a.Dr b).bind λu=>J2 (Ab.mk d.1 a.di a.AL (a.dt++[b]) (a.Dr.set b.toNat (l.dn==c.dn)) a.Nf)
else(gt a.Dr b).bind λv=>J2 (Ab.mk d.1 a.di a.AL (a.dt++[b]) (a.Dr.set b.toNat false) a.Nf)
else
if c.de==23 then(gt a.AL c.dq).bind λo=>if o.Nc then(gt a.Dr b).bind λw=>J2 (Ab.mk d.1 a.di a.AL (a.dt++[b]) (a.Dr.set b.toNat (o.dn==c.dn)) a.Nf)
else(gt a.Dr b).bind λx=>J2 (Ab.mk d.1 a.di a.AL (a.dt++[b]) (a.Dr.set b.toNat false) a.Nf)
else
if c.de==4 then(gt a.di c.dq).bind λy=>J2 (Ab.mk d.1 (a.di.set c.dq.toNat j) a.AL (a.dt++[b]) a.Dr a.Nf)
else
if c.de==22 then(gt a.AL c.dq).bind λz=>J2 (Ab.mk d.1 a.di (a.AL.set c.dq.toNat j) (a.dt++[b]) a.Dr a.Nf)
else
if c.de==18 then
if decide (d.2.1>=0)then(gt a.Nf b).bind λaa=>J2 (Ab.mk d.1 a.di a.AL (a.dt++[b]) a.Dr (a.Nf.set b.toNat 1))
else
J2 (Ab.mk d.1 a.di a.AL (a.dt++[b]) a.Dr a.Nf)
else
if c.de==19 then(gt a.Nf b).bind λt=>J2 (Ab.mk d.1 a.di a.AL (a.dt++[b]) a.Dr (a.Nf.set b.toNat d.2.1))
else
J2 (Ab.mk d.1 a.di a.AL (a.dt++[b]) a.Dr a.Nf)
end Ha
section
open Ha
def Ha(f:AE)(i:Ab)(e:An):=(FL f i e.db).bind λq=>if !q then
some ((Ab.mk (AQ.mk [] 0 [] []) [] [] [] [] []),false)
else(HK f i e.db).bind λb=>(gt f.AB b).bind λc=>(CR f i e.db c.DS).bind λs=>(P2 i).bind λa=>(Du f.dc a.df e.db c.de c.dq e.Ou).bind λd=>if Ap (a.dt.length+1) 8=true then
if s then
J1 b a d c (EO.mk c.dn true)
else
J1 b a d c (EO.mk 0 false)
else none
theorem fW{f:AE}{i:Ab}{e:An}{r:Ab×Bool}(h:Ha f i e=some r):Says prog 64 [.agg (Av f),.agg (G8 i),.agg (HW e)] (.Bo [.agg (Oz r.1),sb r.2]):=by refine kO mix func64 (hn [(3,[27,42]),(4,[16,23,33,39,44,45,59,60,61,65,75,76,78,79,82,83,86,87,90,91,97,100,101,103,104,107,108,111,112,115,116,122,125,126,130,133,134,138,143,144,146,149,150,153,154]),(5,[17,24,34,46,52]),(9,[36,48,50,68,71,80,88,93,105,113,118,127,135]),(11,[58]),(12,[141,152]),(54,[41,55,56,57])] [(12,1)]) ?_;have a1:=@PG;have a2:=@Og;have a3:=@OI;have a4:=@fV;have a5:=@NU;have c1:=i5 1 λe=>∃(b:Int)(a:Ab)(d:lr)(c:AH)(j:EO),(e 4=bA 9 [vO 2 Bu d.1.AK,si d.1.Tx,vO 1 eB d.1.Br,vO 3 Ay d.1.AA,vO 2 IK a.di,vO 2 IK a.AL,vO 1 eI (a.dt++[b]),vO 1 eB a.Dr,vO 1 eI a.Nf]/\e 6=bA 9 z7/\e 8=si b/\e 9=bA 7 (Aw c)/\e 12=si d.2.1/\e 14=bA 2 (IK j))/\J1 b a d c j=some r;unfold Ha at h;exact walk
end
namespace CV
def J2:=some true
def L1(a:Bx)(L1:ja)(b:Int):=if decide (b<(a.AA.length:Int))then(gt a.AA b).bind λf=>(Ac a.dc b f).bind λe=>if !e then
some false
else
L1 (A8 (b+1))
else
J2
def AR(a:Bx):Nat->Int->ABi Bool
|0,_=>none
|n+1,b=>L1 a (AR a n) b
def J1(a:Bx)(c:Bool):=if c then
some false
else
AR a BQ 0
end CV
section
open CV
def CV(a:Bx):=(A9 a.dc).bind λd=>if !d then
J1 a true
else
J1 a ((a.AA.length:Int) != (a.dc.AA.length:Int))
theorem NS{a:Bx}{r:Bool}(h:CV a=some r):Says prog 136 [.agg (Kg a)] (sb r):=by refine kO mix func136 (hn [(1,[4,9,12,13,19,25,28])]) ?_;have a1:=@RZ;have a2:=@KF;have l1:=i4 λn c=>∃b,(c 1=bA 7 (Kg a)/\c 3=si b)/\AR a n b=some r;unfold CV at h;exact walk
end
namespace GH
def J1(a:Ba)(b:AY)(c:Int)(e:Bool):ABi Int:=if e then
some 2
else(Jq BQ b c a).bind λi=>some i
end GH
section
open GH
def GH(b:AY)(c:Int)(a:Ba):=(Dk BQ a).bind λf=>if !f then
some 3
else(LD BQ a).bind λd=>if decide (d.1>24)then
J1 a b c true
else
J1 a b c (decide (d.2>6))
theorem fO{b:AY}{c:Int}{a:Ba}{r:Int}(h:GH b c a=some r):Says prog 272 [.agg (Ct b),si c,.agg [si a.Op,si a.N,B4 a.dv,vS 4 Bc a.L]] (si r):=by refine kO mix func272 hn ?_;have a1:=@MJ;have a2:=@Yd;have a3:=@Yf;unfold GH at h;exact walk
end
end Go.Abs
