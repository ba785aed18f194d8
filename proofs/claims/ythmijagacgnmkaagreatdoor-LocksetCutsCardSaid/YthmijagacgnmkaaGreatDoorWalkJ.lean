/- Typed programs of Go functions, and that the functions do what these say. -/
import Derived.Test.YthmijagacgnmkaaGreatDoorWalkH
import Derived.Test.YthmijagacgnmkaaGreatDoorWalkI
set_option linter.unusedSimpArgs false
set_option linter.unusedVariables false
namespace Go.Abs
open Go.Proofs
set_option maxRecDepth 1000000
set_option maxHeartbeats 4000000
def f58c:IC:=(Ra 12 [.b 6 [119,142] (.bx 6 (.t 0)),.b 7 [18,25,30,31,33,34,37,38,40,41,45,46,49,50,54,55,57,58,61,62,64,65,66,72,73,77,78,84,85,87,88,89,92,93,97,100,103,104,106,107,110,111,113,114,117,118,125,126,127,128,130,131,134,135,136,137,140,141,149,150,151,152,154,155,157,158,159,160,163,169,174,175,177,178,181,182,184,185] (.bx 4 (.t 1)),.b 8 [90] (.bx 1 (.t 2)),.o (.bx 4 (.c (.agg z4))),.K 13 0,.B 14 false]
(Sq (Ra 17 [.A 6 6,.y 7 (.ld true 4 (.t 7)),.L 8,.C 3,.C 4,.c 54 [17,18,19,20,21] 0,.N 22]
(Ci 23 (Rb 24 [.o (.Uc z4 []),.S 4 12 24,.K 13 0,.B 14 false])))
(Ra 25 [.y 7 (.ld true 4 (.t 7)),.c 113 [25] 2,.S 4 7 26]
(Ra 0 [.K 15 0]
(Nf 3 (Ra 27 [.C 3]
(Bk 0 (Ra 29 [.q 27 1 28]
(Cn 28 (Rc 30 [.m 7 3 7,.L 8,.J 7 3 31 32,.H 7 0 33,.T 34 2]) (Ra 36 [.q 27 2 35]
(Cn 35 (Rc 37 [.m 7 3 7,.L 8,.J 7 3 38 39,.H 7 0 40,.T 41 5]) (Nf 1 (Ra 43 [.q 27 6 42]
(Cn 42 .skip (Rc 44 [.q 27 10 42])))
(Cn 42 (Rc 45 [.m 7 0 7,.C 4,.L 8,.J 7 2 46 47,.H 7 0 49,.S 1 50 48]) (Nf 2 (Ra 52 [.q 27 7 51]
(Cn 51 .skip (Rc 53 [.q 27 11 51])))
(Cn 51 (Rc 54 [.m 7 0 7,.C 4,.J 7 2 55 56,.H 7 0 57,.T 58 (-1)]) (Ra 60 [.q 27 8 59]
(Cn 59 (Ra 61 [.m 7 0 7,.C 4,.J 7 2 62 63,.m 7 1 64,.L 8,.o (.Na 1 [[si 0]] [(0,.t 67)]),.o (.app 1 8 (.t 66) (.t 68)),.b 16 [70,75] (.mv (.t 69))]
(Ra 70 [.y 16 (.cp (.t 16)),.o (.VW 114 [] (.t 70) none [])]
(Rc 72 [.m 7 0 7,.C 4,.y 16 (.cp (.t 16)),.c 115 [75] 3,.J 7 2 73 74,.H 7 1 77,.S 1 78 76]))) (Ra 80 [.q 27 9 79]
(Cn 79 (.flo ⟨7,0,4,0,1,11,81,82⟩ [i0 81 .fl,i0 82 .fl,iC 83 4,Ll 84 7 0 7,Zm 85 7 84,iC 86 4,rL 87 7 2 85 86,Ll 88 7 1 87,Zm 89 7 88,i1 90 8 (.mkf 117 [.t 8]),i0 91 (.call 116 [.t 89,.t 90] 4),i1 92 7 (.jM 7 0 4 2 (.t 83))]
[Ll 93 7 1 92,iS 1 93 91]) (Ra 95 [.q 27 12 94]
(Cn 94 (Rc 96 [.L 8,.F 1 7,.S 1 97 96]) (Ra 99 [.q 27 13 98]
(Cn 98 (Rc 100 [.F 1 7,.T 100 (-1)]) (Ra 102 [.q 27 14 101]
(Cn 101 (Rc 103 [.m 7 3 7,.L 8,.J 7 3 104 105,.H 7 2 106,.x ⟨none,.st 1 (.t 107) (.c (sb true)),none⟩]) (Ra 109 [.q 27 15 108]
(Cn 108 (Rc 110 [.m 7 3 7,.L 8,.J 7 3 111 112,.H 7 2 113,.x ⟨none,.st 1 (.t 114) (.c (sb false)),none⟩]) (Ra 116 [.q 27 16 115]
(Cn 115 (Ra 117 [.m 7 0 7,.f 2 6,.C 4,.I 2 120 121,.U 1 122,.J 7 2 118 124,.H 7 0 125,.T 126 (-1)]
(Rc 127 [.F 3 7,.y 7 (.YO (.t 127)),.L 8,.F 3 7,.y 7 (.YO (.t 130)),.L 8,.C 4,.J 7 3 128 129,.H 7 0 134,.x ⟨none,.XC (.t 135) (.c (si 3)),none⟩,.J 7 3 131 132,.H 7 1 136,.x ⟨none,.XC (.t 137) (.t 133),none⟩])) (Ra 139 [.q 27 17 138]
(Cn 138 (Ra 140 [.m 7 0 7,.f 2 6,.C 4,.I 2 143 144,.U 1 145,.L 8,.J 7 2 141 147,.H 7 0 149,.S 1 150 148]
(Rc 151 [.F 3 7,.y 7 (.YO (.t 151)),.L 8,.F 3 7,.y 7 (.YO (.t 154)),.L 8,.J 7 3 152 153,.H 7 0 157,.x ⟨none,.XC (.t 158) (.c (si 2)),none⟩,.J 7 3 155 156,.H 7 1 159,.x ⟨none,.XC (.t 160) (.c (si 0)),none⟩])) (Ra 162 [.q 27 18 161]
(Cn 161 (Rc 163 [.y 7 (.ld true 4 (.t 7)),.C 4,.C 5,.o (.VW 118 [] (.t 163) (some 3) [.t 164,.t 165]),.M 15 166]) (Ra 168 [.q 27 19 167]
(Cn 167 (Rc 169 [.y 7 (.ld true 4 (.t 7)),.C 4,.o (.VW 119 [] (.t 169) (some 3) [.t 170]),.M 15 171]) (Ra 173 [.q 27 20 172]
(Cn 172 (Rc 174 [.m 7 3 7,.C 4,.J 7 3 175 176,.H 7 0 177,.T 178 1]) (Ra 180 [.q 27 22 179]
(Ci 179 (Rc 181 [.m 7 2 7,.C 4,.J 7 1 182 183,.x ⟨none,.st 1 (.t 184) (.c (sb true)),none⟩])))))))))))))))))))))))))))))))))))
(Rb 185 [.y 7 (.ld true 4 (.t 7)),.C 15,.S 4 12 185,.M 13 186,.B 14 true]))))))
def f58g:Gi:=⟨[(18,[7]),(25,[7]),(30,[7]),(31,[7]),(33,[7]),(34,[7]),(37,[7]),(38,[7]),(40,[7]),(41,[7]),(45,[7]),(46,[7]),(49,[7]),(50,[7]),(54,[7]),(55,[7]),(57,[7]),(58,[7]),(61,[7]),(62,[7]),(64,[7]),(65,[7]),(66,[7]),(70,[16]),(72,[7]),(73,[7]),(75,[16]),(77,[7]),(78,[7]),(84,[7]),(85,[7]),(87,[7]),(88,[7]),(89,[7]),(90,[8]),(92,[7]),(93,[7]),(97,[7]),(100,[7]),(103,[7]),(104,[7]),(106,[7]),(107,[7]),(110,[7]),(111,[7]),(113,[7]),(114,[7]),(117,[7]),(118,[7]),(119,[6]),(125,[7]),(126,[7]),(127,[7]),(128,[7]),(130,[7]),(131,[7]),(134,[7]),(135,[7]),(136,[7]),(137,[7]),(140,[7]),(141,[7]),(142,[6]),(149,[7]),(150,[7]),(151,[7]),(152,[7]),(154,[7]),(155,[7]),(157,[7]),(158,[7]),(159,[7]),(160,[7]),(163,[7]),(169,[7]),(174,[7]),(175,[7]),(177,[7]),(178,[7]),(181,[7]),(182,[7]),(184,[7]),(185,[7])]⟩
def f58r:List RV:=[.cell 12 true 4,.tmp 13,.tmp 14]
namespace FL
def J3 (j:AP) (p:Int):AB8 (AP×Int×Bool):=
some (j,p,true)
def J2 (c d b:Int) (a:AP) (f:Int) (e:AD) (o:Bool):AB8 (AP×Int×Bool):=
if o then
(gt a.AE d).bind λau=>
J3 (AP.mk (a.AE.set d.toNat (AW.mk (-1) au.Al)) a.Tx a.Bp a.AA) 0
else
if c==8 then
(gt a.AE d).bind λt=>
if Ak (t.Al.length+1) 8=true then
(LO (t.Al++[b])).bind λaj=>
(slices_Compact aj).bind λal=>
J3 (AP.mk (a.AE.set d.toNat (AW.mk t.B6 al)) a.Tx a.Bp a.AA) 0
else none
else
if c==9 then
(gt a.AE d).bind λac=>
(Io ac.Al b).bind λao=>
J3 (AP.mk (a.AE.set d.toNat (AW.mk ac.B6 ao)) a.Tx a.Bp a.AA) 0
else
if c==12 then
J3 (AP.mk a.AE b a.Bp a.AA) 0
else
if c==13 then
J3 (AP.mk a.AE (-1) a.Bp a.AA) 0
else
if c==14 then
(gt a.AA b).bind λad=>
J3 (AP.mk a.AE a.Tx a.Bp (a.AA.set b.toNat (AH.mk ad.Status ad.D7 true))) 0
else
if c==15 then
(gt a.AA b).bind λae=>
J3 (AP.mk a.AE a.Tx a.Bp (a.AA.set b.toNat (AH.mk ae.Status ae.D7 false))) 0
else
if c==16 then
(gt e.Af d).bind λaf=>
(gt a.AE af.Mutex).bind λav=>
(gt a.AA b).bind λq=>
(gt (a.AA.set b.toNat (AH.mk 3 q.D7 q.Atomic)) b).bind λy=>
J3 (AP.mk (a.AE.set af.Mutex.toNat (AW.mk (-1) av.Al)) a.Tx a.Bp ((a.AA.set b.toNat (AH.mk 3 q.D7 q.Atomic)).set b.toNat (AH.mk y.Status d y.Atomic))) 0
else
if c==17 then
(gt e.Af d).bind λz=>
(gt a.AE z.Mutex).bind λap=>
(gt a.AA b).bind λs=>
(gt (a.AA.set b.toNat (AH.mk 2 s.D7 s.Atomic)) b).bind λaa=>
J3 (AP.mk (a.AE.set z.Mutex.toNat (AW.mk b ap.Al)) a.Tx a.Bp ((a.AA.set b.toNat (AH.mk 2 s.D7 s.Atomic)).set b.toNat (AH.mk aa.Status 0 aa.Atomic))) 0
else
if c==18 then
(DG a.Tx a.AA d f).bind λu=>
J3 (AP.mk a.AE a.Tx a.Bp u.2) u.1
else
if c==19 then
(DC a.Tx a.AA d).bind λv=>
J3 (AP.mk a.AE a.Tx a.Bp v.2) v.1
else
if c==20 then
(gt a.AA d).bind λab=>
J3 (AP.mk a.AE a.Tx a.Bp (a.AA.set d.toNat (AH.mk 1 ab.D7 ab.Atomic))) 0
else
if c==22 then
(gt a.Bp d).bind λaw=>
J3 (AP.mk a.AE a.Tx (a.Bp.set d.toNat true) a.AA) 0
else
J3 a 0
def J1 (c d b:Int) (a:AP) (f:Int) (e:AD) (l:Bool):AB8 (AP×Int×Bool):=
if l then
(gt a.AE d).bind λaq=>
J3 (AP.mk (a.AE.set d.toNat (AW.mk b aq.Al)) a.Tx a.Bp a.AA) 0
else
if c==7 then
J2 c d b a f e (c==7)
else
J2 c d b a f e (c==11)
end FL
section
open FL
def FL (e:AD) (i:AP) (b c:Int) (d f:Int):AB8 (AP×Int×Bool):=
(Dl e i b c d).bind λai=>
if !ai then
some ((AP.mk [] 0 [] []),0,false)
else
(EP i).bind λa=>
if c==1 then
(gt a.AA b).bind λw=>
J3 (AP.mk a.AE a.Tx a.Bp (a.AA.set b.toNat (AH.mk 2 w.D7 w.Atomic))) 0
else
if c==2 then
(gt a.AA b).bind λx=>
J3 (AP.mk a.AE a.Tx a.Bp (a.AA.set b.toNat (AH.mk 5 x.D7 x.Atomic))) 0
else
if c==6 then
J1 c d b a f e (c==6)
else
J1 c d b a f e (c==10)
theorem V9 {e:AD} {i:AP} {b c:Int} {d f:Int} {r:AP×Int×Bool} (h:FL e i b c d f=some r):Says Tryz.prog 58 [.agg (Ah e),.agg (FZ i),si b,si c,si d,si f] (.BM [.agg (IF r.1),si r.2.1,sb r.2.2]):=by refine wO mix Tryz.func58 (I:=⟨f58c,f58g,f58r⟩) ?_;simp only[f58c,f58g,f58r];have a1:= @Mt;have a2:= @WD;have a3:= @QM;have a4:= @M9;have a5:= @N0;have a6:= @Ut;have a7:= @Q5;have c3:=λn1 n2 n3 n4:Nat=>Bm 3 λτ=>∃(j:AP) (p:Int),(τ 7=bA 4 (IF j)/\τ 12=bA 4 z4/\τ 15=si p)/\J3 j p=some r;have c2:=λn1 n2 n3 n4:Nat=>Bm 2 λτ=>∃(a:AP) (o:Bool),(τ 4=si d/\τ 5=si f/\τ 6=bA 6 (Ah e)/\τ 7=bA 4 (IF a)/\τ 8=bA 1 [si b]/\τ 12=bA 4 z4/\τ 15=si 0/\τ 27=si c/\τ 51=sb o)/\J2 c d b a f e o=some r;have c1:=λn1 n2 n3 n4:Nat=>Bm 1 λτ=>∃(a:AP) (l:Bool),(τ 4=si d/\τ 5=si f/\τ 6=bA 6 (Ah e)/\τ 7=bA 4 (IF a)/\τ 8=bA 1 [si b]/\τ 12=bA 4 z4/\τ 15=si 0/\τ 27=si c/\τ 42=sb l)/\J1 c d b a f e l=some r;unfold FL at h;exact walk
end
namespace Cq
def J1:AB8 Bool:=
some true
def L1 (R101:AQ->AB8 Bool) (a:List AQ) (L1:Int->AB8 Bool) (b:Int):AB8 Bool:=
if decide (b<(a.length:Int))then
(gt a b).bind λd=>
(R101 d).bind λc=>
if !c then
some false
else
L1 (A1 (b+1))
else
J1
def AZ (R101:AQ->AB8 Bool) (a:List AQ):Nat->Int->AB8 Bool
|0,_=>none
|n+1,b=>L1 R101 a (AZ R101 a n) b
end Cq
section
open Cq
def Cq (R101:AQ->AB8 Bool) (a:List AQ):AB8 Bool:=
AZ R101 a BP 0
theorem P3 {R101:AQ->AB8 Bool} (H101:∀{x0 r},R101 x0=some r->Says Tryz.prog 255 [.agg [si x0.Op,si x0.FA,BZ x0.Name,BZ x0.Arg,vS 4 BD x0.Index,si x0.Expr.Op,si x0.Expr.N,BZ x0.Expr.Name,vS 4 BD x0.Expr.L,vS 11 A7 x0.Body,vS 11 A7 x0.Else]] (sb r)) {a:List AQ} {r:Bool} (h:Cq R101 a=some r):Says Tryz.prog 236 [vS 11 A7 a] (sb r):=by refine kO mix Tryz.func236 hn ?_;have a1:= @H101;have l1:=λn1 n2 n3 n4:Nat=>Av λn τ=>∃(b:Int),(τ 0=vS 11 A7 a/\τ 3=si b)/\AZ R101 a n b=some r;unfold Cq at h;exact walk
end
namespace A2
def QZ (p:Bool):AB8 Bool:=
some p
def J9 (R100:(List AQ)->AB8 Bool) (a:AQ) (f:Bool):AB8 Bool:=
if f then
some false
else
(R100 a.Body).bind λx=>
if x then
(R100 a.Else).bind λy=>
QZ y
else
QZ false
def J8 (R100:(List AQ)->AB8 Bool) (a:AQ) (b:Bool):AB8 Bool:=
if !b then
if decide ((a.Body.length:Int)>0)then
J9 R100 a true
else
if a.Op != 2 then
J9 R100 a (decide ((a.Else.length:Int)>0))
else
J9 R100 a false
else
if a.Op != 2 then
J9 R100 a (decide ((a.Else.length:Int)>0))
else
J9 R100 a false
def J7 (R100:(List AQ)->AB8 Bool) (a:AQ) (d:Bool):AB8 Bool:=
if d then
some false
else
if decide (a.Op≥2)then
J8 R100 a (decide (a.Op≤8))
else
J8 R100 a false
def J6 (R100:(List AQ)->AB8 Bool) (a:AQ) (o:Bool):AB8 Bool:=
if o then
(DE BP a.Expr).bind λv=>
if !v then
J7 R100 a true
else
J7 R100 a false
else
(Hw a.Expr).bind λw=>
J7 R100 a (!w)
def J5 (R100:(List AQ)->AB8 Bool) (a:AQ) (l:Bool):AB8 Bool:=
if l then
some false
else
if a.Op==1 then
J6 R100 a true
else
if a.Op==2 then
J6 R100 a true
else
if a.Op==3 then
J6 R100 a true
else
J6 R100 a (a.Op==14)
def J4 (R100:(List AQ)->AB8 Bool) (a:AQ) (j:Bool):AB8 Bool:=
if j then
some false
else
if decide ((a.Index.length:Int)>1)then
J5 R100 a true
else
if a.Op != 1 then
if decide ((a.Index.length:Int)>0)then
J5 R100 a true
else
if(a.Index.length:Int)==1 then
(gt a.Index 0).bind λz=>
(DE BP z).bind λt=>
J5 R100 a (!t)
else
J5 R100 a false
else
if(a.Index.length:Int)==1 then
(gt a.Index 0).bind λaa=>
(DE BP aa).bind λu=>
J5 R100 a (!u)
else
J5 R100 a false
def J3 (R100:(List AQ)->AB8 Bool) (a:AQ) (i:Bool):AB8 Bool:=
if i then
some false
else
if a.Op==15 then
(B3 a.Arg).bind λs=>
if !s then
J4 R100 a true
else
if a.Op != 15 then
J4 R100 a (!(a.Arg.toList==(⟨#[]⟩:AB9).toList))
else
J4 R100 a false
else
if a.Op != 15 then
J4 R100 a (!(a.Arg.toList==(⟨#[]⟩:AB9).toList))
else
J4 R100 a false
def J2 (R100:(List AQ)->AB8 Bool) (a:AQ) (c:Bool):AB8 Bool:=
if c then
if !(a.Name.toList==(⟨#[]⟩:AB9).toList)then
J3 R100 a true
else
J3 R100 a false
else
(B3 a.Name).bind λq=>
J3 R100 a (!q)
def J1 (R100:(List AQ)->AB8 Bool) (a:AQ) (e:Bool):AB8 Bool:=
if e then
some false
else
if a.Op==2 then
J2 R100 a true
else
if a.Op==3 then
J2 R100 a true
else
if a.Op==7 then
J2 R100 a true
else
J2 R100 a (a.Op==8)
end A2
section
open A2
def A2 (R100:(List AQ)->AB8 Bool) (a:AQ):AB8 Bool:=
if decide (a.Op<1)then
J1 R100 a true
else
J1 R100 a (decide (a.Op>15))
theorem Q7 {R100:(List AQ)->AB8 Bool} (H100:∀{x0 r},R100 x0=some r->Says Tryz.prog 236 [vS 11 A7 x0] (sb r)) {a:AQ} {r:Bool} (h:A2 R100 a=some r):Says Tryz.prog 255 [.agg [si a.Op,si a.FA,BZ a.Name,BZ a.Arg,vS 4 BD a.Index,si a.Expr.Op,si a.Expr.N,BZ a.Expr.Name,vS 4 BD a.Expr.L,vS 11 A7 a.Body,vS 11 A7 a.Else]] (sb r):=by refine kO mix Tryz.func255 (hn [(1,[6,10,14,18,23,28,34,42,48,52,58,62,67,72,76,83,88,96,100,105,110,116,125,131,135,142,148,152,158,162])] [(2,1),(4,2),(6,3),(9,4),(12,5),(14,6),(16,7),(18,8),(20,9)]) ?_;have a1:= @H100;have a2:= @LG;have a3:= @Ye;have a4:= @IQ;have c9:=λn1 n2 n3 n4:Nat=>Bm 9 λτ=>∃(f:Bool),(τ 1=bA 11 [si a.Op,si a.FA,BZ a.Name,BZ a.Arg,vS 4 BD a.Index,si a.Expr.Op,si a.Expr.N,BZ a.Expr.Name,vS 4 BD a.Expr.L,vS 11 A7 a.Body,vS 11 A7 a.Else]/\τ 157=sb f)/\J9 R100 a f=some r;have c8:=λn1 n2 n3 n4:Nat=>Bm 8 λτ=>∃(b:Bool),(τ 1=bA 11 [si a.Op,si a.FA,BZ a.Name,BZ a.Arg,vS 4 BD a.Index,si a.Expr.Op,si a.Expr.N,BZ a.Expr.Name,vS 4 BD a.Expr.L,vS 11 A7 a.Body,vS 11 A7 a.Else]/\τ 5=sb b)/\J8 R100 a b=some r;have c7:=λn1 n2 n3 n4:Nat=>Bm 7 λτ=>∃(d:Bool),(τ 1=bA 11 [si a.Op,si a.FA,BZ a.Name,BZ a.Arg,vS 4 BD a.Index,si a.Expr.Op,si a.Expr.N,BZ a.Expr.Name,vS 4 BD a.Expr.L,vS 11 A7 a.Body,vS 11 A7 a.Else]/\τ 130=sb d)/\J7 R100 a d=some r;have c6:=λn1 n2 n3 n4:Nat=>Bm 6 λτ=>∃(o:Bool),(τ 1=bA 11 [si a.Op,si a.FA,BZ a.Name,BZ a.Arg,vS 4 BD a.Index,si a.Expr.Op,si a.Expr.N,BZ a.Expr.Name,vS 4 BD a.Expr.L,vS 11 A7 a.Body,vS 11 A7 a.Else]/\τ 4=sb o)/\J6 R100 a o=some r;have c5:=λn1 n2 n3 n4:Nat=>Bm 5 λτ=>∃(l:Bool),(τ 1=bA 11 [si a.Op,si a.FA,BZ a.Name,BZ a.Arg,vS 4 BD a.Index,si a.Expr.Op,si a.Expr.N,BZ a.Expr.Name,vS 4 BD a.Expr.L,vS 11 A7 a.Body,vS 11 A7 a.Else]/\τ 95=sb l)/\J5 R100 a l=some r;have c4:=λn1 n2 n3 n4:Nat=>Bm 4 λτ=>∃(j:Bool),(τ 1=bA 11 [si a.Op,si a.FA,BZ a.Name,BZ a.Arg,vS 4 BD a.Index,si a.Expr.Op,si a.Expr.N,BZ a.Expr.Name,vS 4 BD a.Expr.L,vS 11 A7 a.Body,vS 11 A7 a.Else]/\τ 66=sb j)/\J4 R100 a j=some r;have c3:=λn1 n2 n3 n4:Nat=>Bm 3 λτ=>∃(i:Bool),(τ 1=bA 11 [si a.Op,si a.FA,BZ a.Name,BZ a.Arg,vS 4 BD a.Index,si a.Expr.Op,si a.Expr.N,BZ a.Expr.Name,vS 4 BD a.Expr.L,vS 11 A7 a.Body,vS 11 A7 a.Else]/\τ 47=sb i)/\J3 R100 a i=some r;have c2:=λn1 n2 n3 n4:Nat=>Bm 2 λτ=>∃(c:Bool),(τ 1=bA 11 [si a.Op,si a.FA,BZ a.Name,BZ a.Arg,vS 4 BD a.Index,si a.Expr.Op,si a.Expr.N,BZ a.Expr.Name,vS 4 BD a.Expr.L,vS 11 A7 a.Body,vS 11 A7 a.Else]/\τ 3=sb c)/\J2 R100 a c=some r;have c1:=λn1 n2 n3 n4:Nat=>Bm 1 λτ=>∃(e:Bool),(τ 1=bA 11 [si a.Op,si a.FA,BZ a.Name,BZ a.Arg,vS 4 BD a.Index,si a.Expr.Op,si a.Expr.N,BZ a.Expr.Name,vS 4 BD a.Expr.L,vS 11 A7 a.Body,vS 11 A7 a.Else]/\τ 13=sb e)/\J1 R100 a e=some r;unfold A2 at h;exact walk
end
def IH:Nat->((List AQ)->AB8 Bool)×(AQ->AB8 Bool)
|0=>((λ_=>none),(λ_=>none))
|n+1=>(Cq ((IH n).2),A2 ((IH n).1))
def HA (n:Nat):(List AQ)->AB8 Bool:=(IH n).1
def KP (n:Nat):AQ->AB8 Bool:=(IH n).2
theorem PG (n:Nat):(∀{x0 r},(HA n) x0=some r->Says Tryz.prog 236 [.sl false 11 (x0.map A7)] (sb r))/\(∀{x0 r},(KP n) x0=some r->Says Tryz.prog 255 [.agg [si x0.Op,si x0.FA,BZ x0.Name,BZ x0.Arg,.sl false 4 (x0.Index.map BD),si x0.Expr.Op,si x0.Expr.N,BZ x0.Expr.Name,.sl false 4 (x0.Expr.L.map BD),.sl false 11 (x0.Body.map A7),.sl false 11 (x0.Else.map A7)]] (sb r)):=by
  induction n with
  |zero=>exact⟨λh=>DP h,λh=>DP h⟩
  |succ n ih=>exact⟨λh=>P3 ih.2 h,λh=>Q7 ih.1 h⟩
theorem PH {n:Nat}:∀{x0 r},(HA n) x0=some r->Says Tryz.prog 236 [.sl false 11 (x0.map A7)] (sb r):=(PG n).1
namespace Bg
def Z9 (a:AG) (e:AB):AB8 (AB×Bool):=
(gt e.Count a.Thread).bind λae=>
some ((AB.mk e.Sync e.Cells e.AK (e.Count.set a.Thread.toNat (A1 (ae+1)))),true)
def QZ (a:AG) (d:AB):AB8 (AB×Bool):=
if a.Kind==22 then
(gt d.AK a.Obj).bind λai=>
Z9 a (AB.mk d.Sync d.Cells (d.AK.set a.Obj.toNat a.Value) d.Count)
else
Z9 a d
def J9 (a:AG) (b:AB) (c:AD) (ab:Int):AB8 (AB×Bool):=
(Dc c b.Sync a.Thread a.Kind a.Obj ab).bind λp=>
if a.Kind==4 then
(gt b.Cells a.Obj).bind λaf=>
QZ a (AB.mk p.1 (b.Cells.set a.Obj.toNat a.Value) b.AK b.Count)
else
QZ a (AB.mk p.1 b.Cells b.AK b.Count)
def J8 (a:AG) (b:AB) (c:AD) (l:Bool):AB8 (AB×Bool):=
if l then
some ((AB.mk (AP.mk [] 0 [] []) [] [] []),false)
else
if Ak (b.Cells.length) 8=true then
if Ak (b.AK.length) 8=true then
if Ak (b.Count.length) 8=true then
if a.Kind==18 then
J9 a b c a.Value
else
J9 a b c (-1)
else none
else none
else none
def J7 (a:AG) (b:AB) (c:AD) (j:Bool):AB8 (AB×Bool):=
if j then
some ((AB.mk (AP.mk [] 0 [] []) [] [] []),false)
else
(gt b.Count a.Thread).bind λq=>
(Dq a.Du q).bind λy=>
if !y then
J8 a b c true
else
(Dq a.DR q).bind λz=>
if !z then
J8 a b c true
else
(GO b a).bind λaa=>
J8 a b c (!aa)
def J6 (a:AG) (b:AB) (c:AD) (i:Bool):AB8 (AB×Bool):=
if i then
some ((AB.mk (AP.mk [] 0 [] []) [] [] []),false)
else
if decide ((a.DR.length:Int)>0)then
if a.Kind != 4 then
J7 a b c (a.Kind != 22)
else
J7 a b c false
else
J7 a b c false
def J5 (a:AG) (b:AB) (c:AD) (f:Bool):AB8 (AB×Bool):=
if decide ((a.Du.length:Int)>0)then
if a.Kind != 5 then
if f then
(gt c.Cells a.Obj).bind λad=>
J6 a b c (!(ad.Bw != 0))
else
J6 a b c true
else
J6 a b c false
else
J6 a b c false
def J4 (a:AG) (b:AB) (c:AD):AB8 (AB×Bool):=
if a.Kind==3 then
J5 a b c true
else
J5 a b c (a.Kind==4)
def J3 (a:AG) (b:AB) (c:AD) (t:Bool):AB8 (AB×Bool):=
if t then
some ((AB.mk (AP.mk [] 0 [] []) [] [] []),false)
else
J4 a b c
def J2 (a:AG) (b:AB) (c:AD) (s:Bool):AB8 (AB×Bool):=
if s then
if a.Site != (-1)then
some ((AB.mk (AP.mk [] 0 [] []) [] [] []),false)
else
J4 a b c
else
(LJ a.Site (c.BL.length:Int)).bind λx=>
if !x then
J3 a b c true
else
(gt c.BL a.Site).bind λac=>
J3 a b c (ac.Thread != a.Thread)
def J1 (a:AG) (b:AB) (c:AD) (o:Bool):AB8 (AB×Bool):=
if o then
some ((AB.mk (AP.mk [] 0 [] []) [] [] []),false)
else
if a.Kind==1 then
J2 a b c true
else
J2 a b c (a.Kind==2)
end Bg
section
open Bg
def Bg (c:AD) (b:AB) (a:AG):AB8 (AB×Bool):=
(HY c b).bind λu=>
if !u then
J1 a b c true
else
(LJ a.Thread (c.AA.length:Int)).bind λv=>
if !v then
J1 a b c true
else
if decide (a.Kind<1)then
J1 a b c true
else
if decide (a.Kind>23)then
J1 a b c true
else
(Cf c b.Sync a.Thread a.Kind a.Obj).bind λw=>
J1 a b c (!w)
theorem JP {c:AD} {b:AB} {a:AG} {r:AB×Bool} (h:Bg c b a=some r):Says Tryz.prog 21 [.agg (Ah c),.agg (A3 b),.agg (BX a)] (.BM [.agg (Dt r.1),sb r.2]):=by refine kO mix Tryz.func21 (hn [(3,[18,62,68,100]),(4,[36,129,140,157,161,165,176]),(5,[16,25,30,38,40,42,48,52,56,60,70,75,80,84,88,93,102,112,117,122,127,131,138,142,169,172,178,180,182,190,195,197,200,205,207,212]),(9,[189,193,194,199,203,204,209,210,211,214,217,218]),(185,[174,186,187,188])] [(2,1),(4,4),(10,5),(12,6),(15,7),(18,8)]) ?_;have a1:= @QA;have a2:= @U6;have a3:= @Yv;have a4:= @kJ;have a5:= @Re;have a6:= @Ny;have c8:=λn1 n2 n3 n4:Nat=>Bm 8 λτ=>∃(l:Bool),(τ 3=bA 6 (Ah c)/\τ 4=bA 7 (A3 b)/\τ 5=bA 7 (BX a)/\τ 6=bA 7 z0/\τ 154=sb l)/\J8 a b c l=some r;have c7:=λn1 n2 n3 n4:Nat=>Bm 7 λτ=>∃(j:Bool),(τ 3=bA 6 (Ah c)/\τ 4=bA 7 (A3 b)/\τ 5=bA 7 (BX a)/\τ 6=bA 7 z0/\τ 125=sb j)/\J7 a b c j=some r;have c6:=λn1 n2 n3 n4:Nat=>Bm 6 λτ=>∃(i:Bool),(τ 3=bA 6 (Ah c)/\τ 4=bA 7 (A3 b)/\τ 5=bA 7 (BX a)/\τ 6=bA 7 z0/\τ 110=sb i)/\J6 a b c i=some r;have c5:=λn1 n2 n3 n4:Nat=>Bm 5 λτ=>∃(f:Bool),(τ 3=bA 6 (Ah c)/\τ 4=bA 7 (A3 b)/\τ 5=bA 7 (BX a)/\τ 6=bA 7 z0/\τ 8=sb f)/\J5 a b c f=some r;have c4:=λn1 n2 n3 n4:Nat=>Bm 4 λτ=>(τ 3=bA 6 (Ah c)/\τ 4=bA 7 (A3 b)/\τ 5=bA 7 (BX a)/\τ 6=bA 7 z0)/\J4 a b c=some r;have c1:=λn1 n2 n3 n4:Nat=>Bm 1 λτ=>∃(o:Bool),(τ 3=bA 6 (Ah c)/\τ 4=bA 7 (A3 b)/\τ 5=bA 7 (BX a)/\τ 6=bA 7 z0/\τ 46=sb o)/\J1 a b c o=some r;unfold Bg at h;exact walk
end
namespace Bz
def J2:AB8 Bool:=
some true
def L1 (a:BT) (L1:Int->AB8 Bool) (b:Int):AB8 Bool:=
if decide (b<(a.AA.length:Int))then
(gt a.AA b).bind λf=>
(AX a.World b f).bind λe=>
if !e then
some false
else
L1 (A1 (b+1))
else
J2
def AZ (a:BT):Nat->Int->AB8 Bool
|0,_=>none
|n+1,b=>L1 a (AZ a n) b
def J1 (a:BT) (c:Bool):AB8 Bool:=
if c then
some false
else
AZ a BP 0
end Bz
section
open Bz
def Bz (a:BT):AB8 Bool:=
(As a.World).bind λd=>
if !d then
J1 a true
else
J1 a ((a.AA.length:Int) != (a.World.AA.length:Int))
theorem MI {a:BT} {r:Bool} (h:Bz a=some r):Says Tryz.prog 155 [.agg (Jo a)] (sb r):=by refine kO mix Tryz.func155 (hn [(1,[4,9,12,13,19,25,28])]) ?_;have a1:= @P7;have a2:= @JH;have l1:=λn1 n2 n3 n4:Nat=>Av λn τ=>∃(b:Int),(τ 1=bA 7 (Jo a)/\τ 3=si b)/\AZ a n b=some r;unfold Bz at h;exact walk
end
namespace FM
def J1 (a:BB) (b:AR) (c:Int) (e:Bool):AB8 Int:=
if e then
some 2
else
(I2 BP b c a).bind λi=>
some i
end FM
section
open FM
def FM (b:AR) (c:Int) (a:BB):AB8 Int:=
(DE BP a).bind λf=>
if !f then
some 3
else
(KQ BP a).bind λd=>
if decide (d.1>24)then
J1 a b c true
else
J1 a b c (decide (d.2>6))
theorem Zv {b:AR} {c:Int} {a:BB} {r:Int} (h:FM b c a=some r):Says Tryz.prog 259 [.agg (CN b),si c,.agg [si a.Op,si a.N,BZ a.Name,vS 4 BD a.L]] (si r):=by refine kO mix Tryz.func259 hn ?_;have a1:= @LG;have a2:= @WR;have a3:= @WU;unfold FM at h;exact walk
end
namespace JO
def J1 (c:Bool):AB8 Bool:=
some c
end JO
section
open JO
def JO:AB8 Bool:=
(HQ (DO.mk 0 0 []) 0 true (D5.mk [0] [])).bind λb=>
(HQ b.1 1 true (D5.mk [1] [])).bind λa=>
(HQ a.1 0 true (D5.mk [0] [])).bind λd=>
if !b.2 then
if !a.2 then
if d.2 then
if a.1.State==3 then
(HC a.1.AE [1]).bind λe=>
J1 e
else
J1 false
else
J1 false
else
J1 false
else
J1 false
theorem YL {r:Bool} (h:JO=some r):Says Tryz.prog 28 [] (sb r):=by refine kO mix Tryz.func28 (hn [(3,[38,43])]) ?_;have a1:= @V5;have a2:= @QF;unfold JO at h;exact walk
end
end Go.Abs
