/- Typed programs of Go functions, and that the functions do what these say. -/
import Derived.Test.YtdojkofgkcmagaaGreatDoorWalkD
set_option linter.defProp false
set_option linter.unusedSimpArgs false
set_option linter.unusedVariables false
namespace Go.Abs
open Go.Proofs Tryz
set_option maxRecDepth 1000000
set_option maxHeartbeats 4000000
namespace Bj
def Y4(a:AG)(e:AB):ABd (AB×Bool):=
(gt e.Count a.Thread).bind λae=>
some ((AB.mk e.Sync e.Cells e.AK (e.Count.set a.Thread.toNat (BA (ae+1)))),true)
def Oz(a:AG)(d:AB):=
if a.Kind==22 then
(gt d.AK a.Obj).bind λai=>
Y4 a (AB.mk d.Sync d.Cells (d.AK.set a.Obj.toNat a.Value) d.Count)
else
Y4 a d
def J9(a:AG)(b:AB)(c:AD)(ab:Int):=
(DN c b.Sync a.Thread a.Kind a.Obj ab).bind λp=>
if a.Kind==4 then
(gt b.Cells a.Obj).bind λaf=>
Oz a (AB.mk p.1 (b.Cells.set a.Obj.toNat a.Value) b.AK b.Count)
else
Oz a (AB.mk p.1 b.Cells b.AK b.Count)
def J8(a:AG)(b:AB)(c:AD)(l:Bool):=
if l then
some ((AB.mk (AP.mk [] 0 [] []) [] [] []),false)
else
if Ap (b.Cells.length) 8=true then
if Ap (b.AK.length) 8=true then
if Ap (b.Count.length) 8=true then
if a.Kind==18 then
J9 a b c a.Value
else
J9 a b c (-1)
else none
else none
else none
def J7(a:AG)(b:AB)(c:AD)(j:Bool):=
if j then
some ((AB.mk (AP.mk [] 0 [] []) [] [] []),false)
else
(gt b.Count a.Thread).bind λq=>
(Dr a.Dw q).bind λy=>
if !y then
J8 a b c true
else
(Dr a.DM q).bind λz=>
if !z then
J8 a b c true
else
(F6 b a).bind λaa=>
J8 a b c (!aa)
def J6(a:AG)(b:AB)(c:AD)(i:Bool):=
if i then
some ((AB.mk (AP.mk [] 0 [] []) [] [] []),false)
else
if decide ((a.DM.length:Int)>0)then
if a.Kind != 4 then
J7 a b c (a.Kind != 22)
else
J7 a b c false
else
J7 a b c false
def J5(a:AG)(b:AB)(c:AD)(f:Bool):=
if decide ((a.Dw.length:Int)>0)then
if a.Kind != 5 then
if f then
(gt c.Cells a.Obj).bind λad=>
J6 a b c (!(ad.Bq != 0))
else
J6 a b c true
else
J6 a b c false
else
J6 a b c false
def J4(a:AG)(b:AB)(c:AD):=
if a.Kind==3 then
J5 a b c true
else
J5 a b c (a.Kind==4)
def J3(a:AG)(b:AB)(c:AD)(t:Bool):=
if t then
some ((AB.mk (AP.mk [] 0 [] []) [] [] []),false)
else
J4 a b c
def J2(a:AG)(b:AB)(c:AD)(s:Bool):=
if s then
if a.Site != (-1)then
some ((AB.mk (AP.mk [] 0 [] []) [] [] []),false)
else
J4 a b c
else
(Ky a.Site (c.BU.length:Int)).bind λx=>
if !x then
J3 a b c true
else
(gt c.BU a.Site).bind λac=>
J3 a b c (ac.Thread != a.Thread)
def J1(a:AG)(b:AB)(c:AD)(o:Bool):=
if o then
some ((AB.mk (AP.mk [] 0 [] []) [] [] []),false)
else
if a.Kind==1 then
J2 a b c true
else
J2 a b c (a.Kind==2)
end Bj
section
open Bj
def Bj(c:AD)(b:AB)(a:AG):=
(HB c b).bind λu=>
if !u then
J1 a b c true
else
(Ky a.Thread (c.AA.length:Int)).bind λv=>
if !v then
J1 a b c true
else
if decide (a.Kind<1)then
J1 a b c true
else
if decide (a.Kind>23)then
J1 a b c true
else
(Ch c b.Sync a.Thread a.Kind a.Obj).bind λw=>
J1 a b c (!w)
def Ki{c:AD}{b:AB}{a:AG}{r:fD}(h:Bj c b a=some r):Says prog 55 [.agg (Aq c),.agg (BI b),.agg (B1 a)] (.BQ [.agg (GG r.1),sb r.2]):=by refine kO mix func55 (hn [(3,[18,62,68,100]),(4,[36,129,140,157,161,165,176]),(5,[16,25,30,38,40,42,48,52,56,60,70,75,80,84,88,93,102,112,117,122,127,131,138,142,169,172,178,180,182,190,195,197,200,205,207,212]),(9,[189,193,194,199,203,204,209,210,211,214,217,218]),(185,[174,186,187,188])] [(2,1),(4,4),(10,5),(12,6),(15,7),(18,8)]) ?_;have a1:= @NU;have a2:= @UY;have a3:= @YN;have a4:= @kU;have a5:= @Q6;have a6:= @NW;have c8:=db 8 λ_ _ _ _ d=>∃l,(d 3=bA 6 (Aq c)/\d 4=bA 7 (BI b)/\d 5=bA 7 (B1 a)/\d 6=bA 7 z0/\d 154=sb l)/\J8 a b c l=some r;have c7:=db 7 λ_ _ _ _ d=>∃j,(d 3=bA 6 (Aq c)/\d 4=bA 7 (BI b)/\d 5=bA 7 (B1 a)/\d 6=bA 7 z0/\d 125=sb j)/\J7 a b c j=some r;have c6:=db 6 λ_ _ _ _ d=>∃i,(d 3=bA 6 (Aq c)/\d 4=bA 7 (BI b)/\d 5=bA 7 (B1 a)/\d 6=bA 7 z0/\d 110=sb i)/\J6 a b c i=some r;have c5:=db 5 λ_ _ _ _ d=>∃f,(d 3=bA 6 (Aq c)/\d 4=bA 7 (BI b)/\d 5=bA 7 (B1 a)/\d 6=bA 7 z0/\d 8=sb f)/\J5 a b c f=some r;have c4:=db 4 λ_ _ _ _ d=>(d 3=bA 6 (Aq c)/\d 4=bA 7 (BI b)/\d 5=bA 7 (B1 a)/\d 6=bA 7 z0)/\J4 a b c=some r;have c1:=db 1 λ_ _ _ _ d=>∃o,(d 3=bA 6 (Aq c)/\d 4=bA 7 (BI b)/\d 5=bA 7 (B1 a)/\d 6=bA 7 z0/\d 46=sb o)/\J1 a b c o=some r;unfold Bj at h;exact walk
end
def f150c:IC:=(Ra 12 [.b 6 [119,142] (.bx 6 (.t 0)),.b 7 [18,25,30,31,33,34,37,38,40,41,45,46,49,50,54,55,57,58,61,62,64,65,66,72,73,77,78,84,85,87,88,89,92,93,97,100,103,104,106,107,110,111,113,114,117,118,125,126,127,128,130,131,134,135,136,137,140,141,149,150,151,152,154,155,157,158,159,160,163,169,174,175,177,178,181,182,184,185] (.bx 4 (.t 1)),.b 8 [90] (.bx 1 (.t 2)),.o (.bx 4 (.c (.agg z5))),.K 13 0,.B 14 false]
(Sq (Ra 17 [.A 6 6,.y 7 (.ld true 4 (.t 7)),.L 8,.C 3,.C 4,.c 146 [17,18,19,20,21] 0,.N 22]
(Ci 23 (Rb 24 [.o (.T2 z5 []),.S 4 12 24,.K 13 0,.B 14 false])))
(Ra 25 [.y 7 (.ld true 4 (.t 7)),.c 193 [25] 2,.S 4 7 26]
(Ra 0 [.K 15 0]
(Np 3 (Ra 27 [.C 3]
(Bk 0 (Ra 29 [.q 27 1 28]
(Cn 28 (Rc 30 [.m 7 3 7,.L 8,.J 7 3 31 32,.H 7 0 33,.T 34 2]) (Ra 36 [.q 27 2 35]
(Cn 35 (Rc 37 [.m 7 3 7,.L 8,.J 7 3 38 39,.H 7 0 40,.T 41 5]) (Np 1 (Ra 43 [.q 27 6 42]
(Cn 42 .skip (Rc 44 [.q 27 10 42])))
(Cn 42 (Rc 45 [.m 7 0 7,.C 4,.L 8,.J 7 2 46 47,.H 7 0 49,.S 1 50 48]) (Np 2 (Ra 52 [.q 27 7 51]
(Cn 51 .skip (Rc 53 [.q 27 11 51])))
(Cn 51 (Rc 54 [.m 7 0 7,.C 4,.J 7 2 55 56,.H 7 0 57,.T 58 (-1)]) (Ra 60 [.q 27 8 59]
(Cn 59 (Ra 61 [.m 7 0 7,.C 4,.J 7 2 62 63,.m 7 1 64,.L 8,.o (.Nk 1 [[si 0]] [(0,.t 67)]),.o (.app 1 8 (.t 66) (.t 68)),.b 16 [70,75] (.mv (.t 69))]
(Ra 70 [.y 16 (.cp (.t 16)),.o (.Uv 169 [] (.t 70) none [])]
(Rc 72 [.m 7 0 7,.C 4,.y 16 (.cp (.t 16)),.c 170 [75] 3,.J 7 2 73 74,.H 7 1 77,.S 1 78 76]))) (Ra 80 [.q 27 9 79]
(Cn 79 (.flo ⟨7,0,4,0,1,11,81,82⟩ [i0 81 .fl,i0 82 .fl,iC 83 4,LU 84 7 0 7,Zk 85 7 84,iC 86 4,xG 87 7 2 85 86,LU 88 7 1 87,Zk 89 7 88,i1 90 8 (.mkf 195 [.t 8]),i0 91 (.call 194 [.t 89,.t 90] 4),i1 92 7 (.jQ 7 0 4 2 (.t 83))]
[LU 93 7 1 92,iS 1 93 91]) (Ra 95 [.q 27 12 94]
(Cn 94 (Rc 96 [.L 8,.F 1 7,.S 1 97 96]) (Ra 99 [.q 27 13 98]
(Cn 98 (Rc 100 [.F 1 7,.T 100 (-1)]) (Ra 102 [.q 27 14 101]
(Cn 101 (Rc 103 [.m 7 3 7,.L 8,.J 7 3 104 105,.H 7 2 106,.x ⟨none,.st 1 (.t 107) (.c (sb true)),none⟩]) (Ra 109 [.q 27 15 108]
(Cn 108 (Rc 110 [.m 7 3 7,.L 8,.J 7 3 111 112,.H 7 2 113,.x ⟨none,.st 1 (.t 114) (.c (sb false)),none⟩]) (Ra 116 [.q 27 16 115]
(Cn 115 (Ra 117 [.m 7 0 7,.f 2 6,.C 4,.I 2 120 121,.U 1 122,.J 7 2 118 124,.H 7 0 125,.T 126 (-1)]
(Rc 127 [.F 3 7,.y 7 (.Xn (.t 127)),.L 8,.F 3 7,.y 7 (.Xn (.t 130)),.L 8,.C 4,.J 7 3 128 129,.H 7 0 134,.x ⟨none,.WU (.t 135) (.c (si 3)),none⟩,.J 7 3 131 132,.H 7 1 136,.x ⟨none,.WU (.t 137) (.t 133),none⟩])) (Ra 139 [.q 27 17 138]
(Cn 138 (Ra 140 [.m 7 0 7,.f 2 6,.C 4,.I 2 143 144,.U 1 145,.L 8,.J 7 2 141 147,.H 7 0 149,.S 1 150 148]
(Rc 151 [.F 3 7,.y 7 (.Xn (.t 151)),.L 8,.F 3 7,.y 7 (.Xn (.t 154)),.L 8,.J 7 3 152 153,.H 7 0 157,.x ⟨none,.WU (.t 158) (.c (si 2)),none⟩,.J 7 3 155 156,.H 7 1 159,.x ⟨none,.WU (.t 160) (.c (si 0)),none⟩])) (Ra 162 [.q 27 18 161]
(Cn 161 (Rc 163 [.y 7 (.ld true 4 (.t 7)),.C 4,.C 5,.o (.Uv 196 [] (.t 163) (some 3) [.t 164,.t 165]),.M 15 166]) (Ra 168 [.q 27 19 167]
(Cn 167 (Rc 169 [.y 7 (.ld true 4 (.t 7)),.C 4,.o (.Uv 197 [] (.t 169) (some 3) [.t 170]),.M 15 171]) (Ra 173 [.q 27 20 172]
(Cn 172 (Rc 174 [.m 7 3 7,.C 4,.J 7 3 175 176,.H 7 0 177,.T 178 1]) (Ra 180 [.q 27 22 179]
(Ci 179 (Rc 181 [.m 7 2 7,.C 4,.J 7 1 182 183,.x ⟨none,.st 1 (.t 184) (.c (sb true)),none⟩])))))))))))))))))))))))))))))))))))
(Rb 185 [.y 7 (.ld true 4 (.t 7)),.C 15,.S 4 12 185,.M 13 186,.B 14 true]))))))
def f150g:Gi:=⟨[(18,[7]),(25,[7]),(30,[7]),(31,[7]),(33,[7]),(34,[7]),(37,[7]),(38,[7]),(40,[7]),(41,[7]),(45,[7]),(46,[7]),(49,[7]),(50,[7]),(54,[7]),(55,[7]),(57,[7]),(58,[7]),(61,[7]),(62,[7]),(64,[7]),(65,[7]),(66,[7]),(70,[16]),(72,[7]),(73,[7]),(75,[16]),(77,[7]),(78,[7]),(84,[7]),(85,[7]),(87,[7]),(88,[7]),(89,[7]),(90,[8]),(92,[7]),(93,[7]),(97,[7]),(100,[7]),(103,[7]),(104,[7]),(106,[7]),(107,[7]),(110,[7]),(111,[7]),(113,[7]),(114,[7]),(117,[7]),(118,[7]),(119,[6]),(125,[7]),(126,[7]),(127,[7]),(128,[7]),(130,[7]),(131,[7]),(134,[7]),(135,[7]),(136,[7]),(137,[7]),(140,[7]),(141,[7]),(142,[6]),(149,[7]),(150,[7]),(151,[7]),(152,[7]),(154,[7]),(155,[7]),(157,[7]),(158,[7]),(159,[7]),(160,[7]),(163,[7]),(169,[7]),(174,[7]),(175,[7]),(177,[7]),(178,[7]),(181,[7]),(182,[7]),(184,[7]),(185,[7])]⟩
def f150r:List RV:=[.cell 12 true 4,.tmp 13,.tmp 14]
namespace E3
def J3(j:AP)(p:Int):ABd (AP×Int×Bool):=
some (j,p,true)
def J2(c d b:Int)(a:AP)(f:Int)(e:AD)(o:Bool):=
if o then
(gt a.AF d).bind λau=>
J3 (AP.mk (a.AF.set d.toNat (AW.mk (-1) au.Ak)) a.Tx a.Bn a.AA) 0
else
if c==8 then
(gt a.AF d).bind λt=>
if Ap (t.Ak.length+1) 8=true then
(LP (t.Ak++[b])).bind λaj=>
(slices_Compact aj).bind λal=>
J3 (AP.mk (a.AF.set d.toNat (AW.mk t.CG al)) a.Tx a.Bn a.AA) 0
else none
else
if c==9 then
(gt a.AF d).bind λac=>
(IU ac.Ak b).bind λao=>
J3 (AP.mk (a.AF.set d.toNat (AW.mk ac.CG ao)) a.Tx a.Bn a.AA) 0
else
if c==12 then
J3 (AP.mk a.AF b a.Bn a.AA) 0
else
if c==13 then
J3 (AP.mk a.AF (-1) a.Bn a.AA) 0
else
if c==14 then
(gt a.AA b).bind λad=>
J3 (AP.mk a.AF a.Tx a.Bn (a.AA.set b.toNat (AH.mk ad.Status ad.Dg true))) 0
else
if c==15 then
(gt a.AA b).bind λae=>
J3 (AP.mk a.AF a.Tx a.Bn (a.AA.set b.toNat (AH.mk ae.Status ae.Dg false))) 0
else
if c==16 then
(gt e.Ai d).bind λaf=>
(gt a.AF af.Mutex).bind λav=>
(gt a.AA b).bind λq=>
(gt (a.AA.set b.toNat (AH.mk 3 q.Dg q.Atomic)) b).bind λy=>
J3 (AP.mk (a.AF.set af.Mutex.toNat (AW.mk (-1) av.Ak)) a.Tx a.Bn ((a.AA.set b.toNat (AH.mk 3 q.Dg q.Atomic)).set b.toNat (AH.mk y.Status d y.Atomic))) 0
else
if c==17 then
(gt e.Ai d).bind λz=>
(gt a.AF z.Mutex).bind λap=>
(gt a.AA b).bind λs=>
(gt (a.AA.set b.toNat (AH.mk 2 s.Dg s.Atomic)) b).bind λaa=>
J3 (AP.mk (a.AF.set z.Mutex.toNat (AW.mk b ap.Ak)) a.Tx a.Bn ((a.AA.set b.toNat (AH.mk 2 s.Dg s.Atomic)).set b.toNat (AH.mk aa.Status 0 aa.Atomic))) 0
else
if c==18 then
(DJ a.Tx a.AA d f).bind λu=>
J3 (AP.mk a.AF a.Tx a.Bn u.2) u.1
else
if c==19 then
(DB a.Tx a.AA d).bind λv=>
J3 (AP.mk a.AF a.Tx a.Bn v.2) v.1
else
if c==20 then
(gt a.AA d).bind λab=>
J3 (AP.mk a.AF a.Tx a.Bn (a.AA.set d.toNat (AH.mk 1 ab.Dg ab.Atomic))) 0
else
if c==22 then
(gt a.Bn d).bind λaw=>
J3 (AP.mk a.AF a.Tx (a.Bn.set d.toNat true) a.AA) 0
else
J3 a 0
def J1(c d b:Int)(a:AP)(f:Int)(e:AD)(l:Bool):=
if l then
(gt a.AF d).bind λaq=>
J3 (AP.mk (a.AF.set d.toNat (AW.mk b aq.Ak)) a.Tx a.Bn a.AA) 0
else
if c==7 then
J2 c d b a f e (c==7)
else
J2 c d b a f e (c==11)
end E3
section
open E3
def E3(e:AD)(i:AP)(b c:Int)(d f:Int):=
(Dm e i b c d).bind λai=>
if !ai then
some ((AP.mk [] 0 [] []),0,false)
else
(EJ i).bind λa=>
if c==1 then
(gt a.AA b).bind λw=>
J3 (AP.mk a.AF a.Tx a.Bn (a.AA.set b.toNat (AH.mk 2 w.Dg w.Atomic))) 0
else
if c==2 then
(gt a.AA b).bind λx=>
J3 (AP.mk a.AF a.Tx a.Bn (a.AA.set b.toNat (AH.mk 5 x.Dg x.Atomic))) 0
else
if c==6 then
J1 c d b a f e (c==6)
else
J1 c d b a f e (c==10)
def Vd{e:AD}{i:AP}{b c:Int}{d f:Int}{r:ft}(h:E3 e i b c d f=some r):Says prog 150 [.agg (Aq e),.agg (F8 i),si b,si c,si d,si f] (.BQ [.agg (Ht r.1),si r.2.1,sb r.2.2]):=by refine wO mix func150 (I:=⟨f150c,f150g,f150r⟩) ?_;simp only[f150c,f150g,f150r];have a1:= @MV;have a2:= @Vf;have a3:= @Tr;have a4:= @Oy;have a5:= @NZ;have a6:= @UN;have a7:= @Qc;have c3:=db 3 λ_ _ _ _ a=>∃j p,(a 7=bA 4 (Ht j)/\a 12=bA 4 z5/\a 15=si p)/\J3 j p=some r;have c2:=db 2 λ_ _ _ _ g=>∃a o,(g 4=si d/\g 5=si f/\g 6=bA 6 (Aq e)/\g 7=bA 4 (Ht a)/\g 8=bA 1 [si b]/\g 12=bA 4 z5/\g 15=si 0/\g 27=si c/\g 51=sb o)/\J2 c d b a f e o=some r;have c1:=db 1 λ_ _ _ _ g=>∃a l,(g 4=si d/\g 5=si f/\g 6=bA 6 (Aq e)/\g 7=bA 4 (Ht a)/\g 8=bA 1 [si b]/\g 12=bA 4 z5/\g 15=si 0/\g 27=si c/\g 42=sb l)/\J1 c d b a f e l=some r;unfold E3 at h;exact walk
end
namespace Hz
def J2(l:i5):ABd (List AP):=
some l
def J1(L1:AP->(List AP)->Int->ABd (List AP))(c:i5)(e:AP)(d:Int)(a:AD)(f:AG)(o:Int):=
(DN a e f.Thread f.Kind f.Obj o).bind λj=>
if Ap (c.length+1) 80=true then
L1 j.1 (c++[j.1]) (BA (d+1))
else none
def L1(b:dx)(a:AD)(L1:AP->(List AP)->Int->ABd (List AP))(e:AP)(c:i5)(d:Int):=
if decide (d<(b.length:Int))then
(gt b d).bind λf=>
if f.Kind==18 then
J1 L1 c e d a f f.Value
else
J1 L1 c e d a f (-1)
else
J2 c
def Aa(b:dx)(a:AD):Nat->AP->(List AP)->Int->ABd (List AP)
|0,_,_,_=>none
|n+1,e,c,d=>L1 b a (Aa b a n) e c d
end Hz
section
open Hz
def Hz(a:AD)(i:AP)(b:dx):=
Aa b a BW i [i] 0
def ref27_States_ok{a:AD}{i:AP}{b:dx}{r:i5}(h:Hz a i b=some r):Says prog 59 [.agg (Aq a),.agg (F8 i),vS 7 B1 b] (vS 4 F8 r):=by refine kF mix func59 (hn [(7,[38,43]),(9,[19,22,27,29,31])] (C:=[(106,1)])) ?_;have a1:= @NU;have l1:=da λ_ _ _ _ n f=>∃e c d,(f 3=bA 6 (Aq a)/\f 4=bA 4 (F8 e)/\f 7=vO 4 F8 c/\f 13=vS 7 B1 b/\f 14=si (b.length:Int)/\f 15=si d)/\Aa b a n e c d=some r;unfold Hz at h;exact walk
end
namespace Bz
def J2:=
some true
def L1(a:BT)(L1:df)(b:Int):=
if decide (b<(a.AA.length:Int))then
(gt a.AA b).bind λf=>
(AX a.World b f).bind λe=>
if !e then
some false
else
L1 (BA (b+1))
else
J2
def Aa(a:BT):Nat->Int->ABd Bool
|0,_=>none
|n+1,b=>L1 a (Aa a n) b
def J1(a:BT)(c:Bool):=
if c then
some false
else
Aa a BW 0
end Bz
section
open Bz
def Bz(a:BT):=
(As a.World).bind λd=>
if !d then
J1 a true
else
J1 a ((a.AA.length:Int) != (a.World.AA.length:Int))
def Ln{a:BT}{r:Bool}(h:Bz a=some r):Says prog 136 [.agg (JS a)] (sb r):=by refine kO mix func136 (hn [(1,[4,9,12,13,19,25,28])]) ?_;have a1:= @Pn;have a2:= @I1;have l1:=da λ_ _ _ _ n c=>∃b,(c 1=bA 7 (JS a)/\c 3=si b)/\Aa a n b=some r;unfold Bz at h;exact walk
end
namespace E4
def J1(a:BE)(b:AR)(c:Int)(e:Bool):ABd Int:=
if e then
some 2
else
(Il BW b c a).bind λi=>
some i
end E4
section
open E4
def E4(b:AR)(c:Int)(a:BE):=
(DE BW a).bind λf=>
if !f then
some 3
else
(Jw BW a).bind λd=>
if decide (d.1>24)then
J1 a b c true
else
J1 a b c (decide (d.2>6))
def ZS{b:AR}{c:Int}{a:BE}{r:Int}(h:E4 b c a=some r):Says prog 272 [.agg (CS b),si c,.agg [si a.Op,si a.N,BZ a.Name,vS 4 BH a.L]] (si r):=by refine kO mix func272 hn ?_;have a1:= @Kw;have a2:= @Vp;have a3:= @Vr;unfold E4 at h;exact walk
end
namespace PV
def J1(c:Bool):ABd Bool:=
some c
end PV
section
open PV
def PV:=
(MR (FC.mk 0 0 []) 0 true (FL.mk [0] [])).bind λb=>
(MR b.1 1 true (FL.mk [1] [])).bind λa=>
(MR a.1 0 true (FL.mk [0] [])).bind λd=>
if !b.2 then
if !a.2 then
if d.2 then
if a.1.State==3 then
(Ha a.1.AF [1]).bind λe=>
J1 e
else
J1 false
else
J1 false
else
J1 false
else
J1 false
def law28_awake_ok{r:Bool}(h:PV=some r):Says prog 22 [] (sb r):=by refine kO mix func22 (hn [(3,[38,43])]) ?_;have a1:= @lockset_Step_ok;have a2:= @kV;unfold PV at h;exact walk
end
namespace Cr
def J1:=
some true
def L1(R101:AQ->ABd Bool)(a:d5)(L1:df)(b:Int):=
if decide (b<(a.length:Int))then
(gt a b).bind λd=>
(R101 d).bind λc=>
if !c then
some false
else
L1 (BA (b+1))
else
J1
def Aa(R101:AQ->ABd Bool)(a:d5):Nat->Int->ABd Bool
|0,_=>none
|n+1,b=>L1 R101 a (Aa R101 a n) b
end Cr
variable{d:AQ->ABd Bool}{b:d5}{a:Bool}
section
open Cr
def Cr(R101:AQ->ABd Bool)(a:d5):=
Aa R101 a BW 0
theorem Pj(H101:∀{x0 a},d x0=some a->Says prog 268 [.agg [si x0.Op,si x0.FK,BZ x0.Name,BZ x0.Arg,vS 4 BH x0.Index,si x0.Expr.Op,si x0.Expr.N,BZ x0.Expr.Name,vS 4 BH x0.Expr.L,vS 11 A7 x0.Body,vS 11 A7 x0.Else]] (sb a))(h:Cr d b=some a):Says prog 245 [vS 11 A7 b] (sb a):=by refine kO mix func245 hn ?_;have a1:= @H101;have l1:=da λ_ _ _ _ n c=>∃r,(c 0=vS 11 A7 b/\c 3=si r)/\Aa d b n r=some a;unfold Cr at h;exact walk
end
namespace A2
def Oz(p:Bool):ABd Bool:=
some p
def J9(R100:ej)(a:AQ)(f:Bool):=
if f then
some false
else
(R100 a.Body).bind λx=>
if x then
(R100 a.Else).bind λy=>
Oz y
else
Oz false
def J8(R100:ej)(a:AQ)(b:Bool):=
if !b then
if decide ((a.Body.length:Int)>0)then
J9 R100 a true
else
if a.Op != 2 then
J9 R100 a (decide ((a.Else.length:Int)>0))
else
J9 R100 a false
else
if a.Op != 2 then
J9 R100 a (decide ((a.Else.length:Int)>0))
else
J9 R100 a false
def J7(R100:ej)(a:AQ)(d:Bool):=
if d then
some false
else
if decide (a.Op>=2)then
J8 R100 a (decide (a.Op<=8))
else
J8 R100 a false
def J6(R100:ej)(a:AQ)(o:Bool):=
if o then
(DE BW a.Expr).bind λv=>
if !v then
J7 R100 a true
else
J7 R100 a false
else
(HX a.Expr).bind λw=>
J7 R100 a (!w)
def J5(R100:ej)(a:AQ)(l:Bool):=
if l then
some false
else
if a.Op==1 then
J6 R100 a true
else
if a.Op==2 then
J6 R100 a true
else
if a.Op==3 then
J6 R100 a true
else
J6 R100 a (a.Op==14)
def J4(R100:ej)(a:AQ)(j:Bool):=
if j then
some false
else
if decide ((a.Index.length:Int)>1)then
J5 R100 a true
else
if a.Op != 1 then
if decide ((a.Index.length:Int)>0)then
J5 R100 a true
else
if(a.Index.length:Int)==1 then
(gt a.Index 0).bind λz=>
(DE BW z).bind λt=>
J5 R100 a (!t)
else
J5 R100 a false
else
if(a.Index.length:Int)==1 then
(gt a.Index 0).bind λaa=>
(DE BW aa).bind λu=>
J5 R100 a (!u)
else
J5 R100 a false
def J3(R100:ej)(a:AQ)(i:Bool):=
if i then
some false
else
if a.Op==15 then
(B5 a.Arg).bind λs=>
if !s then
J4 R100 a true
else
if a.Op != 15 then
J4 R100 a (!(a.Arg.toList==(⟨#[]⟩:ABe).toList))
else
J4 R100 a false
else
if a.Op != 15 then
J4 R100 a (!(a.Arg.toList==(⟨#[]⟩:ABe).toList))
else
J4 R100 a false
def J2(R100:ej)(a:AQ)(c:Bool):=
if c then
if !(a.Name.toList==(⟨#[]⟩:ABe).toList)then
J3 R100 a true
else
J3 R100 a false
else
(B5 a.Name).bind λq=>
J3 R100 a (!q)
def J1(R100:ej)(a:AQ)(e:Bool):=
if e then
some false
else
if a.Op==2 then
J2 R100 a true
else
if a.Op==3 then
J2 R100 a true
else
if a.Op==7 then
J2 R100 a true
else
J2 R100 a (a.Op==8)
end A2
variable{e:ej}{c:AQ}
section
open A2
def A2(R100:ej)(a:AQ):=
if decide (a.Op<1)then
J1 R100 a true
else
J1 R100 a (decide (a.Op>15))
theorem Qe(H100:∀{x0 a},e x0=some a->Says prog 245 [vS 11 A7 x0] (sb a))(h:A2 e c=some a):Says prog 268 [.agg [si c.Op,si c.FK,BZ c.Name,BZ c.Arg,vS 4 BH c.Index,si c.Expr.Op,si c.Expr.N,BZ c.Expr.Name,vS 4 BH c.Expr.L,vS 11 A7 c.Body,vS 11 A7 c.Else]] (sb a):=by refine kO mix func268 (hn [(1,[6,10,14,18,23,28,34,42,48,52,58,62,67,72,76,83,88,96,100,105,110,116,125,131,135,142,148,152,158,162])] [(2,1),(4,2),(6,3),(9,4),(12,5),(14,6),(16,7),(18,8),(20,9)]) ?_;have a1:= @H100;have a2:= @Kw;have a3:= @X5;have a4:= @Hp;have c9:=db 9 λ_ _ _ _ b=>∃f,(b 1=bA 11 [si c.Op,si c.FK,BZ c.Name,BZ c.Arg,vS 4 BH c.Index,si c.Expr.Op,si c.Expr.N,BZ c.Expr.Name,vS 4 BH c.Expr.L,vS 11 A7 c.Body,vS 11 A7 c.Else]/\b 157=sb f)/\J9 e c f=some a;have c8:=db 8 λ_ _ _ _ r=>∃b,(r 1=bA 11 [si c.Op,si c.FK,BZ c.Name,BZ c.Arg,vS 4 BH c.Index,si c.Expr.Op,si c.Expr.N,BZ c.Expr.Name,vS 4 BH c.Expr.L,vS 11 A7 c.Body,vS 11 A7 c.Else]/\r 5=sb b)/\J8 e c b=some a;have c7:=db 7 λ_ _ _ _ b=>∃d,(b 1=bA 11 [si c.Op,si c.FK,BZ c.Name,BZ c.Arg,vS 4 BH c.Index,si c.Expr.Op,si c.Expr.N,BZ c.Expr.Name,vS 4 BH c.Expr.L,vS 11 A7 c.Body,vS 11 A7 c.Else]/\b 130=sb d)/\J7 e c d=some a;have c6:=db 6 λ_ _ _ _ b=>∃o,(b 1=bA 11 [si c.Op,si c.FK,BZ c.Name,BZ c.Arg,vS 4 BH c.Index,si c.Expr.Op,si c.Expr.N,BZ c.Expr.Name,vS 4 BH c.Expr.L,vS 11 A7 c.Body,vS 11 A7 c.Else]/\b 4=sb o)/\J6 e c o=some a;have c5:=db 5 λ_ _ _ _ b=>∃l,(b 1=bA 11 [si c.Op,si c.FK,BZ c.Name,BZ c.Arg,vS 4 BH c.Index,si c.Expr.Op,si c.Expr.N,BZ c.Expr.Name,vS 4 BH c.Expr.L,vS 11 A7 c.Body,vS 11 A7 c.Else]/\b 95=sb l)/\J5 e c l=some a;have c4:=db 4 λ_ _ _ _ b=>∃j,(b 1=bA 11 [si c.Op,si c.FK,BZ c.Name,BZ c.Arg,vS 4 BH c.Index,si c.Expr.Op,si c.Expr.N,BZ c.Expr.Name,vS 4 BH c.Expr.L,vS 11 A7 c.Body,vS 11 A7 c.Else]/\b 66=sb j)/\J4 e c j=some a;have c3:=db 3 λ_ _ _ _ b=>∃i,(b 1=bA 11 [si c.Op,si c.FK,BZ c.Name,BZ c.Arg,vS 4 BH c.Index,si c.Expr.Op,si c.Expr.N,BZ c.Expr.Name,vS 4 BH c.Expr.L,vS 11 A7 c.Body,vS 11 A7 c.Else]/\b 47=sb i)/\J3 e c i=some a;have c2:=db 2 λ_ _ _ _ b=>∃r,(b 1=bA 11 [si c.Op,si c.FK,BZ c.Name,BZ c.Arg,vS 4 BH c.Index,si c.Expr.Op,si c.Expr.N,BZ c.Expr.Name,vS 4 BH c.Expr.L,vS 11 A7 c.Body,vS 11 A7 c.Else]/\b 3=sb r)/\J2 e c r=some a;have c1:=db 1 λ_ _ _ _ b=>∃R100,(b 1=bA 11 [si c.Op,si c.FK,BZ c.Name,BZ c.Arg,vS 4 BH c.Index,si c.Expr.Op,si c.Expr.N,BZ c.Expr.Name,vS 4 BH c.Expr.L,vS 11 A7 c.Body,vS 11 A7 c.Else]/\b 13=sb R100)/\J1 e c R100=some a;unfold A2 at h;exact walk
end
def Hj:Nat->((List AQ)->ABd Bool)×(AQ->ABd Bool)
|0=>((λ_=>none),(λ_=>none))
|n+1=>(Cr ((Hj n).2),A2 ((Hj n).1))
def Gq(n:Nat):(List AQ)->ABd Bool:=(Hj n).1
def Jv(n:Nat):AQ->ABd Bool:=(Hj n).2
theorem Oo(n:Nat):(∀{x0 r},(Gq n) x0=some r->Says prog 245 [.sl false 11 (x0.map A7)] (sb r))/\(∀{x0 r},(Jv n) x0=some r->Says prog 268 [.agg [si x0.Op,si x0.FK,BZ x0.Name,BZ x0.Arg,.sl false 4 (x0.Index.map BH),si x0.Expr.Op,si x0.Expr.N,BZ x0.Expr.Name,.sl false 4 (x0.Expr.L.map BH),.sl false 11 (x0.Body.map A7),.sl false 11 (x0.Else.map A7)]] (sb r)):=by
  induction n with
  |zero=>exact⟨λh=>ET h,λh=>ET h⟩
  |succ n ih=>exact⟨λh=>Pj ih.2 h,λh=>Qe ih.1 h⟩
def Oq{n:Nat}:∀{x0 r},(Gq n) x0=some r->Says prog 245 [.sl false 11 (x0.map A7)] (sb r):=(Oo n).1
def f83c:IC:=(Ra 10 [.b 6 [28,96] (.bx 7 (.t 1)),.b 7 [17] (.bx 6 (.t 2)),.o (.mv (.c (.own false 7 [])))]
(Ra 0 [.b 11 [50,105,110] (.mv (.c (.own false 7 [])))]
(Ra 17 [.f 4 7,.Z 18,.o (.mk 1 24 z15 (.t 19) (.t 19)),.b 12 [21,40,42,44,45,48,69,91,94,95,104] (.mv (.t 20))]
(Sq (Ra 21 [.y 12 (.cp (.t 12)),.Z 21,.Y 0]
(Bl 0 (Ra 24 [.O .lss 23 22]
(Sq (cX 24 0)
(Sq (Bk 1 (Ra 25 [.C 23,.M 13 25]
(Ra 26 [.C 4,.C 26,.G 27 true,.f 6 6,.C 13,.I 1 29 30,.L 31,.P .gtr 32 1,.e,.W 27 33,.C 34,.G 35 true,.y 0 (.cp (.t 0)),.o (.Uv 132 [] (.t 36) none [.c (si 3)]),.P .eql 37 2,.e,.W 35 38]
(Ci 39 (Rc 40 [.y 12 (.cp (.t 12)),.C 13,.y 12 (.cp (.t 12)),.C 13,.J 12 1 42 43,.l 12 44,.o (.Nk 1 [[si 0]] [(0,.c (si 1))]),.o (.app 1 8 (.t 45) (.t 46)),.J 12 1 40 41,.S 1 48 47])))))
(Rc 49 [.P .add 23 1,.w 23,.C 49]))))))
(Sq (Bl 2 (Sq (Np 4 (Rc 50 [.y 11 (.cp (.t 11)),.Z 50,.C 3,.O .lss 51 52,.C 53,.G 54 true,.p 0 1,.r 0 0,.Z 62,.O .lss 58 63,.e,.W 54 64])
(cX 65 2))
(Bk 3 (Sq (.Yu [.o (i1 66 0 (.cp (.t 0))),.o (iA 67 7 6),.o (iA 68 6 7),.o (i1 69 12 (.cp (.t 12))),.lb (some ⟨70,[],[]⟩) 134 (.t 66) [.t 67,.t 68] (.t 69),.o (⟨some ⟨14,[74,80,84,89,92,98,106],[]⟩,.bx 7 (.c (.agg z3)),none⟩),.o (iS 7 14 70)])
(Sq (.gz false 14 [(0,6,7)] (.gz false 14 [(0,5,7)] (Rc 72 [.A 6 7,.A 7 6,.y 14 (.ld true 7 (.t 14)),.c 55 [72,73,74] 1,.w 71,.C 75,.w 76,.o (.ext (.t 71) 0),.o (.ext (.t 71) 1),.w 15,.o (.bx 7 (.c (.agg z0))),.S 7 15 76,.M 16 77])))
(Sq (Ra 78 [.C 16,.N 78]
(Ci 79 (.exit 3)))
(Sq (Ra 80 [.f 1 14,.Q 81 3,.C 82,.G 83 false,.f 1 14,.P .eql 85 23,.e,.V 83 86]
(Ci 87 (.bY [(12,0,16,88)] [i0 88 .fl,LU 89 14 0 14,iL 90 89,i1 91 12 (.cp (.t 12)),LU 92 14 0 14,iL 93 92,xG 94 12 1 91 93,Zk 95 12 94,LU 96 6 6 6,iL 97 96,LU 98 14 0 14,iL 99 98,iI 100 1 97 99,iL 101 100,i0 102 (.Nk 1 [[si 0]] [(0,.t 101)]),i0 103 (.app 1 8 (.t 95) (.t 102)),xG 104 12 1 12 90,iS 1 104 103])))
(Ra 105 [.y 11 (.cp (.t 11)),.y 14 (.ld true 7 (.t 14)),.o (.Nk 7 [z3] [(0,.t 106)]),.o (.app 7 88 (.t 105) (.t 107)),.b 11 [50,105,110] (.mv (.t 108))]
(Rc 109 [.A 7 15,.S 7 6 109])))))))))
(Rb 110 [.y 11 (.cp (.t 11)),.M 10 110]))))))
def f83g:Gi:=⟨[(17,[7]),(21,[12]),(28,[6]),(36,[0]),(40,[12]),(42,[12]),(44,[12]),(45,[12]),(48,[12]),(50,[11]),(55,[0]),(56,[0]),(57,[0]),(59,[0]),(60,[0]),(61,[0]),(62,[0]),(66,[0]),(69,[12]),(74,[14]),(80,[14]),(84,[14]),(89,[14]),(91,[12]),(92,[14]),(94,[12]),(95,[12]),(96,[6]),(98,[14]),(104,[12]),(105,[11]),(106,[14]),(110,[11])]⟩
def f83r:List RV:=[.tmp 10]
namespace B8
def J7(aj:AU)(z:dx):ABd ((List AG)×AU):=
some (z,aj)
def J6(L2:d9)(c:dx)(j:AG×AU)(s:fD)(ac:du):=
if Ap (c.length+1) 88=true then
L2 j.2 s.1 (c++[j.1]) ac
else none
def J5(L2:d9)(c:dx)(d:du)(e:AB)(j:AG×AU)(s:fD)(ae:Bool):=
if ae then
(gt d j.1.Thread).bind λy=>
(gt e.Count j.1.Thread).bind λao=>
if Ap (y.length+1) 8=true then
J6 L2 c j s (d.set j.1.Thread.toNat (y++[ao]))
else none
else
J6 L2 c j s d
def J4(L2:d9)(c:dx)(d:du)(e:AB)(i:AU)(a:AD)(u:Bool):=
if u then
(DO i e a d).bind λj=>
(Bj a e j.1).bind λs=>
if !s.2 then
L2 j.2 e c d
else
if j.1.Kind==3 then
J5 L2 c d e j s true
else
J5 L2 c d e j s (j.1.Kind==23)
else
J7 i c
def L2(b:Int)(a:AD)(L2:d9)(i:AU)(e:AB)(c:dx)(d:du):=
if decide ((c.length:Int)<b)then
J4 L2 c d e i a (decide (i.At<(i.L.length:Int)))
else
J4 L2 c d e i a false
def DF(b:Int)(a:AD):Nat->AU->AB->(List AG)->(List (List Int))->ABd ((List AG)×AU)
|0,_,_,_,_=>none
|n+1,i,e,c,d=>L2 b a (DF b a n) i e c d
def J3(b:Int)(l:AB)(a:AD)(ai:AU)(ab:du):=
DF b a BW ai l [] ab
def J2(L1:fa)(f:Int)(af:AU)(aa:du):=
L1 af aa (BA (f+1))
def J1(L1:fa)(o:du)(f:Int)(v:AU)(ad:Bool):=
if ad then
(gt o f).bind λx=>
if Ap (x.length+1) 8=true then
J2 L1 f v (o.set f.toNat (x++[1]))
else none
else
J2 L1 f v o
def L1(p:Bool)(b:Int)(l:AB)(a:AD)(L1:fa)(q:AU)(o:du)(f:Int):=
if decide (f<(a.AA.length:Int))then
if p then
(gt l.Count f).bind λal=>
if decide (al>1)then
(Ah q 3).bind λw=>
J1 L1 o f w.2 (w.1==2)
else
J1 L1 o f q false
else
J1 L1 o f q false
else
J3 b l a q o
def Aa(p:Bool)(b:Int)(l:AB)(a:AD):Nat->AU->(List (List Int))->Int->ABd ((List AG)×AU)
|0,_,_,_=>none
|n+1,q,o,f=>L1 p b l a (Aa p b l a n) q o f
end B8
section
open B8
def B8(t:AU)(l:AB)(a:AD)(b:Int)(p:Bool):=
if 0<=(a.AA.length:Int)/\(a.AA.length:Int)<=(a.AA.length:Int)/\Ap a.AA.length 24=true then
Aa p b l a BW t (List.replicate a.AA.length ([]:List Int)) 0
else none
theorem Za{t:AU}{l:AB}{a:AD}{b:Int}{p:Bool}{r:(List AG)×AU}(h:B8 t l a b p=some r):BD prog 83 [bA 2 (FO t),.agg (BI l),.agg (Aq a),si b,sb p] (vS 7 B1 r.1) [bA 2 (FO r.2),.dead,.dead,.dead,.dead]:=by refine wP mix func83 (I:=⟨f83c,f83g,f83r⟩) ?_;simp only[f83c,f83g,f83r];have a1:= @Yc;have a2:= @Ki;have a3:= @DD;have l2:=da λ_ _ _ _ n f=>∃i e c d,(f 0=bA 2 (FO i)/\f 3=si b/\f 6=bA 7 (BI e)/\f 7=bA 6 (Aq a)/\f 11=vO 7 B1 c/\f 12=vO 1 NC d)/\DF b a n i e c d=some r;have l1:=da λ_ _ _ _ n c=>∃q o f,(c 0=bA 2 (FO q)/\c 3=si b/\c 4=sb p/\c 6=bA 7 (BI l)/\c 7=bA 6 (Aq a)/\c 11= .own false 7 []/\c 12=vO 1 NC o/\c 22=si (a.AA.length:Int)/\c 23=si f)/\Aa p b l a n q o f=some r;have c4:=db 4 λ_ f _ _ g=>∃c d e i u,(g 0=bA 2 (FO i)/\g 3=si b/\g 6=bA 7 (BI e)/\g 7=bA 6 (Aq a)/\g 11=vO 7 B1 c/\g 12=vO 1 NC d/\g 65=sb u)/\J4 (DF b a f) c d e i a u=some r;unfold B8 at h;exact walk
end
namespace Bc
def J4(a:AG)(d:AB):ABd (AB×Bool):=
(gt d.Count a.Thread).bind λw=>
some ((AB.mk d.Sync d.Cells d.AK (d.Count.set a.Thread.toNat (BA (w+1)))),true)
def J3(a:AG)(b:AB)(c:AD)(o:Int):=
(E3 c b.Sync a.Thread a.Kind a.Obj o).bind λi=>
if !i.2.2 then
some ((AB.mk (AP.mk [] 0 [] []) [] [] []),false)
else
(Gs b.Cells).bind λj=>
(Gs b.AK).bind λl=>
(slices_Clone_int b.Count).bind λp=>
if a.Kind==4 then
(gt j a.Obj).bind λx=>
J4 a (AB.mk i.1 (j.set a.Obj.toNat a.Value) l p)
else
if a.Kind==22 then
(gt l a.Obj).bind λy=>
J4 a (AB.mk i.1 j (l.set a.Obj.toNat a.Value) p)
else
J4 a (AB.mk i.1 j l p)
def J2(a:AG)(b:AB)(c:AD)(f:Bool):=
if f then
some ((AB.mk (AP.mk [] 0 [] []) [] [] []),false)
else
if a.Kind==18 then
J3 a b c a.Value
else
J3 a b c (-1)
def J1(a:AG)(b:AB)(c:AD)(e:Bool):=
if e then
some ((AB.mk (AP.mk [] 0 [] []) [] [] []),false)
else
(Dm c b.Sync a.Thread a.Kind a.Obj).bind λs=>
if !s then
J2 a b c true
else
(DW c a).bind λt=>
if !t then
J2 a b c true
else
(Ab c b a).bind λu=>
if !u then
J2 a b c true
else
(A4 b a).bind λv=>
J2 a b c (!v)
end Bc
section
open Bc
def Bc(c:AD)(b:AB)(a:AG):=
(Ee c b).bind λq=>
if !q then
J1 a b c true
else
if decide (a.Thread<0)then
J1 a b c true
else
if decide (a.Thread>=(c.AA.length:Int))then
J1 a b c true
else
if decide (a.Kind<1)then
J1 a b c true
else
J1 a b c (decide (a.Kind>23))
theorem Kd{c:AD}{b:AB}{a:AG}{r:fD}(h:Bc c b a=some r):Says prog 96 [.agg (Aq c),.agg (BI b),.agg (B1 a)] (.BQ [.agg (GG r.1),sb r.2]):=by refine kO mix func96 (hn [(3,[25]),(4,[42,79,96,99,102]),(5,[18,23,31,36,44,46,48,72,75,81,83,85,106,112,114,121,123,128]),(9,[95]),(11,[92]),(12,[110,111,116,119,120,125,126,127,130,133,134]),(88,[77,89,90,91])] [(2,1),(5,2),(8,3)]) ?_;have a1:= @Vd;have a2:= @Ls;have a3:= @Hs;have a4:= @MV;have a5:= @P0;have a6:= @My;have a7:= @P1;have a8:= @Rz;have c3:=db 3 λ_ _ _ _ d=>∃o,(d 3=bA 6 (Aq c)/\d 4=bA 7 (BI b)/\d 5=bA 7 (B1 a)/\d 6=bA 7 z0/\d 8=si o)/\J3 a b c o=some r;have c2:=db 2 λ_ _ _ _ d=>∃f,(d 3=bA 6 (Aq c)/\d 4=bA 7 (BI b)/\d 5=bA 7 (B1 a)/\d 6=bA 7 z0/\d 70=sb f)/\J2 a b c f=some r;have c1:=db 1 λ_ _ _ _ d=>∃e,(d 3=bA 6 (Aq c)/\d 4=bA 7 (BI b)/\d 5=bA 7 (B1 a)/\d 6=bA 7 z0/\d 39=sb e)/\J1 a b c e=some r;unfold Bc at h;exact walk
end
namespace Ej
def J3:=
some true
def J2(L1:df)(c:Int)(i:Bool):=
if i then
some false
else
L1 (BA (c+1))
def L1(a:BT)(b:Al)(L1:df)(c:Int):=
if decide (c<(a.AA.length:Int))then
(gt b.AA c).bind λe=>
if decide (e.PC<0)then
J2 L1 c true
else
(gt a.AA c).bind λf=>
if decide (e.PC>=(f.Br.length:Int))then
J2 L1 c true
else
if(e.Ck.length:Int) != f.Ck then
J2 L1 c true
else
J2 L1 c ((e.Cd.length:Int) != f.Ck)
else
J3
def Aa(a:BT)(b:Al):Nat->Int->ABd Bool
|0,_=>none
|n+1,c=>L1 a b (Aa a b n) c
def J1(a:BT)(b:Al)(d:Bool):=
if d then
some false
else
Aa a b BW 0
end Ej
section
open Ej
def Ej(a:BT)(b:Al):=
(Bz a).bind λj=>
if !j then
J1 a b true
else
(Ea a.World b.Sync).bind λl=>
if !l then
J1 a b true
else
if(b.Cells.length:Int) != (a.World.Cells.length:Int)then
J1 a b true
else
if(b.AK.length:Int) != (a.World.AK.length:Int)then
J1 a b true
else
J1 a b ((b.AA.length:Int) != (a.AA.length:Int))
theorem ZW{a:BT}{b:Al}{r:Bool}(h:Ej a b=some r):Says prog 239 [.agg (JS a),.agg (KQ b)] (sb r):=by refine kO mix func239 (hn [(2,[11,22,23,32,33,42,48,65,78,90]),(3,[13,19,29,39,54]),(6,[59,63,75,87])] [(2,1)]) ?_;have a1:= @Ln;have a2:= @LO;have l1:=da λ_ _ _ _ n d=>∃c,(d 2=bA 7 (JS a)/\d 3=bA 7 (KQ b)/\d 5=si c)/\Aa a b n c=some r;have c1:=db 1 λ_ _ _ _ c=>∃d,(c 2=bA 7 (JS a)/\c 3=bA 7 (KQ b)/\c 46=sb d)/\J1 a b d=some r;unfold Ej at h;exact walk
end
namespace FG
def J2:ii:=
some (0,0)
def J1(L1:AB->Int->ABd (Int×Int))(b:Int)(d:fD)(f:Bool):=
if f then
some (b,12)
else
L1 d.1 (BA (b+1))
def L1(a:CC)(L1:AB->Int->ABd (Int×Int))(c:AB)(b:Int):=
if decide (b<(a.AE.length:Int))then
(gt a.AE b).bind λe=>
(Bj a.World c e).bind λd=>
if !d.2 then
J1 L1 b d true
else
(C1 a.AE b e.Thread e.Dw).bind λl=>
if !l then
J1 L1 b d true
else
(C1 a.AE b e.Thread e.DM).bind λo=>
J1 L1 b d (!o)
else
J2
def Aa(a:CC):Nat->AB->Int->ABd (Int×Int)
|0,_,_=>none
|n+1,c,b=>L1 a (Aa a n) c b
end FG
section
open FG
def FG(a:CC):=
if decide ((a.AE.length:Int)>400)then
some (0,2)
else
(As a.World).bind λi=>
if !i then
some (0,1)
else
(EU a.World).bind λj=>
Aa a BW j 0
theorem YL{a:CC}{r:Int×Int}(h:FG a=some r):Says prog 88 [.agg (ND a)] (.BQ [si r.1,si r.2]):=by refine kO mix func88 (hn [(1,[9,13,17,21,27,33,43,54]),(4,[35]),(6,[46,48,57,59]),(7,[65]),(8,[40]),(37,[32,38,39])] (C:=[(55,2)])) ?_;have a1:= @I1;have a2:= @Jz;have a3:= @Ki;have a4:= @YM;have l1:=da λ_ _ _ _ n d=>∃c b,(d 1=bA 7 (ND a)/\d 4=bA 7 (GG c)/\d 5=si b)/\Aa a n c b=some r;unfold FG at h;exact walk
end
namespace LC
def J1(j:gb):ABd (List FL):=
some j
def L1(a:dx)(d:i5)(b:AD)(L1:(List FL)->Int->ABd (List FL))(e:gb)(c:Int):=
if decide (c<(a.length:Int))then
(gt a c).bind λl=>
(gt d c).bind λo=>
(G7 b o l.Thread).bind λi=>
if Ap (e.length+1) 48=true then
L1 (e++[(FL.mk i.1 i.2)]) (BA (c+1))
else none
else
J1 e
def Aa(a:dx)(d:i5)(b:AD):Nat->(List FL)->Int->ABd (List FL)
|0,_,_=>none
|n+1,e,c=>L1 a d b (Aa a d b n) e c
end LC
section
open LC
def LC(b:AD)(f:AP)(a:dx):=
(Hz b f a).bind λd=>
Aa a d b BW [] 0
theorem ref27_Held_ok{b:AD}{f:AP}{a:dx}{r:gb}(h:LC b f a=some r):Says prog 21 [.agg (Aq b),.agg (F8 f),vS 7 B1 a] (vS 2 MH r):=by refine kF mix func21 (hn [(8,[35,42]),(10,[30])]) ?_;have a1:= @ref27_States_ok;have a2:= @ref08_Holds_ok;have l1:=da λ_ _ _ _ n f=>∃d e c,(f 3=bA 6 (Aq b)/\f 7=vS 4 F8 d/\f 8=vO 2 MH e/\f 17=vS 7 B1 a/\f 18=si (a.length:Int)/\f 19=si c)/\Aa a d b n e c=some r;unfold LC at h;exact walk
end
namespace F7
def J1(e:AB):ABd AB:=
some e
def L1(b:Int)(a:CC)(L1:AB->Int->ABd AB)(d:AB)(c:Int):=
if decide (c<b)then
(gt a.AE c).bind λj=>
(Bj a.World d j).bind λi=>
L1 i.1 (BA (c+1))
else
J1 d
def Aa(b:Int)(a:CC):Nat->AB->Int->ABd AB
|0,_,_=>none
|n+1,d,c=>L1 b a (Aa b a n) d c
end F7
section
open F7
def F7(a:CC)(b:Int):=
(EU a.World).bind λf=>
Aa b a BW f 0
theorem YP{a:CC}{b:Int}{r:AB}(h:F7 a b=some r):Says prog 89 [.agg (ND a),si b] (.agg (GG r)):=by refine kO mix func89 (hn [(2,[7,16,19]),(5,[18,27]),(24,[25])] (E:=[(5,(.bY [(24,9,10,15)] [LU 16 2 0 2,iA 17 6 16,i1 18 5 (.ld true 7 (.t 5)),LU 19 2 6 2,iL 20 19,iC 21 6,iI 22 7 20 21,iA 23 7 22,⟨some ⟨24,[25],[]⟩,.call 55 [.t 17,.t 18,.t 23] 2,none⟩,i0 15 (.flk (.t 24) 1),i1 25 24 (.ext (.t 24) 0),i0 26 .fl,iS 7 5 25]))])) ?_;have a1:= @Jz;have a2:= @Ki;have l1:=da λ_ _ _ _ n e=>∃d c,(e 1=si b/\e 2=bA 7 (ND a)/\e 4=bA 7 z0/\e 5=bA 7 (GG d)/\e 6=si c)/\Aa b a n d c=some r;unfold F7 at h;exact walk
end
namespace C0
def J3(p:Al):ABd Al:=
some p
def L3(a:BT)(L3:iq)(d:Al)(i:Int):=
if decide (i<(a.AA.length:Int))then
(gt a.AA i).bind λe=>
if 0<=e.Ck/\e.Ck<=e.Ck/\Ap e.Ck.toNat 8=true then
if 0<=e.Ck/\e.Ck<=e.Ck/\Ap e.Ck.toNat 24=true then
if Ap (d.AA.length+1) 64=true then
L3 (Al.mk d.Sync d.Cells d.AK (d.AA++[(AM.mk 0 (List.replicate e.Ck.toNat (0:Int)) (List.replicate e.Ck.toNat ([]:List Int)) 0)])) (BA (i+1))
else none
else none
else none
else
J3 d
def Gg(a:BT):Nat->Al->Int->ABd Al
|0,_,_=>none
|n+1,d,i=>L3 a (Gg a n) d i
def J2(a:BT)(o:Al):=
Gg a BW o 0
def L2(a:BT)(L2:iq)(c:Al)(j:Int):=
if decide (j<(a.World.AK.length:Int))then
if Ap (c.AK.length+1) 8=true then
L2 (Al.mk c.Sync c.Cells (c.AK++[0]) c.AA) (BA (j+1))
else none
else
J2 a c
def DF(a:BT):Nat->Al->Int->ABd Al
|0,_,_=>none
|n+1,c,j=>L2 a (DF a n) c j
def J1(a:BT)(l:Al):=
DF a BW l 0
def L1(a:BT)(L1:iq)(b:Al)(f:Int):=
if decide (f<(a.World.Cells.length:Int))then
(gt a.World.Cells f).bind λt=>
if Ap (b.Cells.length+1) 8=true then
L1 (Al.mk b.Sync (b.Cells++[t.Init]) b.AK b.AA) (BA (f+1))
else none
else
J1 a b
def Aa(a:BT):Nat->Al->Int->ABd Al
|0,_,_=>none
|n+1,b,f=>L1 a (Aa a n) b f
end C0
section
open C0
def C0(a:BT):=
(Bz a).bind λq=>
if !q then
some (Al.mk (AP.mk [] 0 [] []) [] [] [])
else
(CW a.World).bind λs=>
Aa a BW (Al.mk s [] [] []) 0
theorem YK{a:BT}{r:Al}(h:C0 a=some r):Says prog 138 [.agg (JS a)] (.agg (MI r)):=by refine kO mix func138 (hn [(1,[11,16,17,25,26,36,37,49,57,64]),(3,[23,24,34,43,44,47,55,56,74,75])] (E:=[(15,(Rc 55 [.m 3 6 3,.f 6 1,.C 6,.I 2 58 59,.U 0 60,.o (.mk 1 8 [si 0] (.t 62) (.t 62)),.f 6 1,.C 6,.I 2 65 66,.U 0 67,.o (.mk 1 24 [.sl false 1 []] (.t 69) (.t 69)),.o (.T2 z9 [(1,1,.t 63),(2,1,.t 70)]),.o (.Nk 4 [z9] [(0,.t 71)]),.o (.app 4 64 (.t 56) (.t 72)),.F 6 3,.S 1 74 73]))])) ?_;have a1:= @Ln;have a2:= @Pq;have l3:=da λ_ _ _ _ n b=>∃d i,(b 1=bA 7 (JS a)/\b 2=bA 7 z4/\b 3=bA 7 (MI d)/\b 6=si i)/\Gg a n d i=some r;have l2:=da λ_ _ _ _ n b=>∃c j,(b 1=bA 7 (JS a)/\b 2=bA 7 z4/\b 3=bA 7 (MI c)/\b 5=si j)/\DF a n c j=some r;have l1:=da λ_ _ _ _ n c=>∃b f,(c 1=bA 7 (JS a)/\c 2=bA 7 z4/\c 3=bA 7 (MI b)/\c 4=si f)/\Aa a n b f=some r;unfold C0 at h;exact walk
end
namespace CB
def J5:=
some true
def J4(L2:AB->Int->ABd Bool)(c:Int)(e:fD)(j:Bool):=
if j then
some false
else
L2 e.1 (BA (c+1))
def L2(a:AL)(L2:AB->Int->ABd Bool)(d:AB)(c:Int):=
if decide (c<(a.AE.length:Int))then
(gt a.AE c).bind λf=>
(Bj a.World d f).bind λe=>
if !e.2 then
J4 L2 c e true
else
(Er a f.Thread f.Dw).bind λu=>
if !u then
J4 L2 c e true
else
(Er a f.Thread f.DM).bind λv=>
J4 L2 c e (!v)
else
J5
def DF(a:AL):Nat->AB->Int->ABd Bool
|0,_,_=>none
|n+1,d,c=>L2 a (DF a n) d c
def J3(a:AL):=
DF a BW a.Init 0
def J2(L1:df)(b:Int)(l:Bool):=
if l then
some false
else
L1 (BA (b+1))
def L1(a:AL)(L1:df)(b:Int):=
if decide (b<(a.Init.AK.length:Int))then
(gt a.Init.Sync.Bn b).bind λw=>
if !w then
(gt a.Init.AK b).bind λx=>
J2 L1 b (x != 0)
else
J2 L1 b false
else
J3 a
def Aa(a:AL):Nat->Int->ABd Bool
|0,_=>none
|n+1,b=>L1 a (Aa a n) b
def J1(a:AL)(i:Bool):=
if i then
some false
else
Aa a BW 0
end CB
section
open CB
def CB(a:AL):=
(As a.World).bind λo=>
if !o then
J1 a true
else
(HB a.World a.Init).bind λp=>
if !p then
J1 a true
else
if decide ((a.AE.length:Int)>16)then
J1 a true
else
(E9 a).bind λq=>
if !q then
J1 a true
else
(B7 a).bind λs=>
if !s then
J1 a true
else
(A1 a).bind λt=>
J1 a (!t)
theorem Tc{a:AL}{r:Bool}(h:CB a=some r):Says prog 17 [.agg (B0 a)] (sb r):=by refine kO mix func17 (hn [(1,[9,14,16,22,43,44,50,51,52,59,60,67,70,76,82]),(6,[93,95,102,104])] [(2,1)]) ?_;have a1:= @Ki;have a2:= @YR;have a3:= @I1;have a4:= @Q6;have a5:= @Vx;have a6:= @Td;have a7:= @UZ;have l2:=da λ_ _ _ _ n b=>∃d c,(b 1=bA 15 (B0 a)/\b 4=bA 7 (BI d)/\b 5=si c)/\DF a n d c=some r;have l1:=da λ_ _ _ _ n c=>∃b,(c 1=bA 15 (B0 a)/\c 3=si b)/\Aa a n b=some r;have c1:=db 1 λ_ _ _ _ b=>∃i,(b 1=bA 15 (B0 a)/\b 41=sb i)/\J1 a i=some r;unfold CB at h;exact walk
end
namespace CZ
def J5(a:AR):ABd Bool:=
some (decide ((a.AA.length:Int)>0))
def J4(L2:df)(b:Int):=
L2 (BA (b+1))
def J3(L2:df)(b:Int)(f:Bool):=
if f then
some false
else
J4 L2 b
def J2(L2:df)(b:Int)(c:Cq):=
(B5 c.Name).bind λl=>
if !l then
J3 L2 b true
else
(Gq BW c.Body).bind λo=>
J3 L2 b (!o)
def L3(L2:df)(b:Int)(c:Cq)(L3:df)(e:Int):=
if decide (e<(c.GA.length:Int))then
(gt c.GA e).bind λq=>
(B5 q).bind λj=>
if !j then
some false
else
L3 (BA (e+1))
else
J2 L2 b c
def Gg(L2:df)(b:Int)(c:Cq):Nat->Int->ABd Bool
|0,_=>none
|n+1,e=>L3 L2 b c (Gg L2 b c n) e
def L2(a:AR)(L2:df)(b:Int):=
if decide (b<(a.AA.length:Int))then
(gt a.AA b).bind λc=>
Gg L2 b c BW 0
else
J5 a
def DF(a:AR):Nat->Int->ABd Bool
|0,_=>none
|n+1,b=>L2 a (DF a n) b
def J1(a:AR):=
DF a BW 0
def L1(a:AR)(L1:df)(d:Int):=
if decide (d<(a.Decls.length:Int))then
(gt a.Decls d).bind λp=>
(Co p).bind λi=>
if !i then
some false
else
L1 (BA (d+1))
else
J1 a
def Aa(a:AR):Nat->Int->ABd Bool
|0,_=>none
|n+1,d=>L1 a (Aa a n) d
end CZ
section
open CZ
def CZ(a:AR):=
Aa a BW 0
theorem Vk{a:AR}{r:Bool}(h:CZ a=some r):Says prog 215 [.agg (CS a)] (sb r):=by refine kO mix func215 (hn [(1,[8,14,22,28,57]),(5,[34,40,47,52])]) ?_;have a1:= @Hp;have a2:= @Oq;have a3:= @Qf;have l2:=da λ_ _ _ _ n c=>∃b,(c 1=bA 2 (CS a)/\c 4=si b)/\DF a n b=some r;have l3:=da λ_ d _ _ n f=>∃b c e,(f 1=bA 2 (CS a)/\f 4=si b/\f 5=bA 4 (Ie c)/\f 6=si e)/\Gg (DF a d) b c n e=some r;have l1:=da λ_ _ _ _ n b=>∃d,(b 1=bA 2 (CS a)/\b 3=si d)/\Aa a n d=some r;unfold CZ at h;exact walk
end
namespace BL
def J2(cv:BN)(ac:Int):ABd (Int×BN):=
some (ac,cv)
def J4(cw:BN)(ad:Int):ABd (Int×BN):=
some (ad,cw)
def J5(b:fM)(ae:Int):ABd (Int×BN):=
some (ae,b.2)
def J7(f:fM)(af:Int):ABd (Int×BN):=
some (af,f.2)
def J8(a:AQ)(b:fM)(l:Bool):ABd (Int×BN):=
if l then
some (7,b.2)
else
(CU b.2.Lo a.Name).bind λbl=>
if decide (bl>=0)then
some (8,b.2)
else
if Ap (b.2.Lo.length+1) 16=true then
some (0,(BN.mk b.2.p b.2.Bb b.2.GD (b.2.Lo++[a.Name]) b.2.Yh))
else none
def J9(b:fM)(ai:Int):ABd (Int×BN):=
some (ai,b.2)
def rK(a:AQ)(b:fM)(c:BN)(aa:Int):ABd (Int×BN):=
if Ap (b.2.Yh.length+1) 16=true then
(E4 c.p c.Bb a.Expr).bind λce=>
(E5 aa ce).bind λcf=>
some (cf,(BN.mk b.2.p b.2.Bb b.2.GD b.2.Lo (b.2.Yh++[a.Name])))
else none
def Y4(i:Int)(a:AQ)(b:fM)(c:BN)(ab:Bool):ABd (Int×BN):=
if ab then
rK a b c 8
else
rK a b c i
def Oz(a:AQ)(b:fM)(c:BN)(i:Int):=
if i==0 then
(CU b.2.Yh a.Name).bind λcd=>
Y4 i a b c (decide (cd>=0))
else
Y4 i a b c false
def J6(a:AQ)(d e b:fM)(c:BN)(j:Bool):=
if j then
(DT c.p c.Bb a.Name 5 5).bind λw=>
if w != 0 then
some (w,b.2)
else
(Cv c.p.Decls a.Name).bind λbc=>
(gt c.p.Decls bc).bind λcy=>
(BX b.2 4 4 cy.On).bind λf=>
if d.1 then
(B3 true).bind λbe=>
J7 f be
else
if !f.1 then
(B3 true).bind λbf=>
J7 f bf
else
if a.Op==9 then
(B3 e.1).bind λbi=>
J7 f bi
else
(B3 false).bind λbj=>
J7 f bj
else
if a.Op==12 then
(DT c.p c.Bb a.Name 7 7).bind λx=>
if x != 0 then
some (x,b.2)
else
(Cs c.p.AA a.Name).bind λy=>
if d.1 then
J8 a b true
else
if e.1 then
J8 a b true
else
if b.1 then
J8 a b true
else
if y==c.Bb then
J8 a b true
else
J8 a b (y==0)
else
if a.Op==13 then
(DT c.p c.Bb a.Name 7 7).bind λq=>
if d.1 then
(B3 true).bind λbo=>
(E5 q bo).bind λbp=>
J9 b bp
else
if e.1 then
(B3 true).bind λbs=>
(E5 q bs).bind λbt=>
J9 b bt
else
(Cs c.p.AA a.Name).bind λbu=>
(B3 (bu==c.Bb)).bind λbv=>
(E5 q bv).bind λbw=>
J9 b bw
else
if a.Op==14 then
(DT c.p c.Bb a.Name 6 6).bind λz=>
if d.1 then
(B3 true).bind λbx=>
(E5 z bx).bind λbz=>
Oz a b c bz
else
(B3 b.1).bind λca=>
(E5 z ca).bind λcb=>
Oz a b c cb
else
(DT c.p c.Bb a.Name 8 8).bind λci=>
(DT c.p c.Bb a.Arg 6 6).bind λcj=>
(B3 d.1).bind λcl=>
(E5 cj cl).bind λco=>
(E5 ci co).bind λcp=>
some (cp,b.2)
def J3(a:AQ)(d e b:fM)(c:BN)(p:Bool):=
if p then
(DT c.p c.Bb a.Name 4 4).bind λu=>
if d.1 then
(B3 true).bind λav=>
(E5 u av).bind λaw=>
J4 b.2 aw
else
(BX b.2 5 6 a.Name).bind λv=>
(B3 v.1).bind λax=>
(E5 u ax).bind λay=>
J4 v.2 ay
else
if a.Op==7 then
(B3 d.1).bind λaz=>
some (az,b.2)
else
if a.Op==8 then
if d.1 then
(B3 true).bind λba=>
J5 b ba
else
(B3 e.1).bind λbb=>
J5 b bb
else
if a.Op==9 then
J6 a d e b c (a.Op==9)
else
if a.Op==10 then
J6 a d e b c (a.Op==10)
else
J6 a d e b c (a.Op==11)
def J1(a:AQ)(d e b:fM)(c:BN)(o:Bool):=
if o then
(E4 c.p c.Bb a.Expr).bind λal=>
some (al,b.2)
else
if a.Op==4 then
(DT c.p c.Bb a.Name 3 3).bind λs=>
if d.1 then
(B3 true).bind λao=>
(E5 s ao).bind λap=>
J2 b.2 ap
else
(BX b.2 4 4 a.Name).bind λt=>
(B3 t.1).bind λaq=>
(E5 s aq).bind λau=>
J2 t.2 au
else
if a.Op==5 then
J3 a d e b c (a.Op==5)
else
J3 a d e b c (a.Op==6)
end BL
section
open BL
def BL(c:BN)(a:AQ):=
(BX c 7 7 (⟨#[]⟩:ABe)).bind λd=>
(BX d.2 8 8 (⟨#[]⟩:ABe)).bind λe=>
(BX e.2 3 3 (⟨#[]⟩:ABe)).bind λb=>
if a.Op==1 then
if(a.Index.length:Int)==0 then
(DT c.p c.Bb a.Name 8 1).bind λbd=>
(E4 c.p c.Bb a.Expr).bind λbq=>
(E5 bd bq).bind λcc=>
some (cc,b.2)
else
(DT c.p c.Bb a.Name 2 2).bind λcq=>
(gt a.Index 0).bind λcx=>
(E4 c.p c.Bb cx).bind λcs=>
(E4 c.p c.Bb a.Expr).bind λct=>
(E5 cs ct).bind λcu=>
(E5 cq cu).bind λaj=>
some (aj,b.2)
else
if a.Op==2 then
J1 a d e b c (a.Op==2)
else
J1 a d e b c (a.Op==3)
theorem TV{c:BN}{a:AQ}{r:Int×BN}(h:BL c a=some r):BD prog 248 [bA 6 (HA c),.agg [si a.Op,si a.FK,BZ a.Name,BZ a.Arg,vS 4 BH a.Index,si a.Expr.Op,si a.Expr.N,BZ a.Expr.Name,vS 4 BH a.Expr.L,vS 11 A7 a.Body,vS 11 A7 a.Else]] (si r.1) [bA 6 (HA r.2),.dead]:=by refine kL mix func248 (hn [(0,[15,16,17,19,20,21,23,25,27,84,101,131,188,189,190,191,197,198,199,200,205,206,245,246,247,248,255,256,257,258,263,264]),(3,[29,33,39,44,50,55,62,72,79,85,96,102,125,136,149,161,169,192,201,211,221,233,249,259,268,274,279]),(5,[132,134,167,219])] [(12,1),(17,3),(24,6),(40,8)] (E:=[(39,(.bY [(0,0,9,196)] [i0 196 .fl,i1 197 0 (.cp (.t 0)),i1 198 0 (.Jp (.t 197)),LU 199 0 4 198,Zk 200 0 199,LU 201 3 2 3,iL 202 201,i0 203 (.Nk 1 [[BZ ⟨#[]⟩]] [(0,.t 202)]),i0 204 (.app 1 16 (.t 200) (.t 203)),i1 205 0 (.Jp (.t 0)),LU 206 0 4 205,iS 1 206 204])),(47,(.bY [(0,0,9,254)] [i0 254 .fl,i1 255 0 (.cp (.t 0)),i1 256 0 (.Jp (.t 255)),LU 257 0 5 256,Zk 258 0 257,LU 259 3 2 3,iL 260 259,i0 261 (.Nk 1 [[BZ ⟨#[]⟩]] [(0,.t 260)]),i0 262 (.app 1 16 (.t 258) (.t 261)),i1 263 0 (.Jp (.t 0)),LU 264 0 5 263,iS 1 264 262]))])) ?_;have a1:= @Pk;have a2:= @Q0;have a3:= @ZS;have a4:= @kT;have a5:= @UR;have a6:= @JF;have a7:= @Jx;have a8:= @HY;have c8:=db 8 λ_ _ _ _ c=>∃(b:fM)(l:Bool),(c 0=bA 6 (HA b.2)/\c 3=bA 11 [si a.Op,si a.FK,BZ a.Name,BZ a.Arg,vS 4 BH a.Index,si a.Expr.Op,si a.Expr.N,BZ a.Expr.Name,vS 4 BH a.Expr.L,vS 11 A7 a.Body,vS 11 A7 a.Else]/\c 187=sb l)/\J8 a b l=some r;have c6:=db 6 λ_ _ _ _ f=>∃(d e b:fM)(j:Bool),(f 0=bA 6 (HA b.2)/\f 3=bA 11 [si a.Op,si a.FK,BZ a.Name,BZ a.Arg,vS 4 BH a.Index,si a.Expr.Op,si a.Expr.N,BZ a.Expr.Name,vS 4 BH a.Expr.L,vS 11 A7 a.Body,vS 11 A7 a.Else]/\f 5=bA 2 (CS c.p)/\f 6=si c.Bb/\f 7=sb d.1/\f 8=sb e.1/\f 9=sb b.1/\f 30=si a.Op/\f 119=sb j)/\J6 a d e b c j=some r;have c3:=db 3 λ_ _ _ _ f=>∃(d e b:fM)(p:Bool),(f 0=bA 6 (HA b.2)/\f 3=bA 11 [si a.Op,si a.FK,BZ a.Name,BZ a.Arg,vS 4 BH a.Index,si a.Expr.Op,si a.Expr.N,BZ a.Expr.Name,vS 4 BH a.Expr.L,vS 11 A7 a.Body,vS 11 A7 a.Else]/\f 5=bA 2 (CS c.p)/\f 6=si c.Bb/\f 7=sb d.1/\f 8=sb e.1/\f 9=sb b.1/\f 30=si a.Op/\f 91=sb p)/\J3 a d e b c p=some r;have c1:=db 1 λ_ _ _ _ f=>∃(d e b:fM)(o:Bool),(f 0=bA 6 (HA b.2)/\f 3=bA 11 [si a.Op,si a.FK,BZ a.Name,BZ a.Arg,vS 4 BH a.Index,si a.Expr.Op,si a.Expr.N,BZ a.Expr.Name,vS 4 BH a.Expr.L,vS 11 A7 a.Body,vS 11 A7 a.Else]/\f 5=bA 2 (CS c.p)/\f 6=si c.Bb/\f 7=sb d.1/\f 8=sb e.1/\f 9=sb b.1/\f 30=si a.Op/\f 67=sb o)/\J1 a d e b c o=some r;unfold BL at h;exact walk
end
end Go.Abs
