/- Typed programs of Go functions, and that the functions do what these say. -/
import Derived.Test.YthmijagacgnmkaaGreatDoorWalkL
set_option linter.unusedSimpArgs false
set_option linter.unusedVariables false
namespace Go.Abs
open Go.Proofs
set_option maxRecDepth 1000000
set_option maxHeartbeats 4000000
def f180c:IC:=(Ra 6 [.b 3 [30,60,185] (.bx 7 (.t 0)),.b 4 [19,32,33,50,53,54,55,58,59,86,87,90,95,96,99,111,112,117,127,128,133,195,196,200,201] (.bx 7 (.t 1)),.b 5 [20,34,40,56,62,187,197] (.bx 2 (.t 2)),.o (.bx 7 (.c (.agg z3))),.o (.bx 7 (.c (.agg z2))),.B 8 false]
(Ra 18 [.A 7 3,.y 4 (.ld true 7 (.t 4)),.f 0 5,.b 22 [17,23,24] (.call 210 [.t 18,.t 19,.t 21] 2),.w 17,.y 22 (.cp (.t 22)),.w 23,.y 22 (.ext (.t 17) 0),.y 22 (.ext (.t 17) 1),.b 9 [36,38,75,76,88,92,97,101,110,113,115,126,129,131,136,144,147,151,159,176,180,202] (.bx 7 (.c (.agg z2))),.S 7 9 23,.b 10 [25] (.mv (.t 24))]
(Sq (Ra 25 [.y 10 (.cp (.t 10)),.N 25]
(Ci 26 (Rb 27 [.o (.Uc z3 []),.o (.Uc z2 []),.S 7 6 27,.S 7 7 28,.B 8 false])))
(Ra 30 [.F 0 3,.A 6 30,.F 0 4,.y 4 (.ld true 4 (.t 32)),.f 0 5,.f 1 9,.f 2 9,.f 1 5,.b 42 [29,43,44,45] (.call 70 [.t 31,.t 33,.t 35,.t 37,.t 39,.t 41] 2),.w 29,.y 42 (.cp (.t 42)),.w 43,.y 42 (.ext (.t 29) 0),.y 42 (.ext (.t 29) 1),.y 42 (.ext (.t 29) 2),.b 11 [52] (.bx 4 (.c (.agg z4))),.S 4 11 43,.b 12 [74] (.mv (.t 44)),.b 13 [46] (.mv (.t 45))]
(Sq (Ra 46 [.y 13 (.cp (.t 13)),.N 46]
(Ci 47 (Rb 48 [.o (.Uc z3 []),.o (.Uc z2 []),.S 7 6 48,.S 7 7 49,.B 8 false])))
(Ra 50 [.y 4 (.ld true 7 (.t 4)),.c 211 [50] 3,.S 7 4 51]
(Ra 52 [.y 11 (.ld true 4 (.t 11)),.F 0 4,.S 4 53 52]
(Ra 54 [.m 4 6 4,.f 0 5,.J 4 4 55 57,.y 4 (.ld true 4 (.t 58)),.b 14 [67,71,82,104,105,108,120,121,124,137,138,141,155,156,161,162,163,166,169,170,173,175,191,199] (.bx 4 (.c (.agg z9))),.S 4 14 59]
(Ra 60 [.f 6 3,.f 0 5,.I 2 61 63,.U 1 64,.f 0 14,.I 6 66 68,.A 6 69,.b 15 [106,122,139,145,157,164] (.bx 6 (.c (.agg z20))),.S 6 15 70]
(Ra 71 [.f 0 14,.P .add 72 1,.M 16 73]
(Ra 74 [.y 12 (.cp (.t 12)),.F 3 9,.S 1 75 74]
(Nf 2 (Ra 76 [.f 1 9]
(Bk 0 (Nf 1 (Ra 79 [.q 77 1 78]
(Cn 78 .skip (Ra 80 [.q 77 16 78]
(Cn 78 .skip (Rc 81 [.q 77 2 78])))))
(Cn 78 (Rc 82 [.f 0 14,.M 16 83]) (Ra 85 [.q 77 3 84]
(Cn 84 (Rc 86 [.m 4 4 4,.f 2 9,.J 4 1 87 89,.L 90,.F 3 9,.S 1 92 91]) (Ra 94 [.q 77 23 93]
(Cn 93 (Rc 95 [.m 4 5 4,.f 2 9,.J 4 1 96 98,.L 99,.F 3 9,.S 1 101 100]) (Ra 103 [.q 77 4 102]
(Cn 102 (Ra 104 [.m 14 1 14,.f 2 15,.J 14 1 105 107,.L 108,.F 3 9,.S 1 110 109]
(Rc 111 [.m 4 4 4,.f 2 9,.f 3 9,.J 4 1 112 114,.S 1 117 116])) (Ra 119 [.q 77 22 118]
(Cn 118 (Ra 120 [.m 14 1 14,.f 2 15,.J 14 1 121 123,.L 124,.F 3 9,.S 1 126 125]
(Rc 127 [.m 4 5 4,.f 2 9,.f 3 9,.J 4 1 128 130,.S 1 133 132])) (Ra 135 [.q 77 5 134]
(Ci 134 (Ra 136 [.F 3 9,.T 136 1]
(Ra 137 [.m 14 1 14,.f 1 15,.J 14 1 138 140,.L 141,.Q 142 0]
(Ci 143 (Ra 144 [.F 3 9,.T 144 0]
(Rc 145 [.f 2 15,.M 16 146])))))))))))))))))))
(Sq (Ra 147 [.f 1 9,.Q 148 3,.C 149,.G 150 false,.f 1 9,.P .eql 152 23,.e,.V 150 153]
(Ci 154 (Ra 155 [.m 14 1 14,.f 1 15,.f 3 9,.J 14 1 156 158,.S 1 161 160]
(.pg true 14 [(0,2,0)] (Rc 162 [.m 14 2 14,.f 1 15,.f 3 14,.o (.Na 1 [[si 0]] [(0,.t 167)]),.J 14 1 163 165,.S 1 169 168])))))
(Ra 170 [.f 3 14,.P .add 171 1,.F 3 14,.S 1 173 172]
(Ra 174 [.C 16,.F 0 14,.S 1 175 174]
(Sq (Ra 176 [.f 1 9,.P .neq 177 16,.C 178,.G 179 true,.f 1 9,.P .neq 181 2,.e,.W 179 182]
(Ci 183 (.gz false 14 [(0,2,0)] (.gz false 14 [(0,1,0)] (.aY [(192,8,9,184)] [Ll 185 3 6 3,iL 186 185,Ll 187 5 0 5,iL 188 187,iI 189 2 186 188,iA 190 2 189,i1 191 14 (.ld true 4 (.t 14)),⟨some ⟨192,[193],[]⟩,.call 212 [.t 190,.t 191] 3,none⟩,i0 184 (.flk (.t 192) 1),i1 193 192 (.ext (.t 192) 0),i0 194 .fl,iS 4 14 193])))))
(Ra 195 [.m 4 6 4,.f 0 5,.y 14 (.ld true 4 (.t 14)),.J 4 4 196 198,.S 4 200 199]
(Rb 201 [.y 4 (.ld true 7 (.t 4)),.y 9 (.ld true 7 (.t 9)),.S 7 6 201,.S 7 7 202,.B 8 true]))))))))))))))))))
def f180g:Gi:=⟨[(17,[22]),(19,[4]),(20,[5]),(23,[22]),(24,[22]),(25,[10]),(29,[42]),(30,[3]),(32,[4]),(33,[4]),(34,[5]),(36,[9]),(38,[9]),(40,[5]),(43,[42]),(44,[42]),(45,[42]),(46,[13]),(50,[4]),(52,[11]),(53,[4]),(54,[4]),(55,[4]),(56,[5]),(58,[4]),(59,[4]),(60,[3]),(62,[5]),(67,[14]),(71,[14]),(74,[12]),(75,[9]),(76,[9]),(82,[14]),(86,[4]),(87,[4]),(88,[9]),(90,[4]),(92,[9]),(95,[4]),(96,[4]),(97,[9]),(99,[4]),(101,[9]),(104,[14]),(105,[14]),(106,[15]),(108,[14]),(110,[9]),(111,[4]),(112,[4]),(113,[9]),(115,[9]),(117,[4]),(120,[14]),(121,[14]),(122,[15]),(124,[14]),(126,[9]),(127,[4]),(128,[4]),(129,[9]),(131,[9]),(133,[4]),(136,[9]),(137,[14]),(138,[14]),(139,[15]),(141,[14]),(144,[9]),(145,[15]),(147,[9]),(151,[9]),(155,[14]),(156,[14]),(157,[15]),(159,[9]),(161,[14]),(162,[14]),(163,[14]),(164,[15]),(166,[14]),(169,[14]),(170,[14]),(173,[14]),(175,[14]),(176,[9]),(180,[9]),(185,[3]),(187,[5]),(191,[14]),(193,[192]),(195,[4]),(196,[4]),(197,[5]),(199,[14]),(200,[4]),(201,[4]),(202,[9])]⟩
def f180r:List RV:=[.cell 6 true 7,.cell 7 true 7,.tmp 8]
namespace DJ
def J6 (d:C6) (j:AG) (l o:List Int) (e:AP×Int×Bool) (b:Aj) (y:AL):AB8 (Aj×AG×Bool):=
(gt b.AA d.Thread).bind λaj=>
some ((Aj.mk e.1 l o (b.AA.set d.Thread.toNat y)),j,true)
def J5 (f:BT) (d:C6) (j:AG) (p:Int) (l o:List Int) (q:AL) (e:AP×Int×Bool) (b:Aj) (x:Bool):AB8 (Aj×AG×Bool):=
if x then
(gt f.AA d.Thread).bind λab=>
(De ab (AL.mk p q.Ch q.Cc (A1 (q.AF+1)))).bind λz=>
J6 d j l o e b z.1
else
J6 d j l o e b (AL.mk p q.Ch q.Cc (A1 (q.AF+1)))
def J4 (f:BT) (d:C6) (j:AG) (p:Int) (l o:List Int) (e:AP×Int×Bool) (b:Aj) (q:AL):AB8 (Aj×AG×Bool):=
if j.Kind != 16 then
J5 f d j p l o q e b (j.Kind != 2)
else
J5 f d j p l o q e b false
def J3 (f:BT) (d:C6) (j:AG) (p:Int) (l o:List Int) (e:AP×Int×Bool) (b:Aj) (c:AL) (i:Ac) (w:Bool):AB8 (Aj×AG×Bool):=
if w then
(gt c.Ch i.A).bind λaf=>
(gt c.Cc i.A).bind λai=>
J4 f d j p l o e b (AL.mk c.PC (c.Ch.set i.A.toNat j.Value) (c.Cc.set i.A.toNat [c.AF]) c.AF)
else
J4 f d j p l o e b c
def J2 (f:BT) (d:C6) (e:AP×Int×Bool) (b:Aj) (c:AL) (i:Ac) (l o:List Int) (j:AG) (p:Int):AB8 (Aj×AG×Bool):=
if j.Kind==3 then
J3 f d j p l o e b c i true
else
J3 f d j p l o e b c i (j.Kind==23)
def J1 (f:BT) (d:C6) (a:AG×Bool) (e:AP×Int×Bool) (b:Aj) (c:AL) (i:Ac) (t:Bool):AB8 (Aj×AG×Bool):=
if t then
J2 f d e b c i b.Cells b.AK (AG.mk a.1.Thread a.1.Kind a.1.Obj e.2.1 a.1.Site a.1.Du a.1.DR) c.PC
else
if a.1.Kind==3 then
(gt b.Cells a.1.Obj).bind λac=>
J2 f d e b c i b.Cells b.AK (AG.mk a.1.Thread a.1.Kind a.1.Obj ac a.1.Site a.1.Du a.1.DR) (A1 (c.PC+1))
else
if a.1.Kind==23 then
(gt b.AK a.1.Obj).bind λad=>
J2 f d e b c i b.Cells b.AK (AG.mk a.1.Thread a.1.Kind a.1.Obj ad a.1.Site a.1.Du a.1.DR) (A1 (c.PC+1))
else
if a.1.Kind==4 then
(gt c.Ch i.B).bind λu=>
(gt b.Cells a.1.Obj).bind λal=>
J2 f d e b c i (b.Cells.set a.1.Obj.toNat u) b.AK (AG.mk a.1.Thread a.1.Kind a.1.Obj u a.1.Site a.1.Du a.1.DR) (A1 (c.PC+1))
else
if a.1.Kind==22 then
(gt c.Ch i.B).bind λv=>
(gt b.AK a.1.Obj).bind λao=>
J2 f d e b c i b.Cells (b.AK.set a.1.Obj.toNat v) (AG.mk a.1.Thread a.1.Kind a.1.Obj v a.1.Site a.1.Du a.1.DR) (A1 (c.PC+1))
else
if a.1.Kind==5 then
(gt c.Ch i.A).bind λae=>
if ae==0 then
J2 f d e b c i b.Cells b.AK (AG.mk a.1.Thread a.1.Kind a.1.Obj 0 a.1.Site a.1.Du a.1.DR) i.B
else
J2 f d e b c i b.Cells b.AK (AG.mk a.1.Thread a.1.Kind a.1.Obj 1 a.1.Site a.1.Du a.1.DR) (A1 (c.PC+1))
else
J2 f d e b c i b.Cells b.AK (AG.mk a.1.Thread a.1.Kind a.1.Obj e.2.1 a.1.Site a.1.Du a.1.DR) (A1 (c.PC+1))
end DJ
section
open DJ
def DJ (f:BT) (s:Aj) (d:C6):AB8 (Aj×AG×Bool):=
(Cg f s d.Thread).bind λa=>
if !a.2 then
some ((Aj.mk (AP.mk [] 0 [] []) [] [] []),(AG.mk 0 0 0 0 0 [] []),false)
else
(Dc f.World s.Sync d.Thread a.1.Kind a.1.Obj d.Uh).bind λe=>
if !e.2.2 then
some ((Aj.mk (AP.mk [] 0 [] []) [] [] []),(AG.mk 0 0 0 0 0 [] []),false)
else
(F6 s).bind λb=>
(gt b.AA d.Thread).bind λc=>
(gt f.AA d.Thread).bind λaa=>
(gt aa.Bq c.PC).bind λi=>
if a.1.Kind==1 then
J1 f d a e b c i (a.1.Kind==1)
else
if a.1.Kind==16 then
J1 f d a e b c i (a.1.Kind==16)
else
J1 f d a e b c i (a.1.Kind==2)
theorem Zz {f:BT} {s:Aj} {d:C6} {r:Aj×AG×Bool} (h:DJ f s d=some r):Says Tryz.prog 180 [.agg (Jo f),.agg (Kj s),.agg (JT d)] (.BM [.agg (Mk r.1),.agg (IE r.2.1),sb r.2.2]):=by refine wO mix Tryz.func180 (I:=⟨f180c,f180g,f180r⟩) ?_;simp only[f180c,f180g,f180r];have a1:= @U5;have a2:= @QA;have a3:= @Zy;have a4:= @WZ;have c2:=λn1 n2 n3 n4:Nat=>Bm 2 λτ=>∃(e:AP×Int×Bool) (b:Aj) (c:AL) (i:Ac) (l o:List Int) (j:AG) (p:Int),(τ 3=bA 7 (Jo f)/\τ 4=bA 7 [vO 2 Bn e.1.AE,si e.1.Tx,vO 1 eB e.1.Bp,vO 3 An e.1.AA,vO 1 eI l,vO 1 eI o,.own false 4 ((b.AA.map B0).set d.Thread.toNat [si c.PC,.dead,.dead,si c.AF])]/\τ 5=bA 2 (JT d)/\τ 6=bA 7 z3/\τ 7=bA 7 z2/\τ 9=bA 7 (IE j)/\τ 14=bA 4 (B0 c)/\τ 15=bA 6 (EN i)/\τ 16=si p)/\J2 f d e b c i l o j p=some r;have c1:=λn1 n2 n3 n4:Nat=>Bm 1 λτ=>∃(a:AG×Bool) (e:AP×Int×Bool) (b:Aj) (c:AL) (i:Ac) (t:Bool),(τ 3=bA 7 (Jo f)/\τ 4=bA 7 [vO 2 Bn e.1.AE,si e.1.Tx,vO 1 eB e.1.Bp,vO 3 An e.1.AA,vO 1 eI b.Cells,vO 1 eI b.AK,.own false 4 ((b.AA.map B0).set d.Thread.toNat [si c.PC,.dead,.dead,si c.AF])]/\τ 5=bA 2 (JT d)/\τ 6=bA 7 z3/\τ 7=bA 7 z2/\τ 9=bA 7 [si a.1.Thread,si a.1.Kind,si a.1.Obj,si e.2.1,si a.1.Site,vO 1 eI a.1.Du,vO 1 eI a.1.DR]/\τ 14=bA 4 (B0 c)/\τ 15=bA 6 (EN i)/\τ 16=si (A1 (c.PC+1))/\τ 77=si a.1.Kind/\τ 78=sb t)/\J1 f d a e b c i t=some r;unfold DJ at h;exact walk
end
namespace Gj
def J3 (l:List AO):AB8 ((List AO)×Int):=
some (l,0)
def J2 (L1:(List AO)->AB->Int->AB8 ((List AO)×Int)) (d:AB) (a:Aw) (c:Int) (i:AG) (j:List AO):AB8 ((List AO)×Int):=
(BQ a.World d i).bind λu=>
L1 j u.1 (A1 (c+1))
def L1 (b:Int) (a:Aw) (L1:(List AO)->AB->Int->AB8 ((List AO)×Int)) (e:List AO) (d:AB) (c:Int):AB8 ((List AO)×Int):=
if decide (c<(a.AF.length:Int))then
(gt a.AF c).bind λi=>
if¬b=0 then
if(c.tmod b)==0 then
(JS a.World).bind λq=>
(D3 d).bind λs=>
if 0≤c/\0≤(if(a.AF.length:Int)<(A1 (c+b))then(a.AF.length:Int)else(A1 (c+b)))/\c.toNat≤((if(a.AF.length:Int)<(A1 (c+b))then(a.AF.length:Int)else(A1 (c+b))).toNat)/\((if(a.AF.length:Int)<(A1 (c+b))then(a.AF.length:Int)else(A1 (c+b))).toNat)≤a.AF.length then
(Er ((a.AF.drop c.toNat).take (((if(a.AF.length:Int)<(A1 (c+b))then(a.AF.length:Int)else(A1 (c+b))).toNat)-c.toNat))).bind λt=>
if Ak (e.length+1) 328=true then
J2 L1 d a c i (e++[(AO.mk q c s t)])
else none
else none
else
J2 L1 d a c i e
else none
else
J3 e
def AZ (b:Int) (a:Aw):Nat->(List AO)->AB->Int->AB8 ((List AO)×Int)
|0,_,_,_=>none
|n+1,e,d,c=>L1 b a (AZ b a n) e d c
def J1 (b:Int) (a:Aw) (f:Bool):AB8 ((List AO)×Int):=
if f then
some ([],1)
else
(CX a.World).bind λp=>
AZ b a BP [] p 0
end Gj
section
open Gj
def Gj (a:Aw) (b:Int):AB8 ((List AO)×Int):=
(B5 a).bind λo=>
if o.2 != 0 then
some ([],12)
else
if decide (b<1)then
J1 b a true
else
J1 b a (decide (b>16))
theorem O4 {a:Aw} {b:Int} {r:(List AO)×Int} (h:Gj a b=some r):Says Tryz.prog 41 [.agg (IV a),si b] (.BM [vO 15 JM r.1,si r.2]):=by refine kO mix Tryz.func41 (hn [(2,[26,29,44,49,55,65]),(8,[48,73]),(9,[53,67]),(69,[64,70,71])] [(6,1)]) ?_;have a1:= @JK;have a2:= @Hg;have a3:= @HE;have a4:= @RI;have a5:= @Oe;have a6:= @QU;have l1:=λn1 n2 n3 n4:Nat=>Av λn τ=>∃(e:List AO) (d:AB) (c:Int),(τ 1=si b/\τ 2=bA 7 (IV a)/\τ 8=vO 15 JM e/\τ 9=bA 7 (Dt d)/\τ 30=vS 7 BX a.AF/\τ 31=si (a.AF.length:Int)/\τ 32=si c)/\AZ b a n e d c=some r;have c1:=λn1 n2 n3 n4:Nat=>Bm 1 λτ=>∃(f:Bool),(τ 1=si b/\τ 2=bA 7 (IV a)/\τ 25=sb f)/\J1 b a f=some r;unfold Gj at h;exact walk
end
namespace A5
def J2:AB8 (Int×Int):=
some (0,0)
def L2 (a:AR) (L2:BJ->Int->AB8 (Int×Int)) (c:BJ) (b:Int):AB8 (Int×Int):=
if decide (b<(a.AA.length:Int))then
(gt a.AA b).bind λs=>
(Eo BP (BJ.mk c.p b c.Ga c.MR c.ZC) s.Body).bind λf=>
if f.1 != 0 then
some (f.1,f.2.1)
else
L2 f.2.2 (A1 (b+1))
else
J2
def Cr (a:AR):Nat->BJ->Int->AB8 (Int×Int)
|0,_,_=>none
|n+1,c,b=>L2 a (Cr a n) c b
def J1 (a:AR) (l:Int):AB8 (Int×Int):=
if decide (l>60)then
some (2,0)
else
Cr a BP (BJ.mk a 0 [] [] []) 0
def L1 (a:AR) (L1:Int->Int->AB8 (Int×Int)) (e d:Int):AB8 (Int×Int):=
if decide (d<(a.AA.length:Int))then
(gt a.AA d).bind λq=>
(Gt BP q.Body).bind λp=>
L1 (A1 (e+p)) (A1 (d+1))
else
J1 a e
def AZ (a:AR):Nat->Int->Int->AB8 (Int×Int)
|0,_,_=>none
|n+1,e,d=>L1 a (AZ a n) e d
end A5
section
open A5
def A5 (a:AR):AB8 (Int×Int):=
(CV a).bind λo=>
if !o then
some (3,0)
else
(Hy a.Decls).bind λi=>
if i.1 != 0 then
some (i.1,i.2)
else
if decide ((a.AA.length:Int)>4)then
some (2,0)
else
(CA a).bind λj=>
if j.1 != 0 then
some (j.1,j.2)
else
AZ a BP 0 0
theorem Kv {a:AR} {r:Int×Int} (h:A5 a=some r):Says Tryz.prog 181 [.agg (CN a)] (.BM [si r.1,si r.2]):=by refine kO mix Tryz.func181 (hn [(1,[18,27,41,48,62,74]),(10,[68,70,71,73])]) ?_;have a1:= @WJ;have a2:= @Yh;have a3:= @Uy;have a4:= @SZ;have a5:= @WM;have l2:=λn1 n2 n3 n4:Nat=>Av λn τ=>∃(c:BJ) (b:Int),(τ 1=bA 2 (CN a)/\τ 10=bA 6 (HX c)/\τ 11=si b)/\Cr a n c b=some r;have l1:=λn1 n2 n3 n4:Nat=>Av λn τ=>∃(e d:Int),(τ 1=bA 2 (CN a)/\τ 8=si e/\τ 9=si d)/\AZ a n e d=some r;unfold A5 at h;exact walk
end
namespace EJ
def J2 (e:AB):AB8 (AB×Int):=
some (e,0)
def L1 (b:Int) (a:Aw) (L1:AB->Int->AB8 (AB×Int)) (d:AB) (c:Int):AB8 (AB×Int):=
if decide (c<((a.AF.take b.toNat).length:Int))then
(gt (a.AF.take b.toNat) c).bind λo=>
(BQ a.World d o).bind λl=>
L1 l.1 (A1 (c+1))
else
J2 d
def AZ (b:Int) (a:Aw):Nat->AB->Int->AB8 (AB×Int)
|0,_,_=>none
|n+1,d,c=>L1 b a (AZ b a n) d c
def J1 (b:Int) (a:Aw) (f:Bool):AB8 (AB×Int):=
if f then
some ((AB.mk (AP.mk [] 0 [] []) [] [] []),1)
else
(CX a.World).bind λj=>
if 0≤b/\b.toNat≤a.AF.length then
AZ b a BP j 0
else none
end EJ
section
open EJ
def EJ (a:Aw) (b:Int):AB8 (AB×Int):=
(B5 a).bind λi=>
if i.2 != 0 then
some ((AB.mk (AP.mk [] 0 [] []) [] [] []),12)
else
if decide (b<0)then
J1 b a true
else
J1 b a (decide (b>(a.AF.length:Int)))
theorem Sp {a:Aw} {b:Int} {r:AB×Int} (h:EJ a b=some r):Says Tryz.prog 43 [.agg (IV a),si b] (.BM [.agg (Dt r.1),si r.2]):=by refine kO mix Tryz.func43 (hn [(2,[23,29,32,42]),(8,[44,50]),(46,[41,47,48])]) ?_;have a1:= @JK;have a2:= @Hg;have a3:= @HE;have l1:=λn1 n2 n3 n4:Nat=>Av λn τ=>∃(d:AB) (c:Int),(τ 2=bA 7 (IV a)/\τ 4=bA 7 z0/\τ 8=bA 7 (Dt d)/\τ 35= .sl false 7 ((a.AF.take b.toNat).map BX)/\τ 36=si ((a.AF.take b.toNat).length:Int)/\τ 37=si c)/\AZ b a n d c=some r;unfold EJ at h;exact walk
end
namespace Gk
def J1 (b:Bool):AB8 Bool:=
some b
end Gk
section
open Gk
def Gk (a:AO):AB8 Bool:=
(Bf a.World).bind λc=>
if c then
(JB a.World a.Init).bind λd=>
if d then
if decide ((a.AF.length:Int)≤16)then
(DM a).bind λe=>
if e then
(Bc a).bind λf=>
if f then
(Ap a).bind λi=>
if i then
(CG a.Init).bind λj=>
if j then
(BK a).bind λl=>
J1 l
else
J1 false
else
J1 false
else
J1 false
else
J1 false
else
J1 false
else
J1 false
else
J1 false
theorem La {a:AO} {r:Bool} (h:Gk a=some r):Says Tryz.prog 37 [.agg (BV a)] (sb r):=by refine kO mix Tryz.func37 (hn [(1,[3,7,9,14,32])]) ?_;have a1:= @Kb;have a2:= @ZN;have a3:= @Ua;have a4:= @Oh;have a5:= @Og;have a6:= @Of;have a7:= @Sr;unfold Gk at h;exact walk
end
def MY (a:Aw):AB8 ((List D5)×Int):=
(B5 a).bind λb=>
if b.2 != 0 then
some ([],12)
else
(CX a.World).bind λc=>
(FH a.World c a.AF).bind λd=>
some (d,0)
theorem V4 {a:Aw} {r:(List D5)×Int} (h:MY a=some r):Says Tryz.prog 24 [.agg (IV a)] (.BM [vS 2 K6 r.1,si r.2]):=by refine kF mix Tryz.func24 (hn [(1,[13,15,18])]) ?_;have a1:= @JK;have a2:= @Hg;have a3:= @Mp;unfold MY at h;exact walk
end Go.Abs
