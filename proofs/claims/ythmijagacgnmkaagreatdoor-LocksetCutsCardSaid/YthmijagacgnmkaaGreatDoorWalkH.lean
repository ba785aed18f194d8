/- Typed programs of Go functions, and that the functions do what these say. -/
import Derived.Test.YthmijagacgnmkaaGreatDoorWalkG
set_option linter.unusedSimpArgs false
set_option linter.unusedVariables false
namespace Go.Abs
open Go.Proofs
set_option maxRecDepth 1000000
set_option maxHeartbeats 4000000
namespace B8
def L1 (R100:A9->AQ->AB8 A9) (a:List AQ) (L1:A9->Int->AB8 A9) (c:A9) (b:Int):AB8 A9:=
if decide (b<(a.length:Int))then
(gt a b).bind λf=>
(R100 c f).bind λe=>
L1 e (A1 (b+1))
else
some c
def AZ (R100:A9->AQ->AB8 A9) (a:List AQ):Nat->A9->Int->AB8 A9
|0,_,_=>none
|n+1,c,b=>L1 R100 a (AZ R100 a n) c b
end B8
section
open B8
def B8 (R100:A9->AQ->AB8 A9) (d:A9) (a:List AQ):AB8 A9:=
AZ R100 a BP d 0
theorem Sb {R100:A9->AQ->AB8 A9} (H100:∀{x0 x1 r},R100 x0 x1=some r->BA Tryz.prog 220 [bA 10 (EV x0),.agg [si x1.Op,si x1.FA,BZ x1.Name,BZ x1.Arg,vS 4 BD x1.Index,si x1.Expr.Op,si x1.Expr.N,BZ x1.Expr.Name,vS 4 BD x1.Expr.L,vS 11 A7 x1.Body,vS 11 A7 x1.Else]] (.BM []) [bA 10 (EV r),.dead]) {d:A9} {a:List AQ} {r:A9} (h:B8 R100 d a=some r):BA Tryz.prog 183 [bA 10 (EV d),vS 11 A7 a] (.BM []) [bA 10 (EV r),.dead]:=by refine kL mix Tryz.func183 (hn [(0,[11])]) ?_;have a1:= @H100;have l1:=λn1 n2 n3 n4:Nat=>Av λn τ=>∃(c:A9) (b:Int),(τ 0=bA 10 (EV c)/\τ 1=vS 11 A7 a/\τ 4=si b)/\AZ R100 a n c b=some r;unfold B8 at h;exact walk
end
namespace Ca
def J1 (R101:A9->AQ->AB8 A9) (R102:A9->AQ->Int->Int->Int->AB8 A9) (a:A9) (b:AQ) (c:Bool):AB8 A9:=
if c then
(R101 (A9.mk a.w a.locals a.out a.next (A1 (a.next+1))) b).bind λl=>
some l
else
if b.Op==4 then
(Dy a.w.AE b.Name).bind λw=>
(R102 (A9.mk a.w a.locals a.out a.next (A1 (a.next+1))) b 11 12 w).bind λac=>
some ac
else
if b.Op==5 then
(Dy a.w.AE b.Name).bind λad=>
(R102 (A9.mk a.w a.locals a.out a.next (A1 (a.next+1))) b 13 14 ad).bind λae=>
some ae
else
if b.Op==6 then
(Dy a.w.AE b.Name).bind λaf=>
(R102 (A9.mk a.w a.locals a.out a.next (A1 (a.next+1))) b 15 16 af).bind λai=>
some ai
else
if b.Op==7 then
(R102 (A9.mk a.w a.locals a.out a.next (A1 (a.next+1))) b 17 18 0).bind λaj=>
some aj
else
if b.Op==8 then
(R102 (A9.mk a.w a.locals a.out a.next (A1 (a.next+1))) b 19 20 0).bind λal=>
some al
else
if b.Op==9 then
(CQ (A9.mk a.w a.locals a.out a.next (A1 (a.next+1))) b.Name).bind λd=>
(A6 d.2 (Ac.mk 21 d.1 0 0 0 0)).bind λo=>
some o
else
if b.Op==10 then
(CQ (A9.mk a.w a.locals a.out a.next (A1 (a.next+1))) b.Name).bind λe=>
(A6 e.2 (Ac.mk 22 e.1 0 0 0 0)).bind λp=>
some p
else
if b.Op==11 then
(CQ (A9.mk a.w a.locals a.out a.next (A1 (a.next+1))) b.Name).bind λf=>
(A6 f.2 (Ac.mk 23 f.1 0 0 0 0)).bind λq=>
some q
else
if b.Op==12 then
(CP a.w.AA b.Name).bind λs=>
(A6 (A9.mk a.w a.locals a.out a.next (A1 (a.next+1))) (Ac.mk 24 s 0 0 0 0)).bind λt=>
some t
else
if b.Op==13 then
(CP a.w.AA b.Name).bind λu=>
(A6 (A9.mk a.w a.locals a.out a.next (A1 (a.next+1))) (Ac.mk 25 u 0 0 0 0)).bind λv=>
some v
else
if b.Op==14 then
(Cm BP (A9.mk a.w a.locals a.out a.next (A1 (a.next+1))) b.Expr (a.locals.length:Int)).bind λi=>
(CP i.w.AK b.Name).bind λx=>
(A6 i (Ac.mk 26 x (a.locals.length:Int) 0 0 0)).bind λy=>
some y
else
if b.Op==15 then
(CP a.locals b.Name).bind λz=>
(CP a.w.AK b.Arg).bind λaa=>
(A6 (A9.mk a.w a.locals a.out a.next (A1 (a.next+1))) (Ac.mk 27 z aa 0 0 0)).bind λab=>
some ab
else
some (A9.mk a.w a.locals a.out a.next (A1 (a.next+1)))
end Ca
section
open Ca
def Ca (R101:A9->AQ->AB8 A9) (R102:A9->AQ->Int->Int->Int->AB8 A9) (a:A9) (b:AQ):AB8 A9:=
if b.Op==1 then
(Fv (A9.mk a.w a.locals a.out a.next (A1 (a.next+1))) b).bind λj=>
some j
else
if b.Op==2 then
J1 R101 R102 a b (b.Op==2)
else
J1 R101 R102 a b (b.Op==3)
theorem UA {R101:A9->AQ->AB8 A9} (H101:∀{x0 x1 r},R101 x0 x1=some r->BA Tryz.prog 241 [bA 10 (EV x0),.agg [si x1.Op,si x1.FA,BZ x1.Name,BZ x1.Arg,vS 4 BD x1.Index,si x1.Expr.Op,si x1.Expr.N,BZ x1.Expr.Name,vS 4 BD x1.Expr.L,vS 11 A7 x1.Body,vS 11 A7 x1.Else]] (.BM []) [bA 10 (EV r),.dead]) {R102:A9->AQ->Int->Int->Int->AB8 A9} (H102:∀{x0 x1 x2 x3 x4 r},R102 x0 x1 x2 x3 x4=some r->BA Tryz.prog 242 [bA 10 (EV x0),.agg [si x1.Op,si x1.FA,BZ x1.Name,BZ x1.Arg,vS 4 BD x1.Index,si x1.Expr.Op,si x1.Expr.N,BZ x1.Expr.Name,vS 4 BD x1.Expr.L,vS 11 A7 x1.Body,vS 11 A7 x1.Else],si x2,si x3,si x4] (.BM []) [bA 10 (EV r),.dead,.dead,.dead,.dead]) {a:A9} {b:AQ} {r:A9} (h:Ca R101 R102 a b=some r):BA Tryz.prog 220 [bA 10 (EV a),.agg [si b.Op,si b.FA,BZ b.Name,BZ b.Arg,vS 4 BD b.Index,si b.Expr.Op,si b.Expr.N,BZ b.Expr.Name,vS 4 BD b.Expr.L,vS 11 A7 b.Body,vS 11 A7 b.Else]] (.BM []) [bA 10 (EV r),.dead]:=by refine kL mix Tryz.func220 (hn [(0,[5,6,7,8,10,11,12,13,14,17,18,19,20,21,22,28,34,39,41,42,43,44,45,52,54,55,56,57,58,65,67,68,69,70,71,78,83,88,89,97,98,106,107,115,116,117,118,119,120,128,129,130,131,132,133,141,146,147,148,149,150,151,160,161,162,163,164,168,169,170,171,172]),(3,[24,46,59,72,90,99,108,121,134,142,152,165,173])] [(6,1)]) ?_;have a1:= @RA;have a2:= @H101;have a3:= @O0;have a4:= @H102;have a5:= @T9;have a6:= @G5;have a7:= @Hx;have a8:= @JI;have c1:=λn1 n2 n3 n4:Nat=>Bm 1 λτ=>∃(c:Bool),(τ 0=bA 10 [vS 5 Gx a.w.Cells,vS 2 Hu a.w.AE,vS 2 Ht a.w.Af,vS 1 eS a.w.AK,vS 1 eS a.w.AA,vS 3 GX a.w.BL,vS 1 eS a.locals,vO 6 EN a.out,si a.next,si (A1 (a.next+1))]/\τ 3=bA 11 [si b.Op,si b.FA,BZ b.Name,BZ b.Arg,vS 4 BD b.Index,si b.Expr.Op,si b.Expr.N,BZ b.Expr.Name,vS 4 BD b.Expr.L,vS 11 A7 b.Body,vS 11 A7 b.Else]/\τ 4=si (a.locals.length:Int)/\τ 25=si b.Op/\τ 31=sb c)/\J1 R101 R102 a b c=some r;unfold Ca at h;exact walk
end
def Cv (R103:A9->(List AQ)->AB8 A9) (c:A9) (a:AQ):AB8 A9:=
(Cm BP c a.Expr (c.locals.length:Int)).bind λd=>
(A6 d (Ac.mk 10 (d.locals.length:Int) 0 0 0 0)).bind λq=>
(R103 q a.Body).bind λb=>
if a.Op==3 then
(A6 (A9.mk b.w b.locals b.out c.site b.next) (Ac.mk 5 (c.out.length:Int) 0 0 0 0)).bind λe=>
(gt e.out (d.out.length:Int)).bind λj=>
some (A9.mk e.w e.locals (e.out.set d.out.length (Ac.mk j.Op j.A (e.out.length:Int) j.C j.N j.Site)) e.site e.next)
else
if(a.Else.length:Int)==0 then
(gt b.out (d.out.length:Int)).bind λl=>
some (A9.mk b.w b.locals (b.out.set d.out.length (Ac.mk l.Op l.A (b.out.length:Int) l.C l.N l.Site)) c.site b.next)
else
(A6 (A9.mk b.w b.locals b.out c.site b.next) (Ac.mk 5 0 0 0 0 0)).bind λf=>
(gt f.out (d.out.length:Int)).bind λo=>
(R103 (A9.mk f.w f.locals (f.out.set d.out.length (Ac.mk o.Op o.A (f.out.length:Int) o.C o.N o.Site)) f.site f.next) a.Else).bind λi=>
(gt i.out (b.out.length:Int)).bind λp=>
some (A9.mk i.w i.locals (i.out.set b.out.length (Ac.mk p.Op (i.out.length:Int) p.B p.C p.N p.Site)) i.site i.next)
theorem PJ {R103:A9->(List AQ)->AB8 A9} (H103:∀{x0 x1 r},R103 x0 x1=some r->BA Tryz.prog 183 [bA 10 (EV x0),vS 11 A7 x1] (.BM []) [bA 10 (EV r),.dead]) {c:A9} {a:AQ} {r:A9} (h:Cv R103 c a=some r):BA Tryz.prog 241 [bA 10 (EV c),.agg [si a.Op,si a.FA,BZ a.Name,BZ a.Arg,vS 4 BD a.Index,si a.Expr.Op,si a.Expr.N,BZ a.Expr.Name,vS 4 BD a.Expr.L,vS 11 A7 a.Body,vS 11 A7 a.Else]] (.BM []) [bA 10 (EV r),.dead]:=by refine kL mix Tryz.func241 (hn [(0,[8,9,10,12,13,14,15,17,20,21,22,23,26,27,28,29,31,32,33,34,35,39,43,45,46,50,54,55,56,57,59,60,61,62,64,65,70,71,72,73,75,76,77,78,80,81,82,83,84,85,87,90,91,92,93,95,96,97,98,100,101,102,106,107,108,109,111,112,113,114,116,117]),(3,[18,40,47,66,103])]) ?_;have a1:= @JI;have a2:= @G5;have a3:= @H103;unfold Cv at h;exact walk
def DD (R103:A9->(List AQ)->AB8 A9) (b:A9) (a:AQ) (d e c:Int):AB8 A9:=
(A6 b (Ac.mk d c 0 0 0 0)).bind λi=>
(R103 i a.Body).bind λf=>
(A6 (A9.mk f.w f.locals f.out b.site f.next) (Ac.mk e c 0 0 0 0)).bind λj=>
some j
theorem Q9 {R103:A9->(List AQ)->AB8 A9} (H103:∀{x0 x1 r},R103 x0 x1=some r->BA Tryz.prog 183 [bA 10 (EV x0),vS 11 A7 x1] (.BM []) [bA 10 (EV r),.dead]) {b:A9} {a:AQ} {d e c:Int} {r:A9} (h:DD R103 b a d e c=some r):BA Tryz.prog 242 [bA 10 (EV b),.agg [si a.Op,si a.FA,BZ a.Name,BZ a.Arg,vS 4 BD a.Index,si a.Expr.Op,si a.Expr.N,BZ a.Expr.Name,vS 4 BD a.Expr.L,vS 11 A7 a.Body,vS 11 A7 a.Else],si d,si e,si c] (.BM []) [bA 10 (EV r),.dead,.dead,.dead,.dead]:=by refine kL mix Tryz.func242 (hn [(0,[11,12,13,15,20,24,26,27,28]),(6,[21])]) ?_;have a1:= @G5;have a2:= @H103;unfold DD at h;exact walk
def ES:Nat->(A9->(List AQ)->AB8 A9)×(A9->AQ->AB8 A9)×(A9->AQ->AB8 A9)×(A9->AQ->Int->Int->Int->AB8 A9)
|0=>((λ_ _=>none),(λ_ _=>none),(λ_ _=>none),(λ_ _ _ _ _=>none))
|n+1=>(B8 ((ES n).2.1),Ca ((ES n).2.2.1) ((ES n).2.2.2),Cv ((ES n).1),DD ((ES n).1))
def DU (n:Nat):A9->(List AQ)->AB8 A9:=(ES n).1
def Oz (n:Nat):A9->AQ->AB8 A9:=(ES n).2.1
def RC (n:Nat):A9->AQ->AB8 A9:=(ES n).2.2.1
def T8 (n:Nat):A9->AQ->Int->Int->Int->AB8 A9:=(ES n).2.2.2
theorem RD (n:Nat):(∀{x0 x1 r},(DU n) x0 x1=some r->BA Tryz.prog 183 [bA 10 (EV x0),.sl false 11 (x1.map A7)] (.BM []) [bA 10 (EV r),.dead])/\(∀{x0 x1 r},(Oz n) x0 x1=some r->BA Tryz.prog 220 [bA 10 (EV x0),.agg [si x1.Op,si x1.FA,BZ x1.Name,BZ x1.Arg,.sl false 4 (x1.Index.map BD),si x1.Expr.Op,si x1.Expr.N,BZ x1.Expr.Name,.sl false 4 (x1.Expr.L.map BD),.sl false 11 (x1.Body.map A7),.sl false 11 (x1.Else.map A7)]] (.BM []) [bA 10 (EV r),.dead])/\(∀{x0 x1 r},(RC n) x0 x1=some r->BA Tryz.prog 241 [bA 10 (EV x0),.agg [si x1.Op,si x1.FA,BZ x1.Name,BZ x1.Arg,.sl false 4 (x1.Index.map BD),si x1.Expr.Op,si x1.Expr.N,BZ x1.Expr.Name,.sl false 4 (x1.Expr.L.map BD),.sl false 11 (x1.Body.map A7),.sl false 11 (x1.Else.map A7)]] (.BM []) [bA 10 (EV r),.dead])/\(∀{x0 x1 x2 x3 x4 r},(T8 n) x0 x1 x2 x3 x4=some r->BA Tryz.prog 242 [bA 10 (EV x0),.agg [si x1.Op,si x1.FA,BZ x1.Name,BZ x1.Arg,.sl false 4 (x1.Index.map BD),si x1.Expr.Op,si x1.Expr.N,BZ x1.Expr.Name,.sl false 4 (x1.Expr.L.map BD),.sl false 11 (x1.Body.map A7),.sl false 11 (x1.Else.map A7)],si x2,si x3,si x4] (.BM []) [bA 10 (EV r),.dead,.dead,.dead,.dead]):=by
  induction n with
  |zero=>exact⟨λh=>DP h,λh=>DP h,λh=>DP h,λh=>DP h⟩
  |succ n ih=>exact⟨λh=>Sb ih.2.1 h,λh=>UA ih.2.2.1 ih.2.2.2 h,λh=>PJ ih.1 h,λh=>Q9 ih.1 h⟩
theorem RE {n:Nat}:∀{x0 x1 r},(DU n) x0 x1=some r->BA Tryz.prog 183 [bA 10 (EV x0),.sl false 11 (x1.map A7)] (.BM []) [bA 10 (EV r),.dead]:=(RD n).1
def f70c:IC:=(Ra 12 [.b 6 [118,141] (.bx 6 (.t 0)),.b 7 [21,28,33,34,36,37,40,41,43,44,48,49,52,53,57,58,60,61,64,65,67,68,70,71,72,76,77,80,81,83,84,86,87,88,91,92,96,99,102,103,105,106,109,110,112,113,116,117,124,125,126,127,129,130,133,134,135,136,139,140,148,149,150,151,153,154,156,157,158,159,162,175,176,178,179,183,192,193,198,199,204,205,207,208,211,212,214,215] (.bx 4 (.t 1)),.o (.bx 4 (.c (.agg z4))),.K 13 0,.B 14 false]
(Sq (Ra 20 [.A 6 6,.y 7 (.ld true 4 (.t 7)),.C 2,.C 3,.C 4,.c 67 [20,21,22,23,24] 0,.N 25]
(Ci 26 (Rb 27 [.o (.Uc z4 []),.S 4 12 27,.K 13 0,.B 14 false])))
(Ra 28 [.y 7 (.ld true 4 (.t 7)),.c 131 [28] 2,.S 4 7 29]
(Ra 0 [.K 15 0]
(Nf 5 (Ra 30 [.C 3]
(Bk 0 (Ra 32 [.q 30 1 31]
(Cn 31 (Rc 33 [.m 7 3 7,.C 2,.J 7 3 34 35,.H 7 0 36,.T 37 2]) (Ra 39 [.q 30 2 38]
(Cn 38 (Rc 40 [.m 7 3 7,.C 2,.J 7 3 41 42,.H 7 0 43,.T 44 5]) (Nf 1 (Ra 46 [.q 30 6 45]
(Cn 45 .skip (Rc 47 [.q 30 10 45])))
(Cn 45 (Rc 48 [.m 7 0 7,.C 4,.C 2,.J 7 2 49 50,.H 7 0 52,.S 1 53 51]) (Nf 2 (Ra 55 [.q 30 7 54]
(Cn 54 .skip (Rc 56 [.q 30 11 54])))
(Cn 54 (Rc 57 [.m 7 0 7,.C 4,.J 7 2 58 59,.H 7 0 60,.T 61 (-1)]) (Ra 63 [.q 30 8 62]
(Cn 62 (Rc 64 [.m 7 0 7,.C 4,.m 7 0 7,.C 4,.J 7 2 68 69,.m 7 1 70,.C 2,.o (.Na 1 [[si 0]] [(0,.t 73)]),.c 132 [72,74] 2,.J 7 2 65 66,.H 7 1 76,.S 1 77 75]) (Ra 79 [.q 30 9 78]
(Cn 78 (Rc 80 [.m 7 0 7,.C 4,.m 7 0 7,.C 4,.J 7 2 84 85,.m 7 1 86,.C 2,.c 133 [88,89] 2,.J 7 2 81 82,.H 7 1 91,.S 1 92 90]) (Ra 94 [.q 30 12 93]
(Cn 93 (Rc 95 [.C 2,.F 1 7,.S 1 96 95]) (Ra 98 [.q 30 13 97]
(Cn 97 (Rc 99 [.F 1 7,.T 99 (-1)]) (Ra 101 [.q 30 14 100]
(Cn 100 (Rc 102 [.m 7 3 7,.C 2,.J 7 3 103 104,.H 7 2 105,.x ⟨none,.st 1 (.t 106) (.c (sb true)),none⟩]) (Ra 108 [.q 30 15 107]
(Cn 107 (Rc 109 [.m 7 3 7,.C 2,.J 7 3 110 111,.H 7 2 112,.x ⟨none,.st 1 (.t 113) (.c (sb false)),none⟩]) (Ra 115 [.q 30 16 114]
(Cn 114 (Ra 116 [.m 7 0 7,.f 2 6,.C 4,.I 2 119 120,.U 1 121,.J 7 2 117 123,.H 7 0 124,.T 125 (-1)]
(Rc 126 [.F 3 7,.y 7 (.YO (.t 126)),.C 2,.F 3 7,.y 7 (.YO (.t 129)),.C 2,.C 4,.J 7 3 127 128,.H 7 0 133,.x ⟨none,.XC (.t 134) (.c (si 3)),none⟩,.J 7 3 130 131,.H 7 1 135,.x ⟨none,.XC (.t 136) (.t 132),none⟩])) (Ra 138 [.q 30 17 137]
(Cn 137 (Ra 139 [.m 7 0 7,.f 2 6,.C 4,.I 2 142 143,.U 1 144,.C 2,.J 7 2 140 146,.H 7 0 148,.S 1 149 147]
(Rc 150 [.F 3 7,.y 7 (.YO (.t 150)),.C 2,.F 3 7,.y 7 (.YO (.t 153)),.C 2,.J 7 3 151 152,.H 7 0 156,.x ⟨none,.XC (.t 157) (.c (si 2)),none⟩,.J 7 3 154 155,.H 7 1 158,.x ⟨none,.XC (.t 159) (.c (si 0)),none⟩])) (Ra 161 [.q 30 18 160]
(Cn 160 (Ra 162 [.y 7 (.ld true 4 (.t 7)),.C 4,.c 130 [162,163] 2,.b 16 [165,168,169,171] (.mv (.t 164))]
(Ra 0 [.K 15 (-1)]
(Ra 165 [.y 16 (.cp (.t 16)),.Z 165,.P .gtr 166 0]
(Ci 167 (Ra 168 [.y 16 (.cp (.t 16)),.y 16 (.W4 1 (.t 168) (.c (si 0))),.L 169,.M 17 170]
(Sq (Ra 171 [.y 16 (.cp (.t 16)),.C 5,.c 100 [171,172] 0]
(Ci 173 (Rc 174 [.C 5,.M 17 174])))
(Ra 175 [.m 7 3 7,.C 17,.J 7 3 176 177,.H 7 0 178,.T 179 4]
(Rc 180 [.C 17,.M 15 180])))))))) (Ra 182 [.q 30 19 181]
(Cn 181 (Ra 183 [.y 7 (.ld true 4 (.t 7)),.C 4,.c 130 [183,184] 2,.b 18 [187,194,196,200] (.mv (.t 185))]
(Sq (Ra 0 [.K 19 0]
(Bl 1 (Sq (Ra 186 [.C 19,.y 18 (.cp (.t 18)),.Z 187,.O .lss 186 188]
(cX 189 1))
(Sq (Bk 2 (Rc 192 [.m 7 3 7,.y 18 (.cp (.t 18)),.C 19,.J 18 1 194 195,.L 196,.J 7 3 193 197,.H 7 0 198,.T 199 4]))
(Rc 190 [.C 19,.P .add 190 1,.M 19 191])))))
(Rc 200 [.y 18 (.cp (.t 18)),.Z 200,.M 15 201]))) (Ra 203 [.q 30 20 202]
(Cn 202 (Rc 204 [.m 7 3 7,.C 4,.J 7 3 205 206,.H 7 0 207,.T 208 1]) (Ra 210 [.q 30 22 209]
(Ci 209 (Rc 211 [.m 7 2 7,.C 4,.J 7 1 212 213,.x ⟨none,.st 1 (.t 214) (.c (sb true)),none⟩])))))))))))))))))))))))))))))))))))
(Rb 215 [.y 7 (.ld true 4 (.t 7)),.C 15,.S 4 12 215,.M 13 216,.B 14 true]))))))
def f70g:Gi:=⟨[(21,[7]),(28,[7]),(33,[7]),(34,[7]),(36,[7]),(37,[7]),(40,[7]),(41,[7]),(43,[7]),(44,[7]),(48,[7]),(49,[7]),(52,[7]),(53,[7]),(57,[7]),(58,[7]),(60,[7]),(61,[7]),(64,[7]),(65,[7]),(67,[7]),(68,[7]),(70,[7]),(71,[7]),(72,[7]),(76,[7]),(77,[7]),(80,[7]),(81,[7]),(83,[7]),(84,[7]),(86,[7]),(87,[7]),(88,[7]),(91,[7]),(92,[7]),(96,[7]),(99,[7]),(102,[7]),(103,[7]),(105,[7]),(106,[7]),(109,[7]),(110,[7]),(112,[7]),(113,[7]),(116,[7]),(117,[7]),(118,[6]),(124,[7]),(125,[7]),(126,[7]),(127,[7]),(129,[7]),(130,[7]),(133,[7]),(134,[7]),(135,[7]),(136,[7]),(139,[7]),(140,[7]),(141,[6]),(148,[7]),(149,[7]),(150,[7]),(151,[7]),(153,[7]),(154,[7]),(156,[7]),(157,[7]),(158,[7]),(159,[7]),(162,[7]),(165,[16]),(168,[16]),(169,[16]),(171,[16]),(175,[7]),(176,[7]),(178,[7]),(179,[7]),(183,[7]),(187,[18]),(192,[7]),(193,[7]),(194,[18]),(196,[18]),(198,[7]),(199,[7]),(200,[18]),(204,[7]),(205,[7]),(207,[7]),(208,[7]),(211,[7]),(212,[7]),(214,[7]),(215,[7])]⟩
def f70r:List RV:=[.cell 12 true 4,.tmp 13,.tmp 14]
namespace Dc
def J5 (p:AP) (t:Int):AB8 (AP×Int×Bool):=
some (p,t,true)
def J3 (a:AP) (w:Int):AB8 (AP×Int×Bool):=
(gt a.AA w).bind λad=>
J5 (AP.mk a.AE a.Tx a.Bp (a.AA.set w.toNat (AH.mk 4 ad.D7 ad.Atomic))) w
def J4 (i:List Int) (au:AP):AB8 (AP×Int×Bool):=
J5 au (i.length:Int)
def L1 (i:List Int) (L1:AP->Int->AB8 (AP×Int×Bool)) (j:AP) (l:Int):AB8 (AP×Int×Bool):=
if decide (l<(i.length:Int))then
(gt i l).bind λae=>
(gt j.AA ae).bind λaf=>
L1 (AP.mk j.AE j.Tx j.Bp (j.AA.set ae.toNat (AH.mk 4 af.D7 af.Atomic))) (A1 (l+1))
else
J4 i j
def AZ (i:List Int):Nat->AP->Int->AB8 (AP×Int×Bool)
|0,_,_=>none
|n+1,j,l=>L1 i (AZ i n) j l
def J2 (c d b:Int) (a:AP) (f:Int) (e:AD) (s:Bool):AB8 (AP×Int×Bool):=
if s then
(gt a.AE d).bind λbc=>
J5 (AP.mk (a.AE.set d.toNat (AW.mk (-1) bc.Al)) a.Tx a.Bp a.AA) 0
else
if c==8 then
(gt a.AE d).bind λaj=>
(ED aj.Al [b]).bind λaw=>
J5 (AP.mk (a.AE.set d.toNat (AW.mk aj.B6 aw)) a.Tx a.Bp a.AA) 0
else
if c==9 then
(gt a.AE d).bind λal=>
(EG al.Al b).bind λax=>
J5 (AP.mk (a.AE.set d.toNat (AW.mk al.B6 ax)) a.Tx a.Bp a.AA) 0
else
if c==12 then
J5 (AP.mk a.AE b a.Bp a.AA) 0
else
if c==13 then
J5 (AP.mk a.AE (-1) a.Bp a.AA) 0
else
if c==14 then
(gt a.AA b).bind λao=>
J5 (AP.mk a.AE a.Tx a.Bp (a.AA.set b.toNat (AH.mk ao.Status ao.D7 true))) 0
else
if c==15 then
(gt a.AA b).bind λap=>
J5 (AP.mk a.AE a.Tx a.Bp (a.AA.set b.toNat (AH.mk ap.Status ap.D7 false))) 0
else
if c==16 then
(gt e.Af d).bind λaq=>
(gt a.AE aq.Mutex).bind λbd=>
(gt a.AA b).bind λu=>
(gt (a.AA.set b.toNat (AH.mk 3 u.D7 u.Atomic)) b).bind λaa=>
J5 (AP.mk (a.AE.set aq.Mutex.toNat (AW.mk (-1) bd.Al)) a.Tx a.Bp ((a.AA.set b.toNat (AH.mk 3 u.D7 u.Atomic)).set b.toNat (AH.mk aa.Status d aa.Atomic))) 0
else
if c==17 then
(gt e.Af d).bind λab=>
(gt a.AE ab.Mutex).bind λaz=>
(gt a.AA b).bind λv=>
(gt (a.AA.set b.toNat (AH.mk 2 v.D7 v.Atomic)) b).bind λac=>
J5 (AP.mk (a.AE.set ab.Mutex.toNat (AW.mk b az.Al)) a.Tx a.Bp ((a.AA.set b.toNat (AH.mk 2 v.D7 v.Atomic)).set b.toNat (AH.mk ac.Status 0 ac.Atomic))) 0
else
if c==18 then
(C4 a d).bind λx=>
if decide ((x.length:Int)>0)then
(gt x 0).bind λba=>
(G6 x f).bind λay=>
if ay then
J3 a f
else
J3 a ba
else
J5 a (-1)
else
if c==19 then
(C4 a d).bind λi=>
AZ i BP a 0
else
if c==20 then
(gt a.AA d).bind λai=>
J5 (AP.mk a.AE a.Tx a.Bp (a.AA.set d.toNat (AH.mk 1 ai.D7 ai.Atomic))) 0
else
if c==22 then
(gt a.Bp d).bind λbe=>
J5 (AP.mk a.AE a.Tx (a.Bp.set d.toNat true) a.AA) 0
else
J5 a 0
def J1 (c d b:Int) (a:AP) (f:Int) (e:AD) (q:Bool):AB8 (AP×Int×Bool):=
if q then
(gt a.AE d).bind λbb=>
J5 (AP.mk (a.AE.set d.toNat (AW.mk b bb.Al)) a.Tx a.Bp a.AA) 0
else
if c==7 then
J2 c d b a f e (c==7)
else
J2 c d b a f e (c==11)
end Dc
section
open Dc
def Dc (e:AD) (o:AP) (b c:Int) (d f:Int):AB8 (AP×Int×Bool):=
(Cf e o b c d).bind λav=>
if !av then
some ((AP.mk [] 0 [] []),0,false)
else
(Gg o).bind λa=>
if c==1 then
(gt a.AA b).bind λy=>
J5 (AP.mk a.AE a.Tx a.Bp (a.AA.set b.toNat (AH.mk 2 y.D7 y.Atomic))) 0
else
if c==2 then
(gt a.AA b).bind λz=>
J5 (AP.mk a.AE a.Tx a.Bp (a.AA.set b.toNat (AH.mk 5 z.D7 z.Atomic))) 0
else
if c==6 then
J1 c d b a f e (c==6)
else
J1 c d b a f e (c==10)
theorem QA {e:AD} {o:AP} {b c:Int} {d f:Int} {r:AP×Int×Bool} (h:Dc e o b c d f=some r):Says Tryz.prog 70 [.agg (Ah e),.agg (FZ o),si b,si c,si d,si f] (.BM [.agg (IF r.1),si r.2.1,sb r.2.2]):=by refine wO mix Tryz.func70 (I:=⟨f70c,f70g,f70r⟩) ?_;simp only[f70c,f70g,f70r];have a1:= @Ny;have a2:= @RZ;have a3:= @P8;have a4:= @U4;have a5:= @Nz;have a6:= @OU;have l1:=λn1 n2 n3 n4:Nat=>Av λn τ=>∃(i:List Int) (j:AP) (l:Int),(τ 7=bA 4 (IF j)/\τ 12=bA 4 z4/\τ 18=vO 1 eI i/\τ 19=si l)/\AZ i n j l=some r;have c5:=λn1 n2 n3 n4:Nat=>Bm 5 λτ=>∃(p:AP) (t:Int),(τ 7=bA 4 (IF p)/\τ 12=bA 4 z4/\τ 15=si t)/\J5 p t=some r;have c2:=λn1 n2 n3 n4:Nat=>Bm 2 λτ=>∃(a:AP) (s:Bool),(τ 2=si b/\τ 4=si d/\τ 5=si f/\τ 6=bA 6 (Ah e)/\τ 7=bA 4 (IF a)/\τ 12=bA 4 z4/\τ 15=si 0/\τ 30=si c/\τ 54=sb s)/\J2 c d b a f e s=some r;have c1:=λn1 n2 n3 n4:Nat=>Bm 1 λτ=>∃(a:AP) (q:Bool),(τ 2=si b/\τ 4=si d/\τ 5=si f/\τ 6=bA 6 (Ah e)/\τ 7=bA 4 (IF a)/\τ 12=bA 4 z4/\τ 15=si 0/\τ 30=si c/\τ 45=sb q)/\J1 c d b a f e q=some r;unfold Dc at h;exact walk
end
namespace AX
def J6:AB8 Bool:=
some true
def J5 (L1:Int->AB8 Bool) (b:Int):AB8 Bool:=
L1 (A1 (b+1))
def L2 (L1:Int->AB8 Bool) (a:Az) (b:Int) (f:List Int) (L2:Int->AB8 Bool) (i:Int):AB8 Bool:=
if decide (i<(f.length:Int))then
(gt f i).bind λab=>
(Db ab a.Ch).bind λy=>
if !y then
some false
else
L2 (A1 (i+1))
else
J5 L1 b
def Cr (L1:Int->AB8 Bool) (a:Az) (b:Int) (f:List Int):Nat->Int->AB8 Bool
|0,_=>none
|n+1,i=>L2 L1 a b f (Cr L1 a b f n) i
def J4 (L1:Int->AB8 Bool) (a:Az) (b:Int) (c:Ac) (l:Bool):AB8 Bool:=
if l then
some false
else
(Aa c).bind λf=>
Cr L1 a b f BP 0
def J3 (L1:Int->AB8 Bool) (a:Az) (b:Int) (c:Ac) (j:Bool):AB8 Bool:=
if j then
some false
else
if c.Op==5 then
(Db c.A (a.Bq.length:Int)).bind λv=>
if !v then
J4 L1 a b c true
else
if c.Op==10 then
(Db c.B (a.Bq.length:Int)).bind λw=>
J4 L1 a b c (!w)
else
J4 L1 a b c false
else
if c.Op==10 then
(Db c.B (a.Bq.length:Int)).bind λx=>
J4 L1 a b c (!x)
else
J4 L1 a b c false
def J2 (L1:Int->AB8 Bool) (a:Az) (b e:Int) (d:AD) (c:Ac) (p:Bool):AB8 Bool:=
if p then
some false
else
if c.Op==28 then
if c.Site != (-1)then
J3 L1 a b c true
else
if c.Op != 28 then
(Db c.Site (d.BL.length:Int)).bind λt=>
if !t then
J3 L1 a b c true
else
(gt d.BL c.Site).bind λz=>
J3 L1 a b c (z.Thread != e)
else
J3 L1 a b c false
else
if c.Op != 28 then
(Db c.Site (d.BL.length:Int)).bind λu=>
if !u then
J3 L1 a b c true
else
(gt d.BL c.Site).bind λaa=>
J3 L1 a b c (aa.Thread != e)
else
J3 L1 a b c false
def L1 (a:Az) (e:Int) (d:AD) (L1:Int->AB8 Bool) (b:Int):AB8 Bool:=
if decide (b<(a.Bq.length:Int))then
(gt a.Bq b).bind λc=>
if decide (c.Op<1)then
J2 L1 a b e d c true
else
if decide (c.Op>28)then
J2 L1 a b e d c true
else
if !((c.Op==28)==(b==(A1 ((a.Bq.length:Int)-1))))then
J2 L1 a b e d c true
else
(AM d c).bind λq=>
if !q then
J2 L1 a b e d c true
else
(B9 a.Bq b).bind λs=>
J2 L1 a b e d c (!s)
else
J6
def AZ (a:Az) (e:Int) (d:AD):Nat->Int->AB8 Bool
|0,_=>none
|n+1,b=>L1 a e d (AZ a e d n) b
def J1 (a:Az) (e:Int) (d:AD) (o:Bool):AB8 Bool:=
if o then
some false
else
AZ a e d BP 0
end AX
section
open AX
def AX (d:AD) (e:Int) (a:Az):AB8 Bool:=
if decide (a.Ch<0)then
J1 a e d true
else
if decide (a.Ch>32)then
J1 a e d true
else
J1 a e d ((a.Bq.length:Int)==0)
theorem P7 {d:AD} {e:Int} {a:Az} {r:Bool} (h:AX d e a=some r):Says Tryz.prog 179 [.agg (Ah d),si e,.agg (Cd a)] (sb r):=by refine kO mix Tryz.func179 (hn [(3,[83,89]),(5,[12,15,19,32,62,135]),(9,[37,41,46,68,72,77,81,91,101,105,112,116]),(10,[126,131,133])] [(3,1),(12,2),(15,3),(18,4)]) ?_;have a1:= @Je;have a2:= @P6;have a3:= @U3;have a4:= @Yo;have l1:=λn1 n2 n3 n4:Nat=>Av λn τ=>∃(b:Int),(τ 1=si e/\τ 3=bA 6 (Ah d)/\τ 5=bA 2 (Cd a)/\τ 7=si (a.Bq.length:Int)/\τ 8=si b)/\AZ a e d n b=some r;have l2:=λn1 n2 n3 n4:Nat=>Av λn τ=>∃(b:Int) (f:List Int) (i:Int),(τ 1=si e/\τ 3=bA 6 (Ah d)/\τ 5=bA 2 (Cd a)/\τ 7=si (a.Bq.length:Int)/\τ 8=si b/\τ 10=vO 1 eI f/\τ 11=si i)/\Cr (AZ a e d n1) a b f n i=some r;have c4:=λn1 n2 n3 n4:Nat=>Bm 4 λτ=>∃(b:Int) (c:Ac) (l:Bool),(τ 1=si e/\τ 3=bA 6 (Ah d)/\τ 5=bA 2 (Cd a)/\τ 7=si (a.Bq.length:Int)/\τ 8=si b/\τ 9=bA 6 (EN c)/\τ 122=sb l)/\J4 (AZ a e d n1) a b c l=some r;have c3:=λn1 n2 n3 n4:Nat=>Bm 3 λτ=>∃(b:Int) (c:Ac) (j:Bool),(τ 1=si e/\τ 3=bA 6 (Ah d)/\τ 5=bA 2 (Cd a)/\τ 7=si (a.Bq.length:Int)/\τ 8=si b/\τ 9=bA 6 (EN c)/\τ 100=sb j)/\J3 (AZ a e d n1) a b c j=some r;have c2:=λn1 n2 n3 n4:Nat=>Bm 2 λτ=>∃(b:Int) (c:Ac) (p:Bool),(τ 1=si e/\τ 3=bA 6 (Ah d)/\τ 5=bA 2 (Cd a)/\τ 7=si (a.Bq.length:Int)/\τ 8=si b/\τ 9=bA 6 (EN c)/\τ 67=sb p)/\J2 (AZ a e d n1) a b e d c p=some r;have c1:=λn1 n2 n3 n4:Nat=>Bm 1 λτ=>∃(o:Bool),(τ 1=si e/\τ 3=bA 6 (Ah d)/\τ 5=bA 2 (Cd a)/\τ 7=si (a.Bq.length:Int)/\τ 26=sb o)/\J1 a e d o=some r;unfold AX at h;exact walk
end
namespace As
def QZ:AB8 Bool:=
some true
def J9 (L3:Int->AB8 Bool) (b:Int):AB8 Bool:=
L3 (A1 (b+1))
def J8 (L3:Int->AB8 Bool) (b:Int) (s:Bool):AB8 Bool:=
if s then
some false
else
J9 L3 b
def J7 (L3:Int->AB8 Bool) (b:Int) (a:AD) (c:Da) (q:Bool):AB8 Bool:=
if q then
if c.Stmt != 0 then
J8 L3 b true
else
if decide (b>0)then
(gt a.BL (A1 (b-1))).bind λy=>
J8 L3 b (decide (y.Thread>c.Thread))
else
J8 L3 b false
else
(gt a.BL (A1 (b-1))).bind λz=>
if c.Stmt != (A1 (z.Stmt+1))then
some false
else
J9 L3 b
def J6 (L3:Int->AB8 Bool) (b:Int) (a:AD) (c:Da) (i:Bool):AB8 Bool:=
if i then
some false
else
if b==0 then
J7 L3 b a c true
else
(gt a.BL (A1 (b-1))).bind λx=>
J7 L3 b a c (x.Thread != c.Thread)
def L3 (a:AD) (L3:Int->AB8 Bool) (b:Int):AB8 Bool:=
if decide (b<(a.BL.length:Int))then
(gt a.BL b).bind λc=>
if decide (c.Thread<0)then
J6 L3 b a c true
else
J6 L3 b a c (decide (c.Thread≥(a.AA.length:Int)))
else
QZ
def Gq (a:AD):Nat->Int->AB8 Bool
|0,_=>none
|n+1,b=>L3 a (Gq a n) b
def J5 (a:AD):AB8 Bool:=
Gq a BP 0
def J4 (L2:Int->AB8 Bool) (f:Int) (p:Bool):AB8 Bool:=
if p then
some false
else
L2 (A1 (f+1))
def L2 (a:AD) (L2:Int->AB8 Bool) (f:Int):AB8 Bool:=
if decide (f<(a.Af.length:Int))then
(gt a.Af f).bind λl=>
if decide (l.Mutex<0)then
J4 L2 f true
else
if decide (l.Mutex≥(a.AE.length:Int))then
J4 L2 f true
else
(gt a.AE l.Mutex).bind λw=>
J4 L2 f w.RW
else
J5 a
def Cr (a:AD):Nat->Int->AB8 Bool
|0,_=>none
|n+1,f=>L2 a (Cr a n) f
def J3 (a:AD):AB8 Bool:=
Cr a BP 0
def J2 (L1:Int->AB8 Bool) (d:Int) (t:Bool):AB8 Bool:=
if t then
some false
else
L1 (A1 (d+1))
def L1 (e:(List AB9)×Bool) (a:AD) (L1:Int->AB8 Bool) (d:Int):AB8 Bool:=
if decide (d<(e.1.length:Int))then
(gt e.1 d).bind λo=>
(B3 o).bind λu=>
if !u then
J2 L1 d true
else
if 0≤d/\d.toNat≤e.1.length then
(CP (e.1.take d.toNat) o).bind λv=>
J2 L1 d (decide (v≥0))
else none
else
J3 a
def AZ (e:(List AB9)×Bool) (a:AD):Nat->Int->AB8 Bool
|0,_=>none
|n+1,d=>L1 e a (AZ e a n) d
def J1 (a:AD) (j:Bool):AB8 Bool:=
if j then
some false
else
(BR a).bind λe=>
if !e.2 then
some false
else
AZ e a BP 0
end As
section
open As
def As (a:AD):AB8 Bool:=
if decide ((a.Cells.length:Int)>12)then
J1 a true
else
if decide ((a.AE.length:Int)>4)then
J1 a true
else
if decide ((a.Af.length:Int)>2)then
J1 a true
else
if decide ((a.AK.length:Int)>2)then
J1 a true
else
if decide ((a.AA.length:Int)<1)then
J1 a true
else
if decide ((a.AA.length:Int)>4)then
J1 a true
else
J1 a (decide ((a.BL.length:Int)>60))
theorem JH {a:AD} {r:Bool} (h:As a=some r):Says Tryz.prog 63 [.agg (Ah a)] (sb r):=by refine kO mix Tryz.func63 (hn [(1,[10,15,21,27,33,39,45,81,87,97,103,111,117,128,136,154,168]),(9,[122,126,143,147,161,166])] [(2,1),(30,6)]) ?_;have a1:= @Yp;have a2:= @IQ;have a3:= @Hx;have l3:=λn1 n2 n3 n4:Nat=>Av λn τ=>∃(b:Int),(τ 1=bA 6 (Ah a)/\τ 8=si b)/\Gq a n b=some r;have l2:=λn1 n2 n3 n4:Nat=>Av λn τ=>∃(f:Int),(τ 1=bA 6 (Ah a)/\τ 6=si f)/\Cr a n f=some r;have l1:=λn1 n2 n3 n4:Nat=>Av λn τ=>∃(e:(List AB9)×Bool) (d:Int),(τ 1=bA 6 (Ah a)/\τ 3=vS 1 eS e.1/\τ 5=si d)/\AZ e a n d=some r;have c6:=λn1 n2 n3 n4:Nat=>Bm 6 λτ=>∃(b:Int) (c:Da) (i:Bool),(τ 1=bA 6 (Ah a)/\τ 8=si b/\τ 9=bA 3 (GX c)/\τ 132=sb i)/\J6 (Gq a n3) b a c i=some r;have c1:=λn1 n2 n3 n4:Nat=>Bm 1 λτ=>∃(j:Bool),(τ 1=bA 6 (Ah a)/\τ 49=sb j)/\J1 a j=some r;unfold As at h;exact walk
end
namespace CW
def J3:AB8 Bool:=
some true
def L1 (R100:BB->AB8 Bool) (a:BB) (L1:Int->AB8 Bool) (b:Int):AB8 Bool:=
if decide (b<(a.L.length:Int))then
(gt a.L b).bind λj=>
(R100 j).bind λi=>
if !i then
some false
else
L1 (A1 (b+1))
else
J3
def AZ (R100:BB->AB8 Bool) (a:BB):Nat->Int->AB8 Bool
|0,_=>none
|n+1,b=>L1 R100 a (AZ R100 a n) b
def J2 (R100:BB->AB8 Bool) (a:BB) (d:Bool):AB8 Bool:=
if d then
some false
else
AZ R100 a BP 0
def J1 (R100:BB->AB8 Bool) (a:BB) (c:Bool):AB8 Bool:=
(EA a.Op).bind λe=>
if e != (a.L.length:Int)then
J2 R100 a true
else
if !(c==(!(a.Name.toList==(⟨#[]⟩:AB9).toList)))then
J2 R100 a true
else
if c then
(B3 a.Name).bind λf=>
if !f then
J2 R100 a true
else
if decide (a.N<0)then
J2 R100 a true
else
if a.Op != 1 then
J2 R100 a (a.N != 0)
else
J2 R100 a false
else
if decide (a.N<0)then
J2 R100 a true
else
if a.Op != 1 then
J2 R100 a (a.N != 0)
else
J2 R100 a false
end CW
section
open CW
def CW (R100:BB->AB8 Bool) (a:BB):AB8 Bool:=
if a.Op==2 then
J1 R100 a true
else
J1 R100 a (a.Op==3)
theorem Q6 {R100:BB->AB8 Bool} (H100:∀{x0 r},R100 x0=some r->Says Tryz.prog 263 [.agg [si x0.Op,si x0.N,BZ x0.Name,vS 4 BD x0.L]] (sb r)) {a:BB} {r:Bool} (h:CW R100 a=some r):Says Tryz.prog 263 [.agg [si a.Op,si a.N,BZ a.Name,vS 4 BD a.L]] (sb r):=by refine kO mix Tryz.func263 (hn [(1,[5,9,13,16,22,30,37,42,46,52,58])] [(1,1),(3,2)]) ?_;have a1:= @H100;have a2:= @T2;have a3:= @IQ;have l1:=λn1 n2 n3 n4:Nat=>Av λn τ=>∃(b:Int),(τ 1=bA 4 [si a.Op,si a.N,BZ a.Name,vS 4 BD a.L]/\τ 4=si b)/\AZ R100 a n b=some r;have c2:=λn1 n2 n3 n4:Nat=>Bm 2 λτ=>∃(d:Bool),(τ 1=bA 4 [si a.Op,si a.N,BZ a.Name,vS 4 BD a.L]/\τ 50=sb d)/\J2 R100 a d=some r;have c1:=λn1 n2 n3 n4:Nat=>Bm 1 λτ=>∃(c:Bool),(τ 1=bA 4 [si a.Op,si a.N,BZ a.Name,vS 4 BD a.L]/\τ 3=sb c)/\J1 R100 a c=some r;unfold CW at h;exact walk
end
def M5:Nat->(BB->AB8 Bool)
|0=>(λ_=>none)
|n+1=>CW ((M5 n))
def DE (n:Nat):BB->AB8 Bool:=(M5 n)
theorem P2 (n:Nat):(∀{x0 r},(DE n) x0=some r->Says Tryz.prog 263 [.agg [si x0.Op,si x0.N,BZ x0.Name,.sl false 4 (x0.L.map BD)]] (sb r)):=by
  induction n with
  |zero=>exactλh=>DP h
  |succ n ih=>exactλh=>Q6 ih h
theorem LG {n:Nat}:∀{x0 r},(DE n) x0=some r->Says Tryz.prog 263 [.agg [si x0.Op,si x0.N,BZ x0.Name,.sl false 4 (x0.L.map BD)]] (sb r):=(P2 n)
end Go.Abs
