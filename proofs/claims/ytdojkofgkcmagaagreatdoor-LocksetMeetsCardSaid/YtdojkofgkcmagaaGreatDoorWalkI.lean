/- Typed programs of Go functions, and that the functions do what these say. -/
import Derived.Test.YtdojkofgkcmagaaGreatDoorWalkH
set_option linter.defProp false
set_option linter.unusedSimpArgs false
set_option linter.unusedVariables false
namespace Go.Abs
open Go.Proofs Tryz
set_option maxRecDepth 1000000
set_option maxHeartbeats 4000000
namespace CV
def L1(R100:lr)(a:ju)(L1:BL->Int->ABu BL)(c:BL)(b:Int):=
if decide (b<(a.length:Int))then
(gt a b).bind λf=>
(R100 c f).bind λe=>
L1 e (A6 (b+1))
else
some c
def AW(R100:lr)(a:ju):Nat->BL->Int->ABu BL
|0,_,_=>none
|n+1,c,b=>L1 R100 a (AW R100 a n) c b
end CV
variable{g:lr}{b r:BL}
section
open CV
def CV(R100:lr)(d:BL)(a:ju):=
AW R100 a BT d 0
theorem Ts(H100:∀{x0 x1 r},g x0 x1=some r->BB prog 222 [bA 10 (El x0),.agg [si x1.Op,si x1.GH,Bq x1.di,Bq x1.ep,vS 4 BR x1.dz,si x1.dv.Op,si x1.dv.N,Bq x1.dv.di,vS 4 BR x1.dv.L,vS 11 BJ x1.dx,vS 11 BJ x1.d7]] (.BZ []) [bA 10 (El r),.dead]){a:ju}(h:CV g b a=some r):BB prog 183 [bA 10 (El b),vS 11 BJ a] (.BZ []) [bA 10 (El r),.dead]:=by refine kL mix func183 (hn [(0,[11])]) ?_;have a1:= @H100;have l1:=im λ_ _ _ _ n b=>∃c d,(b 0=bA 10 (El c)/\b 1=vS 11 BJ a/\b 4=si d)/\AW g a n c d=some r;unfold CV at h;exact walk
end
namespace Cw
def J1(R101:lr)(R102:lj)(a:BL)(b:AR)(c:Bool):ABu BL:=
if c then
(R101 (BL.mk a.w a.dq a.dr a.next (A6 (a.next+1))) b).bind λl=>
some l
else
if b.Op==4 then
(EL a.w.AK b.di).bind λw=>
(R102 (BL.mk a.w a.dq a.dr a.next (A6 (a.next+1))) b 11 12 w).bind λac=>
some ac
else
if b.Op==5 then
(EL a.w.AK b.di).bind λad=>
(R102 (BL.mk a.w a.dq a.dr a.next (A6 (a.next+1))) b 13 14 ad).bind λae=>
some ae
else
if b.Op==6 then
(EL a.w.AK b.di).bind λaf=>
(R102 (BL.mk a.w a.dq a.dr a.next (A6 (a.next+1))) b 15 16 af).bind λai=>
some ai
else
if b.Op==7 then
(R102 (BL.mk a.w a.dq a.dr a.next (A6 (a.next+1))) b 17 18 0).bind λaj=>
some aj
else
if b.Op==8 then
(R102 (BL.mk a.w a.dq a.dr a.next (A6 (a.next+1))) b 19 20 0).bind λal=>
some al
else
if b.Op==9 then
(Cj (BL.mk a.w a.dq a.dr a.next (A6 (a.next+1))) b.di).bind λd=>
(BH d.2 (Ai.mk 21 d.1 0 0 0 0)).bind λo=>
some o
else
if b.Op==10 then
(Cj (BL.mk a.w a.dq a.dr a.next (A6 (a.next+1))) b.di).bind λe=>
(BH e.2 (Ai.mk 22 e.1 0 0 0 0)).bind λp=>
some p
else
if b.Op==11 then
(Cj (BL.mk a.w a.dq a.dr a.next (A6 (a.next+1))) b.di).bind λf=>
(BH f.2 (Ai.mk 23 f.1 0 0 0 0)).bind λq=>
some q
else
if b.Op==12 then
(Ch a.w.AA b.di).bind λs=>
(BH (BL.mk a.w a.dq a.dr a.next (A6 (a.next+1))) (Ai.mk 24 s 0 0 0 0)).bind λt=>
some t
else
if b.Op==13 then
(Ch a.w.AA b.di).bind λu=>
(BH (BL.mk a.w a.dq a.dr a.next (A6 (a.next+1))) (Ai.mk 25 u 0 0 0 0)).bind λv=>
some v
else
if b.Op==14 then
(C6 BT (BL.mk a.w a.dq a.dr a.next (A6 (a.next+1))) b.dv (a.dq.length:Int)).bind λi=>
(Ch i.w.AL b.di).bind λx=>
(BH i (Ai.mk 26 x (a.dq.length:Int) 0 0 0)).bind λy=>
some y
else
if b.Op==15 then
(Ch a.dq b.di).bind λz=>
(Ch a.w.AL b.ep).bind λaa=>
(BH (BL.mk a.w a.dq a.dr a.next (A6 (a.next+1))) (Ai.mk 27 z aa 0 0 0)).bind λab=>
some ab
else
some (BL.mk a.w a.dq a.dr a.next (A6 (a.next+1)))
end Cw
variable{i:lj}{a:AR}
section
open Cw
def Cw(R101:lr)(R102:lj)(a:BL)(b:AR):=
if b.Op==1 then
(Ga (BL.mk a.w a.dq a.dr a.next (A6 (a.next+1))) b).bind λj=>
some j
else
if b.Op==2 then
J1 R101 R102 a b (b.Op==2)
else
J1 R101 R102 a b (b.Op==3)
theorem VE(H101:∀{x0 x1 r},g x0 x1=some r->BB prog 250 [bA 10 (El x0),.agg [si x1.Op,si x1.GH,Bq x1.di,Bq x1.ep,vS 4 BR x1.dz,si x1.dv.Op,si x1.dv.N,Bq x1.dv.di,vS 4 BR x1.dv.L,vS 11 BJ x1.dx,vS 11 BJ x1.d7]] (.BZ []) [bA 10 (El r),.dead])(H102:∀{x0 x1 x2 x3 x4 r},i x0 x1 x2 x3 x4=some r->BB prog 251 [bA 10 (El x0),.agg [si x1.Op,si x1.GH,Bq x1.di,Bq x1.ep,vS 4 BR x1.dz,si x1.dv.Op,si x1.dv.N,Bq x1.dv.di,vS 4 BR x1.dv.L,vS 11 BJ x1.dx,vS 11 BJ x1.d7],si x2,si x3,si x4] (.BZ []) [bA 10 (El r),.dead,.dead,.dead,.dead])(h:Cw g i b a=some r):BB prog 222 [bA 10 (El b),.agg [si a.Op,si a.GH,Bq a.di,Bq a.ep,vS 4 BR a.dz,si a.dv.Op,si a.dv.N,Bq a.dv.di,vS 4 BR a.dv.L,vS 11 BJ a.dx,vS 11 BJ a.d7]] (.BZ []) [bA 10 (El r),.dead]:=by refine kL mix func222 (hn [(0,[5,6,7,8,10,11,12,13,14,17,18,19,20,21,22,28,34,39,41,42,43,44,45,52,54,55,56,57,58,65,67,68,69,70,71,78,83,88,89,97,98,106,107,115,116,117,118,119,120,128,129,130,131,132,133,141,146,147,148,149,150,151,160,161,162,163,164,168,169,170,171,172]),(3,[24,46,59,72,90,99,108,121,134,142,152,165,173])] [(6,1)]) ?_;have a1:= @SZ;have a2:= @H101;have a3:= @P2;have a4:= @H102;have a5:= @VD;have a6:= @HR;have a7:= @Ic;have a8:= @Ju;have c1:=ip 1 λ_ _ _ _ d=>∃c,(d 0=bA 10 [vS 5 HV b.w.df,vS 2 IX b.w.AK,vS 2 IW b.w.Ak,vS 1 eS b.w.AL,vS 1 eS b.w.AA,vS 3 Gu b.w.Be,vS 1 eS b.dq,vO 6 Ed b.dr,si b.next,si (A6 (b.next+1))]/\d 3=bA 11 [si a.Op,si a.GH,Bq a.di,Bq a.ep,vS 4 BR a.dz,si a.dv.Op,si a.dv.N,Bq a.dv.di,vS 4 BR a.dv.L,vS 11 BJ a.dx,vS 11 BJ a.d7]/\d 4=si (b.dq.length:Int)/\d 25=si a.Op/\d 31=sb c)/\J1 g i b a c=some r;unfold Cw at h;exact walk
end
def DC(R103:md)(c:BL)(a:AR):ABu BL:=
(C6 BT c a.dv (c.dq.length:Int)).bind λd=>
(BH d (Ai.mk 10 (d.dq.length:Int) 0 0 0 0)).bind λq=>
(R103 q a.dx).bind λb=>
if a.Op==3 then
(BH (BL.mk b.w b.dq b.dr c.dt b.next) (Ai.mk 5 (c.dr.length:Int) 0 0 0 0)).bind λe=>
(gt e.dr (d.dr.length:Int)).bind λj=>
some (BL.mk e.w e.dq (e.dr.set d.dr.length (Ai.mk j.Op j.A (e.dr.length:Int) j.C j.N j.d3)) e.dt e.next)
else
if(a.d7.length:Int)==0 then
(gt b.dr (d.dr.length:Int)).bind λl=>
some (BL.mk b.w b.dq (b.dr.set d.dr.length (Ai.mk l.Op l.A (b.dr.length:Int) l.C l.N l.d3)) c.dt b.next)
else
(BH (BL.mk b.w b.dq b.dr c.dt b.next) (Ai.mk 5 0 0 0 0 0)).bind λf=>
(gt f.dr (d.dr.length:Int)).bind λo=>
(R103 (BL.mk f.w f.dq (f.dr.set d.dr.length (Ai.mk o.Op o.A (f.dr.length:Int) o.C o.N o.d3)) f.dt f.next) a.d7).bind λi=>
(gt i.dr (b.dr.length:Int)).bind λp=>
some (BL.mk i.w i.dq (i.dr.set b.dr.length (Ai.mk p.Op (i.dr.length:Int) p.B p.C p.N p.d3)) i.dt i.next)
variable{f:md}
theorem QH(H103:∀{x0 x1 r},f x0 x1=some r->BB prog 183 [bA 10 (El x0),vS 11 BJ x1] (.BZ []) [bA 10 (El r),.dead])(h:DC f b a=some r):BB prog 250 [bA 10 (El b),.agg [si a.Op,si a.GH,Bq a.di,Bq a.ep,vS 4 BR a.dz,si a.dv.Op,si a.dv.N,Bq a.dv.di,vS 4 BR a.dv.L,vS 11 BJ a.dx,vS 11 BJ a.d7]] (.BZ []) [bA 10 (El r),.dead]:=by refine kL mix func250 (hn [(0,[8,9,10,12,13,14,15,17,20,21,22,23,26,27,28,29,31,32,33,34,35,39,43,45,46,50,54,55,56,57,59,60,61,62,64,65,70,71,72,73,75,76,77,78,80,81,82,83,84,85,87,90,91,92,93,95,96,97,98,100,101,102,106,107,108,109,111,112,113,114,116,117]),(3,[18,40,47,66,103])]) ?_;have a1:= @Ju;have a2:= @HR;have a3:= @H103;unfold DC at h;exact walk
def DP(R103:md)(b:BL)(a:AR)(d e c:Int):ABu BL:=
(BH b (Ai.mk d c 0 0 0 0)).bind λi=>
(R103 i a.dx).bind λf=>
(BH (BL.mk f.w f.dq f.dr b.dt f.next) (Ai.mk e c 0 0 0 0)).bind λj=>
some j
variable{d e c:Int}
theorem SY(H103:∀{x0 x1 r},f x0 x1=some r->BB prog 183 [bA 10 (El x0),vS 11 BJ x1] (.BZ []) [bA 10 (El r),.dead])(h:DP f b a d e c=some r):BB prog 251 [bA 10 (El b),.agg [si a.Op,si a.GH,Bq a.di,Bq a.ep,vS 4 BR a.dz,si a.dv.Op,si a.dv.N,Bq a.dv.di,vS 4 BR a.dv.L,vS 11 BJ a.dx,vS 11 BJ a.d7],si d,si e,si c] (.BZ []) [bA 10 (El r),.dead,.dead,.dead,.dead]:=by refine kL mix func251 (hn [(0,[11,12,13,15,20,24,26,27,28]),(6,[21])]) ?_;have a1:= @HR;have a2:= @H103;unfold DP at h;exact walk
def Eh:Nat->(BL->(List AR)->ABu BL)×(BL->AR->ABu BL)×(BL->AR->ABu BL)×(BL->AR->Int->Int->Int->ABu BL)
|0=>((λ_ _=>none),(λ_ _=>none),(λ_ _=>none),(λ_ _ _ _ _=>none))
|n+1=>(CV ((Eh n).2.1),Cw ((Eh n).2.2.1) ((Eh n).2.2.2),DC ((Eh n).1),DP ((Eh n).1))
def Dl(n:Nat):BL->(List AR)->ABu BL:=(Eh n).1
def P1(n:Nat):BL->AR->ABu BL:=(Eh n).2.1
def Sa(n:Nat):BL->AR->ABu BL:=(Eh n).2.2.1
def VB(n:Nat):BL->AR->Int->Int->Int->ABu BL:=(Eh n).2.2.2
theorem Sb(n:Nat):(∀{x0 x1 r},(Dl n) x0 x1=some r->BB prog 183 [bA 10 (El x0),vS 11 BJ x1] (.BZ []) [bA 10 (El r),.dead])/\(∀{x0 x1 r},(P1 n) x0 x1=some r->BB prog 222 [bA 10 (El x0),.agg [si x1.Op,si x1.GH,Bq x1.di,Bq x1.ep,vS 4 BR x1.dz,si x1.dv.Op,si x1.dv.N,Bq x1.dv.di,vS 4 BR x1.dv.L,vS 11 BJ x1.dx,vS 11 BJ x1.d7]] (.BZ []) [bA 10 (El r),.dead])/\(∀{x0 x1 r},(Sa n) x0 x1=some r->BB prog 250 [bA 10 (El x0),.agg [si x1.Op,si x1.GH,Bq x1.di,Bq x1.ep,vS 4 BR x1.dz,si x1.dv.Op,si x1.dv.N,Bq x1.dv.di,vS 4 BR x1.dv.L,vS 11 BJ x1.dx,vS 11 BJ x1.d7]] (.BZ []) [bA 10 (El r),.dead])/\(∀{x0 x1 x2 x3 x4 r},(VB n) x0 x1 x2 x3 x4=some r->BB prog 251 [bA 10 (El x0),.agg [si x1.Op,si x1.GH,Bq x1.di,Bq x1.ep,vS 4 BR x1.dz,si x1.dv.Op,si x1.dv.N,Bq x1.dv.di,vS 4 BR x1.dv.L,vS 11 BJ x1.dx,vS 11 BJ x1.d7],si x2,si x3,si x4] (.BZ []) [bA 10 (El r),.dead,.dead,.dead,.dead]):=by
  induction n with
  |zero=>exact⟨λh=>Et h,λh=>Et h,λh=>Et h,λh=>Et h⟩
  |succ n ih=>exact⟨λh=>Ts ih.2.1 h,λh=>VE ih.2.2.1 ih.2.2.2 h,λh=>QH ih.1 h,λh=>SY ih.1 h⟩
def Sc{n:Nat}:∀{x0 x1 r},(Dl n) x0 x1=some r->BB prog 183 [bA 10 (El x0),vS 11 BJ x1] (.BZ []) [bA 10 (El r),.dead]:=(Sb n).1
def f106c:IC:=(Ra 12 [.b 6 [118,141] (.bx 6 (.t 0)),.b 7 [21,28,33,34,36,37,40,41,43,44,48,49,52,53,57,58,60,61,64,65,67,68,70,71,72,76,77,80,81,83,84,86,87,88,91,92,96,99,102,103,105,106,109,110,112,113,116,117,124,125,126,127,129,130,133,134,135,136,139,140,148,149,150,151,153,154,156,157,158,159,162,175,176,178,179,183,192,193,198,199,204,205,207,208,211,212,214,215] (.bx 4 (.t 1)),.o (.bx 4 (.c (.agg z5))),.K 13 0,.B 14 false]
(Sq (Ra 20 [.A 6 6,.y 7 (.ld true 4 (.t 7)),.C 2,.C 3,.C 4,.c 66 [20,21,22,23,24] 0,.N 25]
(Ci 26 (Rb 27 [.o (.TK z5 []),.S 4 12 27,.K 13 0,.B 14 false])))
(Ra 28 [.y 7 (.ld true 4 (.t 7)),.c 118 [28] 2,.S 4 7 29]
(Ra 0 [.K 15 0]
(O6 5 (Ra 30 [.C 3]
(Bk 0 (Ra 32 [.q 30 1 31]
(Cn 31 (Rc 33 [.m 7 3 7,.C 2,.J 7 3 34 35,.H 7 0 36,.T 37 2]) (Ra 39 [.q 30 2 38]
(Cn 38 (Rc 40 [.m 7 3 7,.C 2,.J 7 3 41 42,.H 7 0 43,.T 44 5]) (O6 1 (Ra 46 [.q 30 6 45]
(Cn 45 .skip (Rc 47 [.q 30 10 45])))
(Cn 45 (Rc 48 [.m 7 0 7,.C 4,.C 2,.J 7 2 49 50,.H 7 0 52,.S 1 53 51]) (O6 2 (Ra 55 [.q 30 7 54]
(Cn 54 .skip (Rc 56 [.q 30 11 54])))
(Cn 54 (Rc 57 [.m 7 0 7,.C 4,.J 7 2 58 59,.H 7 0 60,.T 61 (-1)]) (Ra 63 [.q 30 8 62]
(Cn 62 (Rc 64 [.m 7 0 7,.C 4,.m 7 0 7,.C 4,.J 7 2 68 69,.m 7 1 70,.C 2,.o (.OR 1 [[si 0]] [(0,.t 73)]),.c 156 [72,74] 2,.J 7 2 65 66,.H 7 1 76,.S 1 77 75]) (Ra 79 [.q 30 9 78]
(Cn 78 (Rc 80 [.m 7 0 7,.C 4,.m 7 0 7,.C 4,.J 7 2 84 85,.m 7 1 86,.C 2,.c 157 [88,89] 2,.J 7 2 81 82,.H 7 1 91,.S 1 92 90]) (Ra 94 [.q 30 12 93]
(Cn 93 (Rc 95 [.C 2,.F 1 7,.S 1 96 95]) (Ra 98 [.q 30 13 97]
(Cn 97 (Rc 99 [.F 1 7,.T 99 (-1)]) (Ra 101 [.q 30 14 100]
(Cn 100 (Rc 102 [.m 7 3 7,.C 2,.J 7 3 103 104,.H 7 2 105,.x ⟨none,.st 1 (.t 106) (.c (sb true)),none⟩]) (Ra 108 [.q 30 15 107]
(Cn 107 (Rc 109 [.m 7 3 7,.C 2,.J 7 3 110 111,.H 7 2 112,.x ⟨none,.st 1 (.t 113) (.c (sb false)),none⟩]) (Ra 115 [.q 30 16 114]
(Cn 114 (Ra 116 [.m 7 0 7,.f 2 6,.C 4,.I 2 119 120,.U 1 121,.J 7 2 117 123,.H 7 0 124,.T 125 (-1)]
(Rc 126 [.F 3 7,.y 7 (.ZX (.t 126)),.C 2,.F 3 7,.y 7 (.ZX (.t 129)),.C 2,.C 4,.J 7 3 127 128,.H 7 0 133,.x ⟨none,.YM (.t 134) (.c (si 3)),none⟩,.J 7 3 130 131,.H 7 1 135,.x ⟨none,.YM (.t 136) (.t 132),none⟩])) (Ra 138 [.q 30 17 137]
(Cn 137 (Ra 139 [.m 7 0 7,.f 2 6,.C 4,.I 2 142 143,.U 1 144,.C 2,.J 7 2 140 146,.H 7 0 148,.S 1 149 147]
(Rc 150 [.F 3 7,.y 7 (.ZX (.t 150)),.C 2,.F 3 7,.y 7 (.ZX (.t 153)),.C 2,.J 7 3 151 152,.H 7 0 156,.x ⟨none,.YM (.t 157) (.c (si 2)),none⟩,.J 7 3 154 155,.H 7 1 158,.x ⟨none,.YM (.t 159) (.c (si 0)),none⟩])) (Ra 161 [.q 30 18 160]
(Cn 160 (Ra 162 [.y 7 (.ld true 4 (.t 7)),.C 4,.c 119 [162,163] 2,.b 16 [165,168,169,171] (.mv (.t 164))]
(Ra 0 [.K 15 (-1)]
(Ra 165 [.y 16 (.cp (.t 16)),.Z 165,.P .gtr 166 0]
(Ci 167 (Ra 168 [.y 16 (.cp (.t 16)),.y 16 (.ZG 1 (.t 168) (.c (si 0))),.L 169,.M 17 170]
(Sq (Ra 171 [.y 16 (.cp (.t 16)),.C 5,.c 65 [171,172] 0]
(Ci 173 (Rc 174 [.C 5,.M 17 174])))
(Ra 175 [.m 7 3 7,.C 17,.J 7 3 176 177,.H 7 0 178,.T 179 4]
(Rc 180 [.C 17,.M 15 180])))))))) (Ra 182 [.q 30 19 181]
(Cn 181 (Ra 183 [.y 7 (.ld true 4 (.t 7)),.C 4,.c 119 [183,184] 2,.b 18 [187,194,196,200] (.mv (.t 185))]
(Sq (Ra 0 [.K 19 0]
(Bl 1 (Sq (Ra 186 [.C 19,.y 18 (.cp (.t 18)),.Z 187,.O .lss 186 188]
(cX 189 1))
(Sq (Bk 2 (Rc 192 [.m 7 3 7,.y 18 (.cp (.t 18)),.C 19,.J 18 1 194 195,.L 196,.J 7 3 193 197,.H 7 0 198,.T 199 4]))
(Rc 190 [.C 19,.P .add 190 1,.M 19 191])))))
(Rc 200 [.y 18 (.cp (.t 18)),.Z 200,.M 15 201]))) (Ra 203 [.q 30 20 202]
(Cn 202 (Rc 204 [.m 7 3 7,.C 4,.J 7 3 205 206,.H 7 0 207,.T 208 1]) (Ra 210 [.q 30 22 209]
(Ci 209 (Rc 211 [.m 7 2 7,.C 4,.J 7 1 212 213,.x ⟨none,.st 1 (.t 214) (.c (sb true)),none⟩])))))))))))))))))))))))))))))))))))
(Rb 215 [.y 7 (.ld true 4 (.t 7)),.C 15,.S 4 12 215,.M 13 216,.B 14 true]))))))
def f106g:Gi:=⟨[(21,[7]),(28,[7]),(33,[7]),(34,[7]),(36,[7]),(37,[7]),(40,[7]),(41,[7]),(43,[7]),(44,[7]),(48,[7]),(49,[7]),(52,[7]),(53,[7]),(57,[7]),(58,[7]),(60,[7]),(61,[7]),(64,[7]),(65,[7]),(67,[7]),(68,[7]),(70,[7]),(71,[7]),(72,[7]),(76,[7]),(77,[7]),(80,[7]),(81,[7]),(83,[7]),(84,[7]),(86,[7]),(87,[7]),(88,[7]),(91,[7]),(92,[7]),(96,[7]),(99,[7]),(102,[7]),(103,[7]),(105,[7]),(106,[7]),(109,[7]),(110,[7]),(112,[7]),(113,[7]),(116,[7]),(117,[7]),(118,[6]),(124,[7]),(125,[7]),(126,[7]),(127,[7]),(129,[7]),(130,[7]),(133,[7]),(134,[7]),(135,[7]),(136,[7]),(139,[7]),(140,[7]),(141,[6]),(148,[7]),(149,[7]),(150,[7]),(151,[7]),(153,[7]),(154,[7]),(156,[7]),(157,[7]),(158,[7]),(159,[7]),(162,[7]),(165,[16]),(168,[16]),(169,[16]),(171,[16]),(175,[7]),(176,[7]),(178,[7]),(179,[7]),(183,[7]),(187,[18]),(192,[7]),(193,[7]),(194,[18]),(196,[18]),(198,[7]),(199,[7]),(200,[18]),(204,[7]),(205,[7]),(207,[7]),(208,[7]),(211,[7]),(212,[7]),(214,[7]),(215,[7])]⟩
def f106r:List RV:=[.cell 12 true 4,.tmp 13,.tmp 14]
namespace De
def J5(p:AQ)(t:Int):ABu (AQ×Int×Bool):=
some (p,t,true)
def J3(a:AQ)(w:Int):=
(gt a.AA w).bind λad=>
J5 (AQ.mk a.AK a.Tx a.Bp (a.AA.set w.toNat (AM.mk 4 ad.Dy ad.dy))) w
def J4(i:iq)(au:AQ):=
J5 au (i.length:Int)
def L1(i:iq)(L1:AQ->Int->ABu (AQ×Int×Bool))(j:AQ)(l:Int):=
if decide (l<(i.length:Int))then
(gt i l).bind λae=>
(gt j.AA ae).bind λaf=>
L1 (AQ.mk j.AK j.Tx j.Bp (j.AA.set ae.toNat (AM.mk 4 af.Dy af.dy))) (A6 (l+1))
else
J4 i j
def AW(i:iq):Nat->AQ->Int->ABu (AQ×Int×Bool)
|0,_,_=>none
|n+1,j,l=>L1 i (AW i n) j l
def J2(c d b:Int)(a:AQ)(f:Int)(e:AF)(s:Bool):=
if s then
(gt a.AK d).bind λbc=>
J5 (AQ.mk (a.AK.set d.toNat (AY.mk (-1) bc.An)) a.Tx a.Bp a.AA) 0
else
if c==8 then
(gt a.AK d).bind λaj=>
(EW aj.An [b]).bind λaw=>
J5 (AQ.mk (a.AK.set d.toNat (AY.mk aj.B9 aw)) a.Tx a.Bp a.AA) 0
else
if c==9 then
(gt a.AK d).bind λal=>
(EZ al.An b).bind λax=>
J5 (AQ.mk (a.AK.set d.toNat (AY.mk al.B9 ax)) a.Tx a.Bp a.AA) 0
else
if c==12 then
J5 (AQ.mk a.AK b a.Bp a.AA) 0
else
if c==13 then
J5 (AQ.mk a.AK (-1) a.Bp a.AA) 0
else
if c==14 then
(gt a.AA b).bind λao=>
J5 (AQ.mk a.AK a.Tx a.Bp (a.AA.set b.toNat (AM.mk ao.dg ao.Dy true))) 0
else
if c==15 then
(gt a.AA b).bind λap=>
J5 (AQ.mk a.AK a.Tx a.Bp (a.AA.set b.toNat (AM.mk ap.dg ap.Dy false))) 0
else
if c==16 then
(gt e.Ak d).bind λaq=>
(gt a.AK aq.dm).bind λbd=>
(gt a.AA b).bind λu=>
(gt (a.AA.set b.toNat (AM.mk 3 u.Dy u.dy)) b).bind λaa=>
J5 (AQ.mk (a.AK.set aq.dm.toNat (AY.mk (-1) bd.An)) a.Tx a.Bp ((a.AA.set b.toNat (AM.mk 3 u.Dy u.dy)).set b.toNat (AM.mk aa.dg d aa.dy))) 0
else
if c==17 then
(gt e.Ak d).bind λab=>
(gt a.AK ab.dm).bind λaz=>
(gt a.AA b).bind λv=>
(gt (a.AA.set b.toNat (AM.mk 2 v.Dy v.dy)) b).bind λac=>
J5 (AQ.mk (a.AK.set ab.dm.toNat (AY.mk b az.An)) a.Tx a.Bp ((a.AA.set b.toNat (AM.mk 2 v.Dy v.dy)).set b.toNat (AM.mk ac.dg 0 ac.dy))) 0
else
if c==18 then
(C0 a d).bind λx=>
if decide ((x.length:Int)>0)then
(gt x 0).bind λba=>
(Gw x f).bind λay=>
if ay then
J3 a f
else
J3 a ba
else
J5 a (-1)
else
if c==19 then
(C0 a d).bind λi=>
AW i BT a 0
else
if c==20 then
(gt a.AA d).bind λai=>
J5 (AQ.mk a.AK a.Tx a.Bp (a.AA.set d.toNat (AM.mk 1 ai.Dy ai.dy))) 0
else
if c==22 then
(gt a.Bp d).bind λbe=>
J5 (AQ.mk a.AK a.Tx (a.Bp.set d.toNat true) a.AA) 0
else
J5 a 0
def J1(c d b:Int)(a:AQ)(f:Int)(e:AF)(q:Bool):=
if q then
(gt a.AK d).bind λbb=>
J5 (AQ.mk (a.AK.set d.toNat (AY.mk b bb.An)) a.Tx a.Bp a.AA) 0
else
if c==7 then
J2 c d b a f e (c==7)
else
J2 c d b a f e (c==11)
end De
section
open De
def De(e:AF)(o:AQ)(b c d f:Int):=
(Cu e o b c d).bind λav=>
if !av then
some ((AQ.mk [] 0 [] []),0,false)
else
(Fq o).bind λa=>
if c==1 then
(gt a.AA b).bind λy=>
J5 (AQ.mk a.AK a.Tx a.Bp (a.AA.set b.toNat (AM.mk 2 y.Dy y.dy))) 0
else
if c==2 then
(gt a.AA b).bind λz=>
J5 (AQ.mk a.AK a.Tx a.Bp (a.AA.set b.toNat (AM.mk 5 z.Dy z.dy))) 0
else
if c==6 then
J1 c d b a f e (c==6)
else
J1 c d b a f e (c==10)
theorem ND{e:AF}{o:AQ}{b c d f:Int}{r:kr}(h:De e o b c d f=some r):Says prog 106 [.agg (Aw e),.agg (He o),si b,si c,si d,si f] (.BZ [.agg (JB r.1),si r.2.1,sb r.2.2]):=by refine wO mix func106 (I:=⟨f106c,f106g,f106r⟩) ?_;simp only[f106c,f106g,f106r];have a1:= @LZ;have a2:= @Lj;have a3:= @Q3;have a4:= @V9;have a5:= @La;have a6:= @Mh;have l1:=im λ_ _ _ _ n a=>∃i j l,(a 7=bA 4 (JB j)/\a 12=bA 4 z5/\a 18=vO 1 eI i/\a 19=si l)/\AW i n j l=some r;have c5:=ip 5 λ_ _ _ _ a=>∃p t,(a 7=bA 4 (JB p)/\a 12=bA 4 z5/\a 15=si t)/\J5 p t=some r;have c2:=ip 2 λ_ _ _ _ g=>∃a s,(g 2=si b/\g 4=si d/\g 5=si f/\g 6=bA 6 (Aw e)/\g 7=bA 4 (JB a)/\g 12=bA 4 z5/\g 15=si 0/\g 30=si c/\g 54=sb s)/\J2 c d b a f e s=some r;have c1:=ip 1 λ_ _ _ _ g=>∃a q,(g 2=si b/\g 4=si d/\g 5=si f/\g 6=bA 6 (Aw e)/\g 7=bA 4 (JB a)/\g 12=bA 4 z5/\g 15=si 0/\g 30=si c/\g 45=sb q)/\J1 c d b a f e q=some r;unfold De at h;exact walk
end
namespace AZ
def J6:=
some true
def J5(L1:ir)(b:Int):=
L1 (A6 (b+1))
def L2(L1:ir)(a:A5)(b:Int)(f:iq)(L2:ir)(i:Int):=
if decide (i<(f.length:Int))then
(gt f i).bind λab=>
(Dw ab a.C3).bind λy=>
if !y then
some false
else
L2 (A6 (i+1))
else
J5 L1 b
def CC(L1:ir)(a:A5)(b:Int)(f:iq):Nat->Int->ABu Bool
|0,_=>none
|n+1,i=>L2 L1 a b f (CC L1 a b f n) i
def J4(L1:ir)(a:A5)(b:Int)(c:Ai)(l:Bool):=
if l then
some false
else
(Ab c).bind λf=>
CC L1 a b f BT 0
def J3(L1:ir)(a:A5)(b:Int)(c:Ai)(j:Bool):=
if j then
some false
else
if c.Op==5 then
(Dw c.A (a.B8.length:Int)).bind λv=>
if !v then
J4 L1 a b c true
else
if c.Op==10 then
(Dw c.B (a.B8.length:Int)).bind λw=>
J4 L1 a b c (!w)
else
J4 L1 a b c false
else
if c.Op==10 then
(Dw c.B (a.B8.length:Int)).bind λx=>
J4 L1 a b c (!x)
else
J4 L1 a b c false
def J2(L1:ir)(a:A5)(b e:Int)(d:AF)(c:Ai)(p:Bool):=
if p then
some false
else
if c.Op==28 then
if c.d3 != (-1)then
J3 L1 a b c true
else
if c.Op != 28 then
(Dw c.d3 (d.Be.length:Int)).bind λt=>
if !t then
J3 L1 a b c true
else
(gt d.Be c.d3).bind λz=>
J3 L1 a b c (z.cr != e)
else
J3 L1 a b c false
else
if c.Op != 28 then
(Dw c.d3 (d.Be.length:Int)).bind λu=>
if !u then
J3 L1 a b c true
else
(gt d.Be c.d3).bind λaa=>
J3 L1 a b c (aa.cr != e)
else
J3 L1 a b c false
def L1(a:A5)(e:Int)(d:AF)(L1:ir)(b:Int):=
if decide (b<(a.B8.length:Int))then
(gt a.B8 b).bind λc=>
if decide (c.Op<1)then
J2 L1 a b e d c true
else
if decide (c.Op>28)then
J2 L1 a b e d c true
else
if !((c.Op==28)==(b==(A6 ((a.B8.length:Int)-1))))then
J2 L1 a b e d c true
else
(AO d c).bind λq=>
if !q then
J2 L1 a b e d c true
else
(CW a.B8 b).bind λs=>
J2 L1 a b e d c (!s)
else
J6
def AW(a:A5)(e:Int)(d:AF):Nat->Int->ABu Bool
|0,_=>none
|n+1,b=>L1 a e d (AW a e d n) b
def J1(a:A5)(e:Int)(d:AF)(o:Bool):=
if o then
some false
else
AW a e d BT 0
end AZ
section
open AZ
def AZ(d:AF)(e:Int)(a:A5):=
if decide (a.C3<0)then
J1 a e d true
else
if decide (a.C3>32)then
J1 a e d true
else
J1 a e d ((a.B8.length:Int)==0)
theorem Q0{d:AF}{e:Int}{a:A5}{r:Bool}(h:AZ d e a=some r):Says prog 179 [.agg (Aw d),si e,.agg (Cz a)] (sb r):=by refine kO mix func179 (hn [(3,[83,89]),(5,[12,15,19,32,62,135]),(9,[37,41,46,68,72,77,81,91,101,105,112,116]),(10,[126,131,133])] [(3,1),(12,2),(15,3),(18,4)]) ?_;have a1:= @KQ;have a2:= @Qz;have a3:= @V8;have a4:= @Zw;have l1:=im λ_ _ _ _ n c=>∃b,(c 1=si e/\c 3=bA 6 (Aw d)/\c 5=bA 2 (Cz a)/\c 7=si (a.B8.length:Int)/\c 8=si b)/\AW a e d n b=some r;have l2:=im λc _ _ _ n g=>∃b f i,(g 1=si e/\g 3=bA 6 (Aw d)/\g 5=bA 2 (Cz a)/\g 7=si (a.B8.length:Int)/\g 8=si b/\g 10=vO 1 eI f/\g 11=si i)/\CC (AW a e d c) a b f n i=some r;have c4:=ip 4 λf _ _ _ g=>∃b c l,(g 1=si e/\g 3=bA 6 (Aw d)/\g 5=bA 2 (Cz a)/\g 7=si (a.B8.length:Int)/\g 8=si b/\g 9=bA 6 (Ed c)/\g 122=sb l)/\J4 (AW a e d f) a b c l=some r;have c3:=ip 3 λf _ _ _ g=>∃b c j,(g 1=si e/\g 3=bA 6 (Aw d)/\g 5=bA 2 (Cz a)/\g 7=si (a.B8.length:Int)/\g 8=si b/\g 9=bA 6 (Ed c)/\g 100=sb j)/\J3 (AW a e d f) a b c j=some r;have c2:=ip 2 λf _ _ _ g=>∃b c p,(g 1=si e/\g 3=bA 6 (Aw d)/\g 5=bA 2 (Cz a)/\g 7=si (a.B8.length:Int)/\g 8=si b/\g 9=bA 6 (Ed c)/\g 67=sb p)/\J2 (AW a e d f) a b e d c p=some r;have c1:=ip 1 λ_ _ _ _ b=>∃o,(b 1=si e/\b 3=bA 6 (Aw d)/\b 5=bA 2 (Cz a)/\b 7=si (a.B8.length:Int)/\b 26=sb o)/\J1 a e d o=some r;unfold AZ at h;exact walk
end
namespace Ay
def QP:=
some true
def J9(L3:ir)(b:Int):=
L3 (A6 (b+1))
def J8(L3:ir)(b:Int)(s:Bool):=
if s then
some false
else
J9 L3 b
def J7(L3:ir)(b:Int)(a:AF)(c:EG)(q:Bool):=
if q then
if c.ek != 0 then
J8 L3 b true
else
if decide (b>0)then
(gt a.Be (A6 (b-1))).bind λy=>
J8 L3 b (decide (y.cr>c.cr))
else
J8 L3 b false
else
(gt a.Be (A6 (b-1))).bind λz=>
if c.ek != (A6 (z.ek+1))then
some false
else
J9 L3 b
def J6(L3:ir)(b:Int)(a:AF)(c:EG)(i:Bool):=
if i then
some false
else
if b==0 then
J7 L3 b a c true
else
(gt a.Be (A6 (b-1))).bind λx=>
J7 L3 b a c (x.cr != c.cr)
def L3(a:AF)(L3:ir)(b:Int):=
if decide (b<(a.Be.length:Int))then
(gt a.Be b).bind λc=>
if decide (c.cr<0)then
J6 L3 b a c true
else
J6 L3 b a c (decide (c.cr>=(a.AA.length:Int)))
else
QP
def Gc(a:AF):Nat->Int->ABu Bool
|0,_=>none
|n+1,b=>L3 a (Gc a n) b
def J5(a:AF):=
Gc a BT 0
def J4(L2:ir)(f:Int)(p:Bool):=
if p then
some false
else
L2 (A6 (f+1))
def L2(a:AF)(L2:ir)(f:Int):=
if decide (f<(a.Ak.length:Int))then
(gt a.Ak f).bind λl=>
if decide (l.dm<0)then
J4 L2 f true
else
if decide (l.dm>=(a.AK.length:Int))then
J4 L2 f true
else
(gt a.AK l.dm).bind λw=>
J4 L2 f w.RW
else
J5 a
def CC(a:AF):Nat->Int->ABu Bool
|0,_=>none
|n+1,f=>L2 a (CC a n) f
def J3(a:AF):=
CC a BT 0
def J2(L1:ir)(d:Int)(t:Bool):=
if t then
some false
else
L1 (A6 (d+1))
def L1(e:mn)(a:AF)(L1:ir)(d:Int):=
if decide (d<(e.1.length:Int))then
(gt e.1 d).bind λo=>
(CO o).bind λu=>
if !u then
J2 L1 d true
else
if 0<=d/\d.toNat<=e.1.length then
(Ch (e.1.take d.toNat) o).bind λv=>
J2 L1 d (decide (v>=0))
else none
else
J3 a
def AW(e:mn)(a:AF):Nat->Int->ABu Bool
|0,_=>none
|n+1,d=>L1 e a (AW e a n) d
def J1(a:AF)(j:Bool):=
if j then
some false
else
(Bg a).bind λe=>
if !e.2 then
some false
else
AW e a BT 0
end Ay
section
open Ay
def Ay(a:AF):=
if decide ((a.df.length:Int)>12)then
J1 a true
else
if decide ((a.AK.length:Int)>4)then
J1 a true
else
if decide ((a.Ak.length:Int)>2)then
J1 a true
else
if decide ((a.AL.length:Int)>2)then
J1 a true
else
if decide ((a.AA.length:Int)<1)then
J1 a true
else
if decide ((a.AA.length:Int)>4)then
J1 a true
else
J1 a (decide ((a.Be.length:Int)>60))
theorem Jt{a:AF}{r:Bool}(h:Ay a=some r):Says prog 50 [.agg (Aw a)] (sb r):=by refine kO mix func50 (hn [(1,[10,15,21,27,33,39,45,81,87,97,103,111,117,128,136,154,168]),(9,[122,126,143,147,161,166])] [(2,1),(30,6)]) ?_;have a1:= @Zx;have a2:= @Iq;have a3:= @Ic;have l3:=im λ_ _ _ _ n c=>∃b,(c 1=bA 6 (Aw a)/\c 8=si b)/\Gc a n b=some r;have l2:=im λ_ _ _ _ n b=>∃f,(b 1=bA 6 (Aw a)/\b 6=si f)/\CC a n f=some r;have l1:=im λ_ _ _ _ n b=>∃(e:mn)(d:Int),(b 1=bA 6 (Aw a)/\b 3=vS 1 eS e.1/\b 5=si d)/\AW e a n d=some r;have c6:=ip 6 λ_ _ d _ e=>∃b c i,(e 1=bA 6 (Aw a)/\e 8=si b/\e 9=bA 3 (Gu c)/\e 132=sb i)/\J6 (Gc a d) b a c i=some r;have c1:=ip 1 λ_ _ _ _ b=>∃j,(b 1=bA 6 (Aw a)/\b 49=sb j)/\J1 a j=some r;unfold Ay at h;exact walk
end
namespace Hj
def J2(o:AE):ABu AE:=
(DM o).bind λt=>
(CF t).bind λu=>
some u
def L2(a:AG)(L2:jg)(e:AE)(c:Int):=
if decide (c<(a.AB.length:Int))then
(gt a.AB c).bind λi=>
(Bv e c i).bind λp=>
(Cm p c i).bind λq=>
(Bb q c i).bind λs=>
L2 s (A6 (c+1))
else
J2 e
def CC(a:AG):Nat->AE->Int->ABu AE
|0,_,_=>none
|n+1,e,c=>L2 a (CC a n) e c
def J1(a:AG)(l:AE):=
CC a BT l 0
def L1(a:AG)(L1:jg)(b:AE)(d:Int):=
if decide (d<(a.AB.length:Int))then
(gt a.AB d).bind λj=>
(gt b.eb j.cr).bind λf=>
if Am (b.ef.length+1) 8=true then
if Am (f.length+1) 8=true then
if 0<=(a.AB.length:Int)/\(a.AB.length:Int)<=(a.AB.length:Int)/\Am a.AB.length 1=true then
if Am (b.d4.length+1) 24=true then
L1 (AE.mk b.w (b.eb.set j.cr.toNat (f++[d])) (b.ef++[(f.length:Int)]) (b.d4++[List.replicate a.AB.length false])) (A6 (d+1))
else none
else none
else none
else none
else
J1 a b
def AW(a:AG):Nat->AE->Int->ABu AE
|0,_,_=>none
|n+1,b,d=>L1 a (AW a n) b d
end Hj
section
open Hj
def Hj(a:AG):=
if 0<=(a.cT.AA.length:Int)/\(a.cT.AA.length:Int)<=(a.cT.AA.length:Int)/\Am a.cT.AA.length 24=true then
AW a BT (AE.mk a (List.replicate a.cT.AA.length ([]:List Int)) [] []) 0
else none
theorem cP{a:AG}{r:AE}(h:Hj a=some r):Says prog 75 [.agg (A4 a)] (bA 18 (Bh r)):=by refine kO mix func75 (hn [(1,[9,10,16,65,74]),(3,[2,24,25,26,27,28,29,30,31,32,35,36,40,41,42,43,44,45,48,49,50,51,54,55,59,60,61,62,63,64,71,72,82,86,90,95,97,99]),(5,[33,46,52])] (E:=[(5,(.drw (KZ [1,2,3,4,5,6,7,8,9,10,11,12,13,14] (.fork 0 15 (KZ [0,15,16,17,18] .leaf) (KZ [15,0,16,17,18] .leaf))) [i1 24 3 (.cp (.t 3)),i1 25 3 (.cp (.t 3)),i1 26 3 (.I6 (.t 25)),Kf 27 3 16 26,Vg 28 3 27,i1 29 3 (.cp (.t 3)),i1 30 3 (.I6 (.t 29)),Kf 31 3 15 30,Vg 32 3 31,Kf 33 5 0 5,iL 34 33,tY 35 3 1 32 34,Vg 36 3 35,iZ 37 36,i0 38 (.OR 1 [[si 0]] [(0,.t 37)]),i0 39 (.app 1 8 (.t 28) (.t 38)),i1 40 3 (.I6 (.t 24)),Kf 41 3 16 40,iS 1 41 39])),(6,(.drw (KZ [4,5,6,7,8,9,10,11,12,13,14,15] (.fork 0 16 (KZ [0] (.fork 1 16 (KZ [1] (.fork 2 16 (KZ [2] (.fork 3 16 (KZ [3,16,17,18] .leaf) (KZ [16,3,17,18] .leaf))) (KZ [16,2,3,17,18] .leaf))) (KZ [16,1,2,3,17,18] .leaf))) (KZ [16,0,1,2,3,17,18] .leaf))) [i1 42 3 (.cp (.t 3)),i1 43 3 (.I6 (.t 42)),Kf 44 3 15 43,Vg 45 3 44,Kf 46 5 0 5,iL 47 46,i1 48 3 (.cp (.t 3)),i1 49 3 (.I6 (.t 48)),Kf 50 3 15 49,Vg 51 3 50,Kf 52 5 0 5,iL 53 52,tY 54 3 1 51 53,Vg 55 3 54,iC 56 4,i0 57 (.OR 1 [[si 0]] [(0,.t 56)]),i0 58 (.app 1 8 (.t 55) (.t 57)),tY 59 3 1 45 47,iS 1 59 58])),(7,(.drw (KZ [1,2,3,4,5,6,7,8,9] (.fork 0 10 (KZ [0,10,11,12,13] .leaf) (KZ [10,0,11,12,13] .leaf))) [i1 60 3 (.cp (.t 3)),i1 61 3 (.cp (.t 3)),i1 62 3 (.I6 (.t 61)),Kf 63 3 17 62,Vg 64 3 63,Kf 65 1 14 1,iL 66 65,iZ 67 66,i0 68 (.mk 1 1 [sb false] (.t 67) (.t 67)),i0 69 (.OR 1 [z15] [(0,.t 68)]),i0 70 (.app 1 24 (.t 64) (.t 69)),i1 71 3 (.I6 (.t 60)),Kf 72 3 17 71,iS 1 72 70]))])) ?_;have a1:= @QD;have a2:= @PM;have a3:= @OC;have a4:= @PN;have a5:= @NQ;have l2:=im λ_ _ _ _ n b=>∃e c,(b 3=bA 18 (Bh e)/\b 75=vS 7 A7 a.AB/\b 76=si (a.AB.length:Int)/\b 77=si c)/\CC a n e c=some r;have l1:=im λ_ _ _ _ n c=>∃b d,(c 1=bA 15 (A4 a)/\c 3=bA 18 (Bh b)/\c 17=vS 7 A7 a.AB/\c 18=si (a.AB.length:Int)/\c 19=si d)/\AW a n b d=some r;unfold Hj at h;exact walk
end
namespace Ct
def J3:=
some true
def L1(R100:nc)(a:BO)(L1:ir)(b:Int):=
if decide (b<(a.L.length:Int))then
(gt a.L b).bind λj=>
(R100 j).bind λi=>
if !i then
some false
else
L1 (A6 (b+1))
else
J3
def AW(R100:nc)(a:BO):Nat->Int->ABu Bool
|0,_=>none
|n+1,b=>L1 R100 a (AW R100 a n) b
def J2(R100:nc)(a:BO)(d:Bool):=
if d then
some false
else
AW R100 a BT 0
def J1(R100:nc)(a:BO)(c:Bool):=
(ET a.Op).bind λe=>
if e != (a.L.length:Int)then
J2 R100 a true
else
if !(c==(!(a.di.toList==(⟨#[]⟩:ABv).toList)))then
J2 R100 a true
else
if c then
(CO a.di).bind λf=>
if !f then
J2 R100 a true
else
if decide (a.N<0)then
J2 R100 a true
else
if a.Op != 1 then
J2 R100 a (a.N != 0)
else
J2 R100 a false
else
if decide (a.N<0)then
J2 R100 a true
else
if a.Op != 1 then
J2 R100 a (a.N != 0)
else
J2 R100 a false
end Ct
variable{j:nc}
section
open Ct
def Ct(R100:nc)(a:BO):=
if a.Op==2 then
J1 R100 a true
else
J1 R100 a (a.Op==3)
theorem SV(H100:∀{x0 r},j x0=some r->Says prog 277 [.agg [si x0.Op,si x0.N,Bq x0.di,vS 4 BR x0.L]] (sb r)){a:BO}{r:Bool}(h:Ct j a=some r):Says prog 277 [.agg [si a.Op,si a.N,Bq a.di,vS 4 BR a.L]] (sb r):=by refine kO mix func277 (hn [(1,[5,9,13,16,22,30,37,42,46,52,58])] [(1,1),(3,2)]) ?_;have a1:= @H100;have a2:= @U5;have a3:= @Iq;have l1:=im λ_ _ _ _ n c=>∃b,(c 1=bA 4 [si a.Op,si a.N,Bq a.di,vS 4 BR a.L]/\c 4=si b)/\AW j a n b=some r;have c2:=ip 2 λ_ _ _ _ b=>∃d,(b 1=bA 4 [si a.Op,si a.N,Bq a.di,vS 4 BR a.L]/\b 50=sb d)/\J2 j a d=some r;have c1:=ip 1 λ_ _ _ _ b=>∃c,(b 1=bA 4 [si a.Op,si a.N,Bq a.di,vS 4 BR a.L]/\b 3=sb c)/\J1 j a c=some r;unfold Ct at h;exact walk
end
def Nl:Nat->(BO->ABu Bool)
|0=>(λ_=>none)
|n+1=>Ct ((Nl n))
def DU(n:Nat):BO->ABu Bool:=(Nl n)
theorem Qv(n:Nat):(∀{x0 r},(DU n) x0=some r->Says prog 277 [.agg [si x0.Op,si x0.N,Bq x0.di,vS 4 BR x0.L]] (sb r)):=by
  induction n with
  |zero=>exactλh=>Et h
  |succ n ih=>exactλh=>SV ih h
def Lx{n:Nat}:∀{x0 r},(DU n) x0=some r->Says prog 277 [.agg [si x0.Op,si x0.N,Bq x0.di,vS 4 BR x0.L]] (sb r):=(Qv n)
end Go.Abs
