/- Typed programs of Go functions, and that the functions do what these say. -/
import Derived.Test.YtdojkofgkcmagaaGreatDoorWalkA
import Derived.Test.YtdojkofgkcmagaaGreatDoorWalkD
import Derived.Test.YtdojkofgkcmagaaGreatDoorWalkE
import Derived.Test.YtdojkofgkcmagaaGreatDoorWalkF
set_option linter.defProp false
set_option linter.unusedSimpArgs false
set_option linter.unusedVariables false
namespace Go.Abs
open Go.Proofs Tryz
set_option maxRecDepth 1000000
set_option maxHeartbeats 4000000
namespace A9
def J8:=
some true
def J7(L3:ir)(d:Int)(p:Bool):=
if p then
some false
else
L3 (A6 (d+1))
def J6(L3:ir)(d:Int)(a:AG)(f:AM)(o:Bool):=
if o then
some false
else
if f.dg==3 then
(gt a.cT.Ak f.Dy).bind λz=>
(gt a.db.de.AK z.dm).bind λaa=>
J7 L3 d (aa.B9==d)
else
if f.dg==4 then
(gt a.cT.Ak f.Dy).bind λab=>
(gt a.db.de.AK ab.dm).bind λac=>
J7 L3 d (ac.B9==d)
else
J7 L3 d false
def L3(a:AG)(L3:ir)(d:Int):=
if decide (d<(a.db.de.AA.length:Int))then
(gt a.db.de.AA d).bind λf=>
if f.dy then
(GF a d).bind λv=>
J6 L3 d a f (!v)
else
J6 L3 d a f false
else
J8
def Gc(a:AG):Nat->Int->ABu Bool
|0,_=>none
|n+1,d=>L3 a (Gc a n) d
def J5(a:AG)(j:Bool):=
if j then
some false
else
Gc a BT 0
def J4(a:AG):=
if a.db.de.Tx != (-1)then
(GF a a.db.de.Tx).bind λu=>
J5 a (!u)
else
J5 a false
def J3(L1:ir)(b:Int):=
L1 (A6 (b+1))
def J2(L2:ir)(e:Int)(q:Bool):=
if q then
some false
else
L2 (A6 (e+1))
def L2(L1:ir)(b:Int)(a:AG)(c:AY)(L2:ir)(e:Int):=
if decide (e<(c.An.length:Int))then
(gt c.An e).bind λl=>
(GF a l).bind λt=>
if !t then
J2 L2 e true
else
if decide (e>0)then
(gt c.An (A6 (e-1))).bind λy=>
J2 L2 e (decide (l<=y))
else
J2 L2 e false
else
J3 L1 b
def CC(L1:ir)(b:Int)(a:AG)(c:AY):Nat->Int->ABu Bool
|0,_=>none
|n+1,e=>L2 L1 b a c (CC L1 b a c n) e
def J1(L1:ir)(b:Int)(a:AG)(c:AY)(i:Bool):=
if i then
some false
else
CC L1 b a c BT 0
def L1(a:AG)(L1:ir)(b:Int):=
if decide (b<(a.db.de.AK.length:Int))then
(gt a.db.de.AK b).bind λc=>
if c.B9 != (-1)then
(GF a c.B9).bind λs=>
if !s then
J1 L1 b a c true
else
if decide ((c.An.length:Int)>0)then
(gt a.cT.AK b).bind λw=>
if !w.RW then
J1 L1 b a c true
else
J1 L1 b a c (c.B9 != (-1))
else
J1 L1 b a c false
else
if decide ((c.An.length:Int)>0)then
(gt a.cT.AK b).bind λx=>
if !x.RW then
J1 L1 b a c true
else
J1 L1 b a c (c.B9 != (-1))
else
J1 L1 b a c false
else
J4 a
def AW(a:AG):Nat->Int->ABu Bool
|0,_=>none
|n+1,b=>L1 a (AW a n) b
end A9
section
open A9
def A9(a:AG):=
AW a BT 0
def WD{a:AG}{r:Bool}(h:A9 a=some r):Says prog 54 [.agg (A4 a)] (sb r):=by refine kO mix func54 (hn [(1,[9,10,40,41,129,130]),(3,[13,19,88,93,99,105,127]),(5,[24,29,35,49,56,63,74,79]),(8,[110,118,122,132])] [(9,1),(18,5)]) ?_;have a1:= @Z7;have l3:=im λ_ _ _ _ n b=>∃d,(b 1=bA 15 (A4 a)/\b 3=bA 4 (He a.db.de)/\b 7=si d)/\Gc a n d=some r;have l1:=im λ_ _ _ _ n c=>∃b,(c 1=bA 15 (A4 a)/\c 3=bA 4 (He a.db.de)/\c 4=si b)/\AW a n b=some r;have l2:=im λd _ _ _ n f=>∃b c e,(f 1=bA 15 (A4 a)/\f 3=bA 4 (He a.db.de)/\f 4=si b/\f 5=bA 2 (C9 c)/\f 6=si e)/\CC (AW a d) b a c n e=some r;have c5:=ip 5 λ_ _ _ _ b=>∃j,(b 1=bA 15 (A4 a)/\b 3=bA 4 (He a.db.de)/\b 97=sb j)/\J5 a j=some r;have c1:=ip 1 λd _ _ _ e=>∃b c i,(e 1=bA 15 (A4 a)/\e 3=bA 4 (He a.db.de)/\e 4=si b/\e 5=bA 2 (C9 c)/\e 54=sb i)/\J1 (AW a d) b a c i=some r;unfold A9 at h;exact walk
end
namespace Cu
def J2(q:Bool):ABu Bool:=
some q
def J3(s:Bool):ABu Bool:=
some s
def J4(t:Bool):ABu Bool:=
some t
def J7(u:Bool):ABu Bool:=
some u
def J8(v:Bool):ABu Bool:=
some v
def J6(a b:Int)(c:AQ)(d:Int)(e:AF)(j:Bool):=
if j then
(gt e.Ak b).bind λap=>
(gt c.AK ap.dm).bind λaq=>
some (aq.B9==d)
else
if a==20 then
if b != d then
(gt c.AA b).bind λac=>
J7 (ac.dg==0)
else
J7 false
else
if a==21 then
if b != d then
(gt c.AA b).bind λad=>
J8 (ad.dg==5)
else
J8 false
else
if a==22 then
(gt c.Bp b).bind λae=>
some (!ae)
else
if a==23 then
(gt c.Bp b).bind λaf=>
some af
else
some true
def J5(a b:Int)(c:AQ)(d:Int)(e:AF)(f:AM)(i:Bool):=
if i then
(gt c.AK b).bind λal=>
some (al.B9==d)
else
if a==9 then
(gt c.AK b).bind λao=>
(Gw ao.An d).bind λaa=>
some aa
else
if a==12 then
some (c.Tx==(-1))
else
if a==13 then
some (c.Tx==d)
else
if a==14 then
some (!f.dy)
else
if a==15 then
some f.dy
else
if a==16 then
J6 a b c d e (a==16)
else
if a==18 then
J6 a b c d e (a==18)
else
J6 a b c d e (a==19)
def J1(a b:Int)(c:AQ)(d:Int)(e:AF)(l:Bool):=
if l then
some false
else
(gt c.AA d).bind λf=>
if a==1 then
some (f.dg==1)
else
if a==17 then
if f.dg==4 then
if f.Dy==b then
(gt e.Ak b).bind λab=>
(gt c.AK ab.dm).bind λai=>
J2 (ai.B9==(-1))
else
J2 false
else
J2 false
else
if f.dg != 2 then
some false
else
if a==6 then
(gt c.AK b).bind λaj=>
some (aj.B9==(-1))
else
if a==10 then
(gt c.AK b).bind λo=>
if o.B9==(-1)then
J3 ((o.An.length:Int)==0)
else
J3 false
else
if a==8 then
(gt c.AK b).bind λp=>
if p.B9==(-1)then
(Gw p.An d).bind λz=>
J4 (!z)
else
J4 false
else
if a==7 then
J5 a b c d e f (a==7)
else
J5 a b c d e f (a==11)
end Cu
section
open Cu
def Cu(e:AF)(c:AQ)(d a b:Int):=
(E8 e c).bind λw=>
if !w then
J1 a b c d e true
else
(IP d (e.AA.length:Int)).bind λx=>
if !x then
J1 a b c d e true
else
(JJ e a b).bind λy=>
J1 a b c d e (!y)
def LZ{e:AF}{c:AQ}{d a b:Int}{r:Bool}(h:Cu e c d a b=some r):Says prog 66 [.agg (Aw e),.agg (He c),si d,si a,si b] (sb r):=by refine kO mix func66 (hn [(5,[18,56,166]),(6,[31,54,73,82,90,101,109,122,132,142,147,164,183,197,207,215]),(11,[39,44,48,67,153,158])] [(2,1),(22,5),(35,6)]) ?_;have a1:= @Mh;have a2:= @OG;have a3:= @Wu;have a4:= @Z0;have c6:=ip 6 λ_ _ _ _ f=>∃j,(f 2=si d/\f 4=si b/\f 5=bA 6 (Aw e)/\f 6=bA 4 (He c)/\f 70=si a/\f 160=sb j)/\J6 a b c d e j=some r;have c5:=ip 5 λ_ _ _ _ g=>∃f i,(g 2=si d/\g 4=si b/\g 5=bA 6 (Aw e)/\g 6=bA 4 (He c)/\g 11=bA 3 (Ap f)/\g 70=si a/\g 119=sb i)/\J5 a b c d e f i=some r;have c1:=ip 1 λ_ _ _ _ f=>∃l,(f 2=si d/\f 3=si a/\f 4=si b/\f 5=bA 6 (Aw e)/\f 6=bA 4 (He c)/\f 30=sb l)/\J1 a b c d e l=some r;unfold Cu at h;exact walk
end
namespace Df
def J6(aa:AX)(w:AH):ABu (AH×AX):=
some (w,aa)
def J5(e:AH)(b:jb)(p:AX)(a:jr)(z:Bool):=
if z then
(gt b a.1).bind λae=>
(FA p ae).bind λv=>
J6 v.2 (AH.mk e.cr e.da e.dn e.dh e.d3 e.EA v.1)
else
J6 p e
def J4(b:jb)(a:jr)(p:AX)(e:AH):=
if e.da==4 then
J5 e b p a true
else
J5 e b p a (e.da==22)
def J3(c:AH)(b:jb)(a j l:jr)(y:Bool):=
if y then
(gt b a.1).bind λad=>
(FA l.2 ad).bind λu=>
J4 b a u.2 (AH.mk c.cr c.da j.1 l.1 c.d3 u.1 c.DW)
else
J4 b a l.2 (AH.mk c.cr c.da j.1 l.1 c.d3 c.EA c.DW)
def J2(b:jb)(f:AD)(a i:jr)(d:AF)(c:AH):=
(DE i.2 c.da a.1).bind λj=>
(HQ j.2 f c.da j.1).bind λl=>
if c.da==5 then
J3 c b a j l true
else
if c.da==3 then
(gt d.df j.1).bind λab=>
J3 c b a j l (decide (ab.B3>0))
else
if c.da==4 then
(gt d.df j.1).bind λac=>
J3 c b a j l (decide (ac.B3>0))
else
J3 c b a j l false
def J1(b:jb)(f:AD)(a i:jr)(d:AF)(o:Int)(x:Bool):=
if x then
J2 b f a i d (AH.mk a.1 o 0 0 (-1) [] [])
else
J2 b f a i d (AH.mk a.1 o 0 0 (A6 ((A6 (a.1*6))+i.1)) [] [])
end Df
section
open Df
def Df(q:AX)(f:AD)(d:AF)(b:jb):=
(Al q 4).bind λa=>
(Nq).bind λs=>
(Al a.2 (s.length:Int)).bind λt=>
(gt s t.1).bind λo=>
(Al t.2 6).bind λi=>
if o==1 then
J1 b f a i d o true
else
J1 b f a i d o (o==2)
def aL{q:AX}{f:AD}{d:AF}{b:jb}{r:AH×AX}(h:Df q f d b=some r):BB prog 134 [bA 2 (GO q),.agg (BQ f),.agg (Aw d),vO 1 N6 b] (.agg (I1 r.1)) [bA 2 (GO r.2),.dead,.dead,vO 1 N6 b]:=by refine kL mix func134 (hn [(0,[12,17,38,44,75,90]),(3,[76,78,79,91,93,94]),(6,[65]),(10,[16,18,21]),(11,[29,33,37,39,43,46,48,51,52,56,60,67,81,82,86,96,97])] [(4,2)] (E:=[(3,(.jB [(0,10,11,25)] [iC 15 9,i1 16 10 (.cp (.t 10)),i1 17 0 (.cp (.t 0)),i1 18 10 (.cp (.t 10)),iZ 19 18,i0 20 (.Vx 132 [] (.t 17) none [.t 19]),tY 21 10 1 16 20,iL 22 21,iC 23 9,iP 24 .mul 23 6,i0 25 .fl,i0 26 (.Vx 132 [] (.t 0) none [.c (si 6)]),iO 27 .add 24 26,i0 28 (.TK z3 [(0,1,.t 15),(1,1,.t 22),(4,1,.t 27)]),⟨some ⟨11,[29,33,37,39,43,46,48,51,52,56,60,67,81,82,86,96,97],[]⟩,.bx 7 (.c (.agg z3)),none⟩,iS 7 11 28])),(9,(.fR [.o (i1 75 0 (.cp (.t 0))),.o (i1 76 3 (.cp (.t 3))),.o (iC 77 9),.o (tY 78 3 1 76 77),.o (Vg 79 3 78),.lb (some ⟨80,[],[]⟩) 178 (.t 75) [] (.t 79),.o (Kf 81 11 5 11),.o (iS 1 81 80)])),(11,(.fR [.o (i1 90 0 (.cp (.t 0))),.o (i1 91 3 (.cp (.t 3))),.o (iC 92 9),.o (tY 93 3 1 91 92),.o (Vg 94 3 93),.lb (some ⟨95,[],[]⟩) 178 (.t 90) [] (.t 94),.o (Kf 96 11 6 11),.o (iS 1 96 95)]))])) ?_;have a1:= @DT;have a2:= @aM;have a3:= @Xw;have a4:= @aN;have a5:= @dK;have c2:=ip 2 λ_ _ _ _ e=>∃(a i:jr)(c:AH),(e 0=bA 2 (GO i.2)/\e 3=vO 1 N6 b/\e 5=bA 7 (BQ f)/\e 6=bA 6 (Aw d)/\e 8=bA 7 z3/\e 9=si a.1/\e 11=bA 7 (I1 c))/\J2 b f a i d c=some r;unfold Df at h;exact walk
end
namespace AO
def J1(i:Bool):ABu Bool:=
some i
def J2(j:Bool):ABu Bool:=
some j
def J4(l:Bool):ABu Bool:=
some l
def J6(o:Bool):ABu Bool:=
some o
def J9(p:Bool):ABu Bool:=
some p
def QP(q:Bool):ABu Bool:=
some q
def J8(a:Ai)(b:AF)(c:Bool):=
if c then
(Dw a.A (b.AA.length:Int)).bind λz=>
some z
else
if a.Op==26 then
(Dw a.A (b.AL.length:Int)).bind λaa=>
some aa
else
if a.Op==27 then
(Dw a.B (b.AL.length:Int)).bind λab=>
some ab
else
if a.Op==3 then
if a.N==4 then
J9 true
else
J9 (a.N==5)
else
if a.Op==4 then
if decide (a.N>=6)then
QP (decide (a.N<=18))
else
QP false
else
some true
def J7(a:Ai)(b:AF)(f:Bool):=
if f then
(Dw a.A (b.Ak.length:Int)).bind λy=>
some y
else
if a.Op==24 then
J8 a b (a.Op==24)
else
J8 a b (a.Op==25)
def J5(a:Ai)(b:AF)(e:Bool):=
if e then
(Dw a.A (b.AK.length:Int)).bind λx=>
if x then
(gt b.AK a.A).bind λaf=>
J6 af.RW
else
J6 false
else
if a.Op==21 then
J7 a b (a.Op==21)
else
if a.Op==22 then
J7 a b (a.Op==22)
else
J7 a b (a.Op==23)
def J3(a:Ai)(b:AF)(d:Bool):=
if d then
(Dw a.A (b.AK.length:Int)).bind λw=>
if w then
(gt b.AK a.A).bind λae=>
J4 (!ae.RW)
else
J4 false
else
if a.Op==13 then
J5 a b (a.Op==13)
else
if a.Op==14 then
J5 a b (a.Op==14)
else
if a.Op==15 then
J5 a b (a.Op==15)
else
J5 a b (a.Op==16)
end AO
section
open AO
def AO(b:AF)(a:Ai):=
if a.Op==6 then
(Dw a.B (b.df.length:Int)).bind λs=>
if s then
(gt b.df a.B).bind λac=>
J1 (ac.B3==0)
else
J1 false
else
if a.Op==8 then
(Dw a.A (b.df.length:Int)).bind λt=>
if t then
(gt b.df a.A).bind λad=>
J2 (ad.B3==0)
else
J2 false
else
if a.Op==7 then
(FK b a.B a.N).bind λu=>
some u
else
if a.Op==9 then
(FK b a.A a.N).bind λv=>
some v
else
if a.Op==11 then
J3 a b (a.Op==11)
else
J3 a b (a.Op==12)
def V8{b:AF}{a:Ai}{r:Bool}(h:AO b a=some r):Says prog 209 [.agg (Aw b),.agg (Ed a)] (sb r):=by refine kO mix func209 (hn [(2,[11,16,29,34,64,69,85,90,104,113,121,129]),(3,[5,9,18,27,36,46,48,54,56,62,71,83,92,102,111,119,127,135,139,145,149])] [(11,3),(14,5),(19,7),(23,8)]) ?_;have a1:= @Qz;have a2:= @Zv;have c8:=ip 8 λ_ _ _ _ d=>∃c,(d 2=bA 6 (Aw b)/\d 3=bA 6 (Ed a)/\d 6=si a.Op/\d 108=sb c)/\J8 a b c=some r;have c7:=ip 7 λ_ _ _ _ c=>∃f,(c 2=bA 6 (Aw b)/\c 3=bA 6 (Ed a)/\c 6=si a.Op/\c 98=sb f)/\J7 a b f=some r;have c5:=ip 5 λ_ _ _ _ c=>∃e,(c 2=bA 6 (Aw b)/\c 3=bA 6 (Ed a)/\c 6=si a.Op/\c 78=sb e)/\J5 a b e=some r;have c3:=ip 3 λ_ _ _ _ c=>∃d,(c 2=bA 6 (Aw b)/\c 3=bA 6 (Ed a)/\c 6=si a.Op/\c 59=sb d)/\J3 a b d=some r;unfold AO at h;exact walk
end
namespace Cm
def J3(L1:ky)(a:Int)(y:AE)(x:iq):=
L1 y x (A6 (a+1))
def J2(L2:kx)(f:Int)(w:iq):=
L2 w (A6 (f+1))
def L2(L1:ky)(a:Int)(e:ns)(L2:kx)(i:iq)(f:Int):=
if decide (f<(e.1.length:Int))then
(gt e.1 f).bind λv=>
(GG i v).bind λz=>
if !z then
if Am (i.length+1) 8=true then
J2 L2 f (i++[v])
else none
else
J2 L2 f i
else
J3 L1 a e.2 i
def CC(L1:ky)(a:Int)(e:ns):Nat->(List Int)->Int->ABu AE
|0,_,_=>none
|n+1,i,f=>L2 L1 a e (CC L1 a e n) i f
def J1(L1:ky)(b a:Int)(d:iq)(c:AE)(j:iq)(p:Bool):=
if p then
J3 L1 a c d
else
(gt j 0).bind λq=>
(gt c.d4 q).bind λt=>
(gt t b).bind λac=>
(gt c.w.AB q).bind λu=>
(DQ (AE.mk c.w c.eb c.ef (c.d4.set q.toNat (t.set b.toNat true))) u.cr u.DW).bind λe=>
CC L1 a e BT d 0
def L1(b:Int)(L1:ky)(c:AE)(d:iq)(a:Int):=
if decide (a<(d.length:Int))then
(gt d a).bind λaa=>
(Bi c.w aa).bind λj=>
if(j.length:Int) != 1 then
J1 L1 b a d c j true
else
(gt j 0).bind λab=>
J1 L1 b a d c j (decide (ab<0))
else
some c
def AW(b:Int):Nat->AE->(List Int)->Int->ABu AE
|0,_,_,_=>none
|n+1,c,d,a=>L1 b (AW b n) c d a
end Cm
section
open Cm
def Cm(o:AE)(b:Int)(l:AH):=
(DQ o l.cr l.EA).bind λs=>
AW b BT s.2 s.1 0
def PN{o:AE}{b:Int}{l:AH}{r:AE}(h:Cm o b l=some r):BB prog 126 [bA 18 (Bh o),si b,.agg (A7 l)] (.BZ []) [bA 18 (Bh r),.dead,.dead]:=by refine kL mix func126 (hn [(0,[12,24,25,26,27,42,43,44,45,49,50,52,53,54,55,56,57,61,62,63]),(5,[13,15]),(6,[19,28,30,74,78]),(8,[33,37,38,46,47,58,59]),(9,[64,66,67]),(68,[72])] [(8,1)]) ?_;have a1:= @PO;have a2:= @M7;have a3:= @KR;have l1:=im λ_ _ _ _ n e=>∃c d a,(e 0=bA 18 (Bh c)/\e 1=si b/\e 6=vO 1 eI d/\e 7=si a)/\AW b n c d a=some r;have l2:=im λc _ _ _ n d=>∃(a:Int)(e:ns)(i:iq)(f:Int),(d 0=bA 18 (Bh e.2)/\d 1=si b/\d 6=vO 1 eI i/\d 7=si a/\d 68=vO 1 eI e.1/\d 69=si (e.1.length:Int)/\d 70=si f)/\CC (AW b c) a e n i f=some r;have c1:=ip 1 λe _ _ _ f=>∃a d c j p,(f 0=bA 18 (Bh c)/\f 1=si b/\f 6=vO 1 eI d/\f 7=si a/\f 8=vO 1 eI j/\f 41=sb p)/\J1 (AW b e) b a d c j p=some r;unfold Cm at h;exact walk
end
namespace Ep
def J3(a:Ai)(b:AN)(t:Int)(l:Bool)(e:iq):ABu (AN×Bool):=
if Am (e.length) 8=true then
(gt b.C3 a.A).bind λad=>
(gt b.Cx a.A).bind λac=>
some ((AN.mk (A6 (b.PC+1)) (b.C3.set a.A.toNat t) (b.Cx.set a.A.toNat e) b.AB),l)
else none
def J2(a:Ai)(b:AN):=
if a.Op==5 then
some ((AN.mk a.A b.C3 b.Cx b.AB),true)
else
if a.Op==1 then
J3 a b a.N true []
else
if a.Op==2 then
(gt b.C3 a.B).bind λu=>
(gt b.Cx a.B).bind λv=>
J3 a b u true v
else
if a.Op==3 then
(Ez a.N).bind λp=>
(gt b.C3 a.B).bind λw=>
(Ly p w).bind λf=>
(gt b.Cx a.B).bind λx=>
J3 a b f.1 f.2 x
else
(Ez a.N).bind λq=>
(gt b.C3 a.B).bind λy=>
(gt b.C3 a.C).bind λz=>
(Gf q y z).bind λi=>
(gt b.Cx a.B).bind λaa=>
(gt b.Cx a.C).bind λab=>
(EW aa ab).bind λs=>
J3 a b i.1 i.2 s
def J1(L1:Int->ABu (AN×Bool))(c:Int)(o:Bool):=
if o then
some ((AN.mk 0 [] [] 0),false)
else
L1 (A6 (c+1))
def L1(a:Ai)(b:AN)(d:iq)(L1:Int->ABu (AN×Bool))(c:Int):=
if decide (c<(d.length:Int))then
(gt d c).bind λj=>
if decide (j<0)then
J1 L1 c true
else
J1 L1 c (decide (j>=(b.C3.length:Int)))
else
J2 a b
def AW(a:Ai)(b:AN)(d:iq):Nat->Int->ABu (AN×Bool)
|0,_=>none
|n+1,c=>L1 a b d (AW a b d n) c
end Ep
section
open Ep
def Ep(a:Ai)(b:AN):=
(Ab a).bind λd=>
AW a b d BT 0
def cV{a:Ai}{b:AN}{r:AN×Bool}(h:Ep a b=some r):Says prog 243 [.agg (Ed a),.agg (CL b)] (.BZ [.agg (CL r.1),sb r.2]):=by refine kO mix func243 (hn [(2,[35,38,43,49,58,64,71,77,83,89,96,101,110,116,120]),(3,[29,30,41,42,45,47,48,51,56,57,60,61,62,63,66,67,73,74,81,82,85,87,88,91,92,99,100,103,108,109,112,113,114,115,118,119,126,127,128,131,132]),(6,[14,19,21,25,27]),(10,[124])] (F:=[10]) (E:=[(22,(.pg true 3 [(0,2,0)] (Rc 114 [.F 1 3,.y 3 (.ZX (.t 114)),.f 1 2,.F 2 3,.y 3 (.ZX (.t 118)),.f 1 2,.C 8,.o (.OR 1 [] []),.y 10 (.cp (.t 10)),.o (.app 1 8 (.t 123) (.t 124)),.J 3 1 115 117,.x ⟨none,.YM (.t 126) (.t 122),none⟩,.J 3 1 119 121,.S 1 127 125])))])) ?_;have a1:= @KQ;have a2:= @VG;have a3:= @Zt;have a4:= @Xn;have a5:= @Q3;have l1:=im λ_ _ _ _ n e=>∃d c,(e 2=bA 6 (Ed a)/\e 3=bA 4 (CL b)/\e 4=bA 4 z9/\e 6=vO 1 eI d/\e 7=si c)/\AW a b d n c=some r;unfold Ep at h;exact walk
end
namespace Eg
def J1(o:Bool):ABu Bool:=
some o
def J2(p:Bool):ABu Bool:=
some p
def J5(q:Bool):ABu Bool:=
some q
def J6(s:Bool):ABu Bool:=
some s
def J4(a c:Int)(b:AQ)(d:Int)(e:AF)(f:Bool):=
if f then
(gt e.Ak c).bind λad=>
(gt b.AK ad.dm).bind λae=>
some (ae.B9==d)
else
if a==20 then
if c != d then
(gt b.AA c).bind λaf=>
J5 (af.dg==0)
else
J5 false
else
if a==21 then
if c != d then
(gt b.AA c).bind λw=>
J6 (w.dg==5)
else
J6 false
else
if a==22 then
(gt b.Bp c).bind λx=>
some (!x)
else
if a==23 then
(gt b.Bp c).bind λy=>
some y
else
some true
def J3(a c:Int)(b:AQ)(d:Int)(e:AF)(i:Bool):=
if i then
(gt b.AK c).bind λz=>
some (z.B9==d)
else
if a==9 then
(gt b.AK c).bind λaa=>
(GG aa.An d).bind λu=>
some u
else
if a==12 then
some (b.Tx==(-1))
else
if a==13 then
some (b.Tx==d)
else
if a==14 then
(gt b.AA d).bind λab=>
some (!ab.dy)
else
if a==15 then
(gt b.AA d).bind λac=>
some ac.dy
else
if a==16 then
J4 a c b d e (a==16)
else
if a==18 then
J4 a c b d e (a==18)
else
J4 a c b d e (a==19)
end Eg
section
open Eg
def Eg(e:AF)(b:AQ)(d a c:Int):=
if a==6 then
(gt b.AK c).bind λv=>
some (v.B9==(-1))
else
if a==10 then
(gt b.AK c).bind λj=>
if j.B9==(-1)then
J1 ((j.An.length:Int)==0)
else
J1 false
else
if a==8 then
(gt b.AK c).bind λl=>
if l.B9==(-1)then
(GG l.An d).bind λt=>
J2 (!t)
else
J2 false
else
if a==7 then
J3 a c b d e (a==7)
else
J3 a c b d e (a==11)
def Xc{e:AF}{b:AQ}{d a c:Int}{r:Bool}(h:Eg e b d a c=some r):Says prog 192 [.agg (Aw e),.agg (He b),si d,si a,si c] (sb r):=by refine kO mix func192 (hn [(5,[115]),(6,[14,23,31,42,50,63,73,83,88,94,103,113,132,146,156,164])] [(9,3),(22,4)]) ?_;have a1:= @KR;have c4:=ip 4 λ_ _ _ _ g=>∃f,(g 2=si d/\g 4=si c/\g 5=bA 6 (Aw e)/\g 6=bA 4 (He b)/\g 11=si a/\g 109=sb f)/\J4 a c b d e f=some r;have c3:=ip 3 λ_ _ _ _ f=>∃i,(f 2=si d/\f 4=si c/\f 5=bA 6 (Aw e)/\f 6=bA 4 (He b)/\f 11=si a/\f 60=sb i)/\J3 a c b d e i=some r;unfold Eg at h;exact walk
end
namespace DM
def J3(a i:AE):ABu AE:=
if decide (a.w.db.de.Tx>=0)then
(Bc i a.w.db.de.Tx (a.w.db.de.AK.length:Int) false).bind λq=>
some q
else
some i
def J2(L1:jg)(b:Int)(l:AE):=
L1 l (A6 (b+1))
def L2(L1:jg)(b:Int)(c:AY)(L2:jg)(f:AE)(e:Int):=
if decide (e<(c.An.length:Int))then
(gt c.An e).bind λs=>
(Bc f s b true).bind λp=>
L2 p (A6 (e+1))
else
J2 L1 b f
def CC(L1:jg)(b:Int)(c:AY):Nat->AE->Int->ABu AE
|0,_,_=>none
|n+1,f,e=>L2 L1 b c (CC L1 b c n) f e
def J1(L1:jg)(b:Int)(c:AY)(j:AE):=
CC L1 b c BT j 0
def L1(a:AE)(L1:jg)(d:AE)(b:Int):=
if decide (b<(a.w.db.de.AK.length:Int))then
(gt a.w.db.de.AK b).bind λc=>
if decide (c.B9>=0)then
(Bc d c.B9 b false).bind λo=>
J1 L1 b c o
else
J1 L1 b c d
else
J3 a d
def AW(a:AE):Nat->AE->Int->ABu AE
|0,_,_=>none
|n+1,d,b=>L1 a (AW a n) d b
end DM
section
open DM
def DM(a:AE):=
AW a BT a 0
def QD{a r:AE}(h:DM a=some r):BB prog 128 [bA 18 (Bh a)] (.BZ []) [bA 18 (Bh r)]:=by refine kL mix func128 (hn [(0,[7,8,9,10,11,12,24,36,45]),(2,[13,14,19,20,42,46,48,49]),(4,[21,25,29,30,34])]) ?_;have a1:= @OB;have l1:=im λ_ _ _ _ n c=>∃d b,(c 0=bA 18 (Bh d)/\c 2=bA 4 (He a.w.db.de)/\c 14=vS 2 C9 a.w.db.de.AK/\c 15=si (a.w.db.de.AK.length:Int)/\c 16=si b)/\AW a n d b=some r;have l2:=im λd _ _ _ n g=>∃(b:Int)(c:AY)(f:AE)(e:Int),(g 0=bA 18 (Bh f)/\g 2=bA 4 (He a.w.db.de)/\g 3=si b/\g 14=vS 2 C9 a.w.db.de.AK/\g 15=si (a.w.db.de.AK.length:Int)/\g 16=si b/\g 30=vS 1 eI c.An/\g 31=si (c.An.length:Int)/\g 32=si e)/\CC (AW a d) b c n f e=some r;unfold DM at h;exact walk
end
namespace Je
def J4(t:iq):ABu (List Int):=
some t
def J3(L1:iw)(a:Int)(s:iq):=
L1 s (A6 (a+1))
def J2(L2:iw)(d:Int)(q:iq):=
L2 q (A6 (d+1))
def L2(L1:iw)(a:Int)(e:iq)(L2:iw)(f:iq)(d:Int):=
if decide (d<(e.length:Int))then
(gt e d).bind λp=>
(fP f p).bind λw=>
if !w then
if Am (f.length+1) 8=true then
J2 L2 d (f++[p])
else none
else
J2 L2 d f
else
J3 L1 a f
def CC(L1:iw)(a:Int)(e:iq):Nat->(List Int)->Int->ABu (List Int)
|0,_,_=>none
|n+1,f,d=>L2 L1 a e (CC L1 a e n) f d
def J1(L1:iw)(a:Int)(c i:iq)(b:AG)(u:Bool):=
if u then
J3 L1 a c
else
(gt i 0).bind λz=>
(gt b.AB z).bind λo=>
(Jd b o.cr o.DW).bind λe=>
CC L1 a e BT c 0
def L1(b:AG)(L1:iw)(c:iq)(a:Int):=
if decide (a<(c.length:Int))then
(gt c a).bind λx=>
(CT b x).bind λi=>
if(i.length:Int) != 1 then
J1 L1 a c i b true
else
(gt i 0).bind λy=>
J1 L1 a c i b (decide (y<0))
else
J4 c
def AW(b:AG):Nat->(List Int)->Int->ABu (List Int)
|0,_,_=>none
|n+1,c,a=>L1 b (AW b n) c a
end Je
section
open Je
def Je(b:AG)(j:Int):=
(gt b.AB j).bind λl=>
(Jd b l.cr l.EA).bind λv=>
AW b BT v 0
end
namespace GR
def J4(p s:iq):ABu ((List Int)×(List Int)):=
some (p,s)
def J3(L1:kg)(c:Int)(o q:iq):=
L1 o q (A6 (c+1))
def J2(L1:kg)(d:iq)(c a:Int)(i:AY)(l:iq):=
(GG i.An a).bind λv=>
if v then
if Am (d.length+1) 8=true then
J3 L1 c l (d++[c])
else none
else
J3 L1 c l d
def L1(b:AQ)(a:Int)(L1:kg)(e d:iq)(c:Int):=
if decide (c<(b.AK.length:Int))then
(gt b.AK c).bind λi=>
if i.B9==a then
if Am (e.length+1) 8=true then
J2 L1 d c a i (e++[c])
else none
else
J2 L1 d c a i e
else
J4 e d
def AW(b:AQ)(a:Int):Nat->(List Int)->(List Int)->Int->ABu ((List Int)×(List Int))
|0,_,_,_=>none
|n+1,e,d,c=>L1 b a (AW b a n) e d c
def J1(b:AQ)(a:Int)(j:Bool):=
if j then
some ([],[])
else
AW b a BT [] [] 0
end GR
section
open GR
def GR(f:AF)(b:AQ)(a:Int):=
(ES f b).bind λt=>
if !t then
J1 b a true
else
(Da a (f.AA.length:Int)).bind λu=>
J1 b a (!u)
def XZ{f:AF}{b:AQ}{a:Int}{r:(List Int)×(List Int)}(h:GR f b a=some r):Says prog 113 [.agg (Aw f),.agg (He b),si a] (.BZ [vO 1 eI r.1,vO 1 eI r.2]):=by refine kO mix func113 (hn [(3,[18]),(4,[24]),(8,[36,49]),(9,[44,50]),(11,[32,40])] [(2,1)]) ?_;have a1:= @KR;have a2:= @Kv;have a3:= @JZ;have l1:=im λ_ _ _ _ n f=>∃e d c,(f 2=si a/\f 8=vO 1 eI e/\f 9=vO 1 eI d/\f 25=vS 2 C9 b.AK/\f 26=si (b.AK.length:Int)/\f 27=si c)/\AW b a n e d c=some r;have c1:=ip 1 λ_ _ _ _ c=>∃j,(c 2=si a/\c 4=bA 4 (He b)/\c 23=sb j)/\J1 b a j=some r;unfold GR at h;exact walk
end
def Ga(b:BL)(a:AR):ABu BL:=
if decide ((a.dz.length:Int)>0)then
(gt a.dz 0).bind λp=>
(C6 BT b p (b.dq.length:Int)).bind λi=>
(C6 BT i a.dv (A6 ((b.dq.length:Int)+1))).bind λd=>
(Bz d.w a.di).bind λe=>
(gt d.w.df e).bind λq=>
(BH d (Ai.mk 9 e (A6 ((b.dq.length:Int)+1)) (b.dq.length:Int) q.B3 0)).bind λj=>
some j
else
(C6 BT b a.dv (b.dq.length:Int)).bind λc=>
(Ch c.dq a.di).bind λf=>
if decide (f>=0)then
(BH c (Ai.mk 2 f (b.dq.length:Int) 0 0 0)).bind λl=>
some l
else
(Bz c.w a.di).bind λo=>
(BH c (Ai.mk 8 o (b.dq.length:Int) 0 0 0)).bind λs=>
some s
def SZ{b:BL}{a:AR}{r:BL}(h:Ga b a=some r):BB prog 249 [bA 10 (El b),.agg [si a.Op,si a.GH,Bq a.di,Bq a.ep,vS 4 BR a.dz,si a.dv.Op,si a.dv.N,Bq a.dv.di,vS 4 BR a.dv.L,vS 11 BJ a.dx,vS 11 BJ a.d7]] (.BZ []) [bA 10 (El r),.dead]:=by refine kL mix func249 (hn [(0,[7,8,9,10,16,23,29,30,31,32,36,41,42,43,44,45,47,48,52,57,58,59,60,66,71,72,73,74,75]),(3,[12,17,24,33,53,61,76])]) ?_;have a1:= @Ju;have a2:= @Pz;have a3:= @HR;have a4:= @Ic;unfold Ga at h;exact walk
namespace Dp
def J2(l:iq):ABu (List Int):=
some l
def J1(L1:iw)(a:Int)(j:iq):=
L1 j (A6 (a+1))
def L1(d b:iq)(L1:iw)(c:iq)(a:Int):=
if decide (a<(b.length:Int))then
(gt b a).bind λi=>
(Kc d i).bind λo=>
if o.2 then
if Am (c.length+1) 8=true then
J1 L1 a (c++[i])
else none
else
J1 L1 a c
else
J2 c
def AW(d b:iq):Nat->(List Int)->Int->ABu (List Int)
|0,_,_=>none
|n+1,c,a=>L1 d b (AW d b n) c a
end Dp
section
open Dp
def Dp(e f:iq):=
(IF f).bind λd=>
(IF e).bind λb=>
AW d b BT [] 0
def LL{e f r:iq}(h:Dp e f=some r):Says prog 117 [vS 1 eI e,vS 1 eI f] (vO 1 eI r):=by refine kO mix func117 (hn [(5,[27,32]),(6,[21]),(14,[18])]) ?_;have a1:= @M5;have a2:= @Pd;have l1:=im λ_ _ _ _ n e=>∃(d b c:iq)(a:Int),(e 5=vO 1 eI c/\e 6=vO 1 eI d/\e 14=vO 1 eI b/\e 15=si (b.length:Int)/\e 16=si a)/\AW d b n c a=some r;unfold Dp at h;exact walk
end
namespace CO
def J2:=
some true
def L1(a:ABv)(L1:ir)(b:Int):=
if decide (b<(a.size:Int))then
(sgt a b).bind λe=>
(Hu (e.toNat:Int)).bind λi=>
if !i then
some false
else
L1 (A6 (b+1))
else
J2
def AW(a:ABv):Nat->Int->ABu Bool
|0,_=>none
|n+1,b=>L1 a (AW a n) b
def J1(a:ABv)(c:Bool):=
if c then
some false
else
AW a BT 0
end CO
section
open CO
def CO(a:ABv):=
if decide ((a.size:Int)<1)then
J1 a true
else
if decide ((a.size:Int)>12)then
J1 a true
else
(sgt a 0).bind λd=>
(Ge (d.toNat:Int)).bind λf=>
if !f then
J1 a true
else
(Dj a).bind λj=>
J1 a j
def Iq{a:ABv}{r:Bool}(h:CO a=some r):Says prog 98 [Bq a] (sb r):=by refine kO mix func98 (hn (Q:=[(2,1)])) ?_;have a1:= @Zm;have a2:= @Px;have a3:= @To;have l1:=im λ_ _ _ _ n c=>∃b,(c 0=Bq a/\c 3=si b)/\AW a n b=some r;have c1:=ip 1 λ_ _ _ _ b=>∃c,(b 0=Bq a/\b 21=sb c)/\J1 a c=some r;unfold CO at h;exact walk
end
namespace Ir
def J2:ABu (List Int):=
some [(-1)]
def J1(b:Ac)(c:Int)(a:AG)(f:Bool):ABu (List Int):=
if f then
(gt a.AB c).bind λj=>
(C0 b.de j.dn).bind λe=>
if decide ((e.length:Int)>0)then
some e
else
J2
else
J2
end Ir
section
open Ir
def Ir(a:AG)(b:Ac)(d:Int):=
(Gj a b d).bind λc=>
if decide (c>=0)then
(gt a.AB c).bind λi=>
J1 b c a (i.da==18)
else
J1 b c a false
def aB{a:AG}{b:Ac}{d:Int}{r:iq}(h:Ir a b d=some r):Says prog 63 [.agg (A4 a),.agg (IH b),si d] (vO 1 eI r):=by refine kO mix func63 (hn [(3,[16,26]),(4,[24]),(8,[33,36])]) ?_;have a1:= @Ll;have a2:= @La;unfold Ir at h;exact walk
end
namespace E4
def J1(c:Bool):ABu Bool:=
some c
end E4
section
open E4
def E4(b:AF)(a:AD):=
(ES b a.de).bind λd=>
if d then
if(a.df.length:Int)==(b.df.length:Int)then
if(a.AL.length:Int)==(b.AL.length:Int)then
J1 ((a.dc.length:Int)==(b.AA.length:Int))
else
J1 false
else
J1 false
else
J1 false
def T2{b:AF}{a:AD}{r:Bool}(h:E4 b a=some r):Says prog 145 [.agg (Aw b),.agg (BQ a)] (sb r):=by refine kO mix func145 (hn [(2,[13,22,31]),(3,[6,10,19,28])]) ?_;have a1:= @Kv;unfold E4 at h;exact walk
end
namespace JR
def J1(c:Bool):ABu Bool:=
some c
end JR
section
open JR
def JR(b:AF)(a:AD):=
(ES b a.de).bind λd=>
if d then
if(a.df.length:Int)==(b.df.length:Int)then
if(a.AL.length:Int)==(b.AL.length:Int)then
J1 ((a.dc.length:Int)==(b.AA.length:Int))
else
J1 false
else
J1 false
else
J1 false
def bE{b:AF}{a:AD}{r:Bool}(h:JR b a=some r):Says prog 44 [.agg (Aw b),.agg (BQ a)] (sb r):=by refine kO mix func44 (hn [(2,[13,22,31]),(3,[6,10,19,28])]) ?_;have a1:= @Kv;unfold JR at h;exact walk
end
namespace Dk
def J1(i:Bool):ABu Int:=
if i then
some 6
else
some 0
end Dk
section
open Dk
def Dk(c:AU)(e:Int)(d:ABv)(a b:Int):=
(E2 c e d).bind λf=>
if f==0 then
some 5
else
if f != a then
J1 (f != b)
else
J1 false
def Sx{c:AU}{e:Int}{d:ABv}{a b r:Int}(h:Dk c e d a b=some r):Says prog 271 [.agg (Cf c),si e,Bq d,si a,si b] (si r):=by refine kO mix func271 hn ?_;have a1:= @Xi;unfold Dk at h;exact walk
end
namespace PY
def J1(c:Bool):ABu Bool:=
some c
end PY
section
open PY
def PY(a b:iq):=
(Oj a b).bind λd=>
if d then
(Oj b a).bind λe=>
J1 e
else
J1 false
end
end Go.Abs
