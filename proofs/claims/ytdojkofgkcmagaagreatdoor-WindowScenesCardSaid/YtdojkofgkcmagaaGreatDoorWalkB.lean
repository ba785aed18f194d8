/- Typed programs of Go functions, and that the functions do what these say. -/
import Derived.Test.YtdojkofgkcmagaaGreatDoorBaseA
set_option linter.unusedSimpArgs false
set_option linter.unusedVariables false
namespace Go.Abs
open Go.Proofs
set_option maxRecDepth 1000000
set_option maxHeartbeats 4000000
namespace EA
def J2 (i:List Int):ABd (List Int):=
some i
def J1 (L1:(List Int)->Int->ABd (List Int)) (b:Int) (f:List Int):ABd (List Int):=
L1 f (BA (b+1))
def L1 (a:List Int) (c:Int) (L1:(List Int)->Int->ABd (List Int)) (d:List Int) (b:Int):ABd (List Int):=
if decide (b<(a.length:Int))then
(gt a b).bind λe=>
if e != c then
if Ap (d.length+1) 8=true then
J1 L1 b (d++[e])
else none
else
J1 L1 b d
else
J2 d
def Aa (a:List Int) (c:Int):Nat->(List Int)->Int->ABd (List Int)
|0,_,_=>none
|n+1,d,b=>L1 a c (Aa a c n) d b
end EA
section
open EA
def EA (a:List Int) (c:Int):ABd (List Int):=
Aa a c BW [] 0
theorem UW {a:List Int} {c:Int} {r:List Int} (h:EA a c=some r):Says Tryz.prog 157 [vS 1 eI a,si c] (vO 1 eI r):=by refine kO mix Tryz.func157 (hn [(5,[19,26])]) ?_;have l1:=λn1 n2 n3 n4:Nat=>A3 λn τ=>∃(d:List Int) (b:Int),(τ 0=vS 1 eI a/\τ 1=si c/\τ 5=vO 1 eI d/\τ 6=si b)/\Aa a c n d b=some r;unfold EA at h;exact walk
end
def Ju:ABd (List ABe):=
some [(⟨#[118,97,114]⟩:ABe),(⟨#[118,111,108,97,116,105,108,101]⟩:ABe),(⟨#[109,117,116,101,120]⟩:ABe),(⟨#[114,119,108,111,99,107]⟩:ABe),(⟨#[99,111,110,100]⟩:ABe),(⟨#[102,117,116,117,114,101]⟩:ABe),(⟨#[116,104,114,101,97,100]⟩:ABe),(⟨#[105,102]⟩:ABe),(⟨#[101,108,115,101]⟩:ABe),(⟨#[119,104,105,108,101]⟩:ABe),(⟨#[108,111,99,107]⟩:ABe),(⟨#[114,101,97,100]⟩:ABe),(⟨#[119,114,105,116,101]⟩:ABe),(⟨#[116,114,97,110,115,97,99,116,105,111,110]⟩:ABe),(⟨#[97,116,111,109,105,99]⟩:ABe),(⟨#[119,97,105,116]⟩:ABe),(⟨#[110,111,116,105,102,121]⟩:ABe),(⟨#[110,111,116,105,102,121,97,108,108]⟩:ABe),(⟨#[115,112,97,119,110]⟩:ABe),(⟨#[106,111,105,110]⟩:ABe),(⟨#[115,101,116]⟩:ABe),(⟨#[103,101,116]⟩:ABe)]
theorem TO {r:List ABe} (h:Ju=some r):Says Tryz.prog 198 [] (vO 1 eS r):=by refine kO mix Tryz.func198 hn ?_;unfold Ju at h;exact walk
namespace Dr
def J2:ABd Bool:=
some true
def J1 (L1:Int->ABd Bool) (a:Int) (e:Bool):ABd Bool:=
if e then
some false
else
L1 (BA (a+1))
def L1 (c:Int) (b:List Int) (L1:Int->ABd Bool) (a:Int):ABd Bool:=
if decide (a<(b.length:Int))then
(gt b a).bind λd=>
if decide (d<1)then
J1 L1 a true
else
if decide (d≥c)then
J1 L1 a true
else
if decide (a>0)then
(gt b (BA (a-1))).bind λf=>
J1 L1 a (decide (d≤f))
else
J1 L1 a false
else
J2
def Aa (c:Int) (b:List Int):Nat->Int->ABd Bool
|0,_=>none
|n+1,a=>L1 c b (Aa c b n) a
end Dr
section
open Dr
def Dr (b:List Int) (c:Int):ABd Bool:=
Aa c b BW 0
theorem UY {b:List Int} {c:Int} {r:Bool} (h:Dr b c=some r):Says Tryz.prog 104 [vS 1 eI b,si c] (sb r):=by refine kO mix Tryz.func104 hn ?_;have l1:=λn1 n2 n3 n4:Nat=>A3 λn τ=>∃(a:Int),(τ 0=vS 1 eI b/\τ 1=si c/\τ 5=si a)/\Aa c b n a=some r;unfold Dr at h;exact walk
end
namespace Bf
def J2:ABd Bool:=
some true
def J1 (L1:Int->ABd Bool) (b:Int) (c:Bool):ABd Bool:=
if c then
some false
else
L1 (BA (b+1))
def L1 (a:AB) (L1:Int->ABd Bool) (b:Int):ABd Bool:=
if decide (b<(a.Sync.Bn.length:Int))then
(gt a.Sync.Bn b).bind λd=>
if !d then
(gt a.AK b).bind λe=>
J1 L1 b (e != 0)
else
J1 L1 b false
else
J2
def Aa (a:AB):Nat->Int->ABd Bool
|0,_=>none
|n+1,b=>L1 a (Aa a n) b
end Bf
section
open Bf
def Bf (a:AB):ABd Bool:=
Aa a BW 0
theorem OG {a:AB} {r:Bool} (h:Bf a=some r):Says Tryz.prog 48 [.agg (BI a)] (sb r):=by refine kO mix Tryz.func48 (hn [(1,[5,6,17])]) ?_;have l1:=λn1 n2 n3 n4:Nat=>A3 λn τ=>∃(b:Int),(τ 1=bA 7 (BI a)/\τ 7=vS 1 eB a.Sync.Bn/\τ 8=si (a.Sync.Bn.length:Int)/\τ 9=si b)/\Aa a n b=some r;unfold Bf at h;exact walk
end
namespace Eb
def J1 (e:List C5):ABd (List C5):=
some e
def L1 (a:List Int) (L1:(List C5)->Int->ABd (List C5)) (c:List C5) (b:Int):ABd (List C5):=
if decide (b<(a.length:Int))then
(gt a b).bind λd=>
if Ap (c.length+1) 16=true then
L1 (c++[(C5.mk ((BA d).tmod 4) (BA (((BA ((BA d).tdiv 4)).tmod 5)-1)))]) (BA (b+1))
else none
else
J1 c
def Aa (a:List Int):Nat->(List C5)->Int->ABd (List C5)
|0,_,_=>none
|n+1,c,b=>L1 a (Aa a n) c b
end Eb
section
open Eb
def Eb (a:List Int):ABd (List C5):=
Aa a BW [] 0
theorem Va {a:List Int} {r:List C5} (h:Eb a=some r):Says Tryz.prog 87 [vS 1 cZ a] (vO 2 JC r):=by refine kO mix Tryz.func87 (hn [(3,[11,29])]) ?_;have l1:=λn1 n2 n3 n4:Nat=>A3 λn τ=>∃(c:List C5) (b:Int),(τ 0=vS 1 cZ a/\τ 3=vO 2 JC c/\τ 4=si b)/\Aa a n c b=some r;unfold Eb at h;exact walk
end
namespace CV
def J1 (a:BB):ABd (Int×BB):=
some ((-1),a)
def L1 (a:BB) (b:ABe) (L1:Int->ABd (Int×BB)) (c:Int):ABd (Int×BB):=
if decide (c<(a.w.Ai.length:Int))then
(gt a.w.Ai c).bind λd=>
if d.Name.toList==b.toList then
some (c,a)
else
L1 (BA (c+1))
else
J1 a
def Aa (a:BB) (b:ABe):Nat->Int->ABd (Int×BB)
|0,_=>none
|n+1,c=>L1 a b (Aa a b n) c
end CV
section
open CV
def CV (a:BB) (b:ABe):ABd (Int×BB):=
Aa a b BW 0
theorem TY {a:BB} {b:ABe} {r:Int×BB} (h:CV a b=some r):BD Tryz.prog 252 [bA 10 (EN a),BZ b] (si r.1) [bA 10 (EN r.2),.dead]:=by refine kL mix Tryz.func252 (hn [(0,[7,8,9,10,11,16,17,18,19,20,22,23])]) ?_;have l1:=λn1 n2 n3 n4:Nat=>A3 λn τ=>∃(c:Int),(τ 0=bA 10 (EN a)/\τ 1=BZ b/\τ 5=si c)/\Aa a b n c=some r;unfold CV at h;exact walk
end
namespace HQ
def J2:ABd Int:=
some (-1)
def J1 (L1:Int->Int->ABd Int) (a f:Int):ABd Int:=
L1 f (BA (a+1))
def L1 (c:Int) (b:AL) (L1:Int->Int->ABd Int) (d a:Int):ABd Int:=
if decide (a<(b.AE.length:Int))then
(gt b.AE a).bind λi=>
if i.Thread==c then
if d==0 then
some a
else
J1 L1 a (BA (d-1))
else
J1 L1 a d
else
J2
def Aa (c:Int) (b:AL):Nat->Int->Int->ABd Int
|0,_,_=>none
|n+1,d,a=>L1 c b (Aa c b n) d a
end HQ
section
open HQ
def HQ (b:AL) (c e:Int):ABd Int:=
Aa c b BW e 0
theorem eE {b:AL} {c e r:Int} (h:HQ b c e=some r):Says Tryz.prog 107 [.agg (B0 b),si c,si e] (si r):=by refine kO mix Tryz.func107 (hn [(3,[9,15])]) ?_;have l1:=λn1 n2 n3 n4:Nat=>A3 λn τ=>∃(d a:Int),(τ 1=si c/\τ 2=si d/\τ 3=bA 15 (B0 b)/\τ 7=si a)/\Aa c b n d a=some r;unfold HQ at h;exact walk
end
namespace AZ
def J3 (a:Ad) (d:Bool):ABd (List Int):=
if d then
some [a.B]
else
if a.Op==9 then
some [a.B,a.C]
else
some []
def J2 (a:Ad) (b:Bool):ABd (List Int):=
if b then
some [a.A,a.B]
else
if a.Op==4 then
some [a.A,a.B,a.C]
else
if a.Op==7 then
some [a.A,a.C]
else
if a.Op==8 then
J3 a (a.Op==8)
else
J3 a (a.Op==26)
def J1 (a:Ad) (c:Bool):ABd (List Int):=
if c then
some [a.A]
else
if a.Op==2 then
J2 a (a.Op==2)
else
J2 a (a.Op==3)
end AZ
section
open AZ
def AZ (a:Ad):ABd (List Int):=
if a.Op==1 then
J1 a (a.Op==1)
else
if a.Op==6 then
J1 a (a.Op==6)
else
if a.Op==10 then
J1 a (a.Op==10)
else
J1 a (a.Op==27)
theorem JO {a:Ad} {r:List Int} (h:AZ a=some r):Says Tryz.prog 185 [.agg (EF a)] (vO 1 eI r):=by refine kO mix Tryz.func185 (hn [(1,[3,10,16,18,23,25,27,32,34,40,45,47])] [(3,1),(8,2)]) ?_;have c2:=λn1 n2 n3 n4:Nat=>Bs 2 λτ=>∃(b:Bool),(τ 1=bA 6 (EF a)/\τ 4=si a.Op/\τ 13=sb b)/\J2 a b=some r;have c1:=λn1 n2 n3 n4:Nat=>Bs 1 λτ=>∃(c:Bool),(τ 1=bA 6 (EF a)/\τ 4=si a.Op/\τ 5=sb c)/\J1 a c=some r;unfold AZ at h;exact walk
end
namespace C4
def J3 (i:List Int):ABd (List Int):=
some i
def J2 (L1:(List Int)->Int->ABd (List Int)) (a:Int) (f:List Int):ABd (List Int):=
L1 f (BA (a+1))
def J1 (L1:(List Int)->Int->ABd (List Int)) (a:Int) (b:List Int) (j:Bool):ABd (List Int):=
if j then
if Ap (b.length+1) 8=true then
J2 L1 a (b++[a])
else none
else
J2 L1 a b
def L1 (d:Int) (c:AP) (L1:(List Int)->Int->ABd (List Int)) (b:List Int) (a:Int):ABd (List Int):=
if decide (a<(c.AA.length:Int))then
(gt c.AA a).bind λe=>
if e.Status==3 then
J1 L1 a b (e.Dg==d)
else
J1 L1 a b false
else
J3 b
def Aa (d:Int) (c:AP):Nat->(List Int)->Int->ABd (List Int)
|0,_,_=>none
|n+1,b,a=>L1 d c (Aa d c n) b a
end C4
section
open C4
def C4 (c:AP) (d:Int):ABd (List Int):=
Aa d c BW [] 0
theorem NX {c:AP} {d:Int} {r:List Int} (h:C4 c d=some r):Says Tryz.prog 119 [.agg (F8 c),si d] (vO 1 eI r):=by refine kO mix Tryz.func119 (hn [(2,[8,14,22]),(5,[31,35])]) ?_;have l1:=λn1 n2 n3 n4:Nat=>A3 λn τ=>∃(b:List Int) (a:Int),(τ 1=si d/\τ 2=bA 4 (F8 c)/\τ 5=vO 1 eI b/\τ 6=si a)/\Aa d c n b a=some r;unfold C4 at h;exact walk
end
namespace Ea
def J3 (f:Bool):ABd Bool:=
some f
def J2 (b:AP) (a:AD):ABd Bool:=
if(b.AF.length:Int)==(a.AF.length:Int)then
if(b.Bn.length:Int)==(a.AK.length:Int)then
J3 ((b.AA.length:Int)==(a.AA.length:Int))
else
J3 false
else
J3 false
def J1 (L1:Int->ABd Bool) (c:Int) (e:Bool):ABd Bool:=
if e then
some false
else
L1 (BA (c+1))
def L1 (b:AP) (a:AD) (L1:Int->ABd Bool) (c:Int):ABd Bool:=
if decide (c<(a.Ai.length:Int))then
(gt a.Ai c).bind λd=>
if decide (d.Mutex<0)then
J1 L1 c true
else
J1 L1 c (decide (d.Mutex≥(a.AF.length:Int)))
else
J2 b a
def Aa (b:AP) (a:AD):Nat->Int->ABd Bool
|0,_=>none
|n+1,c=>L1 b a (Aa b a n) c
end Ea
section
open Ea
def Ea (a:AD) (b:AP):ABd Bool:=
Aa b a BW 0
theorem LO {a:AD} {b:AP} {r:Bool} (h:Ea a b=some r):Says Tryz.prog 100 [.agg (Aq a),.agg (F8 b)] (sb r):=by refine kO mix Tryz.func100 (hn [(2,[7,13,21,27,35,43,52]),(3,[32,40,49])]) ?_;have l1:=λn1 n2 n3 n4:Nat=>A3 λn τ=>∃(c:Int),(τ 2=bA 6 (Aq a)/\τ 3=bA 4 (F8 b)/\τ 5=si c)/\Aa b a n c=some r;unfold Ea at h;exact walk
end
namespace E6
def J1 (e:AM):ABd AM:=
some e
def L1 (a:AM) (L1:AM->Int->ABd AM) (b:AM) (c:Int):ABd AM:=
if decide (c<(a.Cd.length:Int))then
(gt a.Cd c).bind λd=>
if Ap (d.length) 8=true then
if Ap (b.Cd.length+1) 24=true then
L1 (AM.mk b.PC b.Ck (b.Cd++[d]) b.AE) (BA (c+1))
else none
else none
else
J1 b
def Aa (a:AM):Nat->AM->Int->ABd AM
|0,_,_=>none
|n+1,b,c=>L1 a (Aa a n) b c
end E6
section
open E6
def E6 (a:AM):ABd AM:=
if Ap (a.Ck.length) 8=true then
Aa a BW (AM.mk a.PC a.Ck [] a.AE) 0
else none
theorem Q3 {a r:AM} (h:E6 a=some r):Says Tryz.prog 242 [.agg (E0 a)] (.agg (B2 r)):=by refine kO mix Tryz.func242 (hn [(1,[5,7,10,15,24]),(3,[21,22,32,33])] (Z:=[(6,true,3,[(0,2,0)])])) ?_;have l1:=λn1 n2 n3 n4:Nat=>A3 λn τ=>∃(b:AM) (c:Int),(τ 1=bA 4 (E0 a)/\τ 2=bA 4 z9/\τ 3=bA 4 [si b.PC,vO 1 eI b.Ck,vO 1 NC b.Cd,si b.AE]/\τ 4=si c)/\Aa a n b c=some r;unfold E6 at h;exact walk
end
def f166c:IC:=(.seq (.T1 [⟨some ⟨2,[],[]⟩,.mv (.c (.own false 3 [])),none⟩])
(.seq (.seq (.Yu [.o ⟨some ⟨3,[],[]⟩,.cp (.t 0),none⟩,
.WL ⟨4,[],[]⟩ false (.t 3)])
(.cond (.t 4) (.seq (.T1 [⟨some ⟨2,[],[]⟩,.mv (.c (.own false 3 [])),none⟩])
.ret) .skip))
(.seq (.T1 [⟨some ⟨5,[],[]⟩,.Nk 3 [] [],none⟩,
⟨some ⟨6,[],[]⟩,.cp (.t 0),none⟩,
⟨some ⟨7,[],[]⟩,.app 3 24 (.t 5) (.t 6),none⟩,
⟨some ⟨2,[],[]⟩,.mv (.t 7),none⟩])
.ret)))
def f166g:Gi:=⟨[]⟩
def f166r:List RV:=[.tmp 2]
def f166:FI:=⟨f166c,f166g,f166r⟩
theorem chk166:M6 Tryz.prog Tryz.f166 f166=true:=by kernel_rfl
def FV (l:List AH):ABd (List AH):=if Ap l.length 24=true then some l else none
theorem Ip {l:List AH} {r:List AH} (h:FV l=some r):Says Tryz.prog 166 [vS 3 An l] (vO 3 An r):=by
  obtain⟨g,h⟩:=HU h;obtain rfl:=AAG h;refine Lr mix Tryz.func166 chk166 (AAO (by kernel_rfl)) rfl ?_;simp only[f166,f166c,f166g,f166r];simp +decide only[go_sem,g];intro b hb;cases b with
  |true=>have hl:l=[]:=(by simpa using hb rfl);subst hl;simp +decide only[go_sem,g]
  |false=>simp +decide only[go_sem,g]
namespace CA
def J3 (i:Bool):ABd Bool:=
some i
def J2 (a:AL) (e:Int):ABd Bool:=
if a.Start==e then
J3 (decide ((BA (e+(a.AE.length:Int)))≤400))
else
J3 false
def J1 (L1:Int->Int->ABd Bool) (c b d:Int) (f:Bool):ABd Bool:=
if f then
some false
else
L1 (BA (c+d)) (BA (b+1))
def L1 (a:AL) (L1:Int->Int->ABd Bool) (c b:Int):ABd Bool:=
if decide (b<(a.Init.Count.length:Int))then
(gt a.Init.Count b).bind λd=>
if decide (d<0)then
J1 L1 c b d true
else
J1 L1 c b d (decide (d>400))
else
J2 a c
def Aa (a:AL):Nat->Int->Int->ABd Bool
|0,_,_=>none
|n+1,c,b=>L1 a (Aa a n) c b
end CA
section
open CA
def CA (a:AL):ABd Bool:=
Aa a BW 0 0
theorem T0 {a:AL} {r:Bool} (h:CA a=some r):Says Tryz.prog 45 [.agg (B0 a)] (sb r):=by refine kO mix Tryz.func45 (hn [(1,[6,7,24,30])]) ?_;have l1:=λn1 n2 n3 n4:Nat=>A3 λn τ=>∃(c b:Int),(τ 1=bA 15 (B0 a)/\τ 3=si c/\τ 8=vS 1 eI a.Init.Count/\τ 9=si (a.Init.Count.length:Int)/\τ 10=si b)/\Aa a n c b=some r;unfold CA at h;exact walk
end
def f160c:IC:=(.seq (.T1 [⟨some ⟨2,[],[]⟩,.mv (.c (.own false 5 [])),none⟩])
(.seq (.seq (.Yu [.o ⟨some ⟨3,[],[]⟩,.cp (.t 0),none⟩,
.WL ⟨4,[],[]⟩ false (.t 3)])
(.cond (.t 4) (.seq (.T1 [⟨some ⟨2,[],[]⟩,.mv (.c (.own false 5 [])),none⟩])
.ret) .skip))
(.seq (.T1 [⟨some ⟨5,[],[]⟩,.Nk 5 [] [],none⟩,
⟨some ⟨6,[],[]⟩,.cp (.t 0),none⟩,
⟨some ⟨7,[],[]⟩,.app 5 48 (.t 5) (.t 6),none⟩,
⟨some ⟨2,[],[]⟩,.mv (.t 7),none⟩])
.ret)))
def f160g:Gi:=⟨[]⟩
def f160r:List RV:=[.tmp 2]
def f160:FI:=⟨f160c,f160g,f160r⟩
theorem chk160:M6 Tryz.prog Tryz.f160 f160=true:=by kernel_rfl
def T6 (l:List DR):ABd (List DR):=if Ap l.length 48=true then some l else none
theorem Zd {l:List DR} {r:List DR} (h:T6 l=some r):Says Tryz.prog 160 [vS 5 Gy l] (vO 5 Gy r):=by
  obtain⟨g,h⟩:=HU h;obtain rfl:=AAG h;refine Lr mix Tryz.func160 chk160 (AAO (by kernel_rfl)) rfl ?_;simp only[f160,f160c,f160g,f160r];simp +decide only[go_sem,g];intro b hb;cases b with
  |true=>have hl:l=[]:=(by simpa using hb rfl);subst hl;simp +decide only[go_sem,g]
  |false=>simp +decide only[go_sem,g]
def f161c:IC:=(.seq (.T1 [⟨some ⟨2,[],[]⟩,.mv (.c (.own false 2 [])),none⟩])
(.seq (.seq (.Yu [.o ⟨some ⟨3,[],[]⟩,.cp (.t 0),none⟩,
.WL ⟨4,[],[]⟩ false (.t 3)])
(.cond (.t 4) (.seq (.T1 [⟨some ⟨2,[],[]⟩,.mv (.c (.own false 2 [])),none⟩])
.ret) .skip))
(.seq (.T1 [⟨some ⟨5,[],[]⟩,.Nk 2 [] [],none⟩,
⟨some ⟨6,[],[]⟩,.cp (.t 0),none⟩,
⟨some ⟨7,[],[]⟩,.app 2 24 (.t 5) (.t 6),none⟩,
⟨some ⟨2,[],[]⟩,.mv (.t 7),none⟩])
.ret)))
def f161g:Gi:=⟨[]⟩
def f161r:List RV:=[.tmp 2]
def f161:FI:=⟨f161c,f161g,f161r⟩
theorem chk161:M6 Tryz.prog Tryz.f161 f161=true:=by kernel_rfl
def T8 (l:List I7):ABd (List I7):=if Ap l.length 24=true then some l else none
theorem Zf {l:List I7} {r:List I7} (h:T8 l=some r):Says Tryz.prog 161 [vS 2 Hy l] (vO 2 Hy r):=by
  obtain⟨g,h⟩:=HU h;obtain rfl:=AAG h;refine Lr mix Tryz.func161 chk161 (AAO (by kernel_rfl)) rfl ?_;simp only[f161,f161c,f161g,f161r];simp +decide only[go_sem,g];intro b hb;cases b with
  |true=>have hl:l=[]:=(by simpa using hb rfl);subst hl;simp +decide only[go_sem,g]
  |false=>simp +decide only[go_sem,g]
def f162c:IC:=(.seq (.T1 [⟨some ⟨2,[],[]⟩,.mv (.c (.own false 2 [])),none⟩])
(.seq (.seq (.Yu [.o ⟨some ⟨3,[],[]⟩,.cp (.t 0),none⟩,
.WL ⟨4,[],[]⟩ false (.t 3)])
(.cond (.t 4) (.seq (.T1 [⟨some ⟨2,[],[]⟩,.mv (.c (.own false 2 [])),none⟩])
.ret) .skip))
(.seq (.T1 [⟨some ⟨5,[],[]⟩,.Nk 2 [] [],none⟩,
⟨some ⟨6,[],[]⟩,.cp (.t 0),none⟩,
⟨some ⟨7,[],[]⟩,.app 2 24 (.t 5) (.t 6),none⟩,
⟨some ⟨2,[],[]⟩,.mv (.t 7),none⟩])
.ret)))
def f162g:Gi:=⟨[]⟩
def f162r:List RV:=[.tmp 2]
def f162:FI:=⟨f162c,f162g,f162r⟩
theorem chk162:M6 Tryz.prog Tryz.f162 f162=true:=by kernel_rfl
def T7 (l:List O3):ABd (List O3):=if Ap l.length 24=true then some l else none
theorem Ze {l:List O3} {r:List O3} (h:T7 l=some r):Says Tryz.prog 162 [vS 2 Hx l] (vO 2 Hx r):=by
  obtain⟨g,h⟩:=HU h;obtain rfl:=AAG h;refine Lr mix Tryz.func162 chk162 (AAO (by kernel_rfl)) rfl ?_;simp only[f162,f162c,f162g,f162r];simp +decide only[go_sem,g];intro b hb;cases b with
  |true=>have hl:l=[]:=(by simpa using hb rfl);subst hl;simp +decide only[go_sem,g]
  |false=>simp +decide only[go_sem,g]
def f164c:IC:=(.seq (.T1 [⟨some ⟨2,[],[]⟩,.mv (.c (.own false 3 [])),none⟩])
(.seq (.seq (.Yu [.o ⟨some ⟨3,[],[]⟩,.cp (.t 0),none⟩,
.WL ⟨4,[],[]⟩ false (.t 3)])
(.cond (.t 4) (.seq (.T1 [⟨some ⟨2,[],[]⟩,.mv (.c (.own false 3 [])),none⟩])
.ret) .skip))
(.seq (.T1 [⟨some ⟨5,[],[]⟩,.Nk 3 [] [],none⟩,
⟨some ⟨6,[],[]⟩,.cp (.t 0),none⟩,
⟨some ⟨7,[],[]⟩,.app 3 24 (.t 5) (.t 6),none⟩,
⟨some ⟨2,[],[]⟩,.mv (.t 7),none⟩])
.ret)))
def f164g:Gi:=⟨[]⟩
def f164r:List RV:=[.tmp 2]
def f164:FI:=⟨f164c,f164g,f164r⟩
theorem chk164:M6 Tryz.prog Tryz.f164 f164=true:=by kernel_rfl
def T9 (l:List Dk):ABd (List Dk):=if Ap l.length 24=true then some l else none
theorem Zg {l:List Dk} {r:List Dk} (h:T9 l=some r):Says Tryz.prog 164 [vS 3 Gb l] (vO 3 Gb r):=by
  obtain⟨g,h⟩:=HU h;obtain rfl:=AAG h;refine Lr mix Tryz.func164 chk164 (AAO (by kernel_rfl)) rfl ?_;simp only[f164,f164c,f164g,f164r];simp +decide only[go_sem,g];intro b hb;cases b with
  |true=>have hl:l=[]:=(by simpa using hb rfl);subst hl;simp +decide only[go_sem,g]
  |false=>simp +decide only[go_sem,g]
namespace E9
def J3 (i:Bool):ABd Bool:=
some i
def J2 (a:AL) (d:Int):ABd Bool:=
if a.Start==d then
J3 (decide ((BA (d+(a.AE.length:Int)))≤400))
else
J3 false
def J1 (L1:Int->Int->ABd Bool) (b c:Int) (a:AL) (f:Bool):ABd Bool:=
if f then
some false
else
(gt a.Init.Count b).bind λj=>
L1 (BA (c+j)) (BA (b+1))
def L1 (a:AL) (L1:Int->Int->ABd Bool) (c b:Int):ABd Bool:=
if decide (b<(a.Init.Count.length:Int))then
(gt a.Init.Count b).bind λe=>
if decide (e<0)then
J1 L1 b c a true
else
J1 L1 b c a (decide (e>400))
else
J2 a c
def Aa (a:AL):Nat->Int->Int->ABd Bool
|0,_,_=>none
|n+1,c,b=>L1 a (Aa a n) c b
end E9
section
open E9
def E9 (a:AL):ABd Bool:=
Aa a BW 0 0
theorem Vx {a:AL} {r:Bool} (h:E9 a=some r):Says Tryz.prog 52 [.agg (B0 a)] (sb r):=by refine kO mix Tryz.func52 (hn [(1,[6,7,13,14,21,22,30,31,37,43])]) ?_;have l1:=λn1 n2 n3 n4:Nat=>A3 λn τ=>∃(c b:Int),(τ 1=bA 15 (B0 a)/\τ 3=si c/\τ 4=si b)/\Aa a n c b=some r;unfold E9 at h;exact walk
end
namespace Gd
def J2 (f:AD):ABd AD:=
some f
def J1 (L1:AD->Int->ABd AD) (a:Int) (e:AD):ABd AD:=
L1 e (BA (a+1))
def L2 (L1:AD->Int->ABd AD) (a:Int) (L2:AD->Int->ABd AD) (b:AD) (c:Int):ABd AD:=
if decide (c<6)then
if Ap (b.BU.length+1) 24=true then
L2 (AD.mk b.Cells b.AF b.Ai b.AK b.AA (b.BU++[(Dk.mk a c (BA ((BA ((BA (10*a))+c))+1)))])) (BA (c+1))
else none
else
J1 L1 a b
def DF (L1:AD->Int->ABd AD) (a:Int):Nat->AD->Int->ABd AD
|0,_,_=>none
|n+1,b,c=>L2 L1 a (DF L1 a n) b c
def L1 (L1:AD->Int->ABd AD) (d:AD) (a:Int):ABd AD:=
if decide (a<4)then
DF L1 a BW d 0
else
J2 d
def Aa:Nat->AD->Int->ABd AD
|0,_,_=>none
|n+1,d,a=>L1 (Aa n) d a
end Gd
section
open Gd
def Gd:ABd AD:=
Aa BW (AD.mk [(DR.mk (⟨#[120]⟩:ABe) 0 0 false 0),(DR.mk (⟨#[121]⟩:ABe) 0 0 false 1),(DR.mk (⟨#[118]⟩:ABe) 0 0 true 0),(DR.mk (⟨#[113]⟩:ABe) 0 2 false 0),(DR.mk (⟨#[113]⟩:ABe) 1 2 false 0)] [(I7.mk (⟨#[109]⟩:ABe) false),(I7.mk (⟨#[110]⟩:ABe) false),(I7.mk (⟨#[114]⟩:ABe) true)] [(O3.mk (⟨#[99]⟩:ABe) 0)] [(⟨#[102]⟩:ABe)] [(⟨#[109,97,105,110]⟩:ABe),(⟨#[116,49]⟩:ABe),(⟨#[116,50]⟩:ABe),(⟨#[116,51]⟩:ABe)] []) 0
theorem Ya {r:AD} (h:Gd=some r):Says Tryz.prog 81 [] (.agg (K5 r)):=by refine kO mix Tryz.func81 (hn [(1,[19,20,29,30,41,43])]) ?_;have l1:=λn1 n2 n3 n4:Nat=>A3 λn τ=>∃(d:AD) (a:Int),(τ 0=bA 6 z8/\τ 1=bA 6 (K5 d)/\τ 21=si 4/\τ 22=si a)/\Aa n d a=some r;have l2:=λn1 n2 n3 n4:Nat=>A3 λn τ=>∃(a:Int) (b:AD) (c:Int),(τ 0=bA 6 z8/\τ 1=bA 6 (K5 b)/\τ 2=si a/\τ 3=si c/\τ 21=si 4/\τ 22=si a)/\DF (Aa n1) a n b c=some r;unfold Gd at h;exact walk
end
namespace FF
def J1 (i f:Int):ABd (Int×Int):=
some (i,BA (f+1))
def L1 (R100:BE->ABd (Int×Int)) (a:BE) (L1:Int->Int->Int->ABd (Int×Int)) (d b c:Int):ABd (Int×Int):=
if decide (c<(a.L.length:Int))then
(gt a.L c).bind λj=>
(R100 j).bind λe=>
L1 (BA (d+e.1)) (if e.2>b then e.2 else b) (BA (c+1))
else
J1 d b
def Aa (R100:BE->ABd (Int×Int)) (a:BE):Nat->Int->Int->Int->ABd (Int×Int)
|0,_,_,_=>none
|n+1,d,b,c=>L1 R100 a (Aa R100 a n) d b c
end FF
section
open FF
def FF (R100:BE->ABd (Int×Int)) (a:BE):ABd (Int×Int):=
Aa R100 a BW 1 0 0
theorem X7 {R100:BE->ABd (Int×Int)} (H100:∀{x0 r},R100 x0=some r->Says Tryz.prog 280 [.agg [si x0.Op,si x0.N,BZ x0.Name,vS 4 BH x0.L]] (.BQ [si r.1,si r.2])) {a:BE} {r:Int×Int} (h:FF R100 a=some r):Says Tryz.prog 280 [.agg [si a.Op,si a.N,BZ a.Name,vS 4 BH a.L]] (.BQ [si r.1,si r.2]):=by refine kO mix Tryz.func280 (hn [(1,[10,17])]) ?_;have a1:= @H100;have l1:=λn1 n2 n3 n4:Nat=>A3 λn τ=>∃(d b c:Int),(τ 1=bA 4 [si a.Op,si a.N,BZ a.Name,vS 4 BH a.L]/\τ 4=si d/\τ 5=si b/\τ 6=si c)/\Aa R100 a n d b c=some r;unfold FF at h;exact walk
end
def TR:Nat->(BE->ABd (Int×Int))
|0=>(λ_=>none)
|n+1=>FF ((TR n))
def Jw (n:Nat):BE->ABd (Int×Int):=(TR n)
theorem Vo (n:Nat):(∀{x0 r},(Jw n) x0=some r->Says Tryz.prog 280 [.agg [si x0.Op,si x0.N,BZ x0.Name,.sl false 4 (x0.L.map BH)]] (.BQ [si r.1,si r.2])):=by
  induction n with
  |zero=>exactλh=>ET h
  |succ n ih=>exactλh=>X7 ih h
theorem Vp {n:Nat}:∀{x0 r},(Jw n) x0=some r->Says Tryz.prog 280 [.agg [si x0.Op,si x0.N,BZ x0.Name,.sl false 4 (x0.L.map BH)]] (.BQ [si r.1,si r.2]):=(Vo n)
namespace EH
def J2 (f:AP):ABd AP:=
some f
def J1 (d:AP):ABd AP:=
if decide ((d.AA.length:Int)>0)then
(gt d.AA 0).bind λe=>
J2 (AP.mk d.AF d.Tx d.Bn (d.AA.set 0 (AH.mk 1 e.Dg e.Atomic)))
else
J2 d
def L1 (a:AD) (L1:AP->Int->ABd AP) (b:AP) (c:Int):ABd AP:=
if decide (c<(a.AF.length:Int))then
(gt b.AF c).bind λi=>
L1 (AP.mk (b.AF.set c.toNat (AW.mk (-1) i.Ak)) b.Tx b.Bn b.AA) (BA (c+1))
else
J1 b
def Aa (a:AD):Nat->AP->Int->ABd AP
|0,_,_=>none
|n+1,b,c=>L1 a (Aa a n) b c
end EH
section
open EH
def EH (a:AD):ABd AP:=
if 0≤(a.AF.length:Int)/\(a.AF.length:Int)≤(a.AF.length:Int)/\Ap a.AF.length 32=true then
if 0≤(a.AK.length:Int)/\(a.AK.length:Int)≤(a.AK.length:Int)/\Ap a.AK.length 1=true then
if 0≤(a.AA.length:Int)/\(a.AA.length:Int)≤(a.AA.length:Int)/\Ap a.AA.length 24=true then
Aa a BW (AP.mk (List.replicate a.AF.length (AW.mk 0 [])) (-1) (List.replicate a.AK.length false) (List.replicate a.AA.length (AH.mk 0 0 false))) 0
else none
else none
else none
theorem object_Start_ok {a:AD} {r:AP} (h:EH a=some r):Says Tryz.prog 159 [.agg (Aq a)] (.agg (Ht r)):=by refine kO mix Tryz.func159 (hn [(1,[5,9,13]),(3,[18,19,24,25,27,28,30,31,34,35,36,37,38])]) ?_;have l1:=λn1 n2 n3 n4:Nat=>A3 λn τ=>∃(b:AP) (c:Int),(τ 2=bA 4 z5/\τ 3=bA 4 (Ht b)/\τ 20=si (a.AF.length:Int)/\τ 21=si c)/\Aa a n b c=some r;unfold EH at h;exact walk
end
namespace Bv
def J1 (c:Bool):ABd Bool:=
some c
end Bv
section
open Bv
def Bv (b:Int) (a:AL):ABd Bool:=
if decide (b≥0)then
if decide (b<(a.Init.Count.length:Int))then
(gt a.Init.Count b).bind λd=>
J1 (decide (d≥1))
else
J1 false
else
J1 false
theorem Mz {b:Int} {a:AL} {r:Bool} (h:Bv b a=some r):Says Tryz.prog 95 [si b,.fp [vS 5 Gy a.World.Cells,vS 2 Hy a.World.AF,vS 2 Hx a.World.Ai,vS 1 eS a.World.AK,vS 1 eS a.World.AA,vS 3 Gb a.World.BU,si a.Start,vS 2 DS a.Init.Sync.AF,si a.Init.Sync.Tx,vS 1 eB a.Init.Sync.Bn,vS 3 An a.Init.Sync.AA,vS 1 eI a.Init.Cells,vS 1 eI a.Init.AK,vS 1 eI a.Init.Count,vS 7 B1 a.AE]] (sb r):=by refine kO mix Tryz.func95 hn ?_;unfold Bv at h;exact walk
end
namespace Ha
def J1:ABd Bool:=
some true
def L1 (a b:List Int) (L1:Int->ABd Bool) (c:Int):ABd Bool:=
if decide (c<(a.length:Int))then
(gt a c).bind λd=>
(gt b c).bind λe=>
if d != e then
some false
else
L1 (BA (c+1))
else
J1
def Aa (a b:List Int):Nat->Int->ABd Bool
|0,_=>none
|n+1,c=>L1 a b (Aa a b n) c
end Ha
section
open Ha
def Ha (a b:List Int):ABd Bool:=
if(a.length:Int) != (b.length:Int)then
some false
else
Aa a b BW 0
end
namespace Cs
def J1:ABd Int:=
some (-1)
def L1 (a:List Cq) (b:ABe) (L1:Int->ABd Int) (c:Int):ABd Int:=
if decide (c<(a.length:Int))then
(gt a c).bind λd=>
if d.Name.toList==b.toList then
some c
else
L1 (BA (c+1))
else
J1
def Aa (a:List Cq) (b:ABe):Nat->Int->ABd Int
|0,_=>none
|n+1,c=>L1 a b (Aa a b n) c
end Cs
section
open Cs
def Cs (a:List Cq) (b:ABe):ABd Int:=
Aa a b BW 0
theorem Jx {a:List Cq} {b:ABe} {r:Int} (h:Cs a b=some r):Says Tryz.prog 247 [vS 4 Ie a,BZ b] (si r):=by refine kO mix Tryz.func247 hn ?_;have l1:=λn1 n2 n3 n4:Nat=>A3 λn τ=>∃(c:Int),(τ 0=vS 4 Ie a/\τ 1=BZ b/\τ 5=si c)/\Aa a b n c=some r;unfold Cs at h;exact walk
end
namespace Bh
def J1:ABd Int:=
some (-1)
def L1 (b:ABe) (a:AD) (L1:Int->ABd Int) (c:Int):ABd Int:=
if decide (c<(a.Cells.length:Int))then
(gt a.Cells c).bind λd=>
if d.Name.toList==b.toList then
some c
else
L1 (BA (c+1))
else
J1
def Aa (b:ABe) (a:AD):Nat->Int->ABd Int
|0,_=>none
|n+1,c=>L1 b a (Aa b a n) c
end Bh
section
open Bh
def Bh (a:AD) (b:ABe):ABd Int:=
Aa b a BW 0
theorem OX {a:AD} {b:ABe} {r:Int} (h:Bh a b=some r):Says Tryz.prog 274 [.agg (Aq a),BZ b] (si r):=by refine kO mix Tryz.func274 (hn [(2,[7,13])]) ?_;have l1:=λn1 n2 n3 n4:Nat=>A3 λn τ=>∃(c:Int),(τ 1=BZ b/\τ 2=bA 6 (Aq a)/\τ 5=si c)/\Aa b a n c=some r;unfold Bh at h;exact walk
end
namespace Dn
def J1:ABd Bool:=
some false
def L1 (a:ABe) (L1:Int->ABd Bool) (b:Int):ABd Bool:=
if decide (b<22)then
if b<22 then
(gt Ld b).bind λc=>
if a.toList==c.toList then
some true
else
L1 (BA (b+1))
else none
else
J1
def Aa (a:ABe):Nat->Int->ABd Bool
|0,_=>none
|n+1,b=>L1 a (Aa a n) b
end Dn
section
open Dn
def Dn (a:ABe):ABd Bool:=
Aa a BW 0
theorem Rx {a:ABe} {r:Bool} (h:Dn a=some r):Says Tryz.prog 190 [BZ a] (sb r):=by refine kO mix Tryz.func190 (hn (E:=[(1,(.Yu [.gld ⟨5,[],[]⟩ 0 22,.o (iU 6 0)]))])) ?_;have l1:=λn1 n2 n3 n4:Nat=>A3 λn τ=>∃(b:Int),(τ 0=BZ a/\τ 5= .agg (Ld.map BZ)/\τ 6=si b)/\Aa a n b=some r;unfold Dn at h;exact walk
end
namespace BR
def J6 (a:AD) (q:List ABe):ABd ((List ABe)×Bool):=
if Ap (q.length+a.AK.length) 16=true then
if Ap ((q++a.AK).length+a.AA.length) 16=true then
some ((q++a.AK)++a.AA,true)
else none
else none
def L4 (a:AD) (L4:(List ABe)->Int->ABd ((List ABe)×Bool)) (l:List ABe) (i:Int):ABd ((List ABe)×Bool):=
if decide (i<(a.Ai.length:Int))then
(gt a.Ai i).bind λw=>
if Ap (l.length+1) 16=true then
L4 (l++[w.Name]) (BA (i+1))
else none
else
J6 a l
def L4r (a:AD):Nat->(List ABe)->Int->ABd ((List ABe)×Bool)
|0,_,_=>none
|n+1,l,i=>L4 a (L4r a n) l i
def J5 (a:AD) (t:List ABe):ABd ((List ABe)×Bool):=
L4r a BW t 0
def L3 (a:AD) (L3:(List ABe)->Int->ABd ((List ABe)×Bool)) (j:List ABe) (f:Int):ABd ((List ABe)×Bool):=
if decide (f<(a.AF.length:Int))then
(gt a.AF f).bind λv=>
if Ap (j.length+1) 16=true then
L3 (j++[v.Name]) (BA (f+1))
else none
else
J5 a j
def Gg (a:AD):Nat->(List ABe)->Int->ABd ((List ABe)×Bool)
|0,_,_=>none
|n+1,j,f=>L3 a (Gg a n) j f
def J4 (a:AD) (s:List ABe):ABd ((List ABe)×Bool):=
Gg a BW s 0
def J3 (L1:(List ABe)->Int->ABd ((List ABe)×Bool)) (c:Int) (d:List ABe) (b:DR):ABd ((List ABe)×Bool):=
L1 (d++[b.Name]) (BA (c+b.Bq))
def J2 (L2:Int->ABd ((List ABe)×Bool)) (e:Int) (u:Bool):ABd ((List ABe)×Bool):=
if u then
some ([],false)
else
L2 (BA (e+1))
def L2 (L1:(List ABe)->Int->ABd ((List ABe)×Bool)) (c:Int) (d:List ABe) (a:AD) (b:DR) (L2:Int->ABd ((List ABe)×Bool)) (e:Int):ABd ((List ABe)×Bool):=
if decide (e<b.Bq)then
(gt a.Cells (BA (c+e))).bind λo=>
if o.Index != e then
J2 L2 e true
else
if !(o.Name.toList==b.Name.toList)then
J2 L2 e true
else
if o.Bq != b.Bq then
J2 L2 e true
else
if o.Init != b.Init then
J2 L2 e true
else
J2 L2 e o.Gz
else
J3 L1 c d b
def DF (L1:(List ABe)->Int->ABd ((List ABe)×Bool)) (c:Int) (d:List ABe) (a:AD) (b:DR):Nat->Int->ABd ((List ABe)×Bool)
|0,_=>none
|n+1,e=>L2 L1 c d a b (DF L1 c d a b n) e
def J1 (L1:(List ABe)->Int->ABd ((List ABe)×Bool)) (c:Int) (d:List ABe) (a:AD) (b:DR) (p:Bool):ABd ((List ABe)×Bool):=
if p then
some ([],false)
else
DF L1 c d a b BW 0
def L1 (a:AD) (L1:(List ABe)->Int->ABd ((List ABe)×Bool)) (d:List ABe) (c:Int):ABd ((List ABe)×Bool):=
if decide (c<(a.Cells.length:Int))then
(gt a.Cells c).bind λb=>
if Ap (d.length+1) 16=true then
if b.Bq==0 then
if b.Index != 0 then
some ([],false)
else
L1 (d++[b.Name]) (BA (c+1))
else
if decide (b.Bq<1)then
J1 L1 c d a b true
else
if decide (b.Bq>4)then
J1 L1 c d a b true
else
J1 L1 c d a b (decide (b.Bq>(BA ((a.Cells.length:Int)-c))))
else none
else
J4 a d
def Aa (a:AD):Nat->(List ABe)->Int->ABd ((List ABe)×Bool)
|0,_,_=>none
|n+1,d,c=>L1 a (Aa a n) d c
end BR
section
open BR
def BR (a:AD):ABd ((List ABe)×Bool):=
Aa a BW [] 0
theorem YF {a:AD} {r:(List ABe)×Bool} (h:BR a=some r):Says Tryz.prog 97 [.agg (Aq a)] (.BQ [vO 1 eS r.1,sb r.2]):=by refine kO mix Tryz.func97 (hn [(1,[12,16,45,58,99,106,115,122,131,135]),(4,[21,105,121,130,134]),(6,[22,26,29,34,38,43,53,72,79,86,95]),(8,[65,70,77,84,91])] [(15,1)]) ?_;have l4:=λn1 n2 n3 n4:Nat=>A3 λn τ=>∃(l:List ABe) (i:Int),(τ 1=bA 6 (Aq a)/\τ 4=vO 1 eS l/\τ 10=si i)/\L4r a n l i=some r;have l3:=λn1 n2 n3 n4:Nat=>A3 λn τ=>∃(j:List ABe) (f:Int),(τ 1=bA 6 (Aq a)/\τ 4=vO 1 eS j/\τ 9=si f)/\Gg a n j f=some r;have l1:=λn1 n2 n3 n4:Nat=>A3 λn τ=>∃(d:List ABe) (c:Int),(τ 1=bA 6 (Aq a)/\τ 4=vO 1 eS d/\τ 5=si c)/\Aa a n d c=some r;have l2:=λn1 n2 n3 n4:Nat=>A3 λn τ=>∃(c:Int) (d:List ABe) (b:DR) (e:Int),(τ 1=bA 6 (Aq a)/\τ 4= .own false 1 ((d++[b.Name]).map eS)/\τ 5=si c/\τ 6=bA 5 (Gy b)/\τ 7=si e)/\DF (Aa a n1) c d a b n e=some r;have c1:=λn1 n2 n3 n4:Nat=>Bs 1 λτ=>∃(c:Int) (d:List ABe) (b:DR) (p:Bool),(τ 1=bA 6 (Aq a)/\τ 4= .own false 1 ((d++[b.Name]).map eS)/\τ 5=si c/\τ 6=bA 5 (Gy b)/\τ 51=sb p)/\J1 (Aa a n1) c d a b p=some r;unfold BR at h;exact walk
end
end Go.Abs
