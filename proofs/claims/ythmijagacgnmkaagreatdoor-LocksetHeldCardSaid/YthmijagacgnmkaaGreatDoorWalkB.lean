/- Typed programs of Go functions, and that the functions do what these say. -/
import Derived.Test.YthmijagacgnmkaaGreatDoorBaseA
set_option linter.unusedSimpArgs false
set_option linter.unusedVariables false
namespace Go.Abs
open Go.Proofs
set_option maxRecDepth 1000000
set_option maxHeartbeats 4000000
namespace Cp
def J1 (e:Int):ABr Int:=
some e
def L1 (R100:(List AP)->ABr Int) (a:List AP) (L1:Int->Int->ABr Int) (c b:Int):ABr Int:=
if decide (b<(a.length:Int))then
(gt a b).bind λd=>
(R100 d.Body).bind λf=>
(R100 d.Else).bind λi=>
L1 (Ay ((Ay (c+f))+i)) (Ay (b+1))
else
J1 c
def AZ (R100:(List AP)->ABr Int) (a:List AP):Nat->Int->Int->ABr Int
|0,_,_=>none
|n+1,c,b=>L1 R100 a (AZ R100 a n) c b
end Cp
section
open Cp
def Cp (R100:(List AP)->ABr Int) (a:List AP):ABr Int:=
AZ R100 a BU (a.length:Int) 0
theorem Xq {R100:(List AP)->ABr Int} (H100:∀{x0 r},R100 x0=some r->Says Tryz.prog 216 [vS 11 A4 x0] (si r)) {a:List AP} {r:Int} (h:Cp R100 a=some r):Says Tryz.prog 216 [vS 11 A4 a] (si r):=by refine kO mix Tryz.func216 hn ?_;have a1:= @H100;have l1:=λn1 n2 n3 n4:Nat=>A0 λn τ=>∃(c b:Int),(τ 0=vS 11 A4 a/\τ 3=si c/\τ 4=si b)/\AZ R100 a n c b=some r;unfold Cp at h;exact walk
end
def TO:Nat->((List AP)->ABr Int)
|0=>(λ_=>none)
|n+1=>Cp ((TO n))
def Gc (n:Nat):(List AP)->ABr Int:=(TO n)
theorem Va (n:Nat):(∀{x0 r},(Gc n) x0=some r->Says Tryz.prog 216 [.sl false 11 (x0.map A4)] (si r)):=by
  induction n with
  |zero=>exactλh=>EO h
  |succ n ih=>exactλh=>Xq ih h
theorem Vb {n:Nat}:∀{x0 r},(Gc n) x0=some r->Says Tryz.prog 216 [.sl false 11 (x0.map A4)] (si r):=(Va n)
namespace ES
def J3 (c:Int) (a:List Int) (b:Int) (f:Bool):ABr (List Int):=
if f then
some a
else
if 0≤c/\c.toNat≤a.length then
if Af ((a.take c.toNat).length) 8=true then
if Af ((a.take c.toNat).length+1) 8=true then
if 0≤c/\c.toNat≤a.length then
if Af (((a.take c.toNat)++[b]).length+((a.drop c.toNat).take (a.length-c.toNat)).length) 8=true then
some (((a.take c.toNat)++[b])++((a.drop c.toNat).take (a.length-c.toNat)))
else none
else none
else none
else none
else none
def J2 (a:List Int) (b c:Int):ABr (List Int):=
if decide (c<(a.length:Int))then
(gt a c).bind λj=>
J3 c a b (j==b)
else
J3 c a b false
def J1 (L1:Int->ABr (List Int)) (d:Int) (a:List Int) (b:Int) (e:Bool):ABr (List Int):=
if e then
L1 (Ay (d+1))
else
J2 a b d
def L1 (a:List Int) (b:Int) (L1:Int->ABr (List Int)) (d:Int):ABr (List Int):=
if decide (d<(a.length:Int))then
(gt a d).bind λi=>
J1 L1 d a b (decide (i<b))
else
J1 L1 d a b false
def AZ (a:List Int) (b:Int):Nat->Int->ABr (List Int)
|0,_=>none
|n+1,d=>L1 a b (AZ a b n) d
end ES
section
open ES
def ES (a:List Int) (b:Int):ABr (List Int):=
AZ a b BU 0
theorem cT {a:List Int} {b:Int} {r:List Int} (h:ES a b=some r):Says Tryz.prog 170 [vO 1 eI a,si b] (vO 1 eI r):=by refine kO mix Tryz.func170 (hn [(0,[8,12,14,22,26,28,33,35,44]),(6,[39,43])]) ?_;have l1:=λn1 n2 n3 n4:Nat=>A0 λn τ=>∃(d:Int),(τ 0=vO 1 eI a/\τ 1=si b/\τ 5=si d)/\AZ a b n d=some r;unfold ES at h;exact walk
end
namespace BP
def J2 (a:BE):ABr (Bool×BE):=
some (false,a)
def J1 (L1:Int->ABr (Bool×BE)) (b:Int) (a:BE) (i:Bool):ABr (Bool×BE):=
if i then
some (true,a)
else
L1 (Ay (b+1))
def L1 (d e:Int) (c:ABs) (a:BE) (L1:Int->ABr (Bool×BE)) (b:Int):ABr (Bool×BE):=
if decide (b<(a.GH.length:Int))then
(gt a.GH b).bind λf=>
if f.Op==d then
if c.toList==(⟨#[]⟩:ABs).toList then
J1 L1 b a true
else
J1 L1 b a (f.Name.toList==c.toList)
else
if f.Op==e then
if c.toList==(⟨#[]⟩:ABs).toList then
J1 L1 b a true
else
J1 L1 b a (f.Name.toList==c.toList)
else
J1 L1 b a false
else
J2 a
def AZ (d e:Int) (c:ABs) (a:BE):Nat->Int->ABr (Bool×BE)
|0,_=>none
|n+1,b=>L1 d e c a (AZ d e c a n) b
end BP
section
open BP
def BP (a:BE) (d e:Int) (c:ABs):ABr (Bool×BE):=
AZ d e c a BU 0
theorem Pc {a:BE} {d e:Int} {c:ABs} {r:Bool×BE} (h:BP a d e c=some r):A8 Tryz.prog 256 [bA 6 (HI a),si d,si e,BR c] (sb r.1) [bA 6 (HI r.2),.dead,.dead,.dead]:=by refine kL mix Tryz.func256 (hn [(0,[12,13,14,15,20,21,22,23,25,26]),(10,[27,32,41])]) ?_;have l1:=λn1 n2 n3 n4:Nat=>A0 λn τ=>∃(b:Int),(τ 0=bA 6 (HI a)/\τ 1=si d/\τ 2=si e/\τ 3=BR c/\τ 9=si b)/\AZ d e c a n b=some r;unfold BP at h;exact walk
end
namespace CP
def J3:ABr Bool:=
some true
def J2 (L1:Int->Int->Int->ABr Bool) (b:Int) (d:Dp) (j f:Int):ABr Bool:=
if d.Stmt != f then
some false
else
L1 j (Ay (f+1)) (Ay (b+1))
def J1 (L1:Int->Int->Int->ABr Bool) (e b c:Int) (d:Dp) (i:Bool):ABr Bool:=
if i then
some false
else
if decide (d.Thread>c)then
J2 L1 b d d.Thread 0
else
J2 L1 b d c e
def L1 (a:AB) (L1:Int->Int->Int->ABr Bool) (c e b:Int):ABr Bool:=
if decide (b<(a.BF.length:Int))then
(gt a.BF b).bind λd=>
if decide (d.Thread<c)then
J1 L1 e b c d true
else
J1 L1 e b c d (decide (d.Thread≥(a.AA.length:Int)))
else
J3
def AZ (a:AB):Nat->Int->Int->Int->ABr Bool
|0,_,_,_=>none
|n+1,c,e,b=>L1 a (AZ a n) c e b
end CP
section
open CP
def CP (a:AB):ABr Bool:=
AZ a BU 0 0 0
theorem Oc {a:AB} {r:Bool} (h:CP a=some r):Says Tryz.prog 123 [.agg (Am a)] (sb r):=by refine kO mix Tryz.func123 (hn [(1,[7,21]),(6,[14,19,26,30,32])]) ?_;have l1:=λn1 n2 n3 n4:Nat=>A0 λn τ=>∃(c e b:Int),(τ 1=bA 6 (Am a)/\τ 3=si c/\τ 4=si e/\τ 8=vS 3 HP a.BF/\τ 9=si (a.BF.length:Int)/\τ 10=si b)/\AZ a n c e b=some r;unfold CP at h;exact walk
end
namespace AW
def J3 (a:Aa) (d:Bool):ABr (List Int):=
if d then
some [a.B]
else
if a.Op==9 then
some [a.B,a.C]
else
some []
def J2 (a:Aa) (b:Bool):ABr (List Int):=
if b then
some [a.A,a.B]
else
if a.Op==4 then
some [a.A,a.B,a.C]
else
if a.Op==7 then
some [a.A,a.C]
else
if a.Op==8 then
J3 a (a.Op==8)
else
J3 a (a.Op==26)
def J1 (a:Aa) (c:Bool):ABr (List Int):=
if c then
some [a.A]
else
if a.Op==2 then
J2 a (a.Op==2)
else
J2 a (a.Op==3)
end AW
section
open AW
def AW (a:Aa):ABr (List Int):=
if a.Op==1 then
J1 a (a.Op==1)
else
if a.Op==6 then
J1 a (a.Op==6)
else
if a.Op==10 then
J1 a (a.Op==10)
else
J1 a (a.Op==27)
theorem JR {a:Aa} {r:List Int} (h:AW a=some r):Says Tryz.prog 185 [.agg (EC a)] (vO 1 eI r):=by refine kO mix Tryz.func185 (hn [(1,[3,10,16,18,23,25,27,32,34,40,45,47])] [(3,1),(8,2)]) ?_;have c2:=λn1 n2 n3 n4:Nat=>Bo 2 λτ=>∃(b:Bool),(τ 1=bA 6 (EC a)/\τ 4=si a.Op/\τ 13=sb b)/\J2 a b=some r;have c1:=λn1 n2 n3 n4:Nat=>Bo 1 λτ=>∃(c:Bool),(τ 1=bA 6 (EC a)/\τ 4=si a.Op/\τ 5=sb c)/\J1 a c=some r;unfold AW at h;exact walk
end
namespace Cu
def J3 (i:List Int):ABr (List Int):=
some i
def J2 (L1:(List Int)->Int->ABr (List Int)) (a:Int) (f:List Int):ABr (List Int):=
L1 f (Ay (a+1))
def J1 (L1:(List Int)->Int->ABr (List Int)) (a:Int) (b:List Int) (j:Bool):ABr (List Int):=
if j then
if Af (b.length+1) 8=true then
J2 L1 a (b++[a])
else none
else
J2 L1 a b
def L1 (d:Int) (c:AN) (L1:(List Int)->Int->ABr (List Int)) (b:List Int) (a:Int):ABr (List Int):=
if decide (a<(c.AA.length:Int))then
(gt c.AA a).bind λe=>
if e.Status==3 then
J1 L1 a b (e.Es==d)
else
J1 L1 a b false
else
J3 b
def AZ (d:Int) (c:AN):Nat->(List Int)->Int->ABr (List Int)
|0,_,_=>none
|n+1,b,a=>L1 d c (AZ d c n) b a
end Cu
section
open Cu
def Cu (c:AN) (d:Int):ABr (List Int):=
AZ d c BU [] 0
theorem NT {c:AN} {d:Int} {r:List Int} (h:Cu c d=some r):Says Tryz.prog 130 [.agg (EH c),si d] (vO 1 eI r):=by refine kO mix Tryz.func130 (hn [(2,[8,14,22]),(5,[31,35])]) ?_;have l1:=λn1 n2 n3 n4:Nat=>A0 λn τ=>∃(b:List Int) (a:Int),(τ 1=si d/\τ 2=bA 4 (EH c)/\τ 5=vO 1 eI b/\τ 6=si a)/\AZ d c n b a=some r;unfold Cu at h;exact walk
end
namespace EN
def J3 (f:Bool):ABr Bool:=
some f
def J2 (b:AN) (a:AB):ABr Bool:=
if(b.AF.length:Int)==(a.AF.length:Int)then
if(b.B6.length:Int)==(a.AK.length:Int)then
J3 ((b.AA.length:Int)==(a.AA.length:Int))
else
J3 false
else
J3 false
def J1 (L1:Int->ABr Bool) (c:Int) (e:Bool):ABr Bool:=
if e then
some false
else
L1 (Ay (c+1))
def L1 (b:AN) (a:AB) (L1:Int->ABr Bool) (c:Int):ABr Bool:=
if decide (c<(a.Ah.length:Int))then
(gt a.Ah c).bind λd=>
if decide (d.Mutex<0)then
J1 L1 c true
else
J1 L1 c (decide (d.Mutex≥(a.AF.length:Int)))
else
J2 b a
def AZ (b:AN) (a:AB):Nat->Int->ABr Bool
|0,_=>none
|n+1,c=>L1 b a (AZ b a n) c
end EN
section
open EN
def EN (a:AB) (b:AN):ABr Bool:=
AZ b a BU 0
theorem Kk {a:AB} {b:AN} {r:Bool} (h:EN a b=some r):Says Tryz.prog 127 [.agg (Am a),.agg (EH b)] (sb r):=by refine kO mix Tryz.func127 (hn [(2,[7,13,21,27,35,43,52]),(3,[32,40,49])]) ?_;have l1:=λn1 n2 n3 n4:Nat=>A0 λn τ=>∃(c:Int),(τ 2=bA 6 (Am a)/\τ 3=bA 4 (EH b)/\τ 5=si c)/\AZ b a n c=some r;unfold EN at h;exact walk
end
namespace E6
def J1 (e:AL):ABr AL:=
some e
def L1 (a:AL) (L1:AL->Int->ABr AL) (b:AL) (c:Int):ABr AL:=
if decide (c<(a.CS.length:Int))then
(gt a.CS c).bind λd=>
if Af (d.length) 8=true then
if Af (b.CS.length+1) 24=true then
L1 (AL.mk b.PC b.CY (b.CS++[d]) b.AH) (Ay (c+1))
else none
else none
else
J1 b
def AZ (a:AL):Nat->AL->Int->ABr AL
|0,_,_=>none
|n+1,b,c=>L1 a (AZ a n) b c
end E6
section
open E6
def E6 (a:AL):ABr AL:=
if Af (a.CY.length) 8=true then
AZ a BU (AL.mk a.PC a.CY [] a.AH) 0
else none
theorem Qw {a r:AL} (h:E6 a=some r):Says Tryz.prog 233 [.agg (E0 a)] (.agg (Br r)):=by refine kO mix Tryz.func233 (hn [(1,[5,7,10,15,24]),(3,[21,22,32,33])] (Z:=[(6,true,3,[(0,2,0)])])) ?_;have l1:=λn1 n2 n3 n4:Nat=>A0 λn τ=>∃(b:AL) (c:Int),(τ 1=bA 4 (E0 a)/\τ 2=bA 4 z9/\τ 3=bA 4 [si b.PC,vO 1 eI b.CY,vO 1 NC b.CS,si b.AH]/\τ 4=si c)/\AZ a n b c=some r;unfold E6 at h;exact walk
end
def f151c:IC:=(.seq (.ZJ [⟨some ⟨2,[],[]⟩,.mv (.c (.own false 3 [])),none⟩])
(.seq (.seq (.nV [.o ⟨some ⟨3,[],[]⟩,.cp (.t 0),none⟩,
.cL ⟨4,[],[]⟩ false (.t 3)])
(.cond (.t 4) (.seq (.ZJ [⟨some ⟨2,[],[]⟩,.mv (.c (.own false 3 [])),none⟩])
.ret) .skip))
(.seq (.ZJ [⟨some ⟨5,[],[]⟩,.OD 3 [] [],none⟩,
⟨some ⟨6,[],[]⟩,.cp (.t 0),none⟩,
⟨some ⟨7,[],[]⟩,.app 3 24 (.t 5) (.t 6),none⟩,
⟨some ⟨2,[],[]⟩,.mv (.t 7),none⟩])
.ret)))
def f151g:Gi:=⟨[]⟩
def f151r:List RV:=[.tmp 2]
def f151:FI:=⟨f151c,f151g,f151r⟩
theorem chk151:OY Tryz.prog Tryz.f151 f151=true:=by kernel_rfl
def Gf (l:List AG):ABr (List AG):=if Af l.length 24=true then some l else none
theorem Ke {l:List AG} {r:List AG} (h:Gf l=some r):Says Tryz.prog 151 [vS 3 BN l] (vO 3 BN r):=by
  obtain⟨g,h⟩:=I9 h;obtain rfl:=AAU h;refine QJ mix Tryz.func151 chk151 (AAc (by kernel_rfl)) rfl ?_;simp only[f151,f151c,f151g,f151r];simp +decide only[go_sem,g];intro b hb;cases b with
  |true=>have hl:l=[]:=(by simpa using hb rfl);subst hl;simp +decide only[go_sem,g]
  |false=>simp +decide only[go_sem,g]
namespace LR
def J3 (i:Bool):ABr Bool:=
some i
def J2 (a:BQ) (d:Int):ABr Bool:=
if a.Start==d then
J3 (decide ((Ay (d+(a.AH.length:Int)))≤400))
else
J3 false
def J1 (L1:Int->Int->ABr Bool) (b c:Int) (a:BQ) (f:Bool):ABr Bool:=
if f then
some false
else
(gt a.Init.Count b).bind λj=>
L1 (Ay (c+j)) (Ay (b+1))
def L1 (a:BQ) (L1:Int->Int->ABr Bool) (c b:Int):ABr Bool:=
if decide (b<(a.Init.Count.length:Int))then
(gt a.Init.Count b).bind λe=>
if decide (e<0)then
J1 L1 b c a true
else
J1 L1 b c a (decide (e>400))
else
J2 a c
def AZ (a:BQ):Nat->Int->Int->ABr Bool
|0,_,_=>none
|n+1,c,b=>L1 a (AZ a n) c b
end LR
section
open LR
def LR (a:BQ):ABr Bool:=
AZ a BU 0 0
end
namespace D9
def J2 (e:List Int):ABr (List Int):=
some e
def J1 (L1:(List Int)->Int->ABr (List Int)) (b:Int) (d:List Int):ABr (List Int):=
L1 d (Ay (b+1))
def L1 (a:AD) (L1:(List Int)->Int->ABr (List Int)) (c:List Int) (b:Int):ABr (List Int):=
if decide (b<(a.Sync.AA.length:Int))then
(gt a.Sync.AA b).bind λf=>
if f.Status==3 then
if Af (c.length+1) 8=true then
J1 L1 b (c++[b])
else none
else
J1 L1 b c
else
J2 c
def AZ (a:AD):Nat->(List Int)->Int->ABr (List Int)
|0,_,_=>none
|n+1,c,b=>L1 a (AZ a n) c b
end D9
section
open D9
def D9 (a:AD):ABr (List Int):=
AZ a BU [] 0
theorem UW {a:AD} {r:List Int} (h:D9 a=some r):Says Tryz.prog 206 [.agg (BH a)] (vO 1 eI r):=by refine kO mix Tryz.func206 (hn [(1,[6,7]),(3,[18,23]),(5,[15])]) ?_;have l1:=λn1 n2 n3 n4:Nat=>A0 λn τ=>∃(c:List Int) (b:Int),(τ 3=vO 1 eI c/\τ 8=vS 3 BN a.Sync.AA/\τ 9=si (a.Sync.AA.length:Int)/\τ 10=si b)/\AZ a n c b=some r;unfold D9 at h;exact walk
end
def f150c:IC:=(.seq (.ZJ [⟨some ⟨2,[],[]⟩,.mv (.c (.own false 1 [])),none⟩])
(.seq (.seq (.nV [.o ⟨some ⟨3,[],[]⟩,.cp (.t 0),none⟩,
.cL ⟨4,[],[]⟩ false (.t 3)])
(.cond (.t 4) (.seq (.ZJ [⟨some ⟨2,[],[]⟩,.mv (.c (.own false 1 [])),none⟩])
.ret) .skip))
(.seq (.ZJ [⟨some ⟨5,[],[]⟩,.OD 1 [] [],none⟩,
⟨some ⟨6,[],[]⟩,.cp (.t 0),none⟩,
⟨some ⟨7,[],[]⟩,.app 1 1 (.t 5) (.t 6),none⟩,
⟨some ⟨2,[],[]⟩,.mv (.t 7),none⟩])
.ret)))
def f150g:Gi:=⟨[]⟩
def f150r:List RV:=[.tmp 2]
def f150:FI:=⟨f150c,f150g,f150r⟩
theorem chk150:OY Tryz.prog Tryz.f150 f150=true:=by kernel_rfl
def KD (l:List Bool):ABr (List Bool):=if Af l.length 1=true then some l else none
theorem Pp {l:List Bool} {r:List Bool} (h:KD l=some r):Says Tryz.prog 150 [vS 1 eB l] (vO 1 eB r):=by
  obtain⟨g,h⟩:=I9 h;obtain rfl:=AAU h;refine QJ mix Tryz.func150 chk150 (AAc (by kernel_rfl)) rfl ?_;simp only[f150,f150c,f150g,f150r];simp +decide only[go_sem,g];intro b hb;cases b with
  |true=>have hl:l=[]:=(by simpa using hb rfl);subst hl;simp +decide only[go_sem,g]
  |false=>simp +decide only[go_sem,g]
def f59c:IC:=(.seq (.ZJ [⟨some ⟨2,[],[]⟩,.mv (.c (.own false 1 [])),none⟩])
(.seq (.seq (.nV [.o ⟨some ⟨3,[],[]⟩,.cp (.t 0),none⟩,
.cL ⟨4,[],[]⟩ false (.t 3)])
(.cond (.t 4) (.seq (.ZJ [⟨some ⟨2,[],[]⟩,.mv (.c (.own false 1 [])),none⟩])
.ret) .skip))
(.seq (.ZJ [⟨some ⟨5,[],[]⟩,.OD 1 [] [],none⟩,
⟨some ⟨6,[],[]⟩,.cp (.t 0),none⟩,
⟨some ⟨7,[],[]⟩,.app 1 8 (.t 5) (.t 6),none⟩,
⟨some ⟨2,[],[]⟩,.mv (.t 7),none⟩])
.ret)))
def f59g:Gi:=⟨[]⟩
def f59r:List RV:=[.tmp 2]
def f59:FI:=⟨f59c,f59g,f59r⟩
theorem chk59:OY Tryz.prog Tryz.f59 f59=true:=by kernel_rfl
def Hs (l:List Int):ABr (List Int):=if Af l.length 8=true then some l else none
theorem Ou {l:List Int} {r:List Int} (h:Hs l=some r):Says Tryz.prog 59 [vS 1 eI l] (vO 1 eI r):=by
  obtain⟨g,h⟩:=I9 h;obtain rfl:=AAU h;refine QJ mix Tryz.func59 chk59 (AAc (by kernel_rfl)) rfl ?_;simp only[f59,f59c,f59g,f59r];simp +decide only[go_sem,g];intro b hb;cases b with
  |true=>have hl:l=[]:=(by simpa using hb rfl);subst hl;simp +decide only[go_sem,g]
  |false=>simp +decide only[go_sem,g]
namespace GO
def J1 (e:AN):ABr AN:=
some e
def L1 (a:AN) (L1:AN->Int->ABr AN) (b:AN) (c:Int):ABr AN:=
if decide (c<(a.AF.length:Int))then
(gt a.AF c).bind λd=>
if Af (d.Ax.length) 8=true then
if Af (b.AF.length+1) 32=true then
L1 (AN.mk (b.AF++[d]) b.Tx b.B6 b.AA) (Ay (c+1))
else none
else none
else
J1 b
def AZ (a:AN):Nat->AN->Int->ABr AN
|0,_,_=>none
|n+1,b,c=>L1 a (AZ a n) b c
end GO
section
open GO
def GO (a:AN):ABr AN:=
if Af (a.B6.length) 1=true then
if Af (a.AA.length) 24=true then
AZ a BU (AN.mk [] a.Tx a.B6 a.AA) 0
else none
else none
theorem Qx {a r:AN} (h:GO a=some r):Says Tryz.prog 131 [.agg (EH a)] (.agg (Hm r)):=by refine kO mix Tryz.func131 (hn [(1,[5,8,12,17,25,32]),(3,[23,24,42,43])]) ?_;have l1:=λn1 n2 n3 n4:Nat=>A0 λn τ=>∃(b:AN) (c:Int),(τ 1=bA 4 (EH a)/\τ 2=bA 4 z4/\τ 3=bA 4 (Hm b)/\τ 4=si c)/\AZ a n b c=some r;unfold GO at h;exact walk
end
def f60c:IC:=(.seq (.ZJ [⟨some ⟨2,[],[]⟩,.mv (.c (.own false 1 [])),none⟩])
(.seq (.seq (.nV [.o ⟨some ⟨3,[],[]⟩,.cp (.t 0),none⟩,
.cL ⟨4,[],[]⟩ false (.t 3)])
(.cond (.t 4) (.seq (.ZJ [⟨some ⟨2,[],[]⟩,.mv (.c (.own false 1 [])),none⟩])
.ret) .skip))
(.seq (.ZJ [⟨some ⟨5,[],[]⟩,.OD 1 [] [],none⟩,
⟨some ⟨6,[],[]⟩,.cp (.t 0),none⟩,
⟨some ⟨7,[],[]⟩,.app 1 8 (.t 5) (.t 6),none⟩,
⟨some ⟨2,[],[]⟩,.mv (.t 7),none⟩])
.ret)))
def f60g:Gi:=⟨[]⟩
def f60r:List RV:=[.tmp 2]
def f60:FI:=⟨f60c,f60g,f60r⟩
theorem chk60:OY Tryz.prog Tryz.f60 f60=true:=by kernel_rfl
def slices_Clone_int (l:List Int):ABr (List Int):=if Af l.length 8=true then some l else none
theorem I2 {l:List Int} {r:List Int} (h:slices_Clone_int l=some r):Says Tryz.prog 60 [vS 1 eI l] (vO 1 eI r):=by
  obtain⟨g,h⟩:=I9 h;obtain rfl:=AAU h;refine QJ mix Tryz.func60 chk60 (AAc (by kernel_rfl)) rfl ?_;simp only[f60,f60c,f60g,f60r];simp +decide only[go_sem,g];intro b hb;cases b with
  |true=>have hl:l=[]:=(by simpa using hb rfl);subst hl;simp +decide only[go_sem,g]
  |false=>simp +decide only[go_sem,g]
namespace D7
def J2 (i:List Int):ABr (List Int):=
some i
def J1 (L1:(List Int)->Int->ABr (List Int)) (b:Int) (f:List Int):ABr (List Int):=
L1 f (Ay (b+1))
def L1 (a:List Int) (c:Int) (L1:(List Int)->Int->ABr (List Int)) (d:List Int) (b:Int):ABr (List Int):=
if decide (b<(a.length:Int))then
(gt a b).bind λe=>
if e != c then
if Af (d.length+1) 8=true then
J1 L1 b (d++[e])
else none
else
J1 L1 b d
else
J2 d
def AZ (a:List Int) (c:Int):Nat->(List Int)->Int->ABr (List Int)
|0,_,_=>none
|n+1,d,b=>L1 a c (AZ a c n) d b
end D7
section
open D7
def D7 (a:List Int) (c:Int):ABr (List Int):=
AZ a c BU [] 0
theorem UR {a:List Int} {c:Int} {r:List Int} (h:D7 a c=some r):Says Tryz.prog 133 [vS 1 eI a,si c] (vO 1 eI r):=by refine kO mix Tryz.func133 (hn [(5,[19,26])]) ?_;have l1:=λn1 n2 n3 n4:Nat=>A0 λn τ=>∃(d:List Int) (b:Int),(τ 0=vS 1 eI a/\τ 1=si c/\τ 5=vO 1 eI d/\τ 6=si b)/\AZ a c n d b=some r;unfold D7 at h;exact walk
end
def Js:ABr (List ABs):=
some [(⟨#[118,97,114]⟩:ABs),(⟨#[118,111,108,97,116,105,108,101]⟩:ABs),(⟨#[109,117,116,101,120]⟩:ABs),(⟨#[114,119,108,111,99,107]⟩:ABs),(⟨#[99,111,110,100]⟩:ABs),(⟨#[102,117,116,117,114,101]⟩:ABs),(⟨#[116,104,114,101,97,100]⟩:ABs),(⟨#[105,102]⟩:ABs),(⟨#[101,108,115,101]⟩:ABs),(⟨#[119,104,105,108,101]⟩:ABs),(⟨#[108,111,99,107]⟩:ABs),(⟨#[114,101,97,100]⟩:ABs),(⟨#[119,114,105,116,101]⟩:ABs),(⟨#[116,114,97,110,115,97,99,116,105,111,110]⟩:ABs),(⟨#[97,116,111,109,105,99]⟩:ABs),(⟨#[119,97,105,116]⟩:ABs),(⟨#[110,111,116,105,102,121]⟩:ABs),(⟨#[110,111,116,105,102,121,97,108,108]⟩:ABs),(⟨#[115,112,97,119,110]⟩:ABs),(⟨#[106,111,105,110]⟩:ABs),(⟨#[115,101,116]⟩:ABs),(⟨#[103,101,116]⟩:ABs)]
theorem TL {r:List ABs} (h:Js=some r):Says Tryz.prog 203 [] (vO 1 eS r):=by refine kO mix Tryz.func203 hn ?_;unfold Js at h;exact walk
namespace Dh
def J2:ABr Bool:=
some true
def J1 (L1:Int->ABr Bool) (a:Int) (e:Bool):ABr Bool:=
if e then
some false
else
L1 (Ay (a+1))
def L1 (c:Int) (b:List Int) (L1:Int->ABr Bool) (a:Int):ABr Bool:=
if decide (a<(b.length:Int))then
(gt b a).bind λd=>
if decide (d<1)then
J1 L1 a true
else
if decide (d≥c)then
J1 L1 a true
else
if decide (a>0)then
(gt b (Ay (a-1))).bind λf=>
J1 L1 a (decide (d≤f))
else
J1 L1 a false
else
J2
def AZ (c:Int) (b:List Int):Nat->Int->ABr Bool
|0,_=>none
|n+1,a=>L1 c b (AZ c b n) a
end Dh
section
open Dh
def Dh (b:List Int) (c:Int):ABr Bool:=
AZ c b BU 0
theorem UT {b:List Int} {c:Int} {r:Bool} (h:Dh b c=some r):Says Tryz.prog 68 [vS 1 eI b,si c] (sb r):=by refine kO mix Tryz.func68 hn ?_;have l1:=λn1 n2 n3 n4:Nat=>A0 λn τ=>∃(a:Int),(τ 0=vS 1 eI b/\τ 1=si c/\τ 5=si a)/\AZ c b n a=some r;unfold Dh at h;exact walk
end
namespace I5
def J2:ABr Bool:=
some true
def J1 (L1:Int->ABr Bool) (b:Int) (c:Bool):ABr Bool:=
if c then
some false
else
L1 (Ay (b+1))
def L1 (a:AD) (L1:Int->ABr Bool) (b:Int):ABr Bool:=
if decide (b<(a.Sync.B6.length:Int))then
(gt a.Sync.B6 b).bind λd=>
if !d then
(gt a.AK b).bind λe=>
J1 L1 b (e != 0)
else
J1 L1 b false
else
J2
def AZ (a:AD):Nat->Int->ABr Bool
|0,_=>none
|n+1,b=>L1 a (AZ a n) b
end I5
section
open I5
def I5 (a:AD):ABr Bool:=
AZ a BU 0
end
namespace EZ
def J1 (e:List Cv):ABr (List Cv):=
some e
def L1 (a:List Int) (L1:(List Cv)->Int->ABr (List Cv)) (c:List Cv) (b:Int):ABr (List Cv):=
if decide (b<(a.length:Int))then
(gt a b).bind λd=>
if Af (c.length+1) 16=true then
L1 (c++[(Cv.mk ((Ay d).tmod 4) (Ay (((Ay ((Ay d).tdiv 4)).tmod 5)-1)))]) (Ay (b+1))
else none
else
J1 c
def AZ (a:List Int):Nat->(List Cv)->Int->ABr (List Cv)
|0,_,_=>none
|n+1,c,b=>L1 a (AZ a n) c b
end EZ
section
open EZ
def EZ (a:List Int):ABr (List Cv):=
AZ a BU [] 0
theorem VM {a:List Int} {r:List Cv} (h:EZ a=some r):Says Tryz.prog 108 [vS 1 Yf a] (vO 2 JG r):=by refine kO mix Tryz.func108 (hn [(3,[11,29])]) ?_;have l1:=λn1 n2 n3 n4:Nat=>A0 λn τ=>∃(c:List Cv) (b:Int),(τ 0=vS 1 Yf a/\τ 3=vO 2 JG c/\τ 4=si b)/\AZ a n c b=some r;unfold EZ at h;exact walk
end
namespace CG
def J1 (a:A6):ABr (Int×A6):=
some ((-1),a)
def L1 (a:A6) (b:ABs) (L1:Int->ABr (Int×A6)) (c:Int):ABr (Int×A6):=
if decide (c<(a.w.Ah.length:Int))then
(gt a.w.Ah c).bind λd=>
if d.Name.toList==b.toList then
some (c,a)
else
L1 (Ay (c+1))
else
J1 a
def AZ (a:A6) (b:ABs):Nat->Int->ABr (Int×A6)
|0,_=>none
|n+1,c=>L1 a b (AZ a b n) c
end CG
section
open CG
def CG (a:A6) (b:ABs):ABr (Int×A6):=
AZ a b BU 0
theorem TV {a:A6} {b:ABs} {r:Int×A6} (h:CG a b=some r):A8 Tryz.prog 243 [bA 10 (EJ a),BR b] (si r.1) [bA 10 (EJ r.2),.dead]:=by refine kL mix Tryz.func243 (hn [(0,[7,8,9,10,11,16,17,18,19,20,22,23])]) ?_;have l1:=λn1 n2 n3 n4:Nat=>A0 λn τ=>∃(c:Int),(τ 0=bA 10 (EJ a)/\τ 1=BR b/\τ 5=si c)/\AZ a b n c=some r;unfold CG at h;exact walk
end
namespace QG
def J2:ABr Int:=
some (-1)
def J1 (L1:Int->Int->ABr Int) (a f:Int):ABr Int:=
L1 f (Ay (a+1))
def L1 (c:Int) (b:BQ) (L1:Int->Int->ABr Int) (d a:Int):ABr Int:=
if decide (a<(b.AH.length:Int))then
(gt b.AH a).bind λi=>
if i.Thread==c then
if d==0 then
some a
else
J1 L1 a (Ay (d-1))
else
J1 L1 a d
else
J2
def AZ (c:Int) (b:BQ):Nat->Int->Int->ABr Int
|0,_,_=>none
|n+1,d,a=>L1 c b (AZ c b n) d a
end QG
section
open QG
def QG (b:BQ) (c e:Int):ABr Int:=
AZ c b BU e 0
end
namespace FK
def J1:ABr Bool:=
some true
def L1 (a b:List Int) (L1:Int->ABr Bool) (c:Int):ABr Bool:=
if decide (c<(a.length:Int))then
(gt a c).bind λd=>
(gt b c).bind λe=>
if d != e then
some false
else
L1 (Ay (c+1))
else
J1
def AZ (a b:List Int):Nat->Int->ABr Bool
|0,_=>none
|n+1,c=>L1 a b (AZ a b n) c
end FK
section
open FK
def FK (a b:List Int):ABr Bool:=
if(a.length:Int) != (b.length:Int)then
some false
else
AZ a b BU 0
theorem Rj {a b:List Int} {r:Bool} (h:FK a b=some r):Says Tryz.prog 72 [vS 1 eI a,vS 1 eI b] (sb r):=by refine kO mix Tryz.func72 hn ?_;have l1:=λn1 n2 n3 n4:Nat=>A0 λn τ=>∃(c:Int),(τ 0=vS 1 eI a/\τ 1=vS 1 eI b/\τ 5=si c)/\AZ a b n c=some r;unfold FK at h;exact walk
end
namespace GD
def J1:ABr Bool:=
some true
def L1 (a b:List Int) (L1:Int->ABr Bool) (c:Int):ABr Bool:=
if decide (c<(a.length:Int))then
(gt a c).bind λd=>
(gt b c).bind λe=>
if d != e then
some false
else
L1 (Ay (c+1))
else
J1
def AZ (a b:List Int):Nat->Int->ABr Bool
|0,_=>none
|n+1,c=>L1 a b (AZ a b n) c
end GD
section
open GD
def GD (a b:List Int):ABr Bool:=
if(a.length:Int) != (b.length:Int)then
some false
else
AZ a b BU 0
theorem Lv {a b:List Int} {r:Bool} (h:GD a b=some r):Says Tryz.prog 30 [vS 1 eI a,vS 1 eI b] (sb r):=by refine kO mix Tryz.func30 hn ?_;have l1:=λn1 n2 n3 n4:Nat=>A0 λn τ=>∃(c:Int),(τ 0=vS 1 eI a/\τ 1=vS 1 eI b/\τ 12=si (a.length:Int)/\τ 13=si c)/\AZ a b n c=some r;unfold GD at h;exact walk
end
namespace F8
def J1:ABr Bool:=
some true
def L1 (a b:List Int) (L1:Int->ABr Bool) (c:Int):ABr Bool:=
if decide (c<(a.length:Int))then
(gt a c).bind λd=>
(gt b c).bind λe=>
if d != e then
some false
else
L1 (Ay (c+1))
else
J1
def AZ (a b:List Int):Nat->Int->ABr Bool
|0,_=>none
|n+1,c=>L1 a b (AZ a b n) c
end F8
section
open F8
def F8 (a b:List Int):ABr Bool:=
if(a.length:Int) != (b.length:Int)then
some false
else
AZ a b BU 0
theorem Mf {a b:List Int} {r:Bool} (h:F8 a b=some r):Says Tryz.prog 73 [vS 1 eI a,vS 1 eI b] (sb r):=by refine kO mix Tryz.func73 hn ?_;have l1:=λn1 n2 n3 n4:Nat=>A0 λn τ=>∃(c:Int),(τ 0=vS 1 eI a/\τ 1=vS 1 eI b/\τ 5=si c)/\AZ a b n c=some r;unfold F8 at h;exact walk
end
namespace Cg
def J1:ABr Int:=
some (-1)
def L1 (a:List Cd) (b:ABs) (L1:Int->ABr Int) (c:Int):ABr Int:=
if decide (c<(a.length:Int))then
(gt a c).bind λd=>
if d.Name.toList==b.toList then
some c
else
L1 (Ay (c+1))
else
J1
def AZ (a:List Cd) (b:ABs):Nat->Int->ABr Int
|0,_=>none
|n+1,c=>L1 a b (AZ a b n) c
end Cg
section
open Cg
def Cg (a:List Cd) (b:ABs):ABr Int:=
AZ a b BU 0
theorem Jv {a:List Cd} {b:ABs} {r:Int} (h:Cg a b=some r):Says Tryz.prog 238 [vS 4 Ie a,BR b] (si r):=by refine kO mix Tryz.func238 hn ?_;have l1:=λn1 n2 n3 n4:Nat=>A0 λn τ=>∃(c:Int),(τ 0=vS 4 Ie a/\τ 1=BR b/\τ 5=si c)/\AZ a b n c=some r;unfold Cg at h;exact walk
end
namespace Bb
def J1:ABr Int:=
some (-1)
def L1 (b:ABs) (a:AB) (L1:Int->ABr Int) (c:Int):ABr Int:=
if decide (c<(a.Cells.length:Int))then
(gt a.Cells c).bind λd=>
if d.Name.toList==b.toList then
some c
else
L1 (Ay (c+1))
else
J1
def AZ (b:ABs) (a:AB):Nat->Int->ABr Int
|0,_=>none
|n+1,c=>L1 b a (AZ b a n) c
end Bb
section
open Bb
def Bb (a:AB) (b:ABs):ABr Int:=
AZ b a BU 0
theorem OP {a:AB} {b:ABs} {r:Int} (h:Bb a b=some r):Says Tryz.prog 261 [.agg (Am a),BR b] (si r):=by refine kO mix Tryz.func261 (hn [(2,[7,13])]) ?_;have l1:=λn1 n2 n3 n4:Nat=>A0 λn τ=>∃(c:Int),(τ 1=BR b/\τ 2=bA 6 (Am a)/\τ 5=si c)/\AZ b a n c=some r;unfold Bb at h;exact walk
end
namespace Df
def J1:ABr Bool:=
some false
def L1 (a:ABs) (L1:Int->ABr Bool) (b:Int):ABr Bool:=
if decide (b<22)then
if b<22 then
(gt LD b).bind λc=>
if a.toList==c.toList then
some true
else
L1 (Ay (b+1))
else none
else
J1
def AZ (a:ABs):Nat->Int->ABr Bool
|0,_=>none
|n+1,b=>L1 a (AZ a n) b
end Df
section
open Df
def Df (a:ABs):ABr Bool:=
AZ a BU 0
theorem Ro {a:ABs} {r:Bool} (h:Df a=some r):Says Tryz.prog 202 [BR a] (sb r):=by refine kO mix Tryz.func202 (hn (E:=[(1,(.nV [.gld ⟨5,[],[]⟩ 0 22,.o (iU 6 0)]))])) ?_;have l1:=λn1 n2 n3 n4:Nat=>A0 λn τ=>∃(b:Int),(τ 0=BR a/\τ 5= .agg (LD.map BR)/\τ 6=si b)/\AZ a n b=some r;unfold Df at h;exact walk
end
namespace Cj
def J1:ABr Int:=
some (-1)
def L1 (a:List ET) (b:ABs) (L1:Int->ABr Int) (c:Int):ABr Int:=
if decide (c<(a.length:Int))then
(gt a c).bind λd=>
if d.Name.toList==b.toList then
some c
else
L1 (Ay (c+1))
else
J1
def AZ (a:List ET) (b:ABs):Nat->Int->ABr Int
|0,_=>none
|n+1,c=>L1 a b (AZ a b n) c
end Cj
section
open Cj
def Cj (a:List ET) (b:ABs):ABr Int:=
AZ a b BU 0
theorem JJ {a:List ET} {b:ABs} {r:Int} (h:Cj a b=some r):Says Tryz.prog 237 [vS 6 Jm a,BR b] (si r):=by refine kO mix Tryz.func237 hn ?_;have l1:=λn1 n2 n3 n4:Nat=>A0 λn τ=>∃(c:Int),(τ 0=vS 6 Jm a/\τ 1=BR b/\τ 5=si c)/\AZ a b n c=some r;unfold Cj at h;exact walk
end
namespace Dn
def J1:ABr Int:=
some (-1)
def L1 (a:List KE) (b:ABs) (L1:Int->ABr Int) (c:Int):ABr Int:=
if decide (c<(a.length:Int))then
(gt a c).bind λd=>
if d.Name.toList==b.toList then
some c
else
L1 (Ay (c+1))
else
J1
def AZ (a:List KE) (b:ABs):Nat->Int->ABr Int
|0,_=>none
|n+1,c=>L1 a b (AZ a b n) c
end Dn
section
open Dn
def Dn (a:List KE) (b:ABs):ABr Int:=
AZ a b BU 0
theorem OS {a:List KE} {b:ABs} {r:Int} (h:Dn a b=some r):Says Tryz.prog 218 [vS 2 Je a,BR b] (si r):=by refine kO mix Tryz.func218 hn ?_;have l1:=λn1 n2 n3 n4:Nat=>A0 λn τ=>∃(c:Int),(τ 0=vS 2 Je a/\τ 1=BR b/\τ 5=si c)/\AZ a b n c=some r;unfold Dn at h;exact walk
end
namespace CF
def J1:ABr Int:=
some (-1)
def L1 (a:List ABs) (b:ABs) (L1:Int->ABr Int) (c:Int):ABr Int:=
if decide (c<(a.length:Int))then
(gt a c).bind λd=>
if d.toList==b.toList then
some c
else
L1 (Ay (c+1))
else
J1
def AZ (a:List ABs) (b:ABs):Nat->Int->ABr Int
|0,_=>none
|n+1,c=>L1 a b (AZ a b n) c
end CF
section
open CF
def CF (a:List ABs) (b:ABs):ABr Int:=
AZ a b BU 0
theorem He {a:List ABs} {b:ABs} {r:Int} (h:CF a b=some r):Says Tryz.prog 126 [vS 1 eS a,BR b] (si r):=by refine kO mix Tryz.func126 hn ?_;have l1:=λn1 n2 n3 n4:Nat=>A0 λn τ=>∃(c:Int),(τ 0=vS 1 eS a/\τ 1=BR b/\τ 5=si c)/\AZ a b n c=some r;unfold CF at h;exact walk
end
namespace IF
def J1:ABr Bool:=
some false
def L1 (a:List Int) (b:Int) (L1:Int->ABr Bool) (c:Int):ABr Bool:=
if decide (c<(a.length:Int))then
(gt a c).bind λd=>
if d==b then
some true
else
L1 (Ay (c+1))
else
J1
def AZ (a:List Int) (b:Int):Nat->Int->ABr Bool
|0,_=>none
|n+1,c=>L1 a b (AZ a b n) c
end IF
section
open IF
def IF (a:List Int) (b:Int):ABr Bool:=
AZ a b BU 0
theorem Tb {a:List Int} {b:Int} {r:Bool} (h:IF a b=some r):Says Tryz.prog 33 [vS 1 eI a,si b] (sb r):=by refine kO mix Tryz.func33 hn ?_;have l1:=λn1 n2 n3 n4:Nat=>A0 λn τ=>∃(c:Int),(τ 1=si b/\τ 7=vS 1 eI a/\τ 8=si (a.length:Int)/\τ 9=si c)/\AZ a b n c=some r;unfold IF at h;exact walk
end
namespace Fm
def J1:ABr Int:=
some (-1)
def L1 (a:List Int) (b:Int) (L1:Int->ABr Int) (c:Int):ABr Int:=
if decide (c<(a.length:Int))then
(gt a c).bind λd=>
if b==d then
some c
else
L1 (Ay (c+1))
else
J1
def AZ (a:List Int) (b:Int):Nat->Int->ABr Int
|0,_=>none
|n+1,c=>L1 a b (AZ a b n) c
end Fm
section
open Fm
def Fm (a:List Int) (b:Int):ABr Int:=
AZ a b BU 0
theorem Vq {a:List Int} {b r:Int} (h:Fm a b=some r):Says Tryz.prog 190 [vS 1 eI a,si b] (si r):=by refine kO mix Tryz.func190 hn ?_;have l1:=λn1 n2 n3 n4:Nat=>A0 λn τ=>∃(c:Int),(τ 0=vS 1 eI a/\τ 1=si b/\τ 7=si (a.length:Int)/\τ 8=si c)/\AZ a b n c=some r;unfold Fm at h;exact walk
end
namespace DP
def J2 (d:Bool):ABr Bool:=
some d
def J1 (a:AE) (b:AB) (c:Bool):ABr Bool:=
if c then
some (a.Site==(-1))
else
if decide (a.Site≥0)then
if decide (a.Site<(b.BF.length:Int))then
(gt b.BF a.Site).bind λe=>
J2 (e.Thread==a.Thread)
else
J2 false
else
J2 false
end DP
section
open DP
def DP (b:AB) (a:AE):ABr Bool:=
if a.Kind==1 then
J1 a b true
else
J1 a b (a.Kind==2)
theorem Pv {b:AB} {a:AE} {r:Bool} (h:DP b a=some r):Says Tryz.prog 55 [.agg (Am b),.agg (Bi a)] (sb r):=by refine kO mix Tryz.func55 (hn [(2,[22,28]),(3,[5,9,13,16,20,30,35])]) ?_;unfold DP at h;exact walk
end
namespace D1
def J3 (d:Bool):ABr Int:=
if d then
some 2
else
some (-1)
def J2 (a:Int) (c:Bool):ABr Int:=
if c then
some 1
else
if decide (a≥6)then
J3 (decide (a≤18))
else
J3 false
def J1 (a:Int) (b:Bool):ABr Int:=
if b then
some 0
else
if decide (a≥3)then
J2 a (decide (a≤5))
else
J2 a false
end D1
section
open D1
def D1 (a:Int):ABr Int:=
if a==1 then
J1 a true
else
J1 a (a==2)
theorem TN {a r:Int} (h:D1 a=some r):Says Tryz.prog 268 [si a] (si r):=by refine kO mix Tryz.func268 (hn (Q:=[(2,1)])) ?_;have c1:=λn1 n2 n3 n4:Nat=>Bo 1 λτ=>∃(b:Bool),(τ 0=si a/\τ 3=sb b)/\J1 a b=some r;unfold D1 at h;exact walk
end
namespace GC
def J1:ABr Bool:=
some false
def L1 (a:List Int) (b:Int) (L1:Int->ABr Bool) (c:Int):ABr Bool:=
if decide (c<(a.length:Int))then
(gt a c).bind λd=>
if d==b then
some true
else
L1 (Ay (c+1))
else
J1
def AZ (a:List Int) (b:Int):Nat->Int->ABr Bool
|0,_=>none
|n+1,c=>L1 a b (AZ a b n) c
end GC
section
open GC
def GC (a:List Int) (b:Int):ABr Bool:=
AZ a b BU 0
theorem LQ {a:List Int} {b:Int} {r:Bool} (h:GC a b=some r):Says Tryz.prog 100 [vS 1 eI a,si b] (sb r):=by refine kO mix Tryz.func100 hn ?_;have l1:=λn1 n2 n3 n4:Nat=>A0 λn τ=>∃(c:Int),(τ 0=vS 1 eI a/\τ 1=si b/\τ 5=si c)/\AZ a b n c=some r;unfold GC at h;exact walk
end
namespace Ak
def J1 (b:Int) (a:Ab) (c:Bool):ABr (Int×Ab):=
if c then
some (0,a)
else
(gt a.L (Ay ((Ay (a.At+1))-1))).bind λd=>
if¬b=0 then
some ((Ay d).tmod b,(Ab.mk a.L (Ay (a.At+1))))
else none
end Ak
section
open Ak
def Ak (a:Ab) (b:Int):ABr (Int×Ab):=
if decide (a.At≥(a.L.length:Int))then
J1 b a true
else
J1 b a (decide (b<1))
theorem DO {a:Ab} {b:Int} {r:Int×Ab} (h:Ak a b=some r):A8 Tryz.prog 104 [bA 2 (Gz a),si b] (si r.1) [bA 2 (Gz r.2),.dead]:=by refine kL mix Tryz.func104 (hn [(0,[5,6,7,9,10,11,12,19,20,21,24,25,26,27,28,29,30,31,32,35])]) ?_;unfold Ak at h;exact walk
end
def Eg:ABr (List ET):=
some [(ET.mk 1 0 (⟨#[120]⟩:ABs) 0 0 (⟨#[]⟩:ABs)),(ET.mk 1 0 (⟨#[121]⟩:ABs) 0 1 (⟨#[]⟩:ABs)),(ET.mk 2 0 (⟨#[118]⟩:ABs) 0 0 (⟨#[]⟩:ABs)),(ET.mk 1 0 (⟨#[113]⟩:ABs) 2 0 (⟨#[]⟩:ABs)),(ET.mk 3 0 (⟨#[109]⟩:ABs) 0 0 (⟨#[]⟩:ABs)),(ET.mk 3 0 (⟨#[110]⟩:ABs) 0 0 (⟨#[]⟩:ABs)),(ET.mk 4 0 (⟨#[114]⟩:ABs) 0 0 (⟨#[]⟩:ABs)),(ET.mk 5 0 (⟨#[99]⟩:ABs) 0 0 (⟨#[109]⟩:ABs)),(ET.mk 6 0 (⟨#[102]⟩:ABs) 0 0 (⟨#[]⟩:ABs))]
theorem Qt {r:List ET} (h:Eg=some r):Says Tryz.prog 186 [] (vO 6 Jm r):=by refine kO mix Tryz.func186 hn ?_;unfold Eg at h;exact walk
def A3 (a:A6) (b:Aa):ABr A6:=
if Af (a.out.length+1) 48=true then
some (A6.mk a.w a.locals (a.out++[(Aa.mk b.Op b.A b.B b.C b.N a.site)]) a.site a.next)
else none
theorem Gn {a:A6} {b:Aa} {r:A6} (h:A3 a b=some r):A8 Tryz.prog 184 [bA 10 (EJ a),.agg (EC b)] (.BI []) [bA 10 (EJ r),.dead]:=by refine kL mix Tryz.func184 (hn [(0,[4,5,6,10,11,12,13,17,18]),(3,[8])] (E:=[(2,(.dS [(0,0,8,9)] [i0 9 .fl,i1 10 0 (.cp (.t 0)),i1 11 0 (.Hx (.t 10)),Np 12 0 7 11,Zu 13 0 12,iA 14 6 3,i0 15 (.OD 6 [z20] [(0,.t 14)]),i0 16 (.app 6 48 (.t 13) (.t 15)),i1 17 0 (.Hx (.t 0)),Np 18 0 7 17,iS 1 18 16]))])) ?_;unfold A3 at h;exact walk
namespace Hc
def J1 (b:Bool):ABr Bool:=
some b
end Hc
section
open Hc
def Hc (a:A7):ABr Bool:=
if a.Op==0 then
if a.N==0 then
if a.Name.toList==(⟨#[]⟩:ABs).toList then
J1 ((a.L.length:Int)==0)
else
J1 false
else
J1 false
else
J1 false
theorem Xp {a:A7} {r:Bool} (h:Hc a=some r):Says Tryz.prog 264 [.agg [si a.Op,si a.N,BR a.Name,vS 4 A9 a.L]] (sb r):=by refine kO mix Tryz.func264 (hn [(1,[3,7,12,17])]) ?_;unfold Hc at h;exact walk
end
namespace Fj
def J1 (b:Bool):ABr Bool:=
some b
end Fj
section
open Fj
def Fj (a:Int):ABr Bool:=
if decide (a≥97)then
if decide (a≤122)then
J1 true
else
if decide (a≥65)then
J1 (decide (a≤90))
else
J1 false
else
if decide (a≥65)then
J1 (decide (a≤90))
else
J1 false
theorem ON {a:Int} {r:Bool} (h:Fj a=some r):Says Tryz.prog 167 [.sc (.int .u8 a)] (sb r):=by refine kO mix Tryz.func167 hn ?_;unfold Fj at h;exact walk
end
end Go.Abs
