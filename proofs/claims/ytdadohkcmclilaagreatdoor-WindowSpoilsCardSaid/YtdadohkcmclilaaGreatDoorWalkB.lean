/- Typed programs of Go functions, and that the functions do what these say. -/
import Derived.Test.YtdadohkcmclilaaGreatDoorBaseA
import Derived.Shelf.Slices.SearchI
set_option linter.unusedSimpArgs false
set_option linter.unusedVariables false
namespace Go.Abs
open Go.Proofs
set_option maxRecDepth 1000000
set_option maxHeartbeats 4000000
namespace Cz
def J3 (i:List Int):ABh (List Int):=
some i
def J2 (L1:(List Int)->Int->ABh (List Int)) (a:Int) (f:List Int):ABh (List Int):=
L1 f (Aq (a+1))
def J1 (L1:(List Int)->Int->ABh (List Int)) (a:Int) (b:List Int) (j:Bool):ABh (List Int):=
if j then
if Ap (b.length+1) 8=true then
J2 L1 a (b++[a])
else none
else
J2 L1 a b
def L1 (d:Int) (c:AQ) (L1:(List Int)->Int->ABh (List Int)) (b:List Int) (a:Int):ABh (List Int):=
if decide (a<(c.AA.length:Int))then
(gt c.AA a).bind λe=>
if e.Status==3 then
J1 L1 a b (e.DC==d)
else
J1 L1 a b false
else
J3 b
def AZ (d:Int) (c:AQ):Nat->(List Int)->Int->ABh (List Int)
|0,_,_=>none
|n+1,b,a=>L1 d c (AZ d c n) b a
end Cz
section
open Cz
def Cz (c:AQ) (d:Int):ABh (List Int):=
AZ d c Bg [] 0
theorem Mw {c:AQ} {d:Int} {r:List Int} (h:Cz c d=some r):Says Tryz.prog 140 [.agg (FK c),si d] (vO 1 eI r):=by refine kO mix Tryz.func140 (hn [(2,[8,14,22]),(5,[31,35])]) ?_;have l1:=λn1 n2 n3 n4:Nat=>A7 λn τ=>∃(b:List Int) (a:Int),(τ 1=si d/\τ 2=bA 4 (FK c)/\τ 5=vO 1 eI b/\τ 6=si a)/\AZ d c n b a=some r;unfold Cz at h;exact walk
end
namespace Ee
def J3 (f:Bool):ABh Bool:=
some f
def J2 (b:AQ) (a:AD):ABh Bool:=
if(b.AG.length:Int)==(a.AG.length:Int)then
if(b.B4.length:Int)==(a.AH.length:Int)then
J3 ((b.AA.length:Int)==(a.AA.length:Int))
else
J3 false
else
J3 false
def J1 (L1:Int->ABh Bool) (c:Int) (e:Bool):ABh Bool:=
if e then
some false
else
L1 (Aq (c+1))
def L1 (b:AQ) (a:AD) (L1:Int->ABh Bool) (c:Int):ABh Bool:=
if decide (c<(a.Af.length:Int))then
(gt a.Af c).bind λd=>
if decide (d.Mutex<0)then
J1 L1 c true
else
J1 L1 c (decide (d.Mutex≥(a.AG.length:Int)))
else
J2 b a
def AZ (b:AQ) (a:AD):Nat->Int->ABh Bool
|0,_=>none
|n+1,c=>L1 b a (AZ b a n) c
end Ee
section
open Ee
def Ee (a:AD) (b:AQ):ABh Bool:=
AZ b a Bg 0
theorem MR {a:AD} {b:AQ} {r:Bool} (h:Ee a b=some r):Says Tryz.prog 96 [.agg (Az a),.agg (FK b)] (sb r):=by refine kO mix Tryz.func96 (hn [(2,[7,13,21,27,35,43,52]),(3,[32,40,49])]) ?_;have l1:=λn1 n2 n3 n4:Nat=>A7 λn τ=>∃(c:Int),(τ 2=bA 6 (Az a)/\τ 3=bA 4 (FK b)/\τ 5=si c)/\AZ b a n c=some r;unfold Ee at h;exact walk
end
namespace DG
def J1 (e:AM):ABh AM:=
some e
def L1 (a:AM) (L1:AM->Int->ABh AM) (b:AM) (c:Int):ABh AM:=
if decide (c<(a.CA.length:Int))then
(gt a.CA c).bind λd=>
if Ap (d.length) 8=true then
if Ap (b.CA.length+1) 24=true then
L1 (AM.mk b.PC b.B5 (b.CA++[d]) b.AE) (Aq (c+1))
else none
else none
else
J1 b
def AZ (a:AM):Nat->AM->Int->ABh AM
|0,_,_=>none
|n+1,b,c=>L1 a (AZ a n) b c
end DG
section
open DG
def DG (a:AM):ABh AM:=
if Ap (a.B5.length) 8=true then
AZ a Bg (AM.mk a.PC a.B5 [] a.AE) 0
else none
theorem Qd {a r:AM} (h:DG a=some r):Says Tryz.prog 169 [.agg (Eu a)] (.agg (Bw r)):=by refine kO mix Tryz.func169 (hn [(1,[5,7,10,15,24]),(3,[21,22,32,33])] (Z:=[(6,true,3,[(0,2,0)])])) ?_;have l1:=λn1 n2 n3 n4:Nat=>A7 λn τ=>∃(b:AM) (c:Int),(τ 1=bA 4 (Eu a)/\τ 2=bA 4 z8/\τ 3=bA 4 [si b.PC,vO 1 eI b.B5,vO 1 kJ b.CA,si b.AE]/\τ 4=si c)/\AZ a n b c=some r;unfold DG at h;exact walk
end
def f77c:IC:=(.seq (.OQ [⟨some ⟨2,[],[]⟩,.mv (.c (.own false 3 [])),none⟩])
(.seq (.seq (.YS [.o ⟨some ⟨3,[],[]⟩,.cp (.t 0),none⟩,
.SU ⟨4,[],[]⟩ false (.t 3)])
(.cond (.t 4) (.seq (.OQ [⟨some ⟨2,[],[]⟩,.mv (.c (.own false 3 [])),none⟩])
.ret) .skip))
(.seq (.OQ [⟨some ⟨5,[],[]⟩,.NH 3 [] [],none⟩,
⟨some ⟨6,[],[]⟩,.cp (.t 0),none⟩,
⟨some ⟨7,[],[]⟩,.app 3 24 (.t 5) (.t 6),none⟩,
⟨some ⟨2,[],[]⟩,.mv (.t 7),none⟩])
.ret)))
def f77g:Gi:=⟨[]⟩
def f77r:List RV:=[.tmp 2]
def f77:FI:=⟨f77c,f77g,f77r⟩
theorem chk77:K9 Tryz.prog Tryz.f77 f77=true:=by kernel_rfl
def EL (l:List AF):ABh (List AF):=if Ap l.length 24=true then some l else none
theorem HC {l:List AF} {r:List AF} (h:EL l=some r):Says Tryz.prog 77 [vS 3 Ax l] (vO 3 Ax r):=by
  obtain⟨g,h⟩:=G5 h;obtain rfl:=AAJ h;refine Iw mix Tryz.func77 chk77 (AAT (by kernel_rfl)) rfl ?_;simp only[f77,f77c,f77g,f77r];simp +decide only[go_sem,g];intro b hb;cases b with
  |true=>have hl:l=[]:=(by simpa using hb rfl);subst hl;simp +decide only[go_sem,g]
  |false=>simp +decide only[go_sem,g]
namespace CQ
def J3 (i:Bool):ABh Bool:=
some i
def J2 (a:AP) (e:Int):ABh Bool:=
if a.Start==e then
J3 (decide ((Aq (e+(a.AE.length:Int)))≤400))
else
J3 false
def J1 (L1:Int->Int->ABh Bool) (c b d:Int) (f:Bool):ABh Bool:=
if f then
some false
else
L1 (Aq (c+d)) (Aq (b+1))
def L1 (a:AP) (L1:Int->Int->ABh Bool) (c b:Int):ABh Bool:=
if decide (b<(a.Init.Count.length:Int))then
(gt a.Init.Count b).bind λd=>
if decide (d<0)then
J1 L1 c b d true
else
J1 L1 c b d (decide (d>400))
else
J2 a c
def AZ (a:AP):Nat->Int->Int->ABh Bool
|0,_,_=>none
|n+1,c,b=>L1 a (AZ a n) c b
end CQ
section
open CQ
def CQ (a:AP):ABh Bool:=
AZ a Bg 0 0
theorem TW {a:AP} {r:Bool} (h:CQ a=some r):Says Tryz.prog 41 [.agg (BW a)] (sb r):=by refine kO mix Tryz.func41 (hn [(1,[6,7,24,30])]) ?_;have l1:=λn1 n2 n3 n4:Nat=>A7 λn τ=>∃(c b:Int),(τ 1=bA 15 (BW a)/\τ 3=si c/\τ 8=vS 1 eI a.Init.Count/\τ 9=si (a.Init.Count.length:Int)/\τ 10=si b)/\AZ a n c b=some r;unfold CQ at h;exact walk
end
namespace GZ
def J3 (i:Bool):ABh Bool:=
some i
def J2 (a:AP) (d:Int):ABh Bool:=
if a.Start==d then
J3 (decide ((Aq (d+(a.AE.length:Int)))≤400))
else
J3 false
def J1 (L1:Int->Int->ABh Bool) (b c:Int) (a:AP) (f:Bool):ABh Bool:=
if f then
some false
else
(gt a.Init.Count b).bind λj=>
L1 (Aq (c+j)) (Aq (b+1))
def L1 (a:AP) (L1:Int->Int->ABh Bool) (c b:Int):ABh Bool:=
if decide (b<(a.Init.Count.length:Int))then
(gt a.Init.Count b).bind λe=>
if decide (e<0)then
J1 L1 b c a true
else
J1 L1 b c a (decide (e>400))
else
J2 a c
def AZ (a:AP):Nat->Int->Int->ABh Bool
|0,_,_=>none
|n+1,c,b=>L1 a (AZ a n) c b
end GZ
section
open GZ
def GZ (a:AP):ABh Bool:=
AZ a Bg 0 0
theorem VJ {a:AP} {r:Bool} (h:GZ a=some r):Says Tryz.prog 49 [.agg (BW a)] (sb r):=by refine kO mix Tryz.func49 (hn [(1,[6,7,13,14,21,22,30,31,37,43])]) ?_;have l1:=λn1 n2 n3 n4:Nat=>A7 λn τ=>∃(c b:Int),(τ 1=bA 15 (BW a)/\τ 3=si c/\τ 4=si b)/\AZ a n c b=some r;unfold GZ at h;exact walk
end
def f69c:IC:=(.seq (.OQ [⟨some ⟨2,[],[]⟩,.mv (.c (.own false 5 [])),none⟩])
(.seq (.seq (.YS [.o ⟨some ⟨3,[],[]⟩,.cp (.t 0),none⟩,
.SU ⟨4,[],[]⟩ false (.t 3)])
(.cond (.t 4) (.seq (.OQ [⟨some ⟨2,[],[]⟩,.mv (.c (.own false 5 [])),none⟩])
.ret) .skip))
(.seq (.OQ [⟨some ⟨5,[],[]⟩,.NH 5 [] [],none⟩,
⟨some ⟨6,[],[]⟩,.cp (.t 0),none⟩,
⟨some ⟨7,[],[]⟩,.app 5 48 (.t 5) (.t 6),none⟩,
⟨some ⟨2,[],[]⟩,.mv (.t 7),none⟩])
.ret)))
def f69g:Gi:=⟨[]⟩
def f69r:List RV:=[.tmp 2]
def f69:FI:=⟨f69c,f69g,f69r⟩
theorem chk69:K9 Tryz.prog Tryz.f69 f69=true:=by kernel_rfl
def Ik (l:List DR):ABh (List DR):=if Ap l.length 48=true then some l else none
theorem MU {l:List DR} {r:List DR} (h:Ik l=some r):Says Tryz.prog 69 [vS 5 Gd l] (vO 5 Gd r):=by
  obtain⟨g,h⟩:=G5 h;obtain rfl:=AAJ h;refine Iw mix Tryz.func69 chk69 (AAT (by kernel_rfl)) rfl ?_;simp only[f69,f69c,f69g,f69r];simp +decide only[go_sem,g];intro b hb;cases b with
  |true=>have hl:l=[]:=(by simpa using hb rfl);subst hl;simp +decide only[go_sem,g]
  |false=>simp +decide only[go_sem,g]
def f70c:IC:=(.seq (.OQ [⟨some ⟨2,[],[]⟩,.mv (.c (.own false 2 [])),none⟩])
(.seq (.seq (.YS [.o ⟨some ⟨3,[],[]⟩,.cp (.t 0),none⟩,
.SU ⟨4,[],[]⟩ false (.t 3)])
(.cond (.t 4) (.seq (.OQ [⟨some ⟨2,[],[]⟩,.mv (.c (.own false 2 [])),none⟩])
.ret) .skip))
(.seq (.OQ [⟨some ⟨5,[],[]⟩,.NH 2 [] [],none⟩,
⟨some ⟨6,[],[]⟩,.cp (.t 0),none⟩,
⟨some ⟨7,[],[]⟩,.app 2 24 (.t 5) (.t 6),none⟩,
⟨some ⟨2,[],[]⟩,.mv (.t 7),none⟩])
.ret)))
def f70g:Gi:=⟨[]⟩
def f70r:List RV:=[.tmp 2]
def f70:FI:=⟨f70c,f70g,f70r⟩
theorem chk70:K9 Tryz.prog Tryz.f70 f70=true:=by kernel_rfl
def Im (l:List I6):ABh (List I6):=if Ap l.length 24=true then some l else none
theorem MX {l:List I6} {r:List I6} (h:Im l=some r):Says Tryz.prog 70 [vS 2 Hg l] (vO 2 Hg r):=by
  obtain⟨g,h⟩:=G5 h;obtain rfl:=AAJ h;refine Iw mix Tryz.func70 chk70 (AAT (by kernel_rfl)) rfl ?_;simp only[f70,f70c,f70g,f70r];simp +decide only[go_sem,g];intro b hb;cases b with
  |true=>have hl:l=[]:=(by simpa using hb rfl);subst hl;simp +decide only[go_sem,g]
  |false=>simp +decide only[go_sem,g]
def f71c:IC:=(.seq (.OQ [⟨some ⟨2,[],[]⟩,.mv (.c (.own false 2 [])),none⟩])
(.seq (.seq (.YS [.o ⟨some ⟨3,[],[]⟩,.cp (.t 0),none⟩,
.SU ⟨4,[],[]⟩ false (.t 3)])
(.cond (.t 4) (.seq (.OQ [⟨some ⟨2,[],[]⟩,.mv (.c (.own false 2 [])),none⟩])
.ret) .skip))
(.seq (.OQ [⟨some ⟨5,[],[]⟩,.NH 2 [] [],none⟩,
⟨some ⟨6,[],[]⟩,.cp (.t 0),none⟩,
⟨some ⟨7,[],[]⟩,.app 2 24 (.t 5) (.t 6),none⟩,
⟨some ⟨2,[],[]⟩,.mv (.t 7),none⟩])
.ret)))
def f71g:Gi:=⟨[]⟩
def f71r:List RV:=[.tmp 2]
def f71:FI:=⟨f71c,f71g,f71r⟩
theorem chk71:K9 Tryz.prog Tryz.f71 f71=true:=by kernel_rfl
def Il (l:List Nj):ABh (List Nj):=if Ap l.length 24=true then some l else none
theorem MV {l:List Nj} {r:List Nj} (h:Il l=some r):Says Tryz.prog 71 [vS 2 Hf l] (vO 2 Hf r):=by
  obtain⟨g,h⟩:=G5 h;obtain rfl:=AAJ h;refine Iw mix Tryz.func71 chk71 (AAT (by kernel_rfl)) rfl ?_;simp only[f71,f71c,f71g,f71r];simp +decide only[go_sem,g];intro b hb;cases b with
  |true=>have hl:l=[]:=(by simpa using hb rfl);subst hl;simp +decide only[go_sem,g]
  |false=>simp +decide only[go_sem,g]
def f73c:IC:=(.seq (.OQ [⟨some ⟨2,[],[]⟩,.mv (.c (.own false 3 [])),none⟩])
(.seq (.seq (.YS [.o ⟨some ⟨3,[],[]⟩,.cp (.t 0),none⟩,
.SU ⟨4,[],[]⟩ false (.t 3)])
(.cond (.t 4) (.seq (.OQ [⟨some ⟨2,[],[]⟩,.mv (.c (.own false 3 [])),none⟩])
.ret) .skip))
(.seq (.OQ [⟨some ⟨5,[],[]⟩,.NH 3 [] [],none⟩,
⟨some ⟨6,[],[]⟩,.cp (.t 0),none⟩,
⟨some ⟨7,[],[]⟩,.app 3 24 (.t 5) (.t 6),none⟩,
⟨some ⟨2,[],[]⟩,.mv (.t 7),none⟩])
.ret)))
def f73g:Gi:=⟨[]⟩
def f73r:List RV:=[.tmp 2]
def f73:FI:=⟨f73c,f73g,f73r⟩
theorem chk73:K9 Tryz.prog Tryz.f73 f73=true:=by kernel_rfl
def Io (l:List DS):ABh (List DS):=if Ap l.length 24=true then some l else none
theorem MY {l:List DS} {r:List DS} (h:Io l=some r):Says Tryz.prog 73 [vS 3 GF l] (vO 3 GF r):=by
  obtain⟨g,h⟩:=G5 h;obtain rfl:=AAJ h;refine Iw mix Tryz.func73 chk73 (AAT (by kernel_rfl)) rfl ?_;simp only[f73,f73c,f73g,f73r];simp +decide only[go_sem,g];intro b hb;cases b with
  |true=>have hl:l=[]:=(by simpa using hb rfl);subst hl;simp +decide only[go_sem,g]
  |false=>simp +decide only[go_sem,g]
def f72c:IC:=(.seq (.OQ [⟨some ⟨2,[],[]⟩,.mv (.c (.own false 1 [])),none⟩])
(.seq (.seq (.YS [.o ⟨some ⟨3,[],[]⟩,.cp (.t 0),none⟩,
.SU ⟨4,[],[]⟩ false (.t 3)])
(.cond (.t 4) (.seq (.OQ [⟨some ⟨2,[],[]⟩,.mv (.c (.own false 1 [])),none⟩])
.ret) .skip))
(.seq (.OQ [⟨some ⟨5,[],[]⟩,.NH 1 [] [],none⟩,
⟨some ⟨6,[],[]⟩,.cp (.t 0),none⟩,
⟨some ⟨7,[],[]⟩,.app 1 16 (.t 5) (.t 6),none⟩,
⟨some ⟨2,[],[]⟩,.mv (.t 7),none⟩])
.ret)))
def f72g:Gi:=⟨[]⟩
def f72r:List RV:=[.tmp 2]
def f72:FI:=⟨f72c,f72g,f72r⟩
theorem chk72:K9 Tryz.prog Tryz.f72 f72=true:=by kernel_rfl
def slices_Clone_string (l:List ABi):ABh (List ABi):=if Ap l.length 16=true then some l else none
theorem Na {l:List ABi} {r:List ABi} (h:slices_Clone_string l=some r):Says Tryz.prog 72 [vS 1 eS l] (vO 1 eS r):=by
  obtain⟨g,h⟩:=G5 h;obtain rfl:=AAJ h;refine Iw mix Tryz.func72 chk72 (AAT (by kernel_rfl)) rfl ?_;simp only[f72,f72c,f72g,f72r];simp +decide only[go_sem,g];intro b hb;cases b with
  |true=>have hl:l=[]:=(by simpa using hb rfl);subst hl;simp +decide only[go_sem,g]
  |false=>simp +decide only[go_sem,g]
def f74c:IC:=(.seq (.OQ [⟨some ⟨2,[],[]⟩,.mv (.c (.own false 1 [])),none⟩])
(.seq (.seq (.YS [.o ⟨some ⟨3,[],[]⟩,.cp (.t 0),none⟩,
.SU ⟨4,[],[]⟩ false (.t 3)])
(.cond (.t 4) (.seq (.OQ [⟨some ⟨2,[],[]⟩,.mv (.c (.own false 1 [])),none⟩])
.ret) .skip))
(.seq (.OQ [⟨some ⟨5,[],[]⟩,.NH 1 [] [],none⟩,
⟨some ⟨6,[],[]⟩,.cp (.t 0),none⟩,
⟨some ⟨7,[],[]⟩,.app 1 8 (.t 5) (.t 6),none⟩,
⟨some ⟨2,[],[]⟩,.mv (.t 7),none⟩])
.ret)))
def f74g:Gi:=⟨[]⟩
def f74r:List RV:=[.tmp 2]
def f74:FI:=⟨f74c,f74g,f74r⟩
theorem chk74:K9 Tryz.prog Tryz.f74 f74=true:=by kernel_rfl
def E3 (l:List Int):ABh (List Int):=if Ap l.length 8=true then some l else none
theorem Jp {l:List Int} {r:List Int} (h:E3 l=some r):Says Tryz.prog 74 [vS 1 eI l] (vO 1 eI r):=by
  obtain⟨g,h⟩:=G5 h;obtain rfl:=AAJ h;refine Iw mix Tryz.func74 chk74 (AAT (by kernel_rfl)) rfl ?_;simp only[f74,f74c,f74g,f74r];simp +decide only[go_sem,g];intro b hb;cases b with
  |true=>have hl:l=[]:=(by simpa using hb rfl);subst hl;simp +decide only[go_sem,g]
  |false=>simp +decide only[go_sem,g]
namespace Fp
def J1 (e:AQ):ABh AQ:=
some e
def L1 (a:AQ) (L1:AQ->Int->ABh AQ) (b:AQ) (c:Int):ABh AQ:=
if decide (c<(a.AG.length:Int))then
(gt a.AG c).bind λd=>
if Ap (d.Aj.length) 8=true then
if Ap (b.AG.length+1) 32=true then
L1 (AQ.mk (b.AG++[d]) b.Tx b.B4 b.AA) (Aq (c+1))
else none
else none
else
J1 b
def AZ (a:AQ):Nat->AQ->Int->ABh AQ
|0,_,_=>none
|n+1,b,c=>L1 a (AZ a n) b c
end Fp
section
open Fp
def Fp (a:AQ):ABh AQ:=
if Ap (a.B4.length) 1=true then
if Ap (a.AA.length) 24=true then
AZ a Bg (AQ.mk [] a.Tx a.B4 a.AA) 0
else none
else none
theorem Qe {a r:AQ} (h:Fp a=some r):Says Tryz.prog 141 [.agg (FK a)] (.agg (HO r)):=by refine kO mix Tryz.func141 (hn [(1,[5,8,12,17,25,32]),(3,[23,24,42,43])]) ?_;have l1:=λn1 n2 n3 n4:Nat=>A7 λn τ=>∃(b:AQ) (c:Int),(τ 1=bA 4 (FK a)/\τ 2=bA 4 z3/\τ 3=bA 4 (HO b)/\τ 4=si c)/\AZ a n b c=some r;unfold Fp at h;exact walk
end
def f76c:IC:=(.seq (.OQ [⟨some ⟨2,[],[]⟩,.mv (.c (.own false 1 [])),none⟩])
(.seq (.seq (.YS [.o ⟨some ⟨3,[],[]⟩,.cp (.t 0),none⟩,
.SU ⟨4,[],[]⟩ false (.t 3)])
(.cond (.t 4) (.seq (.OQ [⟨some ⟨2,[],[]⟩,.mv (.c (.own false 1 [])),none⟩])
.ret) .skip))
(.seq (.OQ [⟨some ⟨5,[],[]⟩,.NH 1 [] [],none⟩,
⟨some ⟨6,[],[]⟩,.cp (.t 0),none⟩,
⟨some ⟨7,[],[]⟩,.app 1 1 (.t 5) (.t 6),none⟩,
⟨some ⟨2,[],[]⟩,.mv (.t 7),none⟩])
.ret)))
def f76g:Gi:=⟨[]⟩
def f76r:List RV:=[.tmp 2]
def f76:FI:=⟨f76c,f76g,f76r⟩
theorem chk76:K9 Tryz.prog Tryz.f76 f76=true:=by kernel_rfl
def HE (l:List Bool):ABh (List Bool):=if Ap l.length 1=true then some l else none
theorem KZ {l:List Bool} {r:List Bool} (h:HE l=some r):Says Tryz.prog 76 [vS 1 eB l] (vO 1 eB r):=by
  obtain⟨g,h⟩:=G5 h;obtain rfl:=AAJ h;refine Iw mix Tryz.func76 chk76 (AAT (by kernel_rfl)) rfl ?_;simp only[f76,f76c,f76g,f76r];simp +decide only[go_sem,g];intro b hb;cases b with
  |true=>have hl:l=[]:=(by simpa using hb rfl);subst hl;simp +decide only[go_sem,g]
  |false=>simp +decide only[go_sem,g]
def f75c:IC:=(.seq (.OQ [⟨some ⟨2,[],[]⟩,.mv (.c (.own false 1 [])),none⟩])
(.seq (.seq (.YS [.o ⟨some ⟨3,[],[]⟩,.cp (.t 0),none⟩,
.SU ⟨4,[],[]⟩ false (.t 3)])
(.cond (.t 4) (.seq (.OQ [⟨some ⟨2,[],[]⟩,.mv (.c (.own false 1 [])),none⟩])
.ret) .skip))
(.seq (.OQ [⟨some ⟨5,[],[]⟩,.NH 1 [] [],none⟩,
⟨some ⟨6,[],[]⟩,.cp (.t 0),none⟩,
⟨some ⟨7,[],[]⟩,.app 1 8 (.t 5) (.t 6),none⟩,
⟨some ⟨2,[],[]⟩,.mv (.t 7),none⟩])
.ret)))
def f75g:Gi:=⟨[]⟩
def f75r:List RV:=[.tmp 2]
def f75:FI:=⟨f75c,f75g,f75r⟩
theorem chk75:K9 Tryz.prog Tryz.f75 f75=true:=by kernel_rfl
def slices_Clone_int (l:List Int):ABh (List Int):=if Ap l.length 8=true then some l else none
theorem G3 {l:List Int} {r:List Int} (h:slices_Clone_int l=some r):Says Tryz.prog 75 [vS 1 eI l] (vO 1 eI r):=by
  obtain⟨g,h⟩:=G5 h;obtain rfl:=AAJ h;refine Iw mix Tryz.func75 chk75 (AAT (by kernel_rfl)) rfl ?_;simp only[f75,f75c,f75g,f75r];simp +decide only[go_sem,g];intro b hb;cases b with
  |true=>have hl:l=[]:=(by simpa using hb rfl);subst hl;simp +decide only[go_sem,g]
  |false=>simp +decide only[go_sem,g]
namespace D5
def J2 (i:List Int):ABh (List Int):=
some i
def J1 (L1:(List Int)->Int->ABh (List Int)) (b:Int) (f:List Int):ABh (List Int):=
L1 f (Aq (b+1))
def L1 (a:List Int) (c:Int) (L1:(List Int)->Int->ABh (List Int)) (d:List Int) (b:Int):ABh (List Int):=
if decide (b<(a.length:Int))then
(gt a b).bind λe=>
if e != c then
if Ap (d.length+1) 8=true then
J1 L1 b (d++[e])
else none
else
J1 L1 b d
else
J2 d
def AZ (a:List Int) (c:Int):Nat->(List Int)->Int->ABh (List Int)
|0,_,_=>none
|n+1,d,b=>L1 a c (AZ a c n) d b
end D5
section
open D5
def D5 (a:List Int) (c:Int):ABh (List Int):=
AZ a c Bg [] 0
theorem Tz {a:List Int} {c:Int} {r:List Int} (h:D5 a c=some r):Says Tryz.prog 143 [vS 1 eI a,si c] (vO 1 eI r):=by refine kO mix Tryz.func143 (hn [(5,[19,26])]) ?_;have l1:=λn1 n2 n3 n4:Nat=>A7 λn τ=>∃(d:List Int) (b:Int),(τ 0=vS 1 eI a/\τ 1=si c/\τ 5=vO 1 eI d/\τ 6=si b)/\AZ a c n d b=some r;unfold D5 at h;exact walk
end
def JY:ABh (List ABi):=
some [(⟨#[118,97,114]⟩:ABi),(⟨#[118,111,108,97,116,105,108,101]⟩:ABi),(⟨#[109,117,116,101,120]⟩:ABi),(⟨#[114,119,108,111,99,107]⟩:ABi),(⟨#[99,111,110,100]⟩:ABi),(⟨#[102,117,116,117,114,101]⟩:ABi),(⟨#[116,104,114,101,97,100]⟩:ABi),(⟨#[105,102]⟩:ABi),(⟨#[101,108,115,101]⟩:ABi),(⟨#[119,104,105,108,101]⟩:ABi),(⟨#[108,111,99,107]⟩:ABi),(⟨#[114,101,97,100]⟩:ABi),(⟨#[119,114,105,116,101]⟩:ABi),(⟨#[116,114,97,110,115,97,99,116,105,111,110]⟩:ABi),(⟨#[97,116,111,109,105,99]⟩:ABi),(⟨#[119,97,105,116]⟩:ABi),(⟨#[110,111,116,105,102,121]⟩:ABi),(⟨#[110,111,116,105,102,121,97,108,108]⟩:ABi),(⟨#[115,112,97,119,110]⟩:ABi),(⟨#[106,111,105,110]⟩:ABi),(⟨#[115,101,116]⟩:ABi),(⟨#[103,101,116]⟩:ABi)]
theorem Sn {r:List ABi} (h:JY=some r):Says Tryz.prog 172 [] (vO 1 eS r):=by refine kO mix Tryz.func172 hn ?_;unfold JY at h;exact walk
namespace Eo
def J2:ABh Bool:=
some true
def J1 (L1:Int->ABh Bool) (a:Int) (e:Bool):ABh Bool:=
if e then
some false
else
L1 (Aq (a+1))
def L1 (c:Int) (b:List Int) (L1:Int->ABh Bool) (a:Int):ABh Bool:=
if decide (a<(b.length:Int))then
(gt b a).bind λd=>
if decide (d<1)then
J1 L1 a true
else
if decide (d≥c)then
J1 L1 a true
else
if decide (a>0)then
(gt b (Aq (a-1))).bind λf=>
J1 L1 a (decide (d≤f))
else
J1 L1 a false
else
J2
def AZ (c:Int) (b:List Int):Nat->Int->ABh Bool
|0,_=>none
|n+1,a=>L1 c b (AZ c b n) a
end Eo
section
open Eo
def Eo (b:List Int) (c:Int):ABh Bool:=
AZ c b Bg 0
theorem T2 {b:List Int} {c:Int} {r:Bool} (h:Eo b c=some r):Says Tryz.prog 101 [vS 1 eI b,si c] (sb r):=by refine kO mix Tryz.func101 hn ?_;have l1:=λn1 n2 n3 n4:Nat=>A7 λn τ=>∃(a:Int),(τ 0=vS 1 eI b/\τ 1=si c/\τ 5=si a)/\AZ c b n a=some r;unfold Eo at h;exact walk
end
namespace BU
def J2:ABh Bool:=
some true
def J1 (L1:Int->ABh Bool) (b:Int) (c:Bool):ABh Bool:=
if c then
some false
else
L1 (Aq (b+1))
def L1 (a:AB) (L1:Int->ABh Bool) (b:Int):ABh Bool:=
if decide (b<(a.Sync.B4.length:Int))then
(gt a.Sync.B4 b).bind λd=>
if !d then
(gt a.AH b).bind λe=>
J1 L1 b (e != 0)
else
J1 L1 b false
else
J2
def AZ (a:AB):Nat->Int->ABh Bool
|0,_=>none
|n+1,b=>L1 a (AZ a n) b
end BU
section
open BU
def BU (a:AB):ABh Bool:=
AZ a Bg 0
theorem Nf {a:AB} {r:Bool} (h:BU a=some r):Says Tryz.prog 44 [.agg (BH a)] (sb r):=by refine kO mix Tryz.func44 (hn [(1,[5,6,17])]) ?_;have l1:=λn1 n2 n3 n4:Nat=>A7 λn τ=>∃(b:Int),(τ 1=bA 7 (BH a)/\τ 7=vS 1 eB a.Sync.B4/\τ 8=si (a.Sync.B4.length:Int)/\τ 9=si b)/\AZ a n b=some r;unfold BU at h;exact walk
end
namespace EY
def J1 (e:List BJ):ABh (List BJ):=
some e
def L1 (a:List Int) (L1:(List BJ)->Int->ABh (List BJ)) (c:List BJ) (b:Int):ABh (List BJ):=
if decide (b<(a.length:Int))then
(gt a b).bind λd=>
if Ap (c.length+1) 16=true then
L1 (c++[(BJ.mk ((Aq d).tmod 4) (Aq (((Aq ((Aq d).tdiv 4)).tmod 5)-1)))]) (Aq (b+1))
else none
else
J1 c
def AZ (a:List Int):Nat->(List BJ)->Int->ABh (List BJ)
|0,_,_=>none
|n+1,c,b=>L1 a (AZ a n) c b
end EY
section
open EY
def EY (a:List Int):ABh (List BJ):=
AZ a Bg [] 0
theorem Us {a:List Int} {r:List BJ} (h:EY a=some r):Says Tryz.prog 29 [vS 1 WL a] (vO 2 Hc r):=by refine kO mix Tryz.func29 (hn [(3,[11,29])]) ?_;have l1:=λn1 n2 n3 n4:Nat=>A7 λn τ=>∃(c:List BJ) (b:Int),(τ 0=vS 1 WL a/\τ 3=vO 2 Hc c/\τ 4=si b)/\AZ a n c b=some r;unfold EY at h;exact walk
end
namespace CO
def J1 (a:A8):ABh (Int×A8):=
some ((-1),a)
def L1 (a:A8) (b:ABi) (L1:Int->ABh (Int×A8)) (c:Int):ABh (Int×A8):=
if decide (c<(a.w.Af.length:Int))then
(gt a.w.Af c).bind λd=>
if d.Name.toList==b.toList then
some (c,a)
else
L1 (Aq (c+1))
else
J1 a
def AZ (a:A8) (b:ABi):Nat->Int->ABh (Int×A8)
|0,_=>none
|n+1,c=>L1 a b (AZ a b n) c
end CO
section
open CO
def CO (a:A8) (b:ABi):ABh (Int×A8):=
AZ a b Bg 0
theorem Sy {a:A8} {b:ABi} {r:Int×A8} (h:CO a b=some r):BM Tryz.prog 152 [bA 10 (EJ a),BZ b] (si r.1) [bA 10 (EJ r.2),.dead]:=by refine kL mix Tryz.func152 (hn [(0,[7,8,9,10,11,16,17,18,19,20,22,23])]) ?_;have l1:=λn1 n2 n3 n4:Nat=>A7 λn τ=>∃(c:Int),(τ 0=bA 10 (EJ a)/\τ 1=BZ b/\τ 5=si c)/\AZ a b n c=some r;unfold CO at h;exact walk
end
namespace Ij
def J2:ABh Int:=
some (-1)
def J1 (L1:Int->Int->ABh Int) (a f:Int):ABh Int:=
L1 f (Aq (a+1))
def L1 (c:Int) (b:AP) (L1:Int->Int->ABh Int) (d a:Int):ABh Int:=
if decide (a<(b.AE.length:Int))then
(gt b.AE a).bind λi=>
if i.Thread==c then
if d==0 then
some a
else
J1 L1 a (Aq (d-1))
else
J1 L1 a d
else
J2
def AZ (c:Int) (b:AP):Nat->Int->Int->ABh Int
|0,_,_=>none
|n+1,d,a=>L1 c b (AZ c b n) d a
end Ij
section
open Ij
def Ij (b:AP) (c e:Int):ABh Int:=
AZ c b Bg e 0
theorem aD {b:AP} {c e r:Int} (h:Ij b c e=some r):Says Tryz.prog 104 [.agg (BW b),si c,si e] (si r):=by refine kO mix Tryz.func104 (hn [(3,[9,15])]) ?_;have l1:=λn1 n2 n3 n4:Nat=>A7 λn τ=>∃(d a:Int),(τ 1=si c/\τ 2=si d/\τ 3=bA 15 (BW b)/\τ 7=si a)/\AZ c b n d a=some r;unfold Ij at h;exact walk
end
namespace Bt
def J1 (c:Bool):ABh Bool:=
some c
end Bt
section
open Bt
def Bt (b:Int) (a:AP):ABh Bool:=
if decide (b≥0)then
if decide (b<(a.Init.Count.length:Int))then
(gt a.Init.Count b).bind λd=>
J1 (decide (d≥1))
else
J1 false
else
J1 false
theorem Mb {b:Int} {a:AP} {r:Bool} (h:Bt b a=some r):Says Tryz.prog 92 [si b,.fp [vS 5 Gd a.World.Cells,vS 2 Hg a.World.AG,vS 2 Hf a.World.Af,vS 1 eS a.World.AH,vS 1 eS a.World.AA,vS 3 GF a.World.BL,si a.Start,vS 2 Dk a.Init.Sync.AG,si a.Init.Sync.Tx,vS 1 eB a.Init.Sync.B4,vS 3 Ax a.Init.Sync.AA,vS 1 eI a.Init.Cells,vS 1 eI a.Init.AH,vS 1 eI a.Init.Count,vS 7 BQ a.AE]] (sb r):=by refine kO mix Tryz.func92 hn ?_;unfold Bt at h;exact walk
end
namespace EM
def J1:ABh Bool:=
some true
def L1 (a b:List Int) (L1:Int->ABh Bool) (c:Int):ABh Bool:=
if decide (c<(a.length:Int))then
(gt a c).bind λd=>
(gt b c).bind λe=>
if d != e then
some false
else
L1 (Aq (c+1))
else
J1
def AZ (a b:List Int):Nat->Int->ABh Bool
|0,_=>none
|n+1,c=>L1 a b (AZ a b n) c
end EM
section
open EM
def EM (a b:List Int):ABh Bool:=
if(a.length:Int) != (b.length:Int)then
some false
else
AZ a b Bg 0
theorem RI {a b:List Int} {r:Bool} (h:EM a b=some r):Says Tryz.prog 16 [vS 1 eI a,vS 1 eI b] (sb r):=by refine kO mix Tryz.func16 hn ?_;have l1:=λn1 n2 n3 n4:Nat=>A7 λn τ=>∃(c:Int),(τ 0=vS 1 eI a/\τ 1=vS 1 eI b/\τ 5=si c)/\AZ a b n c=some r;unfold EM at h;exact walk
end
namespace EK
def J1:ABh Bool:=
some true
def L1 (a b:List Int) (L1:Int->ABh Bool) (c:Int):ABh Bool:=
if decide (c<(a.length:Int))then
(gt a c).bind λd=>
(gt b c).bind λe=>
if d != e then
some false
else
L1 (Aq (c+1))
else
J1
def AZ (a b:List Int):Nat->Int->ABh Bool
|0,_=>none
|n+1,c=>L1 a b (AZ a b n) c
end EK
section
open EK
def EK (a b:List Int):ABh Bool:=
if(a.length:Int) != (b.length:Int)then
some false
else
AZ a b Bg 0
theorem Ly {a b:List Int} {r:Bool} (h:EK a b=some r):Says Tryz.prog 26 [vS 1 eI a,vS 1 eI b] (sb r):=by refine kO mix Tryz.func26 hn ?_;have l1:=λn1 n2 n3 n4:Nat=>A7 λn τ=>∃(c:Int),(τ 0=vS 1 eI a/\τ 1=vS 1 eI b/\τ 5=si c)/\AZ a b n c=some r;unfold EK at h;exact walk
end
namespace Cp
def J1:ABh Int:=
some (-1)
def L1 (a:List Cj) (b:ABi) (L1:Int->ABh Int) (c:Int):ABh Int:=
if decide (c<(a.length:Int))then
(gt a c).bind λd=>
if d.Name.toList==b.toList then
some c
else
L1 (Aq (c+1))
else
J1
def AZ (a:List Cj) (b:ABi):Nat->Int->ABh Int
|0,_=>none
|n+1,c=>L1 a b (AZ a b n) c
end Cp
section
open Cp
def Cp (a:List Cj) (b:ABi):ABh Int:=
AZ a b Bg 0
theorem Jb {a:List Cj} {b:ABi} {r:Int} (h:Cp a b=some r):Says Tryz.prog 147 [vS 4 IE a,BZ b] (si r):=by refine kO mix Tryz.func147 hn ?_;have l1:=λn1 n2 n3 n4:Nat=>A7 λn τ=>∃(c:Int),(τ 0=vS 4 IE a/\τ 1=BZ b/\τ 5=si c)/\AZ a b n c=some r;unfold Cp at h;exact walk
end
namespace Bi
def J1:ABh Int:=
some (-1)
def L1 (b:ABi) (a:AD) (L1:Int->ABh Int) (c:Int):ABh Int:=
if decide (c<(a.Cells.length:Int))then
(gt a.Cells c).bind λd=>
if d.Name.toList==b.toList then
some c
else
L1 (Aq (c+1))
else
J1
def AZ (b:ABi) (a:AD):Nat->Int->ABh Int
|0,_=>none
|n+1,c=>L1 b a (AZ b a n) c
end Bi
section
open Bi
def Bi (a:AD) (b:ABi):ABh Int:=
AZ b a Bg 0
theorem Ny {a:AD} {b:ABi} {r:Int} (h:Bi a b=some r):Says Tryz.prog 181 [.agg (Az a),BZ b] (si r):=by refine kO mix Tryz.func181 (hn [(2,[7,13])]) ?_;have l1:=λn1 n2 n3 n4:Nat=>A7 λn τ=>∃(c:Int),(τ 1=BZ b/\τ 2=bA 6 (Az a)/\τ 5=si c)/\AZ b a n c=some r;unfold Bi at h;exact walk
end
namespace De
def J1:ABh Bool:=
some false
def L1 (a:ABi) (L1:Int->ABh Bool) (b:Int):ABh Bool:=
if decide (b<22)then
if b<22 then
(gt Km b).bind λc=>
if a.toList==c.toList then
some true
else
L1 (Aq (b+1))
else none
else
J1
def AZ (a:ABi):Nat->Int->ABh Bool
|0,_=>none
|n+1,b=>L1 a (AZ a n) b
end De
section
open De
def De (a:ABi):ABh Bool:=
AZ a Bg 0
theorem RQ {a:ABi} {r:Bool} (h:De a=some r):Says Tryz.prog 171 [BZ a] (sb r):=by refine kO mix Tryz.func171 (hn (E:=[(1,(.YS [.gld ⟨5,[],[]⟩ 0 22,.o (iU 6 0)]))])) ?_;have l1:=λn1 n2 n3 n4:Nat=>A7 λn τ=>∃(b:Int),(τ 0=BZ a/\τ 5= .agg (Km.map BZ)/\τ 6=si b)/\AZ a n b=some r;unfold De at h;exact walk
end
namespace Cr
def J1:ABh Int:=
some (-1)
def L1 (a:List EV) (b:ABi) (L1:Int->ABh Int) (c:Int):ABh Int:=
if decide (c<(a.length:Int))then
(gt a c).bind λd=>
if d.Name.toList==b.toList then
some c
else
L1 (Aq (c+1))
else
J1
def AZ (a:List EV) (b:ABi):Nat->Int->ABh Int
|0,_=>none
|n+1,c=>L1 a b (AZ a b n) c
end Cr
section
open Cr
def Cr (a:List EV) (b:ABi):ABh Int:=
AZ a b Bg 0
theorem Iv {a:List EV} {b:ABi} {r:Int} (h:Cr a b=some r):Says Tryz.prog 146 [vS 6 JR a,BZ b] (si r):=by refine kO mix Tryz.func146 hn ?_;have l1:=λn1 n2 n3 n4:Nat=>A7 λn τ=>∃(c:Int),(τ 0=vS 6 JR a/\τ 1=BZ b/\τ 5=si c)/\AZ a b n c=some r;unfold Cr at h;exact walk
end
namespace Dq
def J1:ABh Int:=
some (-1)
def L1 (a:List I6) (b:ABi) (L1:Int->ABh Int) (c:Int):ABh Int:=
if decide (c<(a.length:Int))then
(gt a c).bind λd=>
if d.Name.toList==b.toList then
some c
else
L1 (Aq (c+1))
else
J1
def AZ (a:List I6) (b:ABi):Nat->Int->ABh Int
|0,_=>none
|n+1,c=>L1 a b (AZ a b n) c
end Dq
section
open Dq
def Dq (a:List I6) (b:ABi):ABh Int:=
AZ a b Bg 0
theorem N4 {a:List I6} {b:ABi} {r:Int} (h:Dq a b=some r):Says Tryz.prog 112 [vS 2 Hg a,BZ b] (si r):=by refine kO mix Tryz.func112 hn ?_;have l1:=λn1 n2 n3 n4:Nat=>A7 λn τ=>∃(c:Int),(τ 0=vS 2 Hg a/\τ 1=BZ b/\τ 5=si c)/\AZ a b n c=some r;unfold Dq at h;exact walk
end
namespace CN
def J1:ABh Int:=
some (-1)
def L1 (a:List ABi) (b:ABi) (L1:Int->ABh Int) (c:Int):ABh Int:=
if decide (c<(a.length:Int))then
(gt a c).bind λd=>
if d.toList==b.toList then
some c
else
L1 (Aq (c+1))
else
J1
def AZ (a:List ABi) (b:ABi):Nat->Int->ABh Int
|0,_=>none
|n+1,c=>L1 a b (AZ a b n) c
end CN
section
open CN
def CN (a:List ABi) (b:ABi):ABh Int:=
AZ a b Bg 0
theorem HK {a:List ABi} {b:ABi} {r:Int} (h:CN a b=some r):Says Tryz.prog 95 [vS 1 eS a,BZ b] (si r):=by refine kO mix Tryz.func95 hn ?_;have l1:=λn1 n2 n3 n4:Nat=>A7 λn τ=>∃(c:Int),(τ 0=vS 1 eS a/\τ 1=BZ b/\τ 5=si c)/\AZ a b n c=some r;unfold CN at h;exact walk
end
namespace FQ
def J1:ABh Int:=
some (-1)
def L1 (a:List Int) (b:Int) (L1:Int->ABh Int) (c:Int):ABh Int:=
if decide (c<(a.length:Int))then
(gt a c).bind λd=>
if b==d then
some c
else
L1 (Aq (c+1))
else
J1
def AZ (a:List Int) (b:Int):Nat->Int->ABh Int
|0,_=>none
|n+1,c=>L1 a b (AZ a b n) c
end FQ
section
open FQ
def FQ (a:List Int) (b:Int):ABh Int:=
AZ a b Bg 0
theorem VK {a:List Int} {b r:Int} (h:FQ a b=some r):Says Tryz.prog 182 [vS 1 eI a,si b] (si r):=by refine kO mix Tryz.func182 hn ?_;have l1:=λn1 n2 n3 n4:Nat=>A7 λn τ=>∃(c:Int),(τ 0=vS 1 eI a/\τ 1=si b/\τ 7=si (a.length:Int)/\τ 8=si c)/\AZ a b n c=some r;unfold FQ at h;exact walk
end
namespace DK
def J2 (d:Bool):ABh Bool:=
some d
def J1 (a:AK) (b:AD) (c:Bool):ABh Bool:=
if c then
some (a.Site==(-1))
else
if decide (a.Site≥0)then
if decide (a.Site<(b.BL.length:Int))then
(gt b.BL a.Site).bind λe=>
J2 (e.Thread==a.Thread)
else
J2 false
else
J2 false
end DK
section
open DK
def DK (b:AD) (a:AK):ABh Bool:=
if a.Kind==1 then
J1 a b true
else
J1 a b (a.Kind==2)
theorem PS {b:AD} {a:AK} {r:Bool} (h:DK b a=some r):Says Tryz.prog 80 [.agg (Az b),.agg (BQ a)] (sb r):=by refine kO mix Tryz.func80 (hn [(2,[22,28]),(3,[5,9,13,16,20,30,35])]) ?_;unfold DK at h;exact walk
end
namespace Dz
def J3 (d:Bool):ABh Int:=
if d then
some 2
else
some (-1)
def J2 (a:Int) (c:Bool):ABh Int:=
if c then
some 1
else
if decide (a≥6)then
J3 (decide (a≤18))
else
J3 false
def J1 (a:Int) (b:Bool):ABh Int:=
if b then
some 0
else
if decide (a≥3)then
J2 a (decide (a≤5))
else
J2 a false
end Dz
section
open Dz
def Dz (a:Int):ABh Int:=
if a==1 then
J1 a true
else
J1 a (a==2)
theorem Sp {a r:Int} (h:Dz a=some r):Says Tryz.prog 210 [si a] (si r):=by refine kO mix Tryz.func210 (hn (Q:=[(2,1)])) ?_;have c1:=λn1 n2 n3 n4:Nat=>Bu 1 λτ=>∃(b:Bool),(τ 0=si a/\τ 3=sb b)/\J1 a b=some r;unfold Dz at h;exact walk
end
namespace GQ
def J1:ABh Bool:=
some false
def L1 (a:List Int) (b:Int) (L1:Int->ABh Bool) (c:Int):ABh Bool:=
if decide (c<(a.length:Int))then
(gt a c).bind λd=>
if d==b then
some true
else
L1 (Aq (c+1))
else
J1
def AZ (a:List Int) (b:Int):Nat->Int->ABh Bool
|0,_=>none
|n+1,c=>L1 a b (AZ a b n) c
end GQ
section
open GQ
def GQ (a:List Int) (b:Int):ABh Bool:=
AZ a b Bg 0
theorem NU {a:List Int} {b:Int} {r:Bool} (h:GQ a b=some r):Says Tryz.prog 139 [vS 1 eI a,si b] (sb r):=by refine kO mix Tryz.func139 hn ?_;have l1:=λn1 n2 n3 n4:Nat=>A7 λn τ=>∃(c:Int),(τ 0=vS 1 eI a/\τ 1=si b/\τ 5=si c)/\AZ a b n c=some r;unfold GQ at h;exact walk
end
end Go.Abs
