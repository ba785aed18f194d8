/- Typed programs of Go functions, and that the functions do what these say. -/
import Derived.Test.YthmijagacgnmkaaGreatDoorBaseA
set_option linter.unusedSimpArgs false
set_option linter.unusedVariables false
namespace Go.Abs
open Go.Proofs
set_option maxRecDepth 1000000
set_option maxHeartbeats 4000000
namespace Hr
def J1 (a:Int) (b:Bool):ABr Int:=
if b then
some 0
else
(gt [3,3,4,4,5,6,7,8,9,10,11,12,13,14,15,16,18,19,20,21,22,23,2] (Ay (a-6))).bind λc=>
some c
end Hr
section
open Hr
def Hr (a:Int):ABr Int:=
if decide (a<6)then
J1 a true
else
J1 a (decide (a>28))
theorem ZF {a r:Int} (h:Hr a=some r):Says Tryz.prog 231 [si a] (si r):=by refine kO mix Tryz.func231 (hn [(3,[11,14])]) ?_;unfold Hr at h;exact walk
end
def Em (b:ABs) (a:A7):ABr AP:=
some (AP.mk 1 0 b (⟨#[]⟩:ABs) [] a [] [])
theorem PQ {b:ABs} {a:A7} {r:AP} (h:Em b a=some r):Says Tryz.prog 188 [BR b,.agg [si a.Op,si a.N,BR a.Name,vS 4 A9 a.L]] (.agg [si r.Op,si r.FG,BR r.Name,BR r.Arg,vS 4 A9 r.Index,si r.Expr.Op,si r.Expr.N,BR r.Expr.Name,vS 4 A9 r.Expr.L,vS 11 A4 r.Body,vS 11 A4 r.Else]):=by refine kF mix Tryz.func188 hn ?_;unfold Em at h;exact walk
namespace Gh
def J1 (c:Int):ABr Int:=
some c
end Gh
section
open Gh
def Gh (b a:Int):ABr Int:=
if decide (a<1)then
some 0
else
if¬a=0 then
if decide ((b.tmod a)<0)then
J1 (Ay ((b.tmod a)+a))
else
J1 (b.tmod a)
else none
theorem Xv {b a r:Int} (h:Gh b a=some r):Says Tryz.prog 251 [si b,si a] (si r):=by refine kO mix Tryz.func251 hn ?_;unfold Gh at h;exact walk
end
namespace Fi
def J1 (c:Bool):ABr Bool:=
some c
end Fi
section
open Fi
def Fi (a:AG) (b:Int):ABr Bool:=
if a.Status==3 then
J1 (a.Es==b)
else
J1 false
theorem OK {a:AG} {b:Int} {r:Bool} (h:Fi a b=some r):Says Tryz.prog 164 [.agg (BN a),si b] (sb r):=by refine kO mix Tryz.func164 (hn [(2,[5,9])]) ?_;unfold Fi at h;exact walk
end
namespace EW
def J1 (a:Int) (b:Bool):ABr Int:=
if b then
some 0
else
some a
end EW
section
open EW
def EW (a:Int):ABr Int:=
if decide (a<1)then
J1 a true
else
J1 a (decide (a>100))
theorem TZ {a r:Int} (h:EW a=some r):Says Tryz.prog 253 [si a] (si r):=by refine kO mix Tryz.func253 hn ?_;unfold EW at h;exact walk
end
def IJ (c:Int) (a b:A7):ABr A7:=
some (A7.mk c 0 (⟨#[]⟩:ABs) [a,b])
theorem PR {c:Int} {a b r:A7} (h:IJ c a b=some r):Says Tryz.prog 246 [si c,.agg [si a.Op,si a.N,BR a.Name,vS 4 A9 a.L],.agg [si b.Op,si b.N,BR b.Name,vS 4 A9 b.L]] (.agg [si r.Op,si r.N,BR r.Name,vS 4 A9 r.L]):=by refine kF mix Tryz.func246 hn ?_;unfold IJ at h;exact walk
namespace Ge
def J1 (b:Bool):ABr Bool:=
some b
end Ge
section
open Ge
def Ge (a:AE):ABr Bool:=
if a.Kind==3 then
J1 true
else
J1 (a.Kind==4)
theorem LC {a:AE} {r:Bool} (h:Ge a=some r):Says Tryz.prog 32 [.agg (Bi a)] (sb r):=by refine kO mix Tryz.func32 (hn [(1,[3,7])]) ?_;unfold Ge at h;exact walk
end
namespace Ez
def J1 (c:Bool):ABr Bool:=
some c
end Ez
section
open Ez
def Ez (a b:Int):ABr Bool:=
if decide (a≥0)then
J1 (decide (a<b))
else
J1 false
theorem SP {a b:Int} {r:Bool} (h:Ez a b=some r):Says Tryz.prog 166 [si a,si b] (sb r):=by refine kO mix Tryz.func166 hn ?_;unfold Ez at h;exact walk
end
namespace DA
def J1 (c:Bool):ABr Bool:=
some c
end DA
section
open DA
def DA (a b:Int):ABr Bool:=
if decide (a≥0)then
J1 (decide (a<b))
else
J1 false
theorem Ik {a b:Int} {r:Bool} (h:DA a b=some r):Says Tryz.prog 110 [si a,si b] (sb r):=by refine kO mix Tryz.func110 hn ?_;unfold DA at h;exact walk
end
namespace Hb
def J1 (b:Bool):ABr Bool:=
some b
end Hb
section
open Hb
def Hb (a:Int):ABr Bool:=
if decide (a≥48)then
J1 (decide (a≤57))
else
J1 false
theorem Xm {a:Int} {r:Bool} (h:Hb a=some r):Says Tryz.prog 204 [.sc (.int .u8 a)] (sb r):=by refine kO mix Tryz.func204 hn ?_;unfold Hb at h;exact walk
end
namespace Fl
def J1 (b:Bool):ABr Bool:=
some b
end Fl
section
open Fl
def Fl (a:Int):ABr Bool:=
if decide (a≥1)then
J1 (decide (a≤5))
else
J1 false
theorem OQ {a:Int} {r:Bool} (h:Fl a=some r):Says Tryz.prog 229 [si a] (sb r):=by refine kO mix Tryz.func229 hn ?_;unfold Fl at h;exact walk
end
namespace HC
def J1 (c:Bool):ABr Bool:=
some c
end HC
section
open HC
def HC (a b:Int):ABr Bool:=
if decide (a≥0)then
J1 (decide (a<b))
else
J1 false
theorem Ph {a b:Int} {r:Bool} (h:HC a b=some r):Says Tryz.prog 128 [si a,si b] (sb r):=by refine kO mix Tryz.func128 hn ?_;unfold HC at h;exact walk
end
namespace DS
def J1 (c:Bool):ABr Bool:=
some c
end DS
section
open DS
def DS (a b:Int):ABr Bool:=
if decide (a≥0)then
J1 (decide (a<b))
else
J1 false
theorem Pe {a b:Int} {r:Bool} (h:DS a b=some r):Says Tryz.prog 209 [si a,si b] (sb r):=by refine kO mix Tryz.func209 hn ?_;unfold DS at h;exact walk
end
namespace Pk
def J1 (c:Bool):ABr Bool:=
some c
end Pk
section
open Pk
def Pk (a b:Int):ABr Bool:=
if decide (a≥0)then
J1 (decide (a<b))
else
J1 false
end
namespace K0
def J1 (c:Bool):ABr Bool:=
some c
end K0
section
open K0
def K0 (a b:Int):ABr Bool:=
if decide (a≥0)then
J1 (decide (a<b))
else
J1 false
theorem iG {a b:Int} {r:Bool} (h:K0 a b=some r):Says Tryz.prog 66 [si a,si b] (sb r):=by refine kO mix Tryz.func66 hn ?_;unfold K0 at h;exact walk
end
def Mh:ABr (List Int):=
some [3,3,3,3,3,4,4,4,4,4,5,5,5,6,6,6,7,7,7,8,9,10,11,12,13,14,14,15,16,16,17,17,18,18,19,20,1,1,2,21,22,23,23]
theorem YK {r:List Int} (h:Mh=some r):Says Tryz.prog 175 [] (vO 1 eI r):=by refine kO mix Tryz.func175 hn ?_;unfold Mh at h;exact walk
def Jq (a:Int):ABr A7:=
some (A7.mk 1 a (⟨#[]⟩:ABs) [])
theorem PU {a:Int} {r:A7} (h:Jq a=some r):Says Tryz.prog 189 [si a] (.agg [si r.Op,si r.N,BR r.Name,vS 4 A9 r.L]):=by refine kF mix Tryz.func189 hn ?_;unfold Jq at h;exact walk
def Ii (a:ABs):ABr A7:=
some (A7.mk 2 0 a [])
theorem Sv {a:ABs} {r:A7} (h:Ii a=some r):Says Tryz.prog 247 [BR a] (.agg [si r.Op,si r.N,BR r.Name,vS 4 A9 r.L]):=by refine kF mix Tryz.func247 hn ?_;unfold Ii at h;exact walk
def Qk (a:List Int):ABr (List Int):=
if Af (a.length) 8=true then
some a
else none
theorem ZI {a r:List Int} (h:Qk a=some r):Says Tryz.prog 173 [vS 1 eI a] (vO 1 eI r):=by refine kO mix Tryz.func173 hn ?_;unfold Qk at h;exact walk
def Bs (a:Bool):ABr Int:=
if a then
some 7
else
some 0
theorem UN {a:Bool} {r:Int} (h:Bs a=some r):Says Tryz.prog 260 [sb a] (si r):=by refine kO mix Tryz.func260 hn ?_;unfold Bs at h;exact walk
def D4 (a:Bool):ABr Int:=
if a then
some 1
else
some 0
theorem Pd {a:Bool} {r:Int} (h:D4 a=some r):Says Tryz.prog 262 [sb a] (si r):=by refine kO mix Tryz.func262 hn ?_;unfold D4 at h;exact walk
def E5 (a b:Int):ABr Int:=
if a != 0 then
some a
else
some b
theorem iE {a b r:Int} (h:E5 a b=some r):Says Tryz.prog 257 [si a,si b] (si r):=by refine kO mix Tryz.func257 hn ?_;unfold E5 at h;exact walk
end Go.Abs
