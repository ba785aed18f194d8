/- Go functions do what typed programs say. -/
import Derived.Test.YtdojkofgkcmagaaGreatDoorWalkB
import Derived.Test.YtdojkofgkcmagaaGreatDoorWalkC
import Derived.Shelf.Slices.SearchI
set_option linter.all false
namespace Go.Abs
open Go.Proofs Tryz
set_option maxRecDepth 1000000
set_option maxHeartbeats 4000000
namespace Fm
def J1(e:Bool):ABi Bool:=some e
end Fm
section
open Fm
def Fm(b:AG)(a c:Int):=(EE a (b.di.length:Int)).bind λf=>if f then(gt b.di a).bind λd=>if d.d8==0 then
if d.CM != 0 then
J1 (d.CM==c)
else
J1 false
else
J1 false
else
J1 false
def bV{b:AG}{a c:Int}{r:Bool}(h:Fm b a c=some r):Says prog 237 [.agg (A5 b),si a,si c] (sb r):=by refine kO mix func237 (hn [(3,[8,13,22,31])]) ?_;have a1:=@RY;unfold Fm at h;exact walk
end
namespace G1
def J1(d:Bool):ABi Bool:=some d
end G1
section
open G1
def G1(b:AG)(a:Int)(c:Bool):=(F9 a (b.AK.length:Int)).bind λe=>if e then(gt b.AK a).bind λf=>J1 (f.RW==c)
else
J1 false
def Ur{b:AG}{a:Int}{c r:Bool}(h:G1 b a c=some r):Says prog 92 [.agg (A5 b),si a,sb c] (sb r):=by refine kO mix func92 (hn [(3,[8,13])]) ?_;have a1:=@Us;unfold G1 at h;exact walk
end
namespace Gc
def J1(c:Bool):ABi Bool:=some c
end Gc
section
open Gc
def Gc(b:AE)(a:Int):=(MN a (b.dg.dh.length:Int)).bind λd=>if d then(gt b.dg.dh a).bind λe=>J1 (decide (e>=1))
else
J1 false
def cF{b:AE}{a:Int}{r:Bool}(h:Gc b a=some r):Says prog 102 [.agg (Av b),si a] (sb r):=by refine kO mix func102 (hn [(2,[6,7,12,13])]) ?_;have a1:=@Xz;unfold Gc at h;exact walk
end
namespace IU
def J1(b:Bool):ABi Bool:=some b
end IU
section
open IU
def IU(a:Int):=(Gv a).bind λc=>if c then
J1 true
else(Iy a).bind λd=>if d then
J1 true
else
J1 (a==95)
def bL{a:Int}{r:Bool}(h:IU a=some r):Says prog 155 [.sc (.int .u8 a)] (sb r):=by refine kO mix func155 hn ?_;have a1:=@QQ;have a2:=@bH;unfold IU at h;exact walk
end
def EV(a:AP)(b:ABj):ABi (Bool×AP):=(Cv a.eb b).bind λc=>some (decide (c>=0),a)
def Sx{a:AP}{b:ABj}{r:Bool×AP}(h:EV a b=some r):BM prog 257 [bA 8 (Cy a),B4 b] (sb r.1) [bA 8 (Cy r.2),.dead]:=by refine kL mix func257 (hn [(0,[5,6,7,8])]) ?_;have a1:=@I0;unfold EV at h;exact walk
def ML(b a:Int):ABi (Int×Bool):=if b==4 then
some (A8 (0-a),true)
else
if b==5 then(Em (a==0)).bind λc=>some (c,true)
else
some (0,false)
def bT{b a:Int}{r:mo}(h:ML b a=some r):Says prog 265 [si b,si a] (.Bo [si r.1,sb r.2]):=by refine kO mix func265 hn ?_;have a1:=@RX;unfold ML at h;exact walk
def HM(a:i6)(b:Int):ABi Bool:=(Gy a b).bind λc=>some (decide (c>=0))
def NV{a:i6}{b:Int}{r:Bool}(h:HM a b=some r):Says prog 167 [vS 1 eI a,si b] (sb r):=by refine kO mix func167 hn ?_;have a1:=@Yt;unfold HM at h;exact walk
end Go.Abs
