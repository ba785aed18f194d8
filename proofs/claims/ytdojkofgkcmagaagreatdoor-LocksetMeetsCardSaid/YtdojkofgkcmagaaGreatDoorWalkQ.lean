/- Typed programs of Go functions, and that the functions do what these say. -/
import Derived.Test.YtdojkofgkcmagaaGreatDoorWalkP
set_option linter.defProp false
set_option linter.unusedSimpArgs false
set_option linter.unusedVariables false
namespace Go.Abs
open Go.Proofs Tryz
set_option maxRecDepth 1000000
set_option maxHeartbeats 4000000
def Od(a:iq):ABu Bj:=
(CD a).bind λb=>
(A2 b).bind λc=>
some c.1
def jS{a:iq}{r:Bj}(h:Od a=some r):Says prog 86 [vS 1 iX a] (.agg (KV r)):=by refine kF mix func86 hn ?_;have a1:= @XW;have a2:= @V7;unfold Od at h;exact walk
end Go.Abs
