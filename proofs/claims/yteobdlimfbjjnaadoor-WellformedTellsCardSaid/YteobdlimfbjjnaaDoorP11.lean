/- The law WellformedTells over what comes in. -/
import Derived.Test.YteobdlimfbjjnaaDoorP10
import Derived.Test.YteobdlimfbjjnaaDoorOP
namespace Go.Abs
theorem evOK_of {t : STrace} (h : okTrace t) : ∀ e ∈ t.Events, EvOK e := by
 intro e he
 have := h.f1.all e he
 have h1 := this.f5.len; have h2 := this.f6.len
 unfold reachBytes at h1 h2
 exact ⟨by omega, by omega⟩
end Go.Abs
