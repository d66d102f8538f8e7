/- The layer G. -/
import Derived.Test.YthaepnbiaocjkaaGreatDoorAwG1
set_option linter.all false
namespace Go.Ab
set_option maxRecDepth 100000
noncomputable def knG : List (List Da × R) := [([], ansG1)]
noncomputable def layG : Lay prog0 globs0 := layC.memo mix0 5 knG (by
  intro p hp
  simp only [knG, List.mem_cons, List.not_mem_nil, or_false] at hp
  obtain rfl := hp
  exact runG1)
end Go.Ab
