/- The layer C. -/
import Derived.Test.YthaepnbiaocjkaaGreatDoorAwC1
import Derived.Test.YthaepnbiaocjkaaGreatDoorAwC2
set_option linter.all false
namespace Go.Ab
set_option maxRecDepth 100000
noncomputable def knC : List (List Da × R) := [([(.agg [prog1])], ansC1), ([(.agg [prog2])], ansC2)]
noncomputable def layC : Lay prog0 globs0 := layR.memo mix0 43 knC (by
  intro p hp
  simp only [knC, List.mem_cons, List.not_mem_nil, or_false] at hp
  rcases hp with rfl | rfl
  · exact runC1
  · exact runC2)
end Go.Ab
