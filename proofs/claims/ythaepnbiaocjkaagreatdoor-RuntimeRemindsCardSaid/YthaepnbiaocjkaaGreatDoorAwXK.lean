/- The layer K. -/
import Derived.Test.YthaepnbiaocjkaaGreatDoorAwK1
import Derived.Test.YthaepnbiaocjkaaGreatDoorAwK2
set_option linter.all false
namespace Go.Ab
set_option maxRecDepth 100000
noncomputable def knK : List (List Da × R) := [([(.agg [prog1])], ansK1), ([(.agg [prog2])], ansK2)]
noncomputable def layK : Lay prog0 globs0 := layS.memo mix0 87 knK (by
  intro p hp
  simp only [knK, List.mem_cons, List.not_mem_nil, or_false] at hp
  rcases hp with rfl | rfl
  · exact runK1
  · exact runK2)
end Go.Ab
