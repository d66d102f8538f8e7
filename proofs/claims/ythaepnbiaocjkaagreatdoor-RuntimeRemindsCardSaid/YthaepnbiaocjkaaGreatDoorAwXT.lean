/- The layer T. -/
import Derived.Test.YthaepnbiaocjkaaGreatDoorAwT1
import Derived.Test.YthaepnbiaocjkaaGreatDoorAwT2
set_option linter.all false
namespace Go.Ab
set_option maxRecDepth 100000
noncomputable def knT : List (List Da × R) := [([text1], ansT1), ([text2], ansT2)]
noncomputable def layT : Lay prog0 globs0 := lay0.memo mix0 90 knT (by
  intro p hp
  simp only [knT, List.mem_cons, List.not_mem_nil, or_false] at hp
  rcases hp with rfl | rfl
  · exact runT1
  · exact runT2)
end Go.Ab
