/- The layer S. -/
import Derived.Test.YthaepnbiaocjkaaGreatDoorAwS1
import Derived.Test.YthaepnbiaocjkaaGreatDoorAwS2
set_option linter.all false
namespace Go.Ab
set_option maxRecDepth 100000
noncomputable def knS : List (List Da × R) := [([text1], ansS1), ([text2], ansS2)]
noncomputable def layS : Lay prog0 globs0 := layM.memo mix0 45 knS (by
  intro p hp
  simp only [knS, List.mem_cons, List.not_mem_nil, or_false] at hp
  rcases hp with rfl | rfl
  · exact runS1
  · exact runS2)
end Go.Ab
