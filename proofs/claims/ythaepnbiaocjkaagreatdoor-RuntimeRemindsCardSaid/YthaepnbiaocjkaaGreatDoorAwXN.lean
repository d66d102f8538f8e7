/- The layer N. -/
import Derived.Test.YthaepnbiaocjkaaGreatDoorAwN1
import Derived.Test.YthaepnbiaocjkaaGreatDoorAwN2
import Derived.Test.YthaepnbiaocjkaaGreatDoorAwN3
import Derived.Test.YthaepnbiaocjkaaGreatDoorAwN4
set_option linter.all false
namespace Go.Ab
set_option maxRecDepth 100000
noncomputable def knN : List ((List D × List Ob) × R) := [(inN1, ansN1), (inN2, ansN2), (inN3, ansN3), (inN4, ansN4), (inN5, ansN5), (inN6, ansN6), (inN7, ansN7), (inN8, ansN8), (inN9, ansN9), (inN10, ansN10), (inN11, ansN11), (inN12, ansN12), (inN13, ansN13), (inN14, ansN14), (inN15, ansN15), (inN16, ansN16), (inN17, ansN17), (inN18, ansN18), (inN19, ansN19), (inN20, ansN20), (inN21, ansN21), (inN22, ansN22), (inN23, ansN23), (inN24, ansN24), (inN25, ansN25), (inN26, ansN26), (inN27, ansN27)]
noncomputable def layN : Lay prog0 globs0 := layK.memoH mix0 88 knN (by
  intro p hp
  simp only [knN, List.mem_cons, List.not_mem_nil, or_false] at hp
  rcases hp with rfl | rfl | rfl | rfl | rfl | rfl | rfl | rfl | rfl | rfl | rfl | rfl | rfl | rfl | rfl | rfl | rfl | rfl | rfl | rfl | rfl | rfl | rfl | rfl | rfl | rfl | rfl
  · exact runN1
  · exact runN2
  · exact runN3
  · exact runN4
  · exact runN5
  · exact runN6
  · exact runN7
  · exact runN8
  · exact runN9
  · exact runN10
  · exact runN11
  · exact runN12
  · exact runN13
  · exact runN14
  · exact runN15
  · exact runN16
  · exact runN17
  · exact runN18
  · exact runN19
  · exact runN20
  · exact runN21
  · exact runN22
  · exact runN23
  · exact runN24
  · exact runN25
  · exact runN26
  · exact runN27)
end Go.Ab
