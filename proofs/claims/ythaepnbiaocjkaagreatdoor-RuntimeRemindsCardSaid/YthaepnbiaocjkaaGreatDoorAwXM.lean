/- The layer M. -/
import Derived.Test.YthaepnbiaocjkaaGreatDoorAwM1
import Derived.Test.YthaepnbiaocjkaaGreatDoorAwM2
import Derived.Test.YthaepnbiaocjkaaGreatDoorAwM3
import Derived.Test.YthaepnbiaocjkaaGreatDoorAwM4
set_option linter.all false
namespace Go.Ab
set_option maxRecDepth 100000
noncomputable def knM : List ((List D × List Ob) × R) := [(inM1, ansM1), (inM2, ansM2), (inM3, ansM3), (inM4, ansM4), (inM5, ansM5), (inM6, ansM6), (inM7, ansM7), (inM8, ansM8), (inM9, ansM9), (inM10, ansM10), (inM11, ansM11), (inM12, ansM12), (inM13, ansM13), (inM14, ansM14), (inM15, ansM15), (inM16, ansM16), (inM17, ansM17), (inM18, ansM18), (inM19, ansM19), (inM20, ansM20), (inM21, ansM21), (inM22, ansM22), (inM23, ansM23), (inM24, ansM24), (inM25, ansM25), (inM26, ansM26), (inM27, ansM27)]
noncomputable def layM : Lay prog0 globs0 := layT.memoH mix0 223 knM (by
  intro p hp
  simp only [knM, List.mem_cons, List.not_mem_nil, or_false] at hp
  rcases hp with rfl | rfl | rfl | rfl | rfl | rfl | rfl | rfl | rfl | rfl | rfl | rfl | rfl | rfl | rfl | rfl | rfl | rfl | rfl | rfl | rfl | rfl | rfl | rfl | rfl | rfl | rfl
  · exact runM1
  · exact runM2
  · exact runM3
  · exact runM4
  · exact runM5
  · exact runM6
  · exact runM7
  · exact runM8
  · exact runM9
  · exact runM10
  · exact runM11
  · exact runM12
  · exact runM13
  · exact runM14
  · exact runM15
  · exact runM16
  · exact runM17
  · exact runM18
  · exact runM19
  · exact runM20
  · exact runM21
  · exact runM22
  · exact runM23
  · exact runM24
  · exact runM25
  · exact runM26
  · exact runM27)
end Go.Ab
