/- Closed runs: S2. -/
import Derived.Test.YthaepnbiaocjkaaGreatDoorAwXM
import Derived.Test.YthaepnbiaocjkaaGreatDoorAwL
import Derived.KernelRfl
set_option linter.all false
namespace Go.Ab
set_option maxRecDepth 100000
def ansS2 : R := some ((.tup [(.p (.agg [prog2])), (.p (i6 0)), (.p (i6 0))]), [])
theorem runS2 : evH layM.tabH 3000 45 [.p text2] [] = ansS2 := by kernel_rfl
end Go.Ab
