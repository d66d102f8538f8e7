/- Closed runs: S1. -/
import Derived.Test.YthaepnbiaocjkaaGreatDoorAwXM
import Derived.Test.YthaepnbiaocjkaaGreatDoorAwL
import Derived.KernelRfl
set_option linter.all false
namespace Go.Ab
set_option maxRecDepth 100000
def ansS1 : R := some ((.tup [(.p (.agg [prog1])), (.p (i6 0)), (.p (i6 0))]), [])
theorem runS1 : evH layM.tabH 3000 45 [.p text1] [] = ansS1 := by kernel_rfl
end Go.Ab
