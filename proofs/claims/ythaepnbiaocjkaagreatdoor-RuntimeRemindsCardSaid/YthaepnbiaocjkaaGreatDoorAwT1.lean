/- Closed runs: T1. -/
import Derived.Test.YthaepnbiaocjkaaGreatDoorAbG
import Derived.Test.YthaepnbiaocjkaaGreatDoorAwL
import Derived.KernelRfl
set_option linter.all false
namespace Go.Ab
set_option maxRecDepth 100000
def ansT1 : R := some ((.tup [(.p tok1), (.p (i6 0)), (.p (i6 0))]), [])
theorem runT1 : evH lay0.tabH 3000 90 [.p text1] [] = ansT1 := by kernel_rfl
end Go.Ab
