/- Closed runs: T2. -/
import Derived.Test.YthaepnbiaocjkaaGreatDoorAbG
import Derived.Test.YthaepnbiaocjkaaGreatDoorAwL
import Derived.KernelRfl
set_option linter.all false
namespace Go.Ab
set_option maxRecDepth 100000
def ansT2 : R := some ((.tup [(.p tok2), (.p (i6 0)), (.p (i6 0))]), [])
theorem runT2 : evH lay0.tabH 3000 90 [.p text2] [] = ansT2 := by kernel_rfl
end Go.Ab
