/- Closed runs: K2. -/
import Derived.Test.YthaepnbiaocjkaaGreatDoorAwXS
import Derived.Test.YthaepnbiaocjkaaGreatDoorAwL
import Derived.KernelRfl
set_option linter.all false
namespace Go.Ab
set_option maxRecDepth 100000
def ansK2 : R := some ((.tup [(.p (.agg [(i6 0), (i6 0), (i6 0)])), (.p (i6 0))]), [])
theorem runK2 : evH layS.tabH 3000 87 [.p (.agg [prog2])] [] = ansK2 := by kernel_rfl
end Go.Ab
