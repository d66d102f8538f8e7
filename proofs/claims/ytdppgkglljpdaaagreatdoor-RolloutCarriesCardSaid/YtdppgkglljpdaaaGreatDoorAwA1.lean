/- The type checker's run on program 1. -/
import Derived.Test.YtdppgkglljpdaaaGreatDoorAbU
import Derived.Test.YtdppgkglljpdaaaGreatDoorAwL
import Derived.KernelRfl
set_option linter.all false
namespace Go.Ab
set_option maxRecDepth 100000
theorem run_analyze1 : evH tabH 3000 104 [.p (.agg [prog1])] [] = ansA1 := by kernel_rfl
end Go.Ab
