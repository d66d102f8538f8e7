/- The type checker's run on program 2. -/
import Derived.Test.YtdppgkglljpdaaaGreatDoorAbU
import Derived.Test.YtdppgkglljpdaaaGreatDoorAwL
import Derived.KernelRfl
set_option linter.all false
namespace Go.Ab
set_option maxRecDepth 100000
theorem run_analyze2 : evH tabH 3000 104 [.p (.agg [prog2])] [] = ansA2 := by kernel_rfl
end Go.Ab
