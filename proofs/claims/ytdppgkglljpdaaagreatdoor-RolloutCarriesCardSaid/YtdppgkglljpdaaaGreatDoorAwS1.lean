/- The parser's run on text 1. -/
import Derived.Test.YtdppgkglljpdaaaGreatDoorAwM
import Derived.KernelRfl
set_option linter.all false
namespace Go.Ab
set_option maxRecDepth 100000
theorem run_source1 : evH tabHm 3000 54 [.p text1] [] = ansS1 := by kernel_rfl
end Go.Ab
