/- The parser's run on text 2. -/
import Derived.Test.YtdppgkglljpdaaaGreatDoorAwM
import Derived.KernelRfl
set_option linter.all false
namespace Go.Ab
set_option maxRecDepth 100000
theorem run_source2 : evH tabHm 3000 54 [.p text2] [] = ansS2 := by kernel_rfl
end Go.Ab
