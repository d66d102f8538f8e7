/- The lexer's run on text 1. -/
import Derived.Test.YtdppgkglljpdaaaGreatDoorAbU
import Derived.Test.YtdppgkglljpdaaaGreatDoorAwL
import Derived.KernelRfl
set_option linter.all false
namespace Go.Ab
set_option maxRecDepth 100000
theorem run_tokens1 : evH tabH 3000 79 [.p text1] [] = ansT1 := by kernel_rfl
end Go.Ab
