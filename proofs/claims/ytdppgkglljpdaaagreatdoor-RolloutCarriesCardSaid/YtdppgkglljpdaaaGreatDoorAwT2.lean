/- The lexer's run on text 2. -/
import Derived.Test.YtdppgkglljpdaaaGreatDoorAbU
import Derived.Test.YtdppgkglljpdaaaGreatDoorAwL
import Derived.KernelRfl
set_option linter.all false
namespace Go.Ab
set_option maxRecDepth 100000
theorem run_tokens2 : evH tabH 3000 79 [.p text2] [] = ansT2 := by kernel_rfl
end Go.Ab
