import Derived.Test.YtmnmeiibmgcddaaGreatDoorAwXS
import Derived.KernelRfl
set_option linter.all false
namespace Go.Ab
open Go
set_option maxRecDepth 100000
def ø:R:=some ((.tup [(.p (.agg [(.slice 3 [(.agg [(.str [65]),(.slice 7 [(.agg [(.str [120]),(i6 1),(i6 1),(i6 7),(.str []),(.slice 1 []),(.slice 1 [])])]),(.slice 5 [(.agg [(.str [109]),(.slice 1 [(i6 1)]),(i6 1),(.slice 1 [(i6 1),(i6 1)]),(.slice 8 [(ic 4 0 0),(ic 2 0 0),(ic 9 0 0),(ic 5 0 0),(.agg [(i6 1),(i6 0),(i6 0),(i6 3),(i6 0),(.str [98]),(.slice 1 []),(.slice 1 [])]),(ic 30 0 1),(ic 3 1 0),(ic 2 1 0),(ic 4 0 0),(ic 12 0 0),(ic 32 0 0)])]),(.agg [(.str [102]),(.slice 1 []),(i6 1),(.slice 1 []),(.slice 8 [(.agg [(i6 1),(i6 0),(i6 0),(i6 1),(i6 2),(.str []),(.slice 1 []),(.slice 1 [])]),(ic 32 0 0)])])])])])])),(.p (.agg [(i6 0),(i6 0),(i6 0)])),(.p (i6 0))]),[])
def aaF:KQ layS.tabH 3000 34 [.p aaM] []=ø:=by kernel_rfl
end Go.Ab
