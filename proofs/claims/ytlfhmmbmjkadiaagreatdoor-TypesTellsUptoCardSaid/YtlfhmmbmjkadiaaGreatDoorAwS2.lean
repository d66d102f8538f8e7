import Derived.Test.YtlfhmmbmjkadiaaGreatDoorAwXT
import Derived.KernelRfl
set_option linter.all false
namespace Go.Ab
set_option maxRecDepth 100000
def aeF:R:=some ((.tup [(.p (.agg [(.slice 3 [(.agg [(.str [65]),(.slice 7 []),(.slice 4 [(.agg [(.str [109]),(.slice 2 []),(i6 1),(.slice 8 [(nd 2 [120] []),(.agg [(i6 8),(.str [120]),(i6 1),(i6 0),(.str []),(.slice 1 []),(.slice 1 []),(.slice 1 [(i6 0)])]),(.agg [(i6 1),(.str []),(i6 1),(i6 1),(.str []),(.slice 1 []),(.slice 1 []),(.slice 1 [])]),(nd 13 [] [(i6 2)]),(nd 18 [] [(i6 1),(i6 3)])])])])])])])),(.p (i6 0)),(.p (i6 0))]),[])
theorem aie:TF layT.tabH 3000 51 [.p UD] []=aeF:=by kernel_rfl
end Go.Ab
