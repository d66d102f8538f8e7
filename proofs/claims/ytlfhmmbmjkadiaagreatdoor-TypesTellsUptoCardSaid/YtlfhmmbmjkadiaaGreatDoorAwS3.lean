import Derived.Test.YtlfhmmbmjkadiaaGreatDoorAwXT
import Derived.KernelRfl
set_option linter.all false
namespace Go.Ab
set_option maxRecDepth 100000
def aeG:R:=some ((.tup [(.p (.agg [(.slice 3 [(.agg [(.str [65]),(.slice 7 []),(.slice 4 [(.agg [(.str [109]),(.slice 2 []),(i6 1),(.slice 8 [(.agg [(i6 1),(.str []),(i6 2),(i6 1),(.str []),(.slice 1 []),(.slice 1 []),(.slice 1 [])]),(.agg [(i6 1),(.str []),(i6 1),(i6 1),(.str []),(.slice 1 []),(.slice 1 []),(.slice 1 [])]),(nd 13 [] [(i6 1)]),(nd 18 [] [(i6 2)]),(nd 11 [] [(i6 0),(i6 3)]),(nd 18 [] [(i6 4)])])])])])])])),(.p (i6 0)),(.p (i6 0))]),[])
theorem aif:TF layT.tabH 3000 51 [.p UE] []=aeG:=by kernel_rfl
end Go.Ab
