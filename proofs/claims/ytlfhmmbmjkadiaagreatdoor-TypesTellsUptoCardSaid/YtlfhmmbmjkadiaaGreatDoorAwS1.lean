import Derived.Test.YtlfhmmbmjkadiaaGreatDoorAwXT
import Derived.KernelRfl
set_option linter.all false
namespace Go.Ab
set_option maxRecDepth 100000
def aeE:R:=some ((.tup [(.p (.agg [(.slice 3 [(.agg [(.str [65]),(.slice 7 [(.agg [(.str [120]),(i6 1),(i6 1),(i6 0),(.str []),(.slice 1 []),(.slice 1 [])])]),(.slice 4 [(.agg [(.str [109]),(.slice 2 [(.agg [(.str [110]),(i6 1)])]),(i6 1),(.slice 8 [(nd 3 [] []),(.agg [(i6 7),(.str [66]),(i6 0),(i6 0),(.str [102]),(.slice 1 []),(.slice 1 []),(.slice 1 [(i6 0)])]),(.agg [(i6 8),(.str [107]),(i6 1),(i6 0),(.str []),(.slice 1 []),(.slice 1 []),(.slice 1 [(i6 1)])]),(nd 2 [120] []),(nd 2 [110] []),(nd 5 [43] [(i6 3),(i6 4)]),(nd 2 [107] []),(nd 5 [43] [(i6 5),(i6 6)]),(nd 9 [120] [(i6 7)]),(nd 2 [120] []),(nd 13 [] [(i6 9)]),(nd 18 [] [(i6 2),(i6 8),(i6 10)])])])])]),(.agg [(.str [66]),(.slice 7 []),(.slice 4 [(.agg [(.str [102]),(.slice 2 []),(i6 1),(.slice 8 [(.agg [(i6 1),(.str []),(i6 1),(i6 1),(.str []),(.slice 1 []),(.slice 1 []),(.slice 1 [])]),(nd 13 [] [(i6 0)]),(nd 18 [] [(i6 1)])])])])])])])),(.p (i6 0)),(.p (i6 0))]),[])
theorem aid:TF layT.tabH 3000 51 [.p UC] []=aeE:=by kernel_rfl
end Go.Ab
