import Derived.Test.YtbgddkffhndjcaaGreatDoorAwXT
import Derived.KernelRfl
set_option linter.all false
namespace Go.Ab
open Go
set_option maxRecDepth 100000
def aas:R:=some ((.tup [(.p (.agg [(.slice 3 [(.agg [(.str [65]),(.slice 7 [(.agg [(.str [120]),(i6 1),(i6 1),(i6 (-3)),(.str []),(.slice 1 []),(.slice 1 [])])]),(.slice 4 [(.agg [(.str [109]),(.slice 2 [(.agg [(.str [110]),(i6 1)])]),(i6 1),(.slice 8 [(nd 2 [120] []),(nd 2 [110] []),(nd 5 [43] [(i6 0),(i6 1)]),(nd 9 [120] [(i6 2)]),(nd 2 [120] []),(nd 13 [] [(i6 4)]),(nd 18 [] [(i6 3),(i6 5)])])])])])])])),(.p (i6 0)),(.p (i6 0))]),[])
def aes:IJ layT.tabH 3000 11 [.p TC] []=aas:=by kernel_rfl
end Go.Ab
