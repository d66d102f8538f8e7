import Derived.Test.YtmnmeiibmgcddaaGreatDoorAwXT
import Derived.KernelRfl
set_option linter.all false
namespace Go.Ab
open Go
set_option maxRecDepth 100000
def ù:R:=some ((.tup [(.p (.agg [(.slice 3 [(.agg [(.str [65]),(.slice 7 [(.agg [(.str [120]),(i6 1),(i6 1),(i6 7),(.str []),(.slice 1 []),(.slice 1 [])])]),(.slice 4 [(.agg [(.str [109]),(.slice 2 [(.agg [(.str [110]),(i6 1)])]),(i6 1),(.slice 8 [(nd 2 [120] []),(nd 2 [110] []),(nd 5 [43] [(i6 0),(i6 1)]),(nd 9 [120] [(i6 2)]),(.agg [(i6 1),(.str []),(i6 3),(i6 0),(.str [98]),(.slice 1 []),(.slice 1 []),(.slice 1 [])]),(.agg [(i6 7),(.str [65]),(i6 0),(i6 0),(.str [102]),(.slice 1 []),(.slice 1 []),(.slice 1 [(i6 4)])]),(.agg [(i6 8),(.str [107]),(i6 1),(i6 0),(.str []),(.slice 1 []),(.slice 1 []),(.slice 1 [(i6 5)])]),(nd 2 [107] []),(nd 2 [120] []),(nd 5 [42] [(i6 7),(i6 8)]),(nd 13 [] [(i6 9)]),(nd 18 [] [(i6 3),(i6 6),(i6 10)])])]),(.agg [(.str [102]),(.slice 2 []),(i6 1),(.slice 8 [(.agg [(i6 1),(.str []),(i6 1),(i6 2),(.str []),(.slice 1 []),(.slice 1 []),(.slice 1 [])]),(nd 13 [] [(i6 0)]),(nd 18 [] [(i6 1)])])])])])])])),(.p (i6 0)),(.p (i6 0))]),[])
def aaG:KQ layT.tabH 3000 33 [.p ê] []=ù:=by kernel_rfl
end Go.Ab
