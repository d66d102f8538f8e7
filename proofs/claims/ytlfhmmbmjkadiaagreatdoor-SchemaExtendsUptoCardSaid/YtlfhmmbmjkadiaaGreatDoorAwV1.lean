import Derived.Test.YtlfhmmbmjkadiaaGreatDoorAwXS
import Derived.Test.YtlfhmmbmjkadiaaGreatDoorAwL
import Derived.KernelRfl
set_option linter.all false
namespace Go.Ab
set_option maxRecDepth 100000
def YL:R:=some ((.p (.slice 2 [(.agg [(.slice 3 [(.agg [(.str [65,99,99,111,117,110,116]),(.slice 7 [(.agg [(.str [98,97,108,97,110,99,101]),(i6 1),(i6 1),(i6 0),(.str []),(.slice 1 []),(.slice 1 [])]),(.agg [(.str [108,111,103]),(i6 4),(i6 4),(i6 0),(.str []),(.slice 1 []),(.slice 1 [])])]),(.slice 4 [me1,me2,me3,me4,me5,me6,me7,me8,me9,WI,WJ,WK])])]),(.slice 2 [])]),(.agg [(.slice 3 [(.agg [(.str [65,99,99,111,117,110,116]),(.slice 7 [(.agg [(.str [98,97,108,97,110,99,101]),(i6 1),(i6 1),(i6 0),(.str []),(.slice 1 []),(.slice 1 [])]),(.agg [(.str [108,111,103]),(i6 4),(i6 4),(i6 0),(.str []),(.slice 1 []),(.slice 1 [])]),(.agg [(.str [99,111,117,110,116]),(i6 1),(i6 1),(i6 0),(.str []),(.slice 1 []),(.slice 1 [])])]),(.slice 4 [agQ,me1,me2,me3,me4,me5,me6,me7,me8,me9,WI,WJ,WK])]),(.agg [(.str [67,111,117,110,116,101,114]),(.slice 7 [(.agg [(.str [110]),(i6 1),(i6 1),(i6 0),(.str []),(.slice 1 []),(.slice 1 [])])]),(.slice 4 [agR,agS])])]),(.slice 2 [(.agg [(.str [65,99,99,111,117,110,116]),(.slice 8 [(.agg [(.str [98,97,108,97,110,99,101]),(.str [98,97,108,97,110,99,101]),(i6 0),(i6 0),(.str []),(.slice 1 []),(.slice 1 []),(.slice 6 [])]),(.agg [(.str [108,111,103]),(.str [108,111,103]),(i6 0),(i6 0),(.str []),(.slice 1 []),(.slice 1 []),(.slice 6 [])]),(.agg [(.str [99,111,117,110,116]),(.str [108,111,103]),(i6 0),(i6 0),(.str []),(.slice 1 []),(.slice 1 []),(.slice 6 [(.agg [(i6 4),(i6 0),(i6 0),(.str []),(.slice 1 []),(.slice 1 [])])])])])])])])])),[])
theorem ae4:nG layS.tabH 3000 9 [] []=YL:=by kernel_rfl
end Go.Ab
