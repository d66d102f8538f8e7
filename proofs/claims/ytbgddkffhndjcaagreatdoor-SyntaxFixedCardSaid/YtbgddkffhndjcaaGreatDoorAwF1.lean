import Derived.Test.YtbgddkffhndjcaaGreatDoorAwXS
import Derived.KernelRfl
set_option linter.all false
namespace Go.Ab
open Go
set_option maxRecDepth 100000
def aaY:Da:=(.agg [(.slice 3 [(.agg [(.str [65]),(.slice 7 [(.agg [(.str [120]),(i6 1),(i6 1),(i6 (-3)),(.str []),(.slice 1 []),(.slice 1 [])])]),(.slice 4 [(.agg [(.str [109]),(.slice 2 [(.agg [(.str [110]),(i6 1)])]),(i6 1),(.slice 8 [(nd 2 [120] []),(nd 2 [110] []),(nd 5 [43] [(i6 0),(i6 1)]),(nd 9 [120] [(i6 2)]),(nd 2 [120] []),(nd 13 [] [(i6 4)]),(nd 18 [] [(i6 3),(i6 5)])])])])])])])
def aaq:R:=some ((.p (.str [97,99,116,111,114,32,65,32,123,10,115,116,97,116,101,32,120,32,58,32,105,110,116,32,61,32,45,32,51,32,59,10,109,101,116,104,111,100,32,109,32,40,32,110,32,58,32,105,110,116,32,41,32,58,32,105,110,116,32,123,10,120,32,61,32,40,32,120,32,43,32,110,32,41,32,59,10,114,101,116,117,114,110,32,120,32,59,10,125,10,125,10])),[])
def aeq:IJ layS.tabH 3000 10 [.p aaY] []=aaq:=by kernel_rfl
end Go.Ab
