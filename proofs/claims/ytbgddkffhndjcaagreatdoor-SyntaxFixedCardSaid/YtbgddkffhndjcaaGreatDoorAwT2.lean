import Derived.Test.YtbgddkffhndjcaaGreatDoorAwL
import Derived.KernelRfl
set_option linter.all false
namespace Go.Ab
open Go
set_option maxRecDepth 100000
def aav:R:=some ((.tup [(.p (.slice 4 [(tk 2 [97,99,116,111,114] 0 0),(tk 1 [65] 0 6),(tk 5 [123] 0 8),(tk 2 [115,116,97,116,101] 0 10),(tk 1 [120] 0 16),(tk 5 [58] 0 18),(tk 2 [105,110,116] 0 20),(tk 5 [61] 0 24),(tk 5 [45] 0 26),(tk 3 [51] 3 28),(tk 5 [59] 0 30),(tk 2 [109,101,116,104,111,100] 0 32),(tk 1 [109] 0 39),(tk 5 [40] 0 41),(tk 1 [110] 0 43),(tk 5 [58] 0 45),(tk 2 [105,110,116] 0 47),(tk 5 [41] 0 51),(tk 5 [58] 0 53),(tk 2 [105,110,116] 0 55),(tk 5 [123] 0 59),(tk 1 [120] 0 61),(tk 5 [61] 0 63),(tk 5 [40] 0 65),(tk 1 [120] 0 67),(tk 5 [43] 0 69),(tk 1 [110] 0 71),(tk 5 [41] 0 73),(tk 5 [59] 0 75),(tk 2 [114,101,116,117,114,110] 0 77),(tk 1 [120] 0 84),(tk 5 [59] 0 86),(tk 5 [125] 0 88),(tk 5 [125] 0 90)])),(.p (i6 0)),(.p (i6 0))]),[])
def aev:IJ layB.tabH 3000 13 [.p TC] []=aav:=by kernel_rfl
end Go.Ab
