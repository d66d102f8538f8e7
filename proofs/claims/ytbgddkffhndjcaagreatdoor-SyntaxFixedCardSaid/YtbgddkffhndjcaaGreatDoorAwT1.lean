import Derived.Test.YtbgddkffhndjcaaGreatDoorAwL
import Derived.KernelRfl
set_option linter.all false
namespace Go.Ab
open Go
set_option maxRecDepth 100000
def aau:R:=some ((.tup [(.p (.slice 4 [(tk 2 [97,99,116,111,114] 0 0),(tk 1 [65] 0 6),(tk 5 [123] 0 8),(tk 2 [115,116,97,116,101] 0 10),(tk 1 [120] 0 16),(tk 5 [58] 0 17),(tk 2 [105,110,116] 0 19),(tk 5 [61] 0 23),(tk 5 [45] 0 25),(tk 3 [51] 3 26),(tk 5 [59] 0 27),(tk 2 [109,101,116,104,111,100] 0 29),(tk 1 [109] 0 36),(tk 5 [40] 0 37),(tk 1 [110] 0 38),(tk 5 [58] 0 39),(tk 2 [105,110,116] 0 41),(tk 5 [41] 0 44),(tk 5 [58] 0 45),(tk 2 [105,110,116] 0 47),(tk 5 [123] 0 51),(tk 1 [120] 0 53),(tk 5 [61] 0 55),(tk 1 [120] 0 57),(tk 5 [43] 0 59),(tk 1 [110] 0 61),(tk 5 [59] 0 62),(tk 2 [114,101,116,117,114,110] 0 64),(tk 1 [120] 0 71),(tk 5 [59] 0 72),(tk 5 [125] 0 74),(tk 5 [125] 0 76)])),(.p (i6 0)),(.p (i6 0))]),[])
def aeu:IJ layB.tabH 3000 13 [.p TB] []=aau:=by kernel_rfl
end Go.Ab
