import Derived.Test.YtbgddkffhndjcaaGreatDoorAwL
import Derived.KernelRfl
set_option linter.all false
namespace Go.Ab
open Go
set_option maxRecDepth 100000
def aaw:R:=some ((.tup [(.p (.slice 4 [(tk 2 [97,99,116,111,114] 0 0),(tk 1 [65] 0 6),(tk 5 [123] 0 8),(tk 2 [109,101,116,104,111,100] 0 10),(tk 1 [109] 0 17),(tk 5 [40] 0 18),(tk 5 [41] 0 19),(tk 5 [123] 0 21),(tk 2 [114,101,116,117,114,110] 0 23),(tk 3 [49] 1 30),(tk 5 [60] 0 32),(tk 3 [50] 2 34),(tk 5 [60] 0 36),(tk 3 [51] 3 38),(tk 5 [59] 0 39),(tk 5 [125] 0 41),(tk 5 [125] 0 43)])),(.p (i6 0)),(.p (i6 0))]),[])
def aew:IJ layB.tabH 3000 13 [.p TD] []=aaw:=by kernel_rfl
end Go.Ab
