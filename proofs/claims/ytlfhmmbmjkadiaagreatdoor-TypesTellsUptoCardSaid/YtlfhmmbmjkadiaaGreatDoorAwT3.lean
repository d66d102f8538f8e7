import Derived.Test.YtlfhmmbmjkadiaaGreatDoorAwL
import Derived.KernelRfl
set_option linter.all false
namespace Go.Ab
set_option maxRecDepth 100000
def aeJ:R:=some ((.tup [(.p (.slice 4 [(tk 2 [97,99,116,111,114] 0 0),(tk 1 [65] 0 6),(tk 5 [123] 0 8),(tk 2 [109,101,116,104,111,100] 0 10),(tk 1 [109] 0 17),(tk 5 [40] 0 18),(tk 5 [41] 0 19),(tk 5 [58] 0 20),(tk 2 [105,110,116] 0 22),(tk 5 [123] 0 26),(tk 2 [105,102] 0 28),(tk 5 [40] 0 31),(tk 2 [116,114,117,101] 0 32),(tk 5 [41] 0 36),(tk 5 [123] 0 38),(tk 2 [114,101,116,117,114,110] 0 40),(tk 3 [49] 1 47),(tk 5 [59] 0 48),(tk 5 [125] 0 50),(tk 5 [125] 0 52),(tk 5 [125] 0 54)])),(.p (i6 0)),(.p (i6 0))]),[])
theorem aii:TF layB.tabH 3000 82 [.p UE] []=aeJ:=by kernel_rfl
end Go.Ab
