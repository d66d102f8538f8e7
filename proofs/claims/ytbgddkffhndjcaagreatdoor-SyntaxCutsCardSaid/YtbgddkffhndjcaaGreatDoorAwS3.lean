import Derived.Test.YtbgddkffhndjcaaGreatDoorAwXT
import Derived.KernelRfl
set_option linter.all false
namespace Go.Ab
open Go
set_option maxRecDepth 100000
def QR:R:=some ((.tup [(.p (.agg [(.slice 3 [])])),(.p (i6 36)),(.p (i6 13))]),[])
theorem Uj:Be layT.tabH 3000 11 [.p Hq] []=QR:=by kernel_rfl
end Go.Ab
