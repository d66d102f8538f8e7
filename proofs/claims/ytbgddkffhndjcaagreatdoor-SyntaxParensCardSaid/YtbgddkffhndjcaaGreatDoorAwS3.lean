import Derived.Test.YtbgddkffhndjcaaGreatDoorAwXT
import Derived.KernelRfl
set_option linter.all false
namespace Go.Ab
open Go
set_option maxRecDepth 100000
def Uh:R:=some ((.tup [(.p (.agg [(.slice 3 [])])),(.p (i6 36)),(.p (i6 13))]),[])
theorem X0:Dc layT.tabH 3000 11 [.p JG] []=Uh:=by kernel_rfl
end Go.Ab
