import Derived.Test.YtbgddkffhndjcaaGreatDoorAwXT
import Derived.KernelRfl
set_option linter.all false
namespace Go.Ab
open Go
set_option maxRecDepth 100000
def aat:R:=some ((.tup [(.p (.agg [(.slice 3 [])])),(.p (i6 36)),(.p (i6 13))]),[])
def aet:IJ layT.tabH 3000 11 [.p TD] []=aat:=by kernel_rfl
end Go.Ab
