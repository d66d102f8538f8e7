import Derived.Test.YtmnmeiibmgcddaaGreatDoorAwXC
import Derived.KernelRfl
set_option linter.all false
namespace Go.Ab
open Go
set_option maxRecDepth 100000
def U3:R:=some ((.p (i6 0)),[])
def ZB:F0 layC.tabH 3000 29 [.p ZI] []=U3:=by kernel_rfl
end Go.Ab
