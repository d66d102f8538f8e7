import Derived.Test.YtmnmeiibmgcddaaGreatDoorAwXC
import Derived.KernelRfl
set_option linter.all false
namespace Go.Ab
open Go
set_option maxRecDepth 100000
def û:R:=some ((.p (i6 0)),[])
def aaI:KQ layC.tabH 3000 29 [.p aaN] []=û:=by kernel_rfl
end Go.Ab
