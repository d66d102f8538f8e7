/- The seat's program. -/
import Derived.Test.YtmofokakccionaaGreatDoorAm3
import Derived.Test.YtmofokakccionaaGreatDoorProg
import Derived.KernelRfl
set_option linter.all false
namespace Go.Ab
open Go
noncomputable def prog0 : Program := Go.Proofs.Tryz.prog
def globs0 : Glob := fun _ => none
def raws0 (f : Nat) : Bool := Nat.beq f 106
theorem mix0 : prog0.follows .mixedOrders = true := by kernel_rfl
end Go.Ab
