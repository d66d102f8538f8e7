/- The seat's program. -/
import Derived.Test.YtdppgkglljpdaaaGreatDoorAm3
import Derived.Test.YtdppgkglljpdaaaGreatDoorProg
import Derived.KernelRfl
set_option linter.all false
namespace Go.Ab
open Go
noncomputable def prog0 : Program := Go.Proofs.Tryz.prog
def globs0 : Glob := fun g => bif Nat.beq g 0 then some (.agg [.int .u64 1, .int .u64 10, .int .u64 100, .int .u64 1000, .int .u64 10000, .int .u64 100000, .int .u64 1000000, .int .u64 10000000, .int .u64 100000000, .int .u64 1000000000, .int .u64 10000000000, .int .u64 100000000000, .int .u64 1000000000000, .int .u64 10000000000000, .int .u64 100000000000000, .int .u64 1000000000000000, .int .u64 10000000000000000, .int .u64 100000000000000000, .int .u64 1000000000000000000, .int .u64 10000000000000000000]) else none
def raws0 (f : Nat) : Bool := Nat.beq f 1000029 || Nat.beq f 2000048
abbrev Ft (f : Func) (x : Fx) := fits prog0 globs0 raws0 f x
theorem mix0 : prog0.follows .mixedOrders = true := by kernel_rfl
end Go.Ab
