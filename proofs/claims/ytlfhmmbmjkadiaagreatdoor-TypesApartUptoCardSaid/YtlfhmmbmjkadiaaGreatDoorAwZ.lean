/- awake; the table. -/
import Derived.Test.YtlfhmmbmjkadiaaGreatDoorAwXS
import Derived.KernelRfl
set_option linter.all false
namespace Go.Ab
set_option maxRecDepth 100000
theorem runZ : evH layS.tabH 3000 16 [] [] = some ((.p (.bool true)), []) := by kernel_rfl
noncomputable def lay0 : Lay prog0 globs0 := layS.memo mix0 16 [([], some ((.p (.bool true)), []))] (by
 intro p hp
 simp only [List.mem_cons, List.not_mem_nil, or_false] at hp
 subst hp
 exact runZ)
end Go.Ab
