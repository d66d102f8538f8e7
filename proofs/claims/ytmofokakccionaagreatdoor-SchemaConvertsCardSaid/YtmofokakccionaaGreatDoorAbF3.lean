/- The code is the program's. Printed by mkco.py. -/
import Derived.Test.YtmofokakccionaaGreatDoorAbG
import Derived.KernelRfl
import Derived.Test.YtmofokakccionaaGreatDoorAbC0
import Derived.Test.YtmofokakccionaaGreatDoorAbC1
import Derived.Test.YtmofokakccionaaGreatDoorAbC2
import Derived.Test.YtmofokakccionaaGreatDoorAbC3
set_option linter.all false
namespace Go.Ab
open Go.Proofs.Tryz
set_option maxRecDepth 100000
theorem fits28 : fits prog0 globs0 raws0 f28 x28 := ⟨by kernel_rfl, by kernel_rfl⟩
theorem name28 : (f28.name == "runtime.NumGoroutine") = false := by kernel_rfl
theorem fits97 : fits prog0 globs0 raws0 f97 x97 := ⟨by kernel_rfl, by kernel_rfl⟩
theorem name97 : (f97.name == "runtime.NumGoroutine") = false := by kernel_rfl
theorem fits27 : fits prog0 globs0 raws0 f27 x27 := ⟨by kernel_rfl, by kernel_rfl⟩
theorem name27 : (f27.name == "runtime.NumGoroutine") = false := by kernel_rfl
theorem fits33 : fits prog0 globs0 raws0 f33 x33 := ⟨by kernel_rfl, by kernel_rfl⟩
theorem name33 : (f33.name == "runtime.NumGoroutine") = false := by kernel_rfl
theorem fits96 : fits prog0 globs0 raws0 f96 x96 := ⟨by kernel_rfl, by kernel_rfl⟩
theorem name96 : (f96.name == "runtime.NumGoroutine") = false := by kernel_rfl
theorem fits23 : fits prog0 globs0 raws0 f23 x23 := ⟨by kernel_rfl, by kernel_rfl⟩
theorem name23 : (f23.name == "runtime.NumGoroutine") = false := by kernel_rfl
theorem fits139 : fits prog0 globs0 raws0 f139 x139 := ⟨by kernel_rfl, by kernel_rfl⟩
theorem name139 : (f139.name == "runtime.NumGoroutine") = false := by kernel_rfl
theorem fits34 : fits prog0 globs0 raws0 f34 x34 := ⟨by kernel_rfl, by kernel_rfl⟩
theorem name34 : (f34.name == "runtime.NumGoroutine") = false := by kernel_rfl
theorem fits222 : fits prog0 globs0 raws0 f222 x222 := ⟨by kernel_rfl, by kernel_rfl⟩
theorem name222 : (f222.name == "runtime.NumGoroutine") = false := by kernel_rfl
theorem fits216 : fits prog0 globs0 raws0 f216 x216 := ⟨by kernel_rfl, by kernel_rfl⟩
theorem name216 : (f216.name == "runtime.NumGoroutine") = false := by kernel_rfl
theorem fits19 : fits prog0 globs0 raws0 f19 x19 := ⟨by kernel_rfl, by kernel_rfl⟩
theorem name19 : (f19.name == "runtime.NumGoroutine") = false := by kernel_rfl
theorem fits223 : fits prog0 globs0 raws0 f223 x223 := ⟨by kernel_rfl, by kernel_rfl⟩
theorem name223 : (f223.name == "runtime.NumGoroutine") = false := by kernel_rfl
theorem fits6 : fits prog0 globs0 raws0 f6 x6 := ⟨by kernel_rfl, by kernel_rfl⟩
theorem name6 : (f6.name == "runtime.NumGoroutine") = false := by kernel_rfl
theorem fits118 : fits prog0 globs0 raws0 f118 x118 := ⟨by kernel_rfl, by kernel_rfl⟩
theorem name118 : (f118.name == "runtime.NumGoroutine") = false := by kernel_rfl
theorem fits13 : fits prog0 globs0 raws0 f13 x13 := ⟨by kernel_rfl, by kernel_rfl⟩
theorem name13 : (f13.name == "runtime.NumGoroutine") = false := by kernel_rfl
theorem fits186 : fits prog0 globs0 raws0 f186 x186 := ⟨by kernel_rfl, by kernel_rfl⟩
theorem name186 : (f186.name == "runtime.NumGoroutine") = false := by kernel_rfl
theorem fits225 : fits prog0 globs0 raws0 f225 x225 := ⟨by kernel_rfl, by kernel_rfl⟩
theorem name225 : (f225.name == "runtime.NumGoroutine") = false := by kernel_rfl
theorem fits83 : fits prog0 globs0 raws0 f83 x83 := ⟨by kernel_rfl, by kernel_rfl⟩
theorem name83 : (f83.name == "runtime.NumGoroutine") = false := by kernel_rfl
theorem fits126 : fits prog0 globs0 raws0 f126 x126 := ⟨by kernel_rfl, by kernel_rfl⟩
theorem name126 : (f126.name == "runtime.NumGoroutine") = false := by kernel_rfl
theorem fits111 : fits prog0 globs0 raws0 f111 x111 := ⟨by kernel_rfl, by kernel_rfl⟩
theorem name111 : (f111.name == "runtime.NumGoroutine") = false := by kernel_rfl
theorem fits144 : fits prog0 globs0 raws0 f144 x144 := ⟨by kernel_rfl, by kernel_rfl⟩
theorem name144 : (f144.name == "runtime.NumGoroutine") = false := by kernel_rfl
theorem fits106 : fits prog0 globs0 raws0 f106 x106 := ⟨by kernel_rfl, by kernel_rfl⟩
theorem name106 : (f106.name == "runtime.NumGoroutine") = false := by kernel_rfl
theorem fits57 : fits prog0 globs0 raws0 f57 x57 := ⟨by kernel_rfl, by kernel_rfl⟩
theorem name57 : (f57.name == "runtime.NumGoroutine") = false := by kernel_rfl
theorem fits45 : fits prog0 globs0 raws0 f45 x45 := ⟨by kernel_rfl, by kernel_rfl⟩
theorem name45 : (f45.name == "runtime.NumGoroutine") = false := by kernel_rfl
theorem fits201 : fits prog0 globs0 raws0 f201 x201 := ⟨by kernel_rfl, by kernel_rfl⟩
theorem name201 : (f201.name == "runtime.NumGoroutine") = false := by kernel_rfl
theorem fits229 : fits prog0 globs0 raws0 f229 x229 := ⟨by kernel_rfl, by kernel_rfl⟩
theorem name229 : (f229.name == "runtime.NumGoroutine") = false := by kernel_rfl
theorem fits90 : fits prog0 globs0 raws0 f90 x90 := ⟨by kernel_rfl, by kernel_rfl⟩
theorem name90 : (f90.name == "runtime.NumGoroutine") = false := by kernel_rfl
theorem fits231 : fits prog0 globs0 raws0 f231 x231 := ⟨by kernel_rfl, by kernel_rfl⟩
theorem name231 : (f231.name == "runtime.NumGoroutine") = false := by kernel_rfl
theorem fits172 : fits prog0 globs0 raws0 f172 x172 := ⟨by kernel_rfl, by kernel_rfl⟩
theorem name172 : (f172.name == "runtime.NumGoroutine") = false := by kernel_rfl
theorem fits195 : fits prog0 globs0 raws0 f195 x195 := ⟨by kernel_rfl, by kernel_rfl⟩
theorem name195 : (f195.name == "runtime.NumGoroutine") = false := by kernel_rfl
theorem fits66 : fits prog0 globs0 raws0 f66 x66 := ⟨by kernel_rfl, by kernel_rfl⟩
theorem name66 : (f66.name == "runtime.NumGoroutine") = false := by kernel_rfl
theorem fits65 : fits prog0 globs0 raws0 f65 x65 := ⟨by kernel_rfl, by kernel_rfl⟩
theorem name65 : (f65.name == "runtime.NumGoroutine") = false := by kernel_rfl
theorem fits212 : fits prog0 globs0 raws0 f212 x212 := ⟨by kernel_rfl, by kernel_rfl⟩
theorem name212 : (f212.name == "runtime.NumGoroutine") = false := by kernel_rfl
theorem fits77 : fits prog0 globs0 raws0 f77 x77 := ⟨by kernel_rfl, by kernel_rfl⟩
theorem name77 : (f77.name == "runtime.NumGoroutine") = false := by kernel_rfl
theorem fits108 : fits prog0 globs0 raws0 f108 x108 := ⟨by kernel_rfl, by kernel_rfl⟩
theorem name108 : (f108.name == "runtime.NumGoroutine") = false := by kernel_rfl
theorem fits61 : fits prog0 globs0 raws0 f61 x61 := ⟨by kernel_rfl, by kernel_rfl⟩
theorem name61 : (f61.name == "runtime.NumGoroutine") = false := by kernel_rfl
theorem fits213 : fits prog0 globs0 raws0 f213 x213 := ⟨by kernel_rfl, by kernel_rfl⟩
theorem name213 : (f213.name == "runtime.NumGoroutine") = false := by kernel_rfl
theorem fits102 : fits prog0 globs0 raws0 f102 x102 := ⟨by kernel_rfl, by kernel_rfl⟩
theorem name102 : (f102.name == "runtime.NumGoroutine") = false := by kernel_rfl
theorem fits175 : fits prog0 globs0 raws0 f175 x175 := ⟨by kernel_rfl, by kernel_rfl⟩
theorem name175 : (f175.name == "runtime.NumGoroutine") = false := by kernel_rfl
theorem fits88 : fits prog0 globs0 raws0 f88 x88 := ⟨by kernel_rfl, by kernel_rfl⟩
theorem name88 : (f88.name == "runtime.NumGoroutine") = false := by kernel_rfl
theorem fits94 : fits prog0 globs0 raws0 f94 x94 := ⟨by kernel_rfl, by kernel_rfl⟩
theorem name94 : (f94.name == "runtime.NumGoroutine") = false := by kernel_rfl
theorem fits59 : fits prog0 globs0 raws0 f59 x59 := ⟨by kernel_rfl, by kernel_rfl⟩
theorem name59 : (f59.name == "runtime.NumGoroutine") = false := by kernel_rfl
end Go.Ab
