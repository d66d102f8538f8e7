/- The code is the program's. Printed by mkco.py. -/
import Derived.Test.YtmofokakccionaaGreatDoorAbG
import Derived.KernelRfl
import Derived.Test.YtmofokakccionaaGreatDoorAbC0
import Derived.Test.YtmofokakccionaaGreatDoorAbC1
import Derived.Test.YtmofokakccionaaGreatDoorAbC2
import Derived.Test.YtmofokakccionaaGreatDoorAbC3
set_option linter.all false
namespace Go.Ab
open Go.Proofs.Tryz
set_option maxRecDepth 100000
theorem fits93 : fits prog0 globs0 raws0 f93 x93 := ⟨by kernel_rfl, by kernel_rfl⟩
theorem name93 : (f93.name == "runtime.NumGoroutine") = false := by kernel_rfl
theorem fits25 : fits prog0 globs0 raws0 f25 x25 := ⟨by kernel_rfl, by kernel_rfl⟩
theorem name25 : (f25.name == "runtime.NumGoroutine") = false := by kernel_rfl
theorem fits27 : fits prog0 globs0 raws0 f27 x27 := ⟨by kernel_rfl, by kernel_rfl⟩
theorem name27 : (f27.name == "runtime.NumGoroutine") = false := by kernel_rfl
theorem fits33 : fits prog0 globs0 raws0 f33 x33 := ⟨by kernel_rfl, by kernel_rfl⟩
theorem name33 : (f33.name == "runtime.NumGoroutine") = false := by kernel_rfl
theorem fits96 : fits prog0 globs0 raws0 f96 x96 := ⟨by kernel_rfl, by kernel_rfl⟩
theorem name96 : (f96.name == "runtime.NumGoroutine") = false := by kernel_rfl
theorem fits23 : fits prog0 globs0 raws0 f23 x23 := ⟨by kernel_rfl, by kernel_rfl⟩
theorem name23 : (f23.name == "runtime.NumGoroutine") = false := by kernel_rfl
theorem fits139 : fits prog0 globs0 raws0 f139 x139 := ⟨by kernel_rfl, by kernel_rfl⟩
theorem name139 : (f139.name == "runtime.NumGoroutine") = false := by kernel_rfl
theorem fits221 : fits prog0 globs0 raws0 f221 x221 := ⟨by kernel_rfl, by kernel_rfl⟩
theorem name221 : (f221.name == "runtime.NumGoroutine") = false := by kernel_rfl
theorem fits11 : fits prog0 globs0 raws0 f11 x11 := ⟨by kernel_rfl, by kernel_rfl⟩
theorem name11 : (f11.name == "runtime.NumGoroutine") = false := by kernel_rfl
theorem fits79 : fits prog0 globs0 raws0 f79 x79 := ⟨by kernel_rfl, by kernel_rfl⟩
theorem name79 : (f79.name == "runtime.NumGoroutine") = false := by kernel_rfl
theorem fits173 : fits prog0 globs0 raws0 f173 x173 := ⟨by kernel_rfl, by kernel_rfl⟩
theorem name173 : (f173.name == "runtime.NumGoroutine") = false := by kernel_rfl
theorem fits180 : fits prog0 globs0 raws0 f180 x180 := ⟨by kernel_rfl, by kernel_rfl⟩
theorem name180 : (f180.name == "runtime.NumGoroutine") = false := by kernel_rfl
theorem fits53 : fits prog0 globs0 raws0 f53 x53 := ⟨by kernel_rfl, by kernel_rfl⟩
theorem name53 : (f53.name == "runtime.NumGoroutine") = false := by kernel_rfl
theorem fits198 : fits prog0 globs0 raws0 f198 x198 := ⟨by kernel_rfl, by kernel_rfl⟩
theorem name198 : (f198.name == "runtime.NumGoroutine") = false := by kernel_rfl
theorem fits14 : fits prog0 globs0 raws0 f14 x14 := ⟨by kernel_rfl, by kernel_rfl⟩
theorem name14 : (f14.name == "runtime.NumGoroutine") = false := by kernel_rfl
theorem fits186 : fits prog0 globs0 raws0 f186 x186 := ⟨by kernel_rfl, by kernel_rfl⟩
theorem name186 : (f186.name == "runtime.NumGoroutine") = false := by kernel_rfl
theorem fits225 : fits prog0 globs0 raws0 f225 x225 := ⟨by kernel_rfl, by kernel_rfl⟩
theorem name225 : (f225.name == "runtime.NumGoroutine") = false := by kernel_rfl
theorem fits3 : fits prog0 globs0 raws0 f3 x3 := ⟨by kernel_rfl, by kernel_rfl⟩
theorem name3 : (f3.name == "runtime.NumGoroutine") = false := by kernel_rfl
theorem fits126 : fits prog0 globs0 raws0 f126 x126 := ⟨by kernel_rfl, by kernel_rfl⟩
theorem name126 : (f126.name == "runtime.NumGoroutine") = false := by kernel_rfl
theorem fits111 : fits prog0 globs0 raws0 f111 x111 := ⟨by kernel_rfl, by kernel_rfl⟩
theorem name111 : (f111.name == "runtime.NumGoroutine") = false := by kernel_rfl
theorem fits17 : fits prog0 globs0 raws0 f17 x17 := ⟨by kernel_rfl, by kernel_rfl⟩
theorem name17 : (f17.name == "runtime.NumGoroutine") = false := by kernel_rfl
theorem fits106 : fits prog0 globs0 raws0 f106 x106 := ⟨by kernel_rfl, by kernel_rfl⟩
theorem name106 : (f106.name == "runtime.NumGoroutine") = false := by kernel_rfl
theorem fits57 : fits prog0 globs0 raws0 f57 x57 := ⟨by kernel_rfl, by kernel_rfl⟩
theorem name57 : (f57.name == "runtime.NumGoroutine") = false := by kernel_rfl
theorem fits115 : fits prog0 globs0 raws0 f115 x115 := ⟨by kernel_rfl, by kernel_rfl⟩
theorem name115 : (f115.name == "runtime.NumGoroutine") = false := by kernel_rfl
theorem fits147 : fits prog0 globs0 raws0 f147 x147 := ⟨by kernel_rfl, by kernel_rfl⟩
theorem name147 : (f147.name == "runtime.NumGoroutine") = false := by kernel_rfl
theorem fits171 : fits prog0 globs0 raws0 f171 x171 := ⟨by kernel_rfl, by kernel_rfl⟩
theorem name171 : (f171.name == "runtime.NumGoroutine") = false := by kernel_rfl
theorem fits101 : fits prog0 globs0 raws0 f101 x101 := ⟨by kernel_rfl, by kernel_rfl⟩
theorem name101 : (f101.name == "runtime.NumGoroutine") = false := by kernel_rfl
theorem fits105 : fits prog0 globs0 raws0 f105 x105 := ⟨by kernel_rfl, by kernel_rfl⟩
theorem name105 : (f105.name == "runtime.NumGoroutine") = false := by kernel_rfl
theorem fits43 : fits prog0 globs0 raws0 f43 x43 := ⟨by kernel_rfl, by kernel_rfl⟩
theorem name43 : (f43.name == "runtime.NumGoroutine") = false := by kernel_rfl
theorem fits46 : fits prog0 globs0 raws0 f46 x46 := ⟨by kernel_rfl, by kernel_rfl⟩
theorem name46 : (f46.name == "runtime.NumGoroutine") = false := by kernel_rfl
theorem fits41 : fits prog0 globs0 raws0 f41 x41 := ⟨by kernel_rfl, by kernel_rfl⟩
theorem name41 : (f41.name == "runtime.NumGoroutine") = false := by kernel_rfl
theorem fits215 : fits prog0 globs0 raws0 f215 x215 := ⟨by kernel_rfl, by kernel_rfl⟩
theorem name215 : (f215.name == "runtime.NumGoroutine") = false := by kernel_rfl
theorem fits174 : fits prog0 globs0 raws0 f174 x174 := ⟨by kernel_rfl, by kernel_rfl⟩
theorem name174 : (f174.name == "runtime.NumGoroutine") = false := by kernel_rfl
theorem fits226 : fits prog0 globs0 raws0 f226 x226 := ⟨by kernel_rfl, by kernel_rfl⟩
theorem name226 : (f226.name == "runtime.NumGoroutine") = false := by kernel_rfl
theorem fits36 : fits prog0 globs0 raws0 f36 x36 := ⟨by kernel_rfl, by kernel_rfl⟩
theorem name36 : (f36.name == "runtime.NumGoroutine") = false := by kernel_rfl
theorem fits124 : fits prog0 globs0 raws0 f124 x124 := ⟨by kernel_rfl, by kernel_rfl⟩
theorem name124 : (f124.name == "runtime.NumGoroutine") = false := by kernel_rfl
theorem fits91 : fits prog0 globs0 raws0 f91 x91 := ⟨by kernel_rfl, by kernel_rfl⟩
theorem name91 : (f91.name == "runtime.NumGoroutine") = false := by kernel_rfl
theorem fits104 : fits prog0 globs0 raws0 f104 x104 := ⟨by kernel_rfl, by kernel_rfl⟩
theorem name104 : (f104.name == "runtime.NumGoroutine") = false := by kernel_rfl
theorem fits51 : fits prog0 globs0 raws0 f51 x51 := ⟨by kernel_rfl, by kernel_rfl⟩
theorem name51 : (f51.name == "runtime.NumGoroutine") = false := by kernel_rfl
theorem fits69 : fits prog0 globs0 raws0 f69 x69 := ⟨by kernel_rfl, by kernel_rfl⟩
theorem name69 : (f69.name == "runtime.NumGoroutine") = false := by kernel_rfl
theorem fits211 : fits prog0 globs0 raws0 f211 x211 := ⟨by kernel_rfl, by kernel_rfl⟩
theorem name211 : (f211.name == "runtime.NumGoroutine") = false := by kernel_rfl
end Go.Ab
