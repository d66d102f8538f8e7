/- The code is the program's. Printed by mkco.py. -/
import Derived.Test.YtmofokakccionaaGreatDoorAbG
import Derived.KernelRfl
import Derived.Test.YtmofokakccionaaGreatDoorAbC0
import Derived.Test.YtmofokakccionaaGreatDoorAbC1
import Derived.Test.YtmofokakccionaaGreatDoorAbC2
import Derived.Test.YtmofokakccionaaGreatDoorAbC3
set_option linter.all false
namespace Go.Ab
open Go.Proofs.Tryz
set_option maxRecDepth 100000
theorem fits120 : fits prog0 globs0 raws0 f120 x120 := ⟨by kernel_rfl, by kernel_rfl⟩
theorem name120 : (f120.name == "runtime.NumGoroutine") = false := by kernel_rfl
theorem fits178 : fits prog0 globs0 raws0 f178 x178 := ⟨by kernel_rfl, by kernel_rfl⟩
theorem name178 : (f178.name == "runtime.NumGoroutine") = false := by kernel_rfl
theorem fits142 : fits prog0 globs0 raws0 f142 x142 := ⟨by kernel_rfl, by kernel_rfl⟩
theorem name142 : (f142.name == "runtime.NumGoroutine") = false := by kernel_rfl
theorem fits39 : fits prog0 globs0 raws0 f39 x39 := ⟨by kernel_rfl, by kernel_rfl⟩
theorem name39 : (f39.name == "runtime.NumGoroutine") = false := by kernel_rfl
theorem fits78 : fits prog0 globs0 raws0 f78 x78 := ⟨by kernel_rfl, by kernel_rfl⟩
theorem name78 : (f78.name == "runtime.NumGoroutine") = false := by kernel_rfl
theorem fits125 : fits prog0 globs0 raws0 f125 x125 := ⟨by kernel_rfl, by kernel_rfl⟩
theorem name125 : (f125.name == "runtime.NumGoroutine") = false := by kernel_rfl
theorem fits121 : fits prog0 globs0 raws0 f121 x121 := ⟨by kernel_rfl, by kernel_rfl⟩
theorem name121 : (f121.name == "runtime.NumGoroutine") = false := by kernel_rfl
theorem fits34 : fits prog0 globs0 raws0 f34 x34 := ⟨by kernel_rfl, by kernel_rfl⟩
theorem name34 : (f34.name == "runtime.NumGoroutine") = false := by kernel_rfl
theorem fits222 : fits prog0 globs0 raws0 f222 x222 := ⟨by kernel_rfl, by kernel_rfl⟩
theorem name222 : (f222.name == "runtime.NumGoroutine") = false := by kernel_rfl
theorem fits216 : fits prog0 globs0 raws0 f216 x216 := ⟨by kernel_rfl, by kernel_rfl⟩
theorem name216 : (f216.name == "runtime.NumGoroutine") = false := by kernel_rfl
theorem fits19 : fits prog0 globs0 raws0 f19 x19 := ⟨by kernel_rfl, by kernel_rfl⟩
theorem name19 : (f19.name == "runtime.NumGoroutine") = false := by kernel_rfl
theorem fits223 : fits prog0 globs0 raws0 f223 x223 := ⟨by kernel_rfl, by kernel_rfl⟩
theorem name223 : (f223.name == "runtime.NumGoroutine") = false := by kernel_rfl
theorem fits73 : fits prog0 globs0 raws0 f73 x73 := ⟨by kernel_rfl, by kernel_rfl⟩
theorem name73 : (f73.name == "runtime.NumGoroutine") = false := by kernel_rfl
theorem fits176 : fits prog0 globs0 raws0 f176 x176 := ⟨by kernel_rfl, by kernel_rfl⟩
theorem name176 : (f176.name == "runtime.NumGoroutine") = false := by kernel_rfl
theorem fits152 : fits prog0 globs0 raws0 f152 x152 := ⟨by kernel_rfl, by kernel_rfl⟩
theorem name152 : (f152.name == "runtime.NumGoroutine") = false := by kernel_rfl
theorem fits89 : fits prog0 globs0 raws0 f89 x89 := ⟨by kernel_rfl, by kernel_rfl⟩
theorem name89 : (f89.name == "runtime.NumGoroutine") = false := by kernel_rfl
theorem fits150 : fits prog0 globs0 raws0 f150 x150 := ⟨by kernel_rfl, by kernel_rfl⟩
theorem name150 : (f150.name == "runtime.NumGoroutine") = false := by kernel_rfl
theorem fits228 : fits prog0 globs0 raws0 f228 x228 := ⟨by kernel_rfl, by kernel_rfl⟩
theorem name228 : (f228.name == "runtime.NumGoroutine") = false := by kernel_rfl
theorem fits200 : fits prog0 globs0 raws0 f200 x200 := ⟨by kernel_rfl, by kernel_rfl⟩
theorem name200 : (f200.name == "runtime.NumGoroutine") = false := by kernel_rfl
theorem fits218 : fits prog0 globs0 raws0 f218 x218 := ⟨by kernel_rfl, by kernel_rfl⟩
theorem name218 : (f218.name == "runtime.NumGoroutine") = false := by kernel_rfl
theorem fits144 : fits prog0 globs0 raws0 f144 x144 := ⟨by kernel_rfl, by kernel_rfl⟩
theorem name144 : (f144.name == "runtime.NumGoroutine") = false := by kernel_rfl
theorem fits106 : fits prog0 globs0 raws0 f106 x106 := ⟨by kernel_rfl, by kernel_rfl⟩
theorem name106 : (f106.name == "runtime.NumGoroutine") = false := by kernel_rfl
theorem fits57 : fits prog0 globs0 raws0 f57 x57 := ⟨by kernel_rfl, by kernel_rfl⟩
theorem name57 : (f57.name == "runtime.NumGoroutine") = false := by kernel_rfl
theorem fits115 : fits prog0 globs0 raws0 f115 x115 := ⟨by kernel_rfl, by kernel_rfl⟩
theorem name115 : (f115.name == "runtime.NumGoroutine") = false := by kernel_rfl
theorem fits147 : fits prog0 globs0 raws0 f147 x147 := ⟨by kernel_rfl, by kernel_rfl⟩
theorem name147 : (f147.name == "runtime.NumGoroutine") = false := by kernel_rfl
theorem fits171 : fits prog0 globs0 raws0 f171 x171 := ⟨by kernel_rfl, by kernel_rfl⟩
theorem name171 : (f171.name == "runtime.NumGoroutine") = false := by kernel_rfl
theorem fits101 : fits prog0 globs0 raws0 f101 x101 := ⟨by kernel_rfl, by kernel_rfl⟩
theorem name101 : (f101.name == "runtime.NumGoroutine") = false := by kernel_rfl
theorem fits105 : fits prog0 globs0 raws0 f105 x105 := ⟨by kernel_rfl, by kernel_rfl⟩
theorem name105 : (f105.name == "runtime.NumGoroutine") = false := by kernel_rfl
theorem fits43 : fits prog0 globs0 raws0 f43 x43 := ⟨by kernel_rfl, by kernel_rfl⟩
theorem name43 : (f43.name == "runtime.NumGoroutine") = false := by kernel_rfl
theorem fits46 : fits prog0 globs0 raws0 f46 x46 := ⟨by kernel_rfl, by kernel_rfl⟩
theorem name46 : (f46.name == "runtime.NumGoroutine") = false := by kernel_rfl
theorem fits41 : fits prog0 globs0 raws0 f41 x41 := ⟨by kernel_rfl, by kernel_rfl⟩
theorem name41 : (f41.name == "runtime.NumGoroutine") = false := by kernel_rfl
theorem fits215 : fits prog0 globs0 raws0 f215 x215 := ⟨by kernel_rfl, by kernel_rfl⟩
theorem name215 : (f215.name == "runtime.NumGoroutine") = false := by kernel_rfl
theorem fits174 : fits prog0 globs0 raws0 f174 x174 := ⟨by kernel_rfl, by kernel_rfl⟩
theorem name174 : (f174.name == "runtime.NumGoroutine") = false := by kernel_rfl
theorem fits226 : fits prog0 globs0 raws0 f226 x226 := ⟨by kernel_rfl, by kernel_rfl⟩
theorem name226 : (f226.name == "runtime.NumGoroutine") = false := by kernel_rfl
theorem fits36 : fits prog0 globs0 raws0 f36 x36 := ⟨by kernel_rfl, by kernel_rfl⟩
theorem name36 : (f36.name == "runtime.NumGoroutine") = false := by kernel_rfl
theorem fits124 : fits prog0 globs0 raws0 f124 x124 := ⟨by kernel_rfl, by kernel_rfl⟩
theorem name124 : (f124.name == "runtime.NumGoroutine") = false := by kernel_rfl
theorem fits91 : fits prog0 globs0 raws0 f91 x91 := ⟨by kernel_rfl, by kernel_rfl⟩
theorem name91 : (f91.name == "runtime.NumGoroutine") = false := by kernel_rfl
theorem fits104 : fits prog0 globs0 raws0 f104 x104 := ⟨by kernel_rfl, by kernel_rfl⟩
theorem name104 : (f104.name == "runtime.NumGoroutine") = false := by kernel_rfl
theorem fits51 : fits prog0 globs0 raws0 f51 x51 := ⟨by kernel_rfl, by kernel_rfl⟩
theorem name51 : (f51.name == "runtime.NumGoroutine") = false := by kernel_rfl
theorem fits69 : fits prog0 globs0 raws0 f69 x69 := ⟨by kernel_rfl, by kernel_rfl⟩
theorem name69 : (f69.name == "runtime.NumGoroutine") = false := by kernel_rfl
theorem fits211 : fits prog0 globs0 raws0 f211 x211 := ⟨by kernel_rfl, by kernel_rfl⟩
theorem name211 : (f211.name == "runtime.NumGoroutine") = false := by kernel_rfl
end Go.Ab
