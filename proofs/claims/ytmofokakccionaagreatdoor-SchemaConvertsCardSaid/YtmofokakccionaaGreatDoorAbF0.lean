/- The code is the program's. Printed by mkco.py. -/
import Derived.Test.YtmofokakccionaaGreatDoorAbG
import Derived.KernelRfl
import Derived.Test.YtmofokakccionaaGreatDoorAbC0
import Derived.Test.YtmofokakccionaaGreatDoorAbC1
import Derived.Test.YtmofokakccionaaGreatDoorAbC2
import Derived.Test.YtmofokakccionaaGreatDoorAbC3
set_option linter.all false
namespace Go.Ab
open Go.Proofs.Tryz
set_option maxRecDepth 100000
theorem fits235 : fits prog0 globs0 raws0 f235 x235 := ⟨by kernel_rfl, by kernel_rfl⟩
theorem name235 : (f235.name == "runtime.NumGoroutine") = false := by kernel_rfl
theorem fits120 : fits prog0 globs0 raws0 f120 x120 := ⟨by kernel_rfl, by kernel_rfl⟩
theorem name120 : (f120.name == "runtime.NumGoroutine") = false := by kernel_rfl
theorem fits178 : fits prog0 globs0 raws0 f178 x178 := ⟨by kernel_rfl, by kernel_rfl⟩
theorem name178 : (f178.name == "runtime.NumGoroutine") = false := by kernel_rfl
theorem fits112 : fits prog0 globs0 raws0 f112 x112 := ⟨by kernel_rfl, by kernel_rfl⟩
theorem name112 : (f112.name == "runtime.NumGoroutine") = false := by kernel_rfl
theorem fits32 : fits prog0 globs0 raws0 f32 x32 := ⟨by kernel_rfl, by kernel_rfl⟩
theorem name32 : (f32.name == "runtime.NumGoroutine") = false := by kernel_rfl
theorem fits199 : fits prog0 globs0 raws0 f199 x199 := ⟨by kernel_rfl, by kernel_rfl⟩
theorem name199 : (f199.name == "runtime.NumGoroutine") = false := by kernel_rfl
theorem fits154 : fits prog0 globs0 raws0 f154 x154 := ⟨by kernel_rfl, by kernel_rfl⟩
theorem name154 : (f154.name == "runtime.NumGoroutine") = false := by kernel_rfl
theorem fits121 : fits prog0 globs0 raws0 f121 x121 := ⟨by kernel_rfl, by kernel_rfl⟩
theorem name121 : (f121.name == "runtime.NumGoroutine") = false := by kernel_rfl
theorem fits119 : fits prog0 globs0 raws0 f119 x119 := ⟨by kernel_rfl, by kernel_rfl⟩
theorem name119 : (f119.name == "runtime.NumGoroutine") = false := by kernel_rfl
theorem fits113 : fits prog0 globs0 raws0 f113 x113 := ⟨by kernel_rfl, by kernel_rfl⟩
theorem name113 : (f113.name == "runtime.NumGoroutine") = false := by kernel_rfl
theorem fits44 : fits prog0 globs0 raws0 f44 x44 := ⟨by kernel_rfl, by kernel_rfl⟩
theorem name44 : (f44.name == "runtime.NumGoroutine") = false := by kernel_rfl
theorem fits182 : fits prog0 globs0 raws0 f182 x182 := ⟨by kernel_rfl, by kernel_rfl⟩
theorem name182 : (f182.name == "runtime.NumGoroutine") = false := by kernel_rfl
theorem fits227 : fits prog0 globs0 raws0 f227 x227 := ⟨by kernel_rfl, by kernel_rfl⟩
theorem name227 : (f227.name == "runtime.NumGoroutine") = false := by kernel_rfl
theorem fits53 : fits prog0 globs0 raws0 f53 x53 := ⟨by kernel_rfl, by kernel_rfl⟩
theorem name53 : (f53.name == "runtime.NumGoroutine") = false := by kernel_rfl
theorem fits198 : fits prog0 globs0 raws0 f198 x198 := ⟨by kernel_rfl, by kernel_rfl⟩
theorem name198 : (f198.name == "runtime.NumGoroutine") = false := by kernel_rfl
theorem fits152 : fits prog0 globs0 raws0 f152 x152 := ⟨by kernel_rfl, by kernel_rfl⟩
theorem name152 : (f152.name == "runtime.NumGoroutine") = false := by kernel_rfl
theorem fits89 : fits prog0 globs0 raws0 f89 x89 := ⟨by kernel_rfl, by kernel_rfl⟩
theorem name89 : (f89.name == "runtime.NumGoroutine") = false := by kernel_rfl
theorem fits150 : fits prog0 globs0 raws0 f150 x150 := ⟨by kernel_rfl, by kernel_rfl⟩
theorem name150 : (f150.name == "runtime.NumGoroutine") = false := by kernel_rfl
theorem fits228 : fits prog0 globs0 raws0 f228 x228 := ⟨by kernel_rfl, by kernel_rfl⟩
theorem name228 : (f228.name == "runtime.NumGoroutine") = false := by kernel_rfl
theorem fits200 : fits prog0 globs0 raws0 f200 x200 := ⟨by kernel_rfl, by kernel_rfl⟩
theorem name200 : (f200.name == "runtime.NumGoroutine") = false := by kernel_rfl
theorem fits218 : fits prog0 globs0 raws0 f218 x218 := ⟨by kernel_rfl, by kernel_rfl⟩
theorem name218 : (f218.name == "runtime.NumGoroutine") = false := by kernel_rfl
theorem fits220 : fits prog0 globs0 raws0 f220 x220 := ⟨by kernel_rfl, by kernel_rfl⟩
theorem name220 : (f220.name == "runtime.NumGoroutine") = false := by kernel_rfl
theorem fits54 : fits prog0 globs0 raws0 f54 x54 := ⟨by kernel_rfl, by kernel_rfl⟩
theorem name54 : (f54.name == "runtime.NumGoroutine") = false := by kernel_rfl
theorem fits67 : fits prog0 globs0 raws0 f67 x67 := ⟨by kernel_rfl, by kernel_rfl⟩
theorem name67 : (f67.name == "runtime.NumGoroutine") = false := by kernel_rfl
theorem fits115 : fits prog0 globs0 raws0 f115 x115 := ⟨by kernel_rfl, by kernel_rfl⟩
theorem name115 : (f115.name == "runtime.NumGoroutine") = false := by kernel_rfl
theorem fits147 : fits prog0 globs0 raws0 f147 x147 := ⟨by kernel_rfl, by kernel_rfl⟩
theorem name147 : (f147.name == "runtime.NumGoroutine") = false := by kernel_rfl
theorem fits171 : fits prog0 globs0 raws0 f171 x171 := ⟨by kernel_rfl, by kernel_rfl⟩
theorem name171 : (f171.name == "runtime.NumGoroutine") = false := by kernel_rfl
theorem fits101 : fits prog0 globs0 raws0 f101 x101 := ⟨by kernel_rfl, by kernel_rfl⟩
theorem name101 : (f101.name == "runtime.NumGoroutine") = false := by kernel_rfl
theorem fits105 : fits prog0 globs0 raws0 f105 x105 := ⟨by kernel_rfl, by kernel_rfl⟩
theorem name105 : (f105.name == "runtime.NumGoroutine") = false := by kernel_rfl
theorem fits43 : fits prog0 globs0 raws0 f43 x43 := ⟨by kernel_rfl, by kernel_rfl⟩
theorem name43 : (f43.name == "runtime.NumGoroutine") = false := by kernel_rfl
theorem fits46 : fits prog0 globs0 raws0 f46 x46 := ⟨by kernel_rfl, by kernel_rfl⟩
theorem name46 : (f46.name == "runtime.NumGoroutine") = false := by kernel_rfl
theorem fits38 : fits prog0 globs0 raws0 f38 x38 := ⟨by kernel_rfl, by kernel_rfl⟩
theorem name38 : (f38.name == "runtime.NumGoroutine") = false := by kernel_rfl
theorem fits146 : fits prog0 globs0 raws0 f146 x146 := ⟨by kernel_rfl, by kernel_rfl⟩
theorem name146 : (f146.name == "runtime.NumGoroutine") = false := by kernel_rfl
theorem fits110 : fits prog0 globs0 raws0 f110 x110 := ⟨by kernel_rfl, by kernel_rfl⟩
theorem name110 : (f110.name == "runtime.NumGoroutine") = false := by kernel_rfl
theorem fits209 : fits prog0 globs0 raws0 f209 x209 := ⟨by kernel_rfl, by kernel_rfl⟩
theorem name209 : (f209.name == "runtime.NumGoroutine") = false := by kernel_rfl
theorem fits203 : fits prog0 globs0 raws0 f203 x203 := ⟨by kernel_rfl, by kernel_rfl⟩
theorem name203 : (f203.name == "runtime.NumGoroutine") = false := by kernel_rfl
theorem fits52 : fits prog0 globs0 raws0 f52 x52 := ⟨by kernel_rfl, by kernel_rfl⟩
theorem name52 : (f52.name == "runtime.NumGoroutine") = false := by kernel_rfl
theorem fits75 : fits prog0 globs0 raws0 f75 x75 := ⟨by kernel_rfl, by kernel_rfl⟩
theorem name75 : (f75.name == "runtime.NumGoroutine") = false := by kernel_rfl
theorem fits219 : fits prog0 globs0 raws0 f219 x219 := ⟨by kernel_rfl, by kernel_rfl⟩
theorem name219 : (f219.name == "runtime.NumGoroutine") = false := by kernel_rfl
theorem fits214 : fits prog0 globs0 raws0 f214 x214 := ⟨by kernel_rfl, by kernel_rfl⟩
theorem name214 : (f214.name == "runtime.NumGoroutine") = false := by kernel_rfl
theorem fits149 : fits prog0 globs0 raws0 f149 x149 := ⟨by kernel_rfl, by kernel_rfl⟩
theorem name149 : (f149.name == "runtime.NumGoroutine") = false := by kernel_rfl
theorem fits141 : fits prog0 globs0 raws0 f141 x141 := ⟨by kernel_rfl, by kernel_rfl⟩
theorem name141 : (f141.name == "runtime.NumGoroutine") = false := by kernel_rfl
theorem fits60 : fits prog0 globs0 raws0 f60 x60 := ⟨by kernel_rfl, by kernel_rfl⟩
theorem name60 : (f60.name == "runtime.NumGoroutine") = false := by kernel_rfl
end Go.Ab
