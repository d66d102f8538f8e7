/- The code is the program's. Printed by mkco.py. -/
import Derived.Test.YtmofokakccionaaGreatDoorAbG
import Derived.KernelRfl
import Derived.Test.YtmofokakccionaaGreatDoorAbC0
import Derived.Test.YtmofokakccionaaGreatDoorAbC1
import Derived.Test.YtmofokakccionaaGreatDoorAbC2
import Derived.Test.YtmofokakccionaaGreatDoorAbC3
set_option linter.all false
namespace Go.Ab
open Go.Proofs.Tryz
set_option maxRecDepth 100000
theorem fits170 : fits prog0 globs0 raws0 f170 x170 := ⟨by kernel_rfl, by kernel_rfl⟩
theorem name170 : (f170.name == "runtime.NumGoroutine") = false := by kernel_rfl
theorem fits97 : fits prog0 globs0 raws0 f97 x97 := ⟨by kernel_rfl, by kernel_rfl⟩
theorem name97 : (f97.name == "runtime.NumGoroutine") = false := by kernel_rfl
theorem fits112 : fits prog0 globs0 raws0 f112 x112 := ⟨by kernel_rfl, by kernel_rfl⟩
theorem name112 : (f112.name == "runtime.NumGoroutine") = false := by kernel_rfl
theorem fits32 : fits prog0 globs0 raws0 f32 x32 := ⟨by kernel_rfl, by kernel_rfl⟩
theorem name32 : (f32.name == "runtime.NumGoroutine") = false := by kernel_rfl
theorem fits199 : fits prog0 globs0 raws0 f199 x199 := ⟨by kernel_rfl, by kernel_rfl⟩
theorem name199 : (f199.name == "runtime.NumGoroutine") = false := by kernel_rfl
theorem fits154 : fits prog0 globs0 raws0 f154 x154 := ⟨by kernel_rfl, by kernel_rfl⟩
theorem name154 : (f154.name == "runtime.NumGoroutine") = false := by kernel_rfl
theorem fits12 : fits prog0 globs0 raws0 f12 x12 := ⟨by kernel_rfl, by kernel_rfl⟩
theorem name12 : (f12.name == "runtime.NumGoroutine") = false := by kernel_rfl
theorem fits34 : fits prog0 globs0 raws0 f34 x34 := ⟨by kernel_rfl, by kernel_rfl⟩
theorem name34 : (f34.name == "runtime.NumGoroutine") = false := by kernel_rfl
theorem fits222 : fits prog0 globs0 raws0 f222 x222 := ⟨by kernel_rfl, by kernel_rfl⟩
theorem name222 : (f222.name == "runtime.NumGoroutine") = false := by kernel_rfl
theorem fits216 : fits prog0 globs0 raws0 f216 x216 := ⟨by kernel_rfl, by kernel_rfl⟩
theorem name216 : (f216.name == "runtime.NumGoroutine") = false := by kernel_rfl
theorem fits19 : fits prog0 globs0 raws0 f19 x19 := ⟨by kernel_rfl, by kernel_rfl⟩
theorem name19 : (f19.name == "runtime.NumGoroutine") = false := by kernel_rfl
theorem fits223 : fits prog0 globs0 raws0 f223 x223 := ⟨by kernel_rfl, by kernel_rfl⟩
theorem name223 : (f223.name == "runtime.NumGoroutine") = false := by kernel_rfl
theorem fits73 : fits prog0 globs0 raws0 f73 x73 := ⟨by kernel_rfl, by kernel_rfl⟩
theorem name73 : (f73.name == "runtime.NumGoroutine") = false := by kernel_rfl
theorem fits176 : fits prog0 globs0 raws0 f176 x176 := ⟨by kernel_rfl, by kernel_rfl⟩
theorem name176 : (f176.name == "runtime.NumGoroutine") = false := by kernel_rfl
theorem fits152 : fits prog0 globs0 raws0 f152 x152 := ⟨by kernel_rfl, by kernel_rfl⟩
theorem name152 : (f152.name == "runtime.NumGoroutine") = false := by kernel_rfl
theorem fits89 : fits prog0 globs0 raws0 f89 x89 := ⟨by kernel_rfl, by kernel_rfl⟩
theorem name89 : (f89.name == "runtime.NumGoroutine") = false := by kernel_rfl
theorem fits150 : fits prog0 globs0 raws0 f150 x150 := ⟨by kernel_rfl, by kernel_rfl⟩
theorem name150 : (f150.name == "runtime.NumGoroutine") = false := by kernel_rfl
theorem fits228 : fits prog0 globs0 raws0 f228 x228 := ⟨by kernel_rfl, by kernel_rfl⟩
theorem name228 : (f228.name == "runtime.NumGoroutine") = false := by kernel_rfl
theorem fits200 : fits prog0 globs0 raws0 f200 x200 := ⟨by kernel_rfl, by kernel_rfl⟩
theorem name200 : (f200.name == "runtime.NumGoroutine") = false := by kernel_rfl
theorem fits218 : fits prog0 globs0 raws0 f218 x218 := ⟨by kernel_rfl, by kernel_rfl⟩
theorem name218 : (f218.name == "runtime.NumGoroutine") = false := by kernel_rfl
theorem fits144 : fits prog0 globs0 raws0 f144 x144 := ⟨by kernel_rfl, by kernel_rfl⟩
theorem name144 : (f144.name == "runtime.NumGoroutine") = false := by kernel_rfl
theorem fits54 : fits prog0 globs0 raws0 f54 x54 := ⟨by kernel_rfl, by kernel_rfl⟩
theorem name54 : (f54.name == "runtime.NumGoroutine") = false := by kernel_rfl
theorem fits67 : fits prog0 globs0 raws0 f67 x67 := ⟨by kernel_rfl, by kernel_rfl⟩
theorem name67 : (f67.name == "runtime.NumGoroutine") = false := by kernel_rfl
theorem fits207 : fits prog0 globs0 raws0 f207 x207 := ⟨by kernel_rfl, by kernel_rfl⟩
theorem name207 : (f207.name == "runtime.NumGoroutine") = false := by kernel_rfl
theorem fits169 : fits prog0 globs0 raws0 f169 x169 := ⟨by kernel_rfl, by kernel_rfl⟩
theorem name169 : (f169.name == "runtime.NumGoroutine") = false := by kernel_rfl
theorem fits74 : fits prog0 globs0 raws0 f74 x74 := ⟨by kernel_rfl, by kernel_rfl⟩
theorem name74 : (f74.name == "runtime.NumGoroutine") = false := by kernel_rfl
theorem fits137 : fits prog0 globs0 raws0 f137 x137 := ⟨by kernel_rfl, by kernel_rfl⟩
theorem name137 : (f137.name == "runtime.NumGoroutine") = false := by kernel_rfl
theorem fits196 : fits prog0 globs0 raws0 f196 x196 := ⟨by kernel_rfl, by kernel_rfl⟩
theorem name196 : (f196.name == "runtime.NumGoroutine") = false := by kernel_rfl
theorem fits140 : fits prog0 globs0 raws0 f140 x140 := ⟨by kernel_rfl, by kernel_rfl⟩
theorem name140 : (f140.name == "runtime.NumGoroutine") = false := by kernel_rfl
theorem fits206 : fits prog0 globs0 raws0 f206 x206 := ⟨by kernel_rfl, by kernel_rfl⟩
theorem name206 : (f206.name == "runtime.NumGoroutine") = false := by kernel_rfl
theorem fits48 : fits prog0 globs0 raws0 f48 x48 := ⟨by kernel_rfl, by kernel_rfl⟩
theorem name48 : (f48.name == "runtime.NumGoroutine") = false := by kernel_rfl
theorem fits76 : fits prog0 globs0 raws0 f76 x76 := ⟨by kernel_rfl, by kernel_rfl⟩
theorem name76 : (f76.name == "runtime.NumGoroutine") = false := by kernel_rfl
theorem fits208 : fits prog0 globs0 raws0 f208 x208 := ⟨by kernel_rfl, by kernel_rfl⟩
theorem name208 : (f208.name == "runtime.NumGoroutine") = false := by kernel_rfl
theorem fits72 : fits prog0 globs0 raws0 f72 x72 := ⟨by kernel_rfl, by kernel_rfl⟩
theorem name72 : (f72.name == "runtime.NumGoroutine") = false := by kernel_rfl
theorem fits61 : fits prog0 globs0 raws0 f61 x61 := ⟨by kernel_rfl, by kernel_rfl⟩
theorem name61 : (f61.name == "runtime.NumGoroutine") = false := by kernel_rfl
theorem fits10 : fits prog0 globs0 raws0 f10 x10 := ⟨by kernel_rfl, by kernel_rfl⟩
theorem name10 : (f10.name == "runtime.NumGoroutine") = false := by kernel_rfl
theorem fits100 : fits prog0 globs0 raws0 f100 x100 := ⟨by kernel_rfl, by kernel_rfl⟩
theorem name100 : (f100.name == "runtime.NumGoroutine") = false := by kernel_rfl
theorem fits123 : fits prog0 globs0 raws0 f123 x123 := ⟨by kernel_rfl, by kernel_rfl⟩
theorem name123 : (f123.name == "runtime.NumGoroutine") = false := by kernel_rfl
theorem fits148 : fits prog0 globs0 raws0 f148 x148 := ⟨by kernel_rfl, by kernel_rfl⟩
theorem name148 : (f148.name == "runtime.NumGoroutine") = false := by kernel_rfl
theorem fits94 : fits prog0 globs0 raws0 f94 x94 := ⟨by kernel_rfl, by kernel_rfl⟩
theorem name94 : (f94.name == "runtime.NumGoroutine") = false := by kernel_rfl
theorem fits116 : fits prog0 globs0 raws0 f116 x116 := ⟨by kernel_rfl, by kernel_rfl⟩
theorem name116 : (f116.name == "runtime.NumGoroutine") = false := by kernel_rfl
end Go.Ab
