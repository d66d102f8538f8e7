/- The code is the program's. Printed by mkco.py. -/
import Derived.Test.YtmofokakccionaaGreatDoorAbG
import Derived.KernelRfl
import Derived.Test.YtmofokakccionaaGreatDoorAbC0
import Derived.Test.YtmofokakccionaaGreatDoorAbC1
import Derived.Test.YtmofokakccionaaGreatDoorAbC2
import Derived.Test.YtmofokakccionaaGreatDoorAbC3
set_option linter.all false
namespace Go.Ab
open Go.Proofs.Tryz
set_option maxRecDepth 100000
theorem fits235 : fits prog0 globs0 raws0 f235 x235 := ⟨by kernel_rfl, by kernel_rfl⟩
theorem name235 : (f235.name == "runtime.NumGoroutine") = false := by kernel_rfl
theorem fits9 : fits prog0 globs0 raws0 f9 x9 := ⟨by kernel_rfl, by kernel_rfl⟩
theorem name9 : (f9.name == "runtime.NumGoroutine") = false := by kernel_rfl
theorem fits177 : fits prog0 globs0 raws0 f177 x177 := ⟨by kernel_rfl, by kernel_rfl⟩
theorem name177 : (f177.name == "runtime.NumGoroutine") = false := by kernel_rfl
theorem fits30 : fits prog0 globs0 raws0 f30 x30 := ⟨by kernel_rfl, by kernel_rfl⟩
theorem name30 : (f30.name == "runtime.NumGoroutine") = false := by kernel_rfl
theorem fits179 : fits prog0 globs0 raws0 f179 x179 := ⟨by kernel_rfl, by kernel_rfl⟩
theorem name179 : (f179.name == "runtime.NumGoroutine") = false := by kernel_rfl
theorem fits183 : fits prog0 globs0 raws0 f183 x183 := ⟨by kernel_rfl, by kernel_rfl⟩
theorem name183 : (f183.name == "runtime.NumGoroutine") = false := by kernel_rfl
theorem fits35 : fits prog0 globs0 raws0 f35 x35 := ⟨by kernel_rfl, by kernel_rfl⟩
theorem name35 : (f35.name == "runtime.NumGoroutine") = false := by kernel_rfl
theorem fits145 : fits prog0 globs0 raws0 f145 x145 := ⟨by kernel_rfl, by kernel_rfl⟩
theorem name145 : (f145.name == "runtime.NumGoroutine") = false := by kernel_rfl
theorem fits119 : fits prog0 globs0 raws0 f119 x119 := ⟨by kernel_rfl, by kernel_rfl⟩
theorem name119 : (f119.name == "runtime.NumGoroutine") = false := by kernel_rfl
theorem fits113 : fits prog0 globs0 raws0 f113 x113 := ⟨by kernel_rfl, by kernel_rfl⟩
theorem name113 : (f113.name == "runtime.NumGoroutine") = false := by kernel_rfl
theorem fits44 : fits prog0 globs0 raws0 f44 x44 := ⟨by kernel_rfl, by kernel_rfl⟩
theorem name44 : (f44.name == "runtime.NumGoroutine") = false := by kernel_rfl
theorem fits182 : fits prog0 globs0 raws0 f182 x182 := ⟨by kernel_rfl, by kernel_rfl⟩
theorem name182 : (f182.name == "runtime.NumGoroutine") = false := by kernel_rfl
theorem fits227 : fits prog0 globs0 raws0 f227 x227 := ⟨by kernel_rfl, by kernel_rfl⟩
theorem name227 : (f227.name == "runtime.NumGoroutine") = false := by kernel_rfl
theorem fits151 : fits prog0 globs0 raws0 f151 x151 := ⟨by kernel_rfl, by kernel_rfl⟩
theorem name151 : (f151.name == "runtime.NumGoroutine") = false := by kernel_rfl
theorem fits68 : fits prog0 globs0 raws0 f68 x68 := ⟨by kernel_rfl, by kernel_rfl⟩
theorem name68 : (f68.name == "runtime.NumGoroutine") = false := by kernel_rfl
theorem fits197 : fits prog0 globs0 raws0 f197 x197 := ⟨by kernel_rfl, by kernel_rfl⟩
theorem name197 : (f197.name == "runtime.NumGoroutine") = false := by kernel_rfl
theorem fits181 : fits prog0 globs0 raws0 f181 x181 := ⟨by kernel_rfl, by kernel_rfl⟩
theorem name181 : (f181.name == "runtime.NumGoroutine") = false := by kernel_rfl
theorem fits92 : fits prog0 globs0 raws0 f92 x92 := ⟨by kernel_rfl, by kernel_rfl⟩
theorem name92 : (f92.name == "runtime.NumGoroutine") = false := by kernel_rfl
theorem fits29 : fits prog0 globs0 raws0 f29 x29 := ⟨by kernel_rfl, by kernel_rfl⟩
theorem name29 : (f29.name == "runtime.NumGoroutine") = false := by kernel_rfl
theorem fits232 : fits prog0 globs0 raws0 f232 x232 := ⟨by kernel_rfl, by kernel_rfl⟩
theorem name232 : (f232.name == "runtime.NumGoroutine") = false := by kernel_rfl
theorem fits153 : fits prog0 globs0 raws0 f153 x153 := ⟨by kernel_rfl, by kernel_rfl⟩
theorem name153 : (f153.name == "runtime.NumGoroutine") = false := by kernel_rfl
theorem fits220 : fits prog0 globs0 raws0 f220 x220 := ⟨by kernel_rfl, by kernel_rfl⟩
theorem name220 : (f220.name == "runtime.NumGoroutine") = false := by kernel_rfl
theorem fits54 : fits prog0 globs0 raws0 f54 x54 := ⟨by kernel_rfl, by kernel_rfl⟩
theorem name54 : (f54.name == "runtime.NumGoroutine") = false := by kernel_rfl
theorem fits67 : fits prog0 globs0 raws0 f67 x67 := ⟨by kernel_rfl, by kernel_rfl⟩
theorem name67 : (f67.name == "runtime.NumGoroutine") = false := by kernel_rfl
theorem fits207 : fits prog0 globs0 raws0 f207 x207 := ⟨by kernel_rfl, by kernel_rfl⟩
theorem name207 : (f207.name == "runtime.NumGoroutine") = false := by kernel_rfl
theorem fits169 : fits prog0 globs0 raws0 f169 x169 := ⟨by kernel_rfl, by kernel_rfl⟩
theorem name169 : (f169.name == "runtime.NumGoroutine") = false := by kernel_rfl
theorem fits74 : fits prog0 globs0 raws0 f74 x74 := ⟨by kernel_rfl, by kernel_rfl⟩
theorem name74 : (f74.name == "runtime.NumGoroutine") = false := by kernel_rfl
theorem fits137 : fits prog0 globs0 raws0 f137 x137 := ⟨by kernel_rfl, by kernel_rfl⟩
theorem name137 : (f137.name == "runtime.NumGoroutine") = false := by kernel_rfl
theorem fits196 : fits prog0 globs0 raws0 f196 x196 := ⟨by kernel_rfl, by kernel_rfl⟩
theorem name196 : (f196.name == "runtime.NumGoroutine") = false := by kernel_rfl
theorem fits140 : fits prog0 globs0 raws0 f140 x140 := ⟨by kernel_rfl, by kernel_rfl⟩
theorem name140 : (f140.name == "runtime.NumGoroutine") = false := by kernel_rfl
theorem fits206 : fits prog0 globs0 raws0 f206 x206 := ⟨by kernel_rfl, by kernel_rfl⟩
theorem name206 : (f206.name == "runtime.NumGoroutine") = false := by kernel_rfl
theorem fits48 : fits prog0 globs0 raws0 f48 x48 := ⟨by kernel_rfl, by kernel_rfl⟩
theorem name48 : (f48.name == "runtime.NumGoroutine") = false := by kernel_rfl
theorem fits76 : fits prog0 globs0 raws0 f76 x76 := ⟨by kernel_rfl, by kernel_rfl⟩
theorem name76 : (f76.name == "runtime.NumGoroutine") = false := by kernel_rfl
theorem fits208 : fits prog0 globs0 raws0 f208 x208 := ⟨by kernel_rfl, by kernel_rfl⟩
theorem name208 : (f208.name == "runtime.NumGoroutine") = false := by kernel_rfl
theorem fits72 : fits prog0 globs0 raws0 f72 x72 := ⟨by kernel_rfl, by kernel_rfl⟩
theorem name72 : (f72.name == "runtime.NumGoroutine") = false := by kernel_rfl
theorem fits61 : fits prog0 globs0 raws0 f61 x61 := ⟨by kernel_rfl, by kernel_rfl⟩
theorem name61 : (f61.name == "runtime.NumGoroutine") = false := by kernel_rfl
theorem fits10 : fits prog0 globs0 raws0 f10 x10 := ⟨by kernel_rfl, by kernel_rfl⟩
theorem name10 : (f10.name == "runtime.NumGoroutine") = false := by kernel_rfl
theorem fits100 : fits prog0 globs0 raws0 f100 x100 := ⟨by kernel_rfl, by kernel_rfl⟩
theorem name100 : (f100.name == "runtime.NumGoroutine") = false := by kernel_rfl
theorem fits123 : fits prog0 globs0 raws0 f123 x123 := ⟨by kernel_rfl, by kernel_rfl⟩
theorem name123 : (f123.name == "runtime.NumGoroutine") = false := by kernel_rfl
theorem fits148 : fits prog0 globs0 raws0 f148 x148 := ⟨by kernel_rfl, by kernel_rfl⟩
theorem name148 : (f148.name == "runtime.NumGoroutine") = false := by kernel_rfl
theorem fits94 : fits prog0 globs0 raws0 f94 x94 := ⟨by kernel_rfl, by kernel_rfl⟩
theorem name94 : (f94.name == "runtime.NumGoroutine") = false := by kernel_rfl
theorem fits116 : fits prog0 globs0 raws0 f116 x116 := ⟨by kernel_rfl, by kernel_rfl⟩
theorem name116 : (f116.name == "runtime.NumGoroutine") = false := by kernel_rfl
end Go.Ab
