/- The code is the program's. Printed by mkco.py. -/
import Derived.Test.YtmofokakccionaaGreatDoorAbG
import Derived.KernelRfl
import Derived.Test.YtmofokakccionaaGreatDoorAbC0
import Derived.Test.YtmofokakccionaaGreatDoorAbC1
import Derived.Test.YtmofokakccionaaGreatDoorAbC2
import Derived.Test.YtmofokakccionaaGreatDoorAbC3
set_option linter.all false
namespace Go.Ab
open Go.Proofs.Tryz
set_option maxRecDepth 100000
theorem fits93 : fits prog0 globs0 raws0 f93 x93 := ⟨by kernel_rfl, by kernel_rfl⟩
theorem name93 : (f93.name == "runtime.NumGoroutine") = false := by kernel_rfl
theorem fits9 : fits prog0 globs0 raws0 f9 x9 := ⟨by kernel_rfl, by kernel_rfl⟩
theorem name9 : (f9.name == "runtime.NumGoroutine") = false := by kernel_rfl
theorem fits177 : fits prog0 globs0 raws0 f177 x177 := ⟨by kernel_rfl, by kernel_rfl⟩
theorem name177 : (f177.name == "runtime.NumGoroutine") = false := by kernel_rfl
theorem fits30 : fits prog0 globs0 raws0 f30 x30 := ⟨by kernel_rfl, by kernel_rfl⟩
theorem name30 : (f30.name == "runtime.NumGoroutine") = false := by kernel_rfl
theorem fits179 : fits prog0 globs0 raws0 f179 x179 := ⟨by kernel_rfl, by kernel_rfl⟩
theorem name179 : (f179.name == "runtime.NumGoroutine") = false := by kernel_rfl
theorem fits183 : fits prog0 globs0 raws0 f183 x183 := ⟨by kernel_rfl, by kernel_rfl⟩
theorem name183 : (f183.name == "runtime.NumGoroutine") = false := by kernel_rfl
theorem fits35 : fits prog0 globs0 raws0 f35 x35 := ⟨by kernel_rfl, by kernel_rfl⟩
theorem name35 : (f35.name == "runtime.NumGoroutine") = false := by kernel_rfl
theorem fits221 : fits prog0 globs0 raws0 f221 x221 := ⟨by kernel_rfl, by kernel_rfl⟩
theorem name221 : (f221.name == "runtime.NumGoroutine") = false := by kernel_rfl
theorem fits11 : fits prog0 globs0 raws0 f11 x11 := ⟨by kernel_rfl, by kernel_rfl⟩
theorem name11 : (f11.name == "runtime.NumGoroutine") = false := by kernel_rfl
theorem fits79 : fits prog0 globs0 raws0 f79 x79 := ⟨by kernel_rfl, by kernel_rfl⟩
theorem name79 : (f79.name == "runtime.NumGoroutine") = false := by kernel_rfl
theorem fits173 : fits prog0 globs0 raws0 f173 x173 := ⟨by kernel_rfl, by kernel_rfl⟩
theorem name173 : (f173.name == "runtime.NumGoroutine") = false := by kernel_rfl
theorem fits180 : fits prog0 globs0 raws0 f180 x180 := ⟨by kernel_rfl, by kernel_rfl⟩
theorem name180 : (f180.name == "runtime.NumGoroutine") = false := by kernel_rfl
theorem fits7 : fits prog0 globs0 raws0 f7 x7 := ⟨by kernel_rfl, by kernel_rfl⟩
theorem name7 : (f7.name == "runtime.NumGoroutine") = false := by kernel_rfl
theorem fits118 : fits prog0 globs0 raws0 f118 x118 := ⟨by kernel_rfl, by kernel_rfl⟩
theorem name118 : (f118.name == "runtime.NumGoroutine") = false := by kernel_rfl
theorem fits13 : fits prog0 globs0 raws0 f13 x13 := ⟨by kernel_rfl, by kernel_rfl⟩
theorem name13 : (f13.name == "runtime.NumGoroutine") = false := by kernel_rfl
theorem fits186 : fits prog0 globs0 raws0 f186 x186 := ⟨by kernel_rfl, by kernel_rfl⟩
theorem name186 : (f186.name == "runtime.NumGoroutine") = false := by kernel_rfl
theorem fits225 : fits prog0 globs0 raws0 f225 x225 := ⟨by kernel_rfl, by kernel_rfl⟩
theorem name225 : (f225.name == "runtime.NumGoroutine") = false := by kernel_rfl
theorem fits228 : fits prog0 globs0 raws0 f228 x228 := ⟨by kernel_rfl, by kernel_rfl⟩
theorem name228 : (f228.name == "runtime.NumGoroutine") = false := by kernel_rfl
theorem fits200 : fits prog0 globs0 raws0 f200 x200 := ⟨by kernel_rfl, by kernel_rfl⟩
theorem name200 : (f200.name == "runtime.NumGoroutine") = false := by kernel_rfl
theorem fits218 : fits prog0 globs0 raws0 f218 x218 := ⟨by kernel_rfl, by kernel_rfl⟩
theorem name218 : (f218.name == "runtime.NumGoroutine") = false := by kernel_rfl
theorem fits220 : fits prog0 globs0 raws0 f220 x220 := ⟨by kernel_rfl, by kernel_rfl⟩
theorem name220 : (f220.name == "runtime.NumGoroutine") = false := by kernel_rfl
theorem fits54 : fits prog0 globs0 raws0 f54 x54 := ⟨by kernel_rfl, by kernel_rfl⟩
theorem name54 : (f54.name == "runtime.NumGoroutine") = false := by kernel_rfl
theorem fits67 : fits prog0 globs0 raws0 f67 x67 := ⟨by kernel_rfl, by kernel_rfl⟩
theorem name67 : (f67.name == "runtime.NumGoroutine") = false := by kernel_rfl
theorem fits207 : fits prog0 globs0 raws0 f207 x207 := ⟨by kernel_rfl, by kernel_rfl⟩
theorem name207 : (f207.name == "runtime.NumGoroutine") = false := by kernel_rfl
theorem fits169 : fits prog0 globs0 raws0 f169 x169 := ⟨by kernel_rfl, by kernel_rfl⟩
theorem name169 : (f169.name == "runtime.NumGoroutine") = false := by kernel_rfl
theorem fits74 : fits prog0 globs0 raws0 f74 x74 := ⟨by kernel_rfl, by kernel_rfl⟩
theorem name74 : (f74.name == "runtime.NumGoroutine") = false := by kernel_rfl
theorem fits137 : fits prog0 globs0 raws0 f137 x137 := ⟨by kernel_rfl, by kernel_rfl⟩
theorem name137 : (f137.name == "runtime.NumGoroutine") = false := by kernel_rfl
theorem fits196 : fits prog0 globs0 raws0 f196 x196 := ⟨by kernel_rfl, by kernel_rfl⟩
theorem name196 : (f196.name == "runtime.NumGoroutine") = false := by kernel_rfl
theorem fits140 : fits prog0 globs0 raws0 f140 x140 := ⟨by kernel_rfl, by kernel_rfl⟩
theorem name140 : (f140.name == "runtime.NumGoroutine") = false := by kernel_rfl
theorem fits206 : fits prog0 globs0 raws0 f206 x206 := ⟨by kernel_rfl, by kernel_rfl⟩
theorem name206 : (f206.name == "runtime.NumGoroutine") = false := by kernel_rfl
theorem fits41 : fits prog0 globs0 raws0 f41 x41 := ⟨by kernel_rfl, by kernel_rfl⟩
theorem name41 : (f41.name == "runtime.NumGoroutine") = false := by kernel_rfl
theorem fits215 : fits prog0 globs0 raws0 f215 x215 := ⟨by kernel_rfl, by kernel_rfl⟩
theorem name215 : (f215.name == "runtime.NumGoroutine") = false := by kernel_rfl
theorem fits174 : fits prog0 globs0 raws0 f174 x174 := ⟨by kernel_rfl, by kernel_rfl⟩
theorem name174 : (f174.name == "runtime.NumGoroutine") = false := by kernel_rfl
theorem fits226 : fits prog0 globs0 raws0 f226 x226 := ⟨by kernel_rfl, by kernel_rfl⟩
theorem name226 : (f226.name == "runtime.NumGoroutine") = false := by kernel_rfl
theorem fits36 : fits prog0 globs0 raws0 f36 x36 := ⟨by kernel_rfl, by kernel_rfl⟩
theorem name36 : (f36.name == "runtime.NumGoroutine") = false := by kernel_rfl
theorem fits122 : fits prog0 globs0 raws0 f122 x122 := ⟨by kernel_rfl, by kernel_rfl⟩
theorem name122 : (f122.name == "runtime.NumGoroutine") = false := by kernel_rfl
theorem fits91 : fits prog0 globs0 raws0 f91 x91 := ⟨by kernel_rfl, by kernel_rfl⟩
theorem name91 : (f91.name == "runtime.NumGoroutine") = false := by kernel_rfl
theorem fits104 : fits prog0 globs0 raws0 f104 x104 := ⟨by kernel_rfl, by kernel_rfl⟩
theorem name104 : (f104.name == "runtime.NumGoroutine") = false := by kernel_rfl
theorem fits51 : fits prog0 globs0 raws0 f51 x51 := ⟨by kernel_rfl, by kernel_rfl⟩
theorem name51 : (f51.name == "runtime.NumGoroutine") = false := by kernel_rfl
theorem fits40 : fits prog0 globs0 raws0 f40 x40 := ⟨by kernel_rfl, by kernel_rfl⟩
theorem name40 : (f40.name == "runtime.NumGoroutine") = false := by kernel_rfl
theorem fits184 : fits prog0 globs0 raws0 f184 x184 := ⟨by kernel_rfl, by kernel_rfl⟩
theorem name184 : (f184.name == "runtime.NumGoroutine") = false := by kernel_rfl
theorem fits116 : fits prog0 globs0 raws0 f116 x116 := ⟨by kernel_rfl, by kernel_rfl⟩
theorem name116 : (f116.name == "runtime.NumGoroutine") = false := by kernel_rfl
end Go.Ab
