/- The code is the program's. Printed by mkco.py. -/
import Derived.Test.YtdppgkglljpdaaaGreatDoorAbG
import Derived.KernelRfl
import Derived.Test.YtdppgkglljpdaaaGreatDoorAbC0
import Derived.Test.YtdppgkglljpdaaaGreatDoorAbC1
import Derived.Test.YtdppgkglljpdaaaGreatDoorAbC2
import Derived.Test.YtdppgkglljpdaaaGreatDoorAbC3
set_option linter.all false
namespace Go.Ab
open Go.Proofs.Tryz
set_option maxRecDepth 100000
theorem fits270 : fits prog0 globs0 raws0 f270 x270 := ⟨by kernel_rfl, by kernel_rfl⟩
theorem name270 : (f270.name == "runtime.NumGoroutine") = false := by kernel_rfl
theorem fits59 : fits prog0 globs0 raws0 f59 x59 := ⟨by kernel_rfl, by kernel_rfl⟩
theorem name59 : (f59.name == "runtime.NumGoroutine") = false := by kernel_rfl
theorem fits90 : fits prog0 globs0 raws0 f90 x90 := ⟨by kernel_rfl, by kernel_rfl⟩
theorem name90 : (f90.name == "runtime.NumGoroutine") = false := by kernel_rfl
theorem fits11 : fits prog0 globs0 raws0 f11 x11 := ⟨by kernel_rfl, by kernel_rfl⟩
theorem name11 : (f11.name == "runtime.NumGoroutine") = false := by kernel_rfl
theorem fits253 : fits prog0 globs0 raws0 f253 x253 := ⟨by kernel_rfl, by kernel_rfl⟩
theorem name253 : (f253.name == "runtime.NumGoroutine") = false := by kernel_rfl
theorem fits208 : fits prog0 globs0 raws0 f208 x208 := ⟨by kernel_rfl, by kernel_rfl⟩
theorem name208 : (f208.name == "runtime.NumGoroutine") = false := by kernel_rfl
theorem fits35 : fits prog0 globs0 raws0 f35 x35 := ⟨by kernel_rfl, by kernel_rfl⟩
theorem name35 : (f35.name == "runtime.NumGoroutine") = false := by kernel_rfl
theorem fits246 : fits prog0 globs0 raws0 f246 x246 := ⟨by kernel_rfl, by kernel_rfl⟩
theorem name246 : (f246.name == "runtime.NumGoroutine") = false := by kernel_rfl
theorem fits49 : fits prog0 globs0 raws0 f49 x49 := ⟨by kernel_rfl, by kernel_rfl⟩
theorem name49 : (f49.name == "runtime.NumGoroutine") = false := by kernel_rfl
theorem fits80 : fits prog0 globs0 raws0 f80 x80 := ⟨by kernel_rfl, by kernel_rfl⟩
theorem name80 : (f80.name == "runtime.NumGoroutine") = false := by kernel_rfl
theorem fits198 : fits prog0 globs0 raws0 f198 x198 := ⟨by kernel_rfl, by kernel_rfl⟩
theorem name198 : (f198.name == "runtime.NumGoroutine") = false := by kernel_rfl
theorem fits205 : fits prog0 globs0 raws0 f205 x205 := ⟨by kernel_rfl, by kernel_rfl⟩
theorem name205 : (f205.name == "runtime.NumGoroutine") = false := by kernel_rfl
theorem fits113 : fits prog0 globs0 raws0 f113 x113 := ⟨by kernel_rfl, by kernel_rfl⟩
theorem name113 : (f113.name == "runtime.NumGoroutine") = false := by kernel_rfl
theorem fits252 : fits prog0 globs0 raws0 f252 x252 := ⟨by kernel_rfl, by kernel_rfl⟩
theorem name252 : (f252.name == "runtime.NumGoroutine") = false := by kernel_rfl
theorem fits84 : fits prog0 globs0 raws0 f84 x84 := ⟨by kernel_rfl, by kernel_rfl⟩
theorem name84 : (f84.name == "runtime.NumGoroutine") = false := by kernel_rfl
theorem fits36 : fits prog0 globs0 raws0 f36 x36 := ⟨by kernel_rfl, by kernel_rfl⟩
theorem name36 : (f36.name == "runtime.NumGoroutine") = false := by kernel_rfl
theorem fits206 : fits prog0 globs0 raws0 f206 x206 := ⟨by kernel_rfl, by kernel_rfl⟩
theorem name206 : (f206.name == "runtime.NumGoroutine") = false := by kernel_rfl
theorem fits166 : fits prog0 globs0 raws0 f166 x166 := ⟨by kernel_rfl, by kernel_rfl⟩
theorem name166 : (f166.name == "runtime.NumGoroutine") = false := by kernel_rfl
theorem fits45 : fits prog0 globs0 raws0 f45 x45 := ⟨by kernel_rfl, by kernel_rfl⟩
theorem name45 : (f45.name == "runtime.NumGoroutine") = false := by kernel_rfl
theorem fits21 : fits prog0 globs0 raws0 f21 x21 := ⟨by kernel_rfl, by kernel_rfl⟩
theorem name21 : (f21.name == "runtime.NumGoroutine") = false := by kernel_rfl
theorem fits105 : fits prog0 globs0 raws0 f105 x105 := ⟨by kernel_rfl, by kernel_rfl⟩
theorem name105 : (f105.name == "runtime.NumGoroutine") = false := by kernel_rfl
theorem fits170 : fits prog0 globs0 raws0 f170 x170 := ⟨by kernel_rfl, by kernel_rfl⟩
theorem name170 : (f170.name == "runtime.NumGoroutine") = false := by kernel_rfl
theorem fits13 : fits prog0 globs0 raws0 f13 x13 := ⟨by kernel_rfl, by kernel_rfl⟩
theorem name13 : (f13.name == "runtime.NumGoroutine") = false := by kernel_rfl
theorem fits268 : fits prog0 globs0 raws0 f268 x268 := ⟨by kernel_rfl, by kernel_rfl⟩
theorem name268 : (f268.name == "runtime.NumGoroutine") = false := by kernel_rfl
theorem fits54 : fits prog0 globs0 raws0 f54 x54 := ⟨by kernel_rfl, by kernel_rfl⟩
theorem name54 : (f54.name == "runtime.NumGoroutine") = false := by kernel_rfl
theorem fits133 : fits prog0 globs0 raws0 f133 x133 := ⟨by kernel_rfl, by kernel_rfl⟩
theorem name133 : (f133.name == "runtime.NumGoroutine") = false := by kernel_rfl
theorem fits230 : fits prog0 globs0 raws0 f230 x230 := ⟨by kernel_rfl, by kernel_rfl⟩
theorem name230 : (f230.name == "runtime.NumGoroutine") = false := by kernel_rfl
theorem fits88 : fits prog0 globs0 raws0 f88 x88 := ⟨by kernel_rfl, by kernel_rfl⟩
theorem name88 : (f88.name == "runtime.NumGoroutine") = false := by kernel_rfl
theorem fits183 : fits prog0 globs0 raws0 f183 x183 := ⟨by kernel_rfl, by kernel_rfl⟩
theorem name183 : (f183.name == "runtime.NumGoroutine") = false := by kernel_rfl
theorem fits250 : fits prog0 globs0 raws0 f250 x250 := ⟨by kernel_rfl, by kernel_rfl⟩
theorem name250 : (f250.name == "runtime.NumGoroutine") = false := by kernel_rfl
theorem fits48 : fits prog0 globs0 raws0 f48 x48 := ⟨by kernel_rfl, by kernel_rfl⟩
theorem name48 : (f48.name == "runtime.NumGoroutine") = false := by kernel_rfl
theorem fits46 : fits prog0 globs0 raws0 f46 x46 := ⟨by kernel_rfl, by kernel_rfl⟩
theorem name46 : (f46.name == "runtime.NumGoroutine") = false := by kernel_rfl
theorem fits51 : fits prog0 globs0 raws0 f51 x51 := ⟨by kernel_rfl, by kernel_rfl⟩
theorem name51 : (f51.name == "runtime.NumGoroutine") = false := by kernel_rfl
theorem fits72 : fits prog0 globs0 raws0 f72 x72 := ⟨by kernel_rfl, by kernel_rfl⟩
theorem name72 : (f72.name == "runtime.NumGoroutine") = false := by kernel_rfl
theorem fits233 : fits prog0 globs0 raws0 f233 x233 := ⟨by kernel_rfl, by kernel_rfl⟩
theorem name233 : (f233.name == "runtime.NumGoroutine") = false := by kernel_rfl
theorem fits265 : fits prog0 globs0 raws0 f265 x265 := ⟨by kernel_rfl, by kernel_rfl⟩
theorem name265 : (f265.name == "runtime.NumGoroutine") = false := by kernel_rfl
theorem fits14 : fits prog0 globs0 raws0 f14 x14 := ⟨by kernel_rfl, by kernel_rfl⟩
theorem name14 : (f14.name == "runtime.NumGoroutine") = false := by kernel_rfl
theorem fits127 : fits prog0 globs0 raws0 f127 x127 := ⟨by kernel_rfl, by kernel_rfl⟩
theorem name127 : (f127.name == "runtime.NumGoroutine") = false := by kernel_rfl
theorem fits38 : fits prog0 globs0 raws0 f38 x38 := ⟨by kernel_rfl, by kernel_rfl⟩
theorem name38 : (f38.name == "runtime.NumGoroutine") = false := by kernel_rfl
theorem fits182 : fits prog0 globs0 raws0 f182 x182 := ⟨by kernel_rfl, by kernel_rfl⟩
theorem name182 : (f182.name == "runtime.NumGoroutine") = false := by kernel_rfl
theorem fits111 : fits prog0 globs0 raws0 f111 x111 := ⟨by kernel_rfl, by kernel_rfl⟩
theorem name111 : (f111.name == "runtime.NumGoroutine") = false := by kernel_rfl
theorem fits239 : fits prog0 globs0 raws0 f239 x239 := ⟨by kernel_rfl, by kernel_rfl⟩
theorem name239 : (f239.name == "runtime.NumGoroutine") = false := by kernel_rfl
theorem fits116 : fits prog0 globs0 raws0 f116 x116 := ⟨by kernel_rfl, by kernel_rfl⟩
theorem name116 : (f116.name == "runtime.NumGoroutine") = false := by kernel_rfl
theorem fits209 : fits prog0 globs0 raws0 f209 x209 := ⟨by kernel_rfl, by kernel_rfl⟩
theorem name209 : (f209.name == "runtime.NumGoroutine") = false := by kernel_rfl
theorem fits142 : fits prog0 globs0 raws0 f142 x142 := ⟨by kernel_rfl, by kernel_rfl⟩
theorem name142 : (f142.name == "runtime.NumGoroutine") = false := by kernel_rfl
end Go.Ab
