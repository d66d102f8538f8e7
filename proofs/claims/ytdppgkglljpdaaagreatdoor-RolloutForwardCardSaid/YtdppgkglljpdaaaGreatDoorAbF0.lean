/- The code is the program's. Printed by mkco.py. -/
import Derived.Test.YtdppgkglljpdaaaGreatDoorAbG
import Derived.KernelRfl
import Derived.Test.YtdppgkglljpdaaaGreatDoorAbC0
import Derived.Test.YtdppgkglljpdaaaGreatDoorAbC1
import Derived.Test.YtdppgkglljpdaaaGreatDoorAbC2
import Derived.Test.YtdppgkglljpdaaaGreatDoorAbC3
set_option linter.all false
namespace Go.Ab
open Go.Proofs.Tryz
set_option maxRecDepth 100000
theorem fits270 : fits prog0 globs0 raws0 f270 x270 := ⟨by kernel_rfl, by kernel_rfl⟩
theorem name270 : (f270.name == "runtime.NumGoroutine") = false := by kernel_rfl
theorem fits59 : fits prog0 globs0 raws0 f59 x59 := ⟨by kernel_rfl, by kernel_rfl⟩
theorem name59 : (f59.name == "runtime.NumGoroutine") = false := by kernel_rfl
theorem fits90 : fits prog0 globs0 raws0 f90 x90 := ⟨by kernel_rfl, by kernel_rfl⟩
theorem name90 : (f90.name == "runtime.NumGoroutine") = false := by kernel_rfl
theorem fits11 : fits prog0 globs0 raws0 f11 x11 := ⟨by kernel_rfl, by kernel_rfl⟩
theorem name11 : (f11.name == "runtime.NumGoroutine") = false := by kernel_rfl
theorem fits253 : fits prog0 globs0 raws0 f253 x253 := ⟨by kernel_rfl, by kernel_rfl⟩
theorem name253 : (f253.name == "runtime.NumGoroutine") = false := by kernel_rfl
theorem fits81 : fits prog0 globs0 raws0 f81 x81 := ⟨by kernel_rfl, by kernel_rfl⟩
theorem name81 : (f81.name == "runtime.NumGoroutine") = false := by kernel_rfl
theorem fits173 : fits prog0 globs0 raws0 f173 x173 := ⟨by kernel_rfl, by kernel_rfl⟩
theorem name173 : (f173.name == "runtime.NumGoroutine") = false := by kernel_rfl
theorem fits7 : fits prog0 globs0 raws0 f7 x7 := ⟨by kernel_rfl, by kernel_rfl⟩
theorem name7 : (f7.name == "runtime.NumGoroutine") = false := by kernel_rfl
theorem fits49 : fits prog0 globs0 raws0 f49 x49 := ⟨by kernel_rfl, by kernel_rfl⟩
theorem name49 : (f49.name == "runtime.NumGoroutine") = false := by kernel_rfl
theorem fits269 : fits prog0 globs0 raws0 f269 x269 := ⟨by kernel_rfl, by kernel_rfl⟩
theorem name269 : (f269.name == "runtime.NumGoroutine") = false := by kernel_rfl
theorem fits3 : fits prog0 globs0 raws0 f3 x3 := ⟨by kernel_rfl, by kernel_rfl⟩
theorem name3 : (f3.name == "runtime.NumGoroutine") = false := by kernel_rfl
theorem fits207 : fits prog0 globs0 raws0 f207 x207 := ⟨by kernel_rfl, by kernel_rfl⟩
theorem name207 : (f207.name == "runtime.NumGoroutine") = false := by kernel_rfl
theorem fits266 : fits prog0 globs0 raws0 f266 x266 := ⟨by kernel_rfl, by kernel_rfl⟩
theorem name266 : (f266.name == "runtime.NumGoroutine") = false := by kernel_rfl
theorem fits167 : fits prog0 globs0 raws0 f167 x167 := ⟨by kernel_rfl, by kernel_rfl⟩
theorem name167 : (f167.name == "runtime.NumGoroutine") = false := by kernel_rfl
theorem fits201 : fits prog0 globs0 raws0 f201 x201 := ⟨by kernel_rfl, by kernel_rfl⟩
theorem name201 : (f201.name == "runtime.NumGoroutine") = false := by kernel_rfl
theorem fits16 : fits prog0 globs0 raws0 f16 x16 := ⟨by kernel_rfl, by kernel_rfl⟩
theorem name16 : (f16.name == "runtime.NumGoroutine") = false := by kernel_rfl
theorem fits36 : fits prog0 globs0 raws0 f36 x36 := ⟨by kernel_rfl, by kernel_rfl⟩
theorem name36 : (f36.name == "runtime.NumGoroutine") = false := by kernel_rfl
theorem fits115 : fits prog0 globs0 raws0 f115 x115 := ⟨by kernel_rfl, by kernel_rfl⟩
theorem name115 : (f115.name == "runtime.NumGoroutine") = false := by kernel_rfl
theorem fits264 : fits prog0 globs0 raws0 f264 x264 := ⟨by kernel_rfl, by kernel_rfl⟩
theorem name264 : (f264.name == "runtime.NumGoroutine") = false := by kernel_rfl
theorem fits85 : fits prog0 globs0 raws0 f85 x85 := ⟨by kernel_rfl, by kernel_rfl⟩
theorem name85 : (f85.name == "runtime.NumGoroutine") = false := by kernel_rfl
theorem fits21 : fits prog0 globs0 raws0 f21 x21 := ⟨by kernel_rfl, by kernel_rfl⟩
theorem name21 : (f21.name == "runtime.NumGoroutine") = false := by kernel_rfl
theorem fits82 : fits prog0 globs0 raws0 f82 x82 := ⟨by kernel_rfl, by kernel_rfl⟩
theorem name82 : (f82.name == "runtime.NumGoroutine") = false := by kernel_rfl
theorem fits137 : fits prog0 globs0 raws0 f137 x137 := ⟨by kernel_rfl, by kernel_rfl⟩
theorem name137 : (f137.name == "runtime.NumGoroutine") = false := by kernel_rfl
theorem fits25 : fits prog0 globs0 raws0 f25 x25 := ⟨by kernel_rfl, by kernel_rfl⟩
theorem name25 : (f25.name == "runtime.NumGoroutine") = false := by kernel_rfl
theorem fits114 : fits prog0 globs0 raws0 f114 x114 := ⟨by kernel_rfl, by kernel_rfl⟩
theorem name114 : (f114.name == "runtime.NumGoroutine") = false := by kernel_rfl
theorem fits83 : fits prog0 globs0 raws0 f83 x83 := ⟨by kernel_rfl, by kernel_rfl⟩
theorem name83 : (f83.name == "runtime.NumGoroutine") = false := by kernel_rfl
theorem fits172 : fits prog0 globs0 raws0 f172 x172 := ⟨by kernel_rfl, by kernel_rfl⟩
theorem name172 : (f172.name == "runtime.NumGoroutine") = false := by kernel_rfl
theorem fits163 : fits prog0 globs0 raws0 f163 x163 := ⟨by kernel_rfl, by kernel_rfl⟩
theorem name163 : (f163.name == "runtime.NumGoroutine") = false := by kernel_rfl
theorem fits230 : fits prog0 globs0 raws0 f230 x230 := ⟨by kernel_rfl, by kernel_rfl⟩
theorem name230 : (f230.name == "runtime.NumGoroutine") = false := by kernel_rfl
theorem fits88 : fits prog0 globs0 raws0 f88 x88 := ⟨by kernel_rfl, by kernel_rfl⟩
theorem name88 : (f88.name == "runtime.NumGoroutine") = false := by kernel_rfl
theorem fits183 : fits prog0 globs0 raws0 f183 x183 := ⟨by kernel_rfl, by kernel_rfl⟩
theorem name183 : (f183.name == "runtime.NumGoroutine") = false := by kernel_rfl
theorem fits250 : fits prog0 globs0 raws0 f250 x250 := ⟨by kernel_rfl, by kernel_rfl⟩
theorem name250 : (f250.name == "runtime.NumGoroutine") = false := by kernel_rfl
theorem fits48 : fits prog0 globs0 raws0 f48 x48 := ⟨by kernel_rfl, by kernel_rfl⟩
theorem name48 : (f48.name == "runtime.NumGoroutine") = false := by kernel_rfl
theorem fits46 : fits prog0 globs0 raws0 f46 x46 := ⟨by kernel_rfl, by kernel_rfl⟩
theorem name46 : (f46.name == "runtime.NumGoroutine") = false := by kernel_rfl
theorem fits74 : fits prog0 globs0 raws0 f74 x74 := ⟨by kernel_rfl, by kernel_rfl⟩
theorem name74 : (f74.name == "runtime.NumGoroutine") = false := by kernel_rfl
theorem fits117 : fits prog0 globs0 raws0 f117 x117 := ⟨by kernel_rfl, by kernel_rfl⟩
theorem name117 : (f117.name == "runtime.NumGoroutine") = false := by kernel_rfl
theorem fits237 : fits prog0 globs0 raws0 f237 x237 := ⟨by kernel_rfl, by kernel_rfl⟩
theorem name237 : (f237.name == "runtime.NumGoroutine") = false := by kernel_rfl
theorem fits233 : fits prog0 globs0 raws0 f233 x233 := ⟨by kernel_rfl, by kernel_rfl⟩
theorem name233 : (f233.name == "runtime.NumGoroutine") = false := by kernel_rfl
theorem fits234 : fits prog0 globs0 raws0 f234 x234 := ⟨by kernel_rfl, by kernel_rfl⟩
theorem name234 : (f234.name == "runtime.NumGoroutine") = false := by kernel_rfl
theorem fits228 : fits prog0 globs0 raws0 f228 x228 := ⟨by kernel_rfl, by kernel_rfl⟩
theorem name228 : (f228.name == "runtime.NumGoroutine") = false := by kernel_rfl
theorem fits112 : fits prog0 globs0 raws0 f112 x112 := ⟨by kernel_rfl, by kernel_rfl⟩
theorem name112 : (f112.name == "runtime.NumGoroutine") = false := by kernel_rfl
theorem fits238 : fits prog0 globs0 raws0 f238 x238 := ⟨by kernel_rfl, by kernel_rfl⟩
theorem name238 : (f238.name == "runtime.NumGoroutine") = false := by kernel_rfl
theorem fits181 : fits prog0 globs0 raws0 f181 x181 := ⟨by kernel_rfl, by kernel_rfl⟩
theorem name181 : (f181.name == "runtime.NumGoroutine") = false := by kernel_rfl
theorem fits29 : fits prog0 globs0 raws0 f29 x29 := ⟨by kernel_rfl, by kernel_rfl⟩
theorem name29 : (f29.name == "runtime.NumGoroutine") = false := by kernel_rfl
theorem fits149 : fits prog0 globs0 raws0 f149 x149 := ⟨by kernel_rfl, by kernel_rfl⟩
theorem name149 : (f149.name == "runtime.NumGoroutine") = false := by kernel_rfl
theorem fits120 : fits prog0 globs0 raws0 f120 x120 := ⟨by kernel_rfl, by kernel_rfl⟩
theorem name120 : (f120.name == "runtime.NumGoroutine") = false := by kernel_rfl
theorem fits108 : fits prog0 globs0 raws0 f108 x108 := ⟨by kernel_rfl, by kernel_rfl⟩
theorem name108 : (f108.name == "runtime.NumGoroutine") = false := by kernel_rfl
theorem fits235 : fits prog0 globs0 raws0 f235 x235 := ⟨by kernel_rfl, by kernel_rfl⟩
theorem name235 : (f235.name == "runtime.NumGoroutine") = false := by kernel_rfl
theorem fits142 : fits prog0 globs0 raws0 f142 x142 := ⟨by kernel_rfl, by kernel_rfl⟩
theorem name142 : (f142.name == "runtime.NumGoroutine") = false := by kernel_rfl
end Go.Ab
