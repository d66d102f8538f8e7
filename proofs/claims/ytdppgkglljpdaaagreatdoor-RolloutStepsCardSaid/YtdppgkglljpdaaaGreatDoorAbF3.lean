/- The code is the program's. Printed by mkco.py. -/
import Derived.Test.YtdppgkglljpdaaaGreatDoorAbG
import Derived.KernelRfl
import Derived.Test.YtdppgkglljpdaaaGreatDoorAbC0
import Derived.Test.YtdppgkglljpdaaaGreatDoorAbC1
import Derived.Test.YtdppgkglljpdaaaGreatDoorAbC2
import Derived.Test.YtdppgkglljpdaaaGreatDoorAbC3
set_option linter.all false
namespace Go.Ab
open Go.Proofs.Tryz
set_option maxRecDepth 100000
theorem fits146 : fits prog0 globs0 raws0 f146 x146 := ⟨by kernel_rfl, by kernel_rfl⟩
theorem name146 : (f146.name == "runtime.NumGoroutine") = false := by kernel_rfl
theorem fits202 : fits prog0 globs0 raws0 f202 x202 := ⟨by kernel_rfl, by kernel_rfl⟩
theorem name202 : (f202.name == "runtime.NumGoroutine") = false := by kernel_rfl
theorem fits10 : fits prog0 globs0 raws0 f10 x10 := ⟨by kernel_rfl, by kernel_rfl⟩
theorem name10 : (f10.name == "runtime.NumGoroutine") = false := by kernel_rfl
theorem fits110 : fits prog0 globs0 raws0 f110 x110 := ⟨by kernel_rfl, by kernel_rfl⟩
theorem name110 : (f110.name == "runtime.NumGoroutine") = false := by kernel_rfl
theorem fits5 : fits prog0 globs0 raws0 f5 x5 := ⟨by kernel_rfl, by kernel_rfl⟩
theorem name5 : (f5.name == "runtime.NumGoroutine") = false := by kernel_rfl
theorem fits130 : fits prog0 globs0 raws0 f130 x130 := ⟨by kernel_rfl, by kernel_rfl⟩
theorem name130 : (f130.name == "runtime.NumGoroutine") = false := by kernel_rfl
theorem fits179 : fits prog0 globs0 raws0 f179 x179 := ⟨by kernel_rfl, by kernel_rfl⟩
theorem name179 : (f179.name == "runtime.NumGoroutine") = false := by kernel_rfl
theorem fits32 : fits prog0 globs0 raws0 f32 x32 := ⟨by kernel_rfl, by kernel_rfl⟩
theorem name32 : (f32.name == "runtime.NumGoroutine") = false := by kernel_rfl
theorem fits269 : fits prog0 globs0 raws0 f269 x269 := ⟨by kernel_rfl, by kernel_rfl⟩
theorem name269 : (f269.name == "runtime.NumGoroutine") = false := by kernel_rfl
theorem fits135 : fits prog0 globs0 raws0 f135 x135 := ⟨by kernel_rfl, by kernel_rfl⟩
theorem name135 : (f135.name == "runtime.NumGoroutine") = false := by kernel_rfl
theorem fits263 : fits prog0 globs0 raws0 f263 x263 := ⟨by kernel_rfl, by kernel_rfl⟩
theorem name263 : (f263.name == "runtime.NumGoroutine") = false := by kernel_rfl
theorem fits140 : fits prog0 globs0 raws0 f140 x140 := ⟨by kernel_rfl, by kernel_rfl⟩
theorem name140 : (f140.name == "runtime.NumGoroutine") = false := by kernel_rfl
theorem fits144 : fits prog0 globs0 raws0 f144 x144 := ⟨by kernel_rfl, by kernel_rfl⟩
theorem name144 : (f144.name == "runtime.NumGoroutine") = false := by kernel_rfl
theorem fits17 : fits prog0 globs0 raws0 f17 x17 := ⟨by kernel_rfl, by kernel_rfl⟩
theorem name17 : (f17.name == "runtime.NumGoroutine") = false := by kernel_rfl
theorem fits251 : fits prog0 globs0 raws0 f251 x251 := ⟨by kernel_rfl, by kernel_rfl⟩
theorem name251 : (f251.name == "runtime.NumGoroutine") = false := by kernel_rfl
theorem fits115 : fits prog0 globs0 raws0 f115 x115 := ⟨by kernel_rfl, by kernel_rfl⟩
theorem name115 : (f115.name == "runtime.NumGoroutine") = false := by kernel_rfl
theorem fits264 : fits prog0 globs0 raws0 f264 x264 := ⟨by kernel_rfl, by kernel_rfl⟩
theorem name264 : (f264.name == "runtime.NumGoroutine") = false := by kernel_rfl
theorem fits258 : fits prog0 globs0 raws0 f258 x258 := ⟨by kernel_rfl, by kernel_rfl⟩
theorem name258 : (f258.name == "runtime.NumGoroutine") = false := by kernel_rfl
theorem fits254 : fits prog0 globs0 raws0 f254 x254 := ⟨by kernel_rfl, by kernel_rfl⟩
theorem name254 : (f254.name == "runtime.NumGoroutine") = false := by kernel_rfl
theorem fits82 : fits prog0 globs0 raws0 f82 x82 := ⟨by kernel_rfl, by kernel_rfl⟩
theorem name82 : (f82.name == "runtime.NumGoroutine") = false := by kernel_rfl
theorem fits33 : fits prog0 globs0 raws0 f33 x33 := ⟨by kernel_rfl, by kernel_rfl⟩
theorem name33 : (f33.name == "runtime.NumGoroutine") = false := by kernel_rfl
theorem fits245 : fits prog0 globs0 raws0 f245 x245 := ⟨by kernel_rfl, by kernel_rfl⟩
theorem name245 : (f245.name == "runtime.NumGoroutine") = false := by kernel_rfl
theorem fits267 : fits prog0 globs0 raws0 f267 x267 := ⟨by kernel_rfl, by kernel_rfl⟩
theorem name267 : (f267.name == "runtime.NumGoroutine") = false := by kernel_rfl
theorem fits83 : fits prog0 globs0 raws0 f83 x83 := ⟨by kernel_rfl, by kernel_rfl⟩
theorem name83 : (f83.name == "runtime.NumGoroutine") = false := by kernel_rfl
theorem fits76 : fits prog0 globs0 raws0 f76 x76 := ⟨by kernel_rfl, by kernel_rfl⟩
theorem name76 : (f76.name == "runtime.NumGoroutine") = false := by kernel_rfl
theorem fits210 : fits prog0 globs0 raws0 f210 x210 := ⟨by kernel_rfl, by kernel_rfl⟩
theorem name210 : (f210.name == "runtime.NumGoroutine") = false := by kernel_rfl
theorem fits37 : fits prog0 globs0 raws0 f37 x37 := ⟨by kernel_rfl, by kernel_rfl⟩
theorem name37 : (f37.name == "runtime.NumGoroutine") = false := by kernel_rfl
theorem fits169 : fits prog0 globs0 raws0 f169 x169 := ⟨by kernel_rfl, by kernel_rfl⟩
theorem name169 : (f169.name == "runtime.NumGoroutine") = false := by kernel_rfl
theorem fits150 : fits prog0 globs0 raws0 f150 x150 := ⟨by kernel_rfl, by kernel_rfl⟩
theorem name150 : (f150.name == "runtime.NumGoroutine") = false := by kernel_rfl
theorem fits174 : fits prog0 globs0 raws0 f174 x174 := ⟨by kernel_rfl, by kernel_rfl⟩
theorem name174 : (f174.name == "runtime.NumGoroutine") = false := by kernel_rfl
theorem fits231 : fits prog0 globs0 raws0 f231 x231 := ⟨by kernel_rfl, by kernel_rfl⟩
theorem name231 : (f231.name == "runtime.NumGoroutine") = false := by kernel_rfl
theorem fits47 : fits prog0 globs0 raws0 f47 x47 := ⟨by kernel_rfl, by kernel_rfl⟩
theorem name47 : (f47.name == "runtime.NumGoroutine") = false := by kernel_rfl
theorem fits240 : fits prog0 globs0 raws0 f240 x240 := ⟨by kernel_rfl, by kernel_rfl⟩
theorem name240 : (f240.name == "runtime.NumGoroutine") = false := by kernel_rfl
theorem fits199 : fits prog0 globs0 raws0 f199 x199 := ⟨by kernel_rfl, by kernel_rfl⟩
theorem name199 : (f199.name == "runtime.NumGoroutine") = false := by kernel_rfl
theorem fits234 : fits prog0 globs0 raws0 f234 x234 := ⟨by kernel_rfl, by kernel_rfl⟩
theorem name234 : (f234.name == "runtime.NumGoroutine") = false := by kernel_rfl
theorem fits228 : fits prog0 globs0 raws0 f228 x228 := ⟨by kernel_rfl, by kernel_rfl⟩
theorem name228 : (f228.name == "runtime.NumGoroutine") = false := by kernel_rfl
theorem fits112 : fits prog0 globs0 raws0 f112 x112 := ⟨by kernel_rfl, by kernel_rfl⟩
theorem name112 : (f112.name == "runtime.NumGoroutine") = false := by kernel_rfl
theorem fits238 : fits prog0 globs0 raws0 f238 x238 := ⟨by kernel_rfl, by kernel_rfl⟩
theorem name238 : (f238.name == "runtime.NumGoroutine") = false := by kernel_rfl
theorem fits181 : fits prog0 globs0 raws0 f181 x181 := ⟨by kernel_rfl, by kernel_rfl⟩
theorem name181 : (f181.name == "runtime.NumGoroutine") = false := by kernel_rfl
theorem fits29 : fits prog0 globs0 raws0 f29 x29 := ⟨by kernel_rfl, by kernel_rfl⟩
theorem name29 : (f29.name == "runtime.NumGoroutine") = false := by kernel_rfl
theorem fits200 : fits prog0 globs0 raws0 f200 x200 := ⟨by kernel_rfl, by kernel_rfl⟩
theorem name200 : (f200.name == "runtime.NumGoroutine") = false := by kernel_rfl
theorem fits165 : fits prog0 globs0 raws0 f165 x165 := ⟨by kernel_rfl, by kernel_rfl⟩
theorem name165 : (f165.name == "runtime.NumGoroutine") = false := by kernel_rfl
theorem fits175 : fits prog0 globs0 raws0 f175 x175 := ⟨by kernel_rfl, by kernel_rfl⟩
theorem name175 : (f175.name == "runtime.NumGoroutine") = false := by kernel_rfl
theorem fits93 : fits prog0 globs0 raws0 f93 x93 := ⟨by kernel_rfl, by kernel_rfl⟩
theorem name93 : (f93.name == "runtime.NumGoroutine") = false := by kernel_rfl
end Go.Ab
