/- The code is the program's. Printed by mkco.py. -/
import Derived.Test.YtmofokakccionaaGreatDoorAbG
import Derived.KernelRfl
import Derived.Test.YtmofokakccionaaGreatDoorAbC0
import Derived.Test.YtmofokakccionaaGreatDoorAbC1
import Derived.Test.YtmofokakccionaaGreatDoorAbC2
import Derived.Test.YtmofokakccionaaGreatDoorAbC3
set_option linter.all false
namespace Go.Ab
open Go.Proofs.Tryz
set_option maxRecDepth 100000
theorem fits120 : fits prog0 globs0 raws0 f120 x120 := ⟨by kernel_rfl, by kernel_rfl⟩
theorem name120 : (f120.name == "runtime.NumGoroutine") = false := by kernel_rfl
theorem fits178 : fits prog0 globs0 raws0 f178 x178 := ⟨by kernel_rfl, by kernel_rfl⟩
theorem name178 : (f178.name == "runtime.NumGoroutine") = false := by kernel_rfl
theorem fits142 : fits prog0 globs0 raws0 f142 x142 := ⟨by kernel_rfl, by kernel_rfl⟩
theorem name142 : (f142.name == "runtime.NumGoroutine") = false := by kernel_rfl
theorem fits39 : fits prog0 globs0 raws0 f39 x39 := ⟨by kernel_rfl, by kernel_rfl⟩
theorem name39 : (f39.name == "runtime.NumGoroutine") = false := by kernel_rfl
theorem fits78 : fits prog0 globs0 raws0 f78 x78 := ⟨by kernel_rfl, by kernel_rfl⟩
theorem name78 : (f78.name == "runtime.NumGoroutine") = false := by kernel_rfl
theorem fits125 : fits prog0 globs0 raws0 f125 x125 := ⟨by kernel_rfl, by kernel_rfl⟩
theorem name125 : (f125.name == "runtime.NumGoroutine") = false := by kernel_rfl
theorem fits121 : fits prog0 globs0 raws0 f121 x121 := ⟨by kernel_rfl, by kernel_rfl⟩
theorem name121 : (f121.name == "runtime.NumGoroutine") = false := by kernel_rfl
theorem fits119 : fits prog0 globs0 raws0 f119 x119 := ⟨by kernel_rfl, by kernel_rfl⟩
theorem name119 : (f119.name == "runtime.NumGoroutine") = false := by kernel_rfl
theorem fits113 : fits prog0 globs0 raws0 f113 x113 := ⟨by kernel_rfl, by kernel_rfl⟩
theorem name113 : (f113.name == "runtime.NumGoroutine") = false := by kernel_rfl
theorem fits44 : fits prog0 globs0 raws0 f44 x44 := ⟨by kernel_rfl, by kernel_rfl⟩
theorem name44 : (f44.name == "runtime.NumGoroutine") = false := by kernel_rfl
theorem fits182 : fits prog0 globs0 raws0 f182 x182 := ⟨by kernel_rfl, by kernel_rfl⟩
theorem name182 : (f182.name == "runtime.NumGoroutine") = false := by kernel_rfl
theorem fits227 : fits prog0 globs0 raws0 f227 x227 := ⟨by kernel_rfl, by kernel_rfl⟩
theorem name227 : (f227.name == "runtime.NumGoroutine") = false := by kernel_rfl
theorem fits151 : fits prog0 globs0 raws0 f151 x151 := ⟨by kernel_rfl, by kernel_rfl⟩
theorem name151 : (f151.name == "runtime.NumGoroutine") = false := by kernel_rfl
theorem fits68 : fits prog0 globs0 raws0 f68 x68 := ⟨by kernel_rfl, by kernel_rfl⟩
theorem name68 : (f68.name == "runtime.NumGoroutine") = false := by kernel_rfl
theorem fits197 : fits prog0 globs0 raws0 f197 x197 := ⟨by kernel_rfl, by kernel_rfl⟩
theorem name197 : (f197.name == "runtime.NumGoroutine") = false := by kernel_rfl
theorem fits181 : fits prog0 globs0 raws0 f181 x181 := ⟨by kernel_rfl, by kernel_rfl⟩
theorem name181 : (f181.name == "runtime.NumGoroutine") = false := by kernel_rfl
theorem fits92 : fits prog0 globs0 raws0 f92 x92 := ⟨by kernel_rfl, by kernel_rfl⟩
theorem name92 : (f92.name == "runtime.NumGoroutine") = false := by kernel_rfl
theorem fits29 : fits prog0 globs0 raws0 f29 x29 := ⟨by kernel_rfl, by kernel_rfl⟩
theorem name29 : (f29.name == "runtime.NumGoroutine") = false := by kernel_rfl
theorem fits232 : fits prog0 globs0 raws0 f232 x232 := ⟨by kernel_rfl, by kernel_rfl⟩
theorem name232 : (f232.name == "runtime.NumGoroutine") = false := by kernel_rfl
theorem fits153 : fits prog0 globs0 raws0 f153 x153 := ⟨by kernel_rfl, by kernel_rfl⟩
theorem name153 : (f153.name == "runtime.NumGoroutine") = false := by kernel_rfl
theorem fits220 : fits prog0 globs0 raws0 f220 x220 := ⟨by kernel_rfl, by kernel_rfl⟩
theorem name220 : (f220.name == "runtime.NumGoroutine") = false := by kernel_rfl
theorem fits236 : fits prog0 globs0 raws0 f236 x236 := ⟨by kernel_rfl, by kernel_rfl⟩
theorem name236 : (f236.name == "runtime.NumGoroutine") = false := by kernel_rfl
theorem fits70 : fits prog0 globs0 raws0 f70 x70 := ⟨by kernel_rfl, by kernel_rfl⟩
theorem name70 : (f70.name == "runtime.NumGoroutine") = false := by kernel_rfl
theorem fits107 : fits prog0 globs0 raws0 f107 x107 := ⟨by kernel_rfl, by kernel_rfl⟩
theorem name107 : (f107.name == "runtime.NumGoroutine") = false := by kernel_rfl
theorem fits205 : fits prog0 globs0 raws0 f205 x205 := ⟨by kernel_rfl, by kernel_rfl⟩
theorem name205 : (f205.name == "runtime.NumGoroutine") = false := by kernel_rfl
theorem fits82 : fits prog0 globs0 raws0 f82 x82 := ⟨by kernel_rfl, by kernel_rfl⟩
theorem name82 : (f82.name == "runtime.NumGoroutine") = false := by kernel_rfl
theorem fits202 : fits prog0 globs0 raws0 f202 x202 := ⟨by kernel_rfl, by kernel_rfl⟩
theorem name202 : (f202.name == "runtime.NumGoroutine") = false := by kernel_rfl
theorem fits80 : fits prog0 globs0 raws0 f80 x80 := ⟨by kernel_rfl, by kernel_rfl⟩
theorem name80 : (f80.name == "runtime.NumGoroutine") = false := by kernel_rfl
theorem fits42 : fits prog0 globs0 raws0 f42 x42 := ⟨by kernel_rfl, by kernel_rfl⟩
theorem name42 : (f42.name == "runtime.NumGoroutine") = false := by kernel_rfl
theorem fits47 : fits prog0 globs0 raws0 f47 x47 := ⟨by kernel_rfl, by kernel_rfl⟩
theorem name47 : (f47.name == "runtime.NumGoroutine") = false := by kernel_rfl
theorem fits65 : fits prog0 globs0 raws0 f65 x65 := ⟨by kernel_rfl, by kernel_rfl⟩
theorem name65 : (f65.name == "runtime.NumGoroutine") = false := by kernel_rfl
theorem fits212 : fits prog0 globs0 raws0 f212 x212 := ⟨by kernel_rfl, by kernel_rfl⟩
theorem name212 : (f212.name == "runtime.NumGoroutine") = false := by kernel_rfl
theorem fits77 : fits prog0 globs0 raws0 f77 x77 := ⟨by kernel_rfl, by kernel_rfl⟩
theorem name77 : (f77.name == "runtime.NumGoroutine") = false := by kernel_rfl
theorem fits108 : fits prog0 globs0 raws0 f108 x108 := ⟨by kernel_rfl, by kernel_rfl⟩
theorem name108 : (f108.name == "runtime.NumGoroutine") = false := by kernel_rfl
theorem fits52 : fits prog0 globs0 raws0 f52 x52 := ⟨by kernel_rfl, by kernel_rfl⟩
theorem name52 : (f52.name == "runtime.NumGoroutine") = false := by kernel_rfl
theorem fits213 : fits prog0 globs0 raws0 f213 x213 := ⟨by kernel_rfl, by kernel_rfl⟩
theorem name213 : (f213.name == "runtime.NumGoroutine") = false := by kernel_rfl
theorem fits102 : fits prog0 globs0 raws0 f102 x102 := ⟨by kernel_rfl, by kernel_rfl⟩
theorem name102 : (f102.name == "runtime.NumGoroutine") = false := by kernel_rfl
theorem fits175 : fits prog0 globs0 raws0 f175 x175 := ⟨by kernel_rfl, by kernel_rfl⟩
theorem name175 : (f175.name == "runtime.NumGoroutine") = false := by kernel_rfl
theorem fits149 : fits prog0 globs0 raws0 f149 x149 := ⟨by kernel_rfl, by kernel_rfl⟩
theorem name149 : (f149.name == "runtime.NumGoroutine") = false := by kernel_rfl
theorem fits141 : fits prog0 globs0 raws0 f141 x141 := ⟨by kernel_rfl, by kernel_rfl⟩
theorem name141 : (f141.name == "runtime.NumGoroutine") = false := by kernel_rfl
end Go.Ab
