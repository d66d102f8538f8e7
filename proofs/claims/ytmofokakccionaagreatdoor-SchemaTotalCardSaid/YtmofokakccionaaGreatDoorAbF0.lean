/- The code is the program's. Printed by mkco.py. -/
import Derived.Test.YtmofokakccionaaGreatDoorAbG
import Derived.KernelRfl
import Derived.Test.YtmofokakccionaaGreatDoorAbC0
import Derived.Test.YtmofokakccionaaGreatDoorAbC1
import Derived.Test.YtmofokakccionaaGreatDoorAbC2
import Derived.Test.YtmofokakccionaaGreatDoorAbC3
set_option linter.all false
namespace Go.Ab
open Go.Proofs.Tryz
set_option maxRecDepth 100000
theorem fits235 : fits prog0 globs0 raws0 f235 x235 := ⟨by kernel_rfl, by kernel_rfl⟩
theorem name235 : (f235.name == "runtime.NumGoroutine") = false := by kernel_rfl
theorem fits120 : fits prog0 globs0 raws0 f120 x120 := ⟨by kernel_rfl, by kernel_rfl⟩
theorem name120 : (f120.name == "runtime.NumGoroutine") = false := by kernel_rfl
theorem fits178 : fits prog0 globs0 raws0 f178 x178 := ⟨by kernel_rfl, by kernel_rfl⟩
theorem name178 : (f178.name == "runtime.NumGoroutine") = false := by kernel_rfl
theorem fits142 : fits prog0 globs0 raws0 f142 x142 := ⟨by kernel_rfl, by kernel_rfl⟩
theorem name142 : (f142.name == "runtime.NumGoroutine") = false := by kernel_rfl
theorem fits39 : fits prog0 globs0 raws0 f39 x39 := ⟨by kernel_rfl, by kernel_rfl⟩
theorem name39 : (f39.name == "runtime.NumGoroutine") = false := by kernel_rfl
theorem fits78 : fits prog0 globs0 raws0 f78 x78 := ⟨by kernel_rfl, by kernel_rfl⟩
theorem name78 : (f78.name == "runtime.NumGoroutine") = false := by kernel_rfl
theorem fits125 : fits prog0 globs0 raws0 f125 x125 := ⟨by kernel_rfl, by kernel_rfl⟩
theorem name125 : (f125.name == "runtime.NumGoroutine") = false := by kernel_rfl
theorem fits145 : fits prog0 globs0 raws0 f145 x145 := ⟨by kernel_rfl, by kernel_rfl⟩
theorem name145 : (f145.name == "runtime.NumGoroutine") = false := by kernel_rfl
theorem fits18 : fits prog0 globs0 raws0 f18 x18 := ⟨by kernel_rfl, by kernel_rfl⟩
theorem name18 : (f18.name == "runtime.NumGoroutine") = false := by kernel_rfl
theorem fits234 : fits prog0 globs0 raws0 f234 x234 := ⟨by kernel_rfl, by kernel_rfl⟩
theorem name234 : (f234.name == "runtime.NumGoroutine") = false := by kernel_rfl
theorem fits109 : fits prog0 globs0 raws0 f109 x109 := ⟨by kernel_rfl, by kernel_rfl⟩
theorem name109 : (f109.name == "runtime.NumGoroutine") = false := by kernel_rfl
theorem fits233 : fits prog0 globs0 raws0 f233 x233 := ⟨by kernel_rfl, by kernel_rfl⟩
theorem name233 : (f233.name == "runtime.NumGoroutine") = false := by kernel_rfl
theorem fits114 : fits prog0 globs0 raws0 f114 x114 := ⟨by kernel_rfl, by kernel_rfl⟩
theorem name114 : (f114.name == "runtime.NumGoroutine") = false := by kernel_rfl
theorem fits151 : fits prog0 globs0 raws0 f151 x151 := ⟨by kernel_rfl, by kernel_rfl⟩
theorem name151 : (f151.name == "runtime.NumGoroutine") = false := by kernel_rfl
theorem fits68 : fits prog0 globs0 raws0 f68 x68 := ⟨by kernel_rfl, by kernel_rfl⟩
theorem name68 : (f68.name == "runtime.NumGoroutine") = false := by kernel_rfl
theorem fits37 : fits prog0 globs0 raws0 f37 x37 := ⟨by kernel_rfl, by kernel_rfl⟩
theorem name37 : (f37.name == "runtime.NumGoroutine") = false := by kernel_rfl
theorem fits143 : fits prog0 globs0 raws0 f143 x143 := ⟨by kernel_rfl, by kernel_rfl⟩
theorem name143 : (f143.name == "runtime.NumGoroutine") = false := by kernel_rfl
theorem fits83 : fits prog0 globs0 raws0 f83 x83 := ⟨by kernel_rfl, by kernel_rfl⟩
theorem name83 : (f83.name == "runtime.NumGoroutine") = false := by kernel_rfl
theorem fits126 : fits prog0 globs0 raws0 f126 x126 := ⟨by kernel_rfl, by kernel_rfl⟩
theorem name126 : (f126.name == "runtime.NumGoroutine") = false := by kernel_rfl
theorem fits111 : fits prog0 globs0 raws0 f111 x111 := ⟨by kernel_rfl, by kernel_rfl⟩
theorem name111 : (f111.name == "runtime.NumGoroutine") = false := by kernel_rfl
theorem fits144 : fits prog0 globs0 raws0 f144 x144 := ⟨by kernel_rfl, by kernel_rfl⟩
theorem name144 : (f144.name == "runtime.NumGoroutine") = false := by kernel_rfl
theorem fits106 : fits prog0 globs0 raws0 f106 x106 := ⟨by kernel_rfl, by kernel_rfl⟩
theorem name106 : (f106.name == "runtime.NumGoroutine") = false := by kernel_rfl
theorem fits57 : fits prog0 globs0 raws0 f57 x57 := ⟨by kernel_rfl, by kernel_rfl⟩
theorem name57 : (f57.name == "runtime.NumGoroutine") = false := by kernel_rfl
theorem fits115 : fits prog0 globs0 raws0 f115 x115 := ⟨by kernel_rfl, by kernel_rfl⟩
theorem name115 : (f115.name == "runtime.NumGoroutine") = false := by kernel_rfl
theorem fits147 : fits prog0 globs0 raws0 f147 x147 := ⟨by kernel_rfl, by kernel_rfl⟩
theorem name147 : (f147.name == "runtime.NumGoroutine") = false := by kernel_rfl
theorem fits171 : fits prog0 globs0 raws0 f171 x171 := ⟨by kernel_rfl, by kernel_rfl⟩
theorem name171 : (f171.name == "runtime.NumGoroutine") = false := by kernel_rfl
theorem fits101 : fits prog0 globs0 raws0 f101 x101 := ⟨by kernel_rfl, by kernel_rfl⟩
theorem name101 : (f101.name == "runtime.NumGoroutine") = false := by kernel_rfl
theorem fits105 : fits prog0 globs0 raws0 f105 x105 := ⟨by kernel_rfl, by kernel_rfl⟩
theorem name105 : (f105.name == "runtime.NumGoroutine") = false := by kernel_rfl
theorem fits43 : fits prog0 globs0 raws0 f43 x43 := ⟨by kernel_rfl, by kernel_rfl⟩
theorem name43 : (f43.name == "runtime.NumGoroutine") = false := by kernel_rfl
theorem fits46 : fits prog0 globs0 raws0 f46 x46 := ⟨by kernel_rfl, by kernel_rfl⟩
theorem name46 : (f46.name == "runtime.NumGoroutine") = false := by kernel_rfl
theorem fits38 : fits prog0 globs0 raws0 f38 x38 := ⟨by kernel_rfl, by kernel_rfl⟩
theorem name38 : (f38.name == "runtime.NumGoroutine") = false := by kernel_rfl
theorem fits146 : fits prog0 globs0 raws0 f146 x146 := ⟨by kernel_rfl, by kernel_rfl⟩
theorem name146 : (f146.name == "runtime.NumGoroutine") = false := by kernel_rfl
theorem fits110 : fits prog0 globs0 raws0 f110 x110 := ⟨by kernel_rfl, by kernel_rfl⟩
theorem name110 : (f110.name == "runtime.NumGoroutine") = false := by kernel_rfl
theorem fits209 : fits prog0 globs0 raws0 f209 x209 := ⟨by kernel_rfl, by kernel_rfl⟩
theorem name209 : (f209.name == "runtime.NumGoroutine") = false := by kernel_rfl
theorem fits203 : fits prog0 globs0 raws0 f203 x203 := ⟨by kernel_rfl, by kernel_rfl⟩
theorem name203 : (f203.name == "runtime.NumGoroutine") = false := by kernel_rfl
theorem fits52 : fits prog0 globs0 raws0 f52 x52 := ⟨by kernel_rfl, by kernel_rfl⟩
theorem name52 : (f52.name == "runtime.NumGoroutine") = false := by kernel_rfl
theorem fits75 : fits prog0 globs0 raws0 f75 x75 := ⟨by kernel_rfl, by kernel_rfl⟩
theorem name75 : (f75.name == "runtime.NumGoroutine") = false := by kernel_rfl
theorem fits219 : fits prog0 globs0 raws0 f219 x219 := ⟨by kernel_rfl, by kernel_rfl⟩
theorem name219 : (f219.name == "runtime.NumGoroutine") = false := by kernel_rfl
theorem fits214 : fits prog0 globs0 raws0 f214 x214 := ⟨by kernel_rfl, by kernel_rfl⟩
theorem name214 : (f214.name == "runtime.NumGoroutine") = false := by kernel_rfl
theorem fits149 : fits prog0 globs0 raws0 f149 x149 := ⟨by kernel_rfl, by kernel_rfl⟩
theorem name149 : (f149.name == "runtime.NumGoroutine") = false := by kernel_rfl
theorem fits141 : fits prog0 globs0 raws0 f141 x141 := ⟨by kernel_rfl, by kernel_rfl⟩
theorem name141 : (f141.name == "runtime.NumGoroutine") = false := by kernel_rfl
theorem fits60 : fits prog0 globs0 raws0 f60 x60 := ⟨by kernel_rfl, by kernel_rfl⟩
theorem name60 : (f60.name == "runtime.NumGoroutine") = false := by kernel_rfl
end Go.Ab
