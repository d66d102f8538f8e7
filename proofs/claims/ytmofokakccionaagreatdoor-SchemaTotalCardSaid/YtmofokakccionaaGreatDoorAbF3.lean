/- The code is the program's. Printed by mkco.py. -/
import Derived.Test.YtmofokakccionaaGreatDoorAbG
import Derived.KernelRfl
import Derived.Test.YtmofokakccionaaGreatDoorAbC0
import Derived.Test.YtmofokakccionaaGreatDoorAbC1
import Derived.Test.YtmofokakccionaaGreatDoorAbC2
import Derived.Test.YtmofokakccionaaGreatDoorAbC3
set_option linter.all false
namespace Go.Ab
open Go.Proofs.Tryz
set_option maxRecDepth 100000
theorem fits28 : fits prog0 globs0 raws0 f28 x28 := ⟨by kernel_rfl, by kernel_rfl⟩
theorem name28 : (f28.name == "runtime.NumGoroutine") = false := by kernel_rfl
theorem fits97 : fits prog0 globs0 raws0 f97 x97 := ⟨by kernel_rfl, by kernel_rfl⟩
theorem name97 : (f97.name == "runtime.NumGoroutine") = false := by kernel_rfl
theorem fits112 : fits prog0 globs0 raws0 f112 x112 := ⟨by kernel_rfl, by kernel_rfl⟩
theorem name112 : (f112.name == "runtime.NumGoroutine") = false := by kernel_rfl
theorem fits32 : fits prog0 globs0 raws0 f32 x32 := ⟨by kernel_rfl, by kernel_rfl⟩
theorem name32 : (f32.name == "runtime.NumGoroutine") = false := by kernel_rfl
theorem fits199 : fits prog0 globs0 raws0 f199 x199 := ⟨by kernel_rfl, by kernel_rfl⟩
theorem name199 : (f199.name == "runtime.NumGoroutine") = false := by kernel_rfl
theorem fits154 : fits prog0 globs0 raws0 f154 x154 := ⟨by kernel_rfl, by kernel_rfl⟩
theorem name154 : (f154.name == "runtime.NumGoroutine") = false := by kernel_rfl
theorem fits121 : fits prog0 globs0 raws0 f121 x121 := ⟨by kernel_rfl, by kernel_rfl⟩
theorem name121 : (f121.name == "runtime.NumGoroutine") = false := by kernel_rfl
theorem fits119 : fits prog0 globs0 raws0 f119 x119 := ⟨by kernel_rfl, by kernel_rfl⟩
theorem name119 : (f119.name == "runtime.NumGoroutine") = false := by kernel_rfl
theorem fits113 : fits prog0 globs0 raws0 f113 x113 := ⟨by kernel_rfl, by kernel_rfl⟩
theorem name113 : (f113.name == "runtime.NumGoroutine") = false := by kernel_rfl
theorem fits44 : fits prog0 globs0 raws0 f44 x44 := ⟨by kernel_rfl, by kernel_rfl⟩
theorem name44 : (f44.name == "runtime.NumGoroutine") = false := by kernel_rfl
theorem fits182 : fits prog0 globs0 raws0 f182 x182 := ⟨by kernel_rfl, by kernel_rfl⟩
theorem name182 : (f182.name == "runtime.NumGoroutine") = false := by kernel_rfl
theorem fits227 : fits prog0 globs0 raws0 f227 x227 := ⟨by kernel_rfl, by kernel_rfl⟩
theorem name227 : (f227.name == "runtime.NumGoroutine") = false := by kernel_rfl
theorem fits73 : fits prog0 globs0 raws0 f73 x73 := ⟨by kernel_rfl, by kernel_rfl⟩
theorem name73 : (f73.name == "runtime.NumGoroutine") = false := by kernel_rfl
theorem fits176 : fits prog0 globs0 raws0 f176 x176 := ⟨by kernel_rfl, by kernel_rfl⟩
theorem name176 : (f176.name == "runtime.NumGoroutine") = false := by kernel_rfl
theorem fits197 : fits prog0 globs0 raws0 f197 x197 := ⟨by kernel_rfl, by kernel_rfl⟩
theorem name197 : (f197.name == "runtime.NumGoroutine") = false := by kernel_rfl
theorem fits181 : fits prog0 globs0 raws0 f181 x181 := ⟨by kernel_rfl, by kernel_rfl⟩
theorem name181 : (f181.name == "runtime.NumGoroutine") = false := by kernel_rfl
theorem fits92 : fits prog0 globs0 raws0 f92 x92 := ⟨by kernel_rfl, by kernel_rfl⟩
theorem name92 : (f92.name == "runtime.NumGoroutine") = false := by kernel_rfl
theorem fits71 : fits prog0 globs0 raws0 f71 x71 := ⟨by kernel_rfl, by kernel_rfl⟩
theorem name71 : (f71.name == "runtime.NumGoroutine") = false := by kernel_rfl
theorem fits117 : fits prog0 globs0 raws0 f117 x117 := ⟨by kernel_rfl, by kernel_rfl⟩
theorem name117 : (f117.name == "runtime.NumGoroutine") = false := by kernel_rfl
theorem fits16 : fits prog0 globs0 raws0 f16 x16 := ⟨by kernel_rfl, by kernel_rfl⟩
theorem name16 : (f16.name == "runtime.NumGoroutine") = false := by kernel_rfl
theorem fits62 : fits prog0 globs0 raws0 f62 x62 := ⟨by kernel_rfl, by kernel_rfl⟩
theorem name62 : (f62.name == "runtime.NumGoroutine") = false := by kernel_rfl
theorem fits237 : fits prog0 globs0 raws0 f237 x237 := ⟨by kernel_rfl, by kernel_rfl⟩
theorem name237 : (f237.name == "runtime.NumGoroutine") = false := by kernel_rfl
theorem fits45 : fits prog0 globs0 raws0 f45 x45 := ⟨by kernel_rfl, by kernel_rfl⟩
theorem name45 : (f45.name == "runtime.NumGoroutine") = false := by kernel_rfl
theorem fits201 : fits prog0 globs0 raws0 f201 x201 := ⟨by kernel_rfl, by kernel_rfl⟩
theorem name201 : (f201.name == "runtime.NumGoroutine") = false := by kernel_rfl
theorem fits229 : fits prog0 globs0 raws0 f229 x229 := ⟨by kernel_rfl, by kernel_rfl⟩
theorem name229 : (f229.name == "runtime.NumGoroutine") = false := by kernel_rfl
theorem fits90 : fits prog0 globs0 raws0 f90 x90 := ⟨by kernel_rfl, by kernel_rfl⟩
theorem name90 : (f90.name == "runtime.NumGoroutine") = false := by kernel_rfl
theorem fits231 : fits prog0 globs0 raws0 f231 x231 := ⟨by kernel_rfl, by kernel_rfl⟩
theorem name231 : (f231.name == "runtime.NumGoroutine") = false := by kernel_rfl
theorem fits172 : fits prog0 globs0 raws0 f172 x172 := ⟨by kernel_rfl, by kernel_rfl⟩
theorem name172 : (f172.name == "runtime.NumGoroutine") = false := by kernel_rfl
theorem fits195 : fits prog0 globs0 raws0 f195 x195 := ⟨by kernel_rfl, by kernel_rfl⟩
theorem name195 : (f195.name == "runtime.NumGoroutine") = false := by kernel_rfl
theorem fits66 : fits prog0 globs0 raws0 f66 x66 := ⟨by kernel_rfl, by kernel_rfl⟩
theorem name66 : (f66.name == "runtime.NumGoroutine") = false := by kernel_rfl
theorem fits65 : fits prog0 globs0 raws0 f65 x65 := ⟨by kernel_rfl, by kernel_rfl⟩
theorem name65 : (f65.name == "runtime.NumGoroutine") = false := by kernel_rfl
theorem fits212 : fits prog0 globs0 raws0 f212 x212 := ⟨by kernel_rfl, by kernel_rfl⟩
theorem name212 : (f212.name == "runtime.NumGoroutine") = false := by kernel_rfl
theorem fits77 : fits prog0 globs0 raws0 f77 x77 := ⟨by kernel_rfl, by kernel_rfl⟩
theorem name77 : (f77.name == "runtime.NumGoroutine") = false := by kernel_rfl
theorem fits108 : fits prog0 globs0 raws0 f108 x108 := ⟨by kernel_rfl, by kernel_rfl⟩
theorem name108 : (f108.name == "runtime.NumGoroutine") = false := by kernel_rfl
theorem fits61 : fits prog0 globs0 raws0 f61 x61 := ⟨by kernel_rfl, by kernel_rfl⟩
theorem name61 : (f61.name == "runtime.NumGoroutine") = false := by kernel_rfl
theorem fits213 : fits prog0 globs0 raws0 f213 x213 := ⟨by kernel_rfl, by kernel_rfl⟩
theorem name213 : (f213.name == "runtime.NumGoroutine") = false := by kernel_rfl
theorem fits102 : fits prog0 globs0 raws0 f102 x102 := ⟨by kernel_rfl, by kernel_rfl⟩
theorem name102 : (f102.name == "runtime.NumGoroutine") = false := by kernel_rfl
theorem fits175 : fits prog0 globs0 raws0 f175 x175 := ⟨by kernel_rfl, by kernel_rfl⟩
theorem name175 : (f175.name == "runtime.NumGoroutine") = false := by kernel_rfl
theorem fits88 : fits prog0 globs0 raws0 f88 x88 := ⟨by kernel_rfl, by kernel_rfl⟩
theorem name88 : (f88.name == "runtime.NumGoroutine") = false := by kernel_rfl
theorem fits94 : fits prog0 globs0 raws0 f94 x94 := ⟨by kernel_rfl, by kernel_rfl⟩
theorem name94 : (f94.name == "runtime.NumGoroutine") = false := by kernel_rfl
theorem fits59 : fits prog0 globs0 raws0 f59 x59 := ⟨by kernel_rfl, by kernel_rfl⟩
theorem name59 : (f59.name == "runtime.NumGoroutine") = false := by kernel_rfl
end Go.Ab
