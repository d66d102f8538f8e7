/- The run of SchemaStates on every typed datum. -/
import Derived.Test.YtmofokakccionaaGreatDoorRr
import Derived.Test.YtmofokakccionaaGreatDoorAbD
import Derived.Test.YtmofokakccionaaGreatDoorAm5
import Derived.Test.YtmofokakccionaaGreatDoorAwN
set_option linter.all false
namespace Go.Ab
open Go
set_option maxRecDepth 100000
theorem tabS_same (f : Nat) : same (tabS f) (tabw f) := same_cond rfl (tab_same f)
theorem evS (n : Nat) : evH tabS n = evFn tabw n := evH_eq tabS_same n
def fuelSchemaStates : Nat := 3000
theorem run_SchemaStates (xs : List Da) (h : Pw (datTy prog0 (cellsTy prog0 8)) Go.Proofs.Tryz.f3.params.toList xs) : evFn tabw fuelSchemaStates 3 (xs.map .p) [] = some (.p (.bool true), []) := by
  have hp : Go.Proofs.Tryz.f3.params.toList = [24, 25] := by kernel_rfl
  rw [hp] at h
  obtain ⟨x, r, rfl, h1, h⟩ := h.cons_inv
  obtain ⟨y, r, rfl, h2, h⟩ := h.cons_inv
  obtain rfl := h.nil_inv
  obtain ⟨s, rfl, _⟩ := d_Schema 2 x h1
  obtain ⟨vs, rfl, _⟩ := d_Values 4 y h2
  rw [← evS]
  exact q_SchemaStates 2969 s.type s.fields vs
end Go.Ab
