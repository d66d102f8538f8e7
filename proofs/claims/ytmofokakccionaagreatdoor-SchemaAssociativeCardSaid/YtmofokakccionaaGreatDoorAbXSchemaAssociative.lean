/- The run of SchemaAssociative on every typed datum. -/
import Derived.Test.YtmofokakccionaaGreatDoorRr
import Derived.Test.YtmofokakccionaaGreatDoorAbD
import Derived.Test.YtmofokakccionaaGreatDoorAm5
import Derived.Test.YtmofokakccionaaGreatDoorAwN
set_option linter.all false
namespace Go.Ab
open Go
set_option maxRecDepth 100000
theorem tabS_same (f : Nat) : same (tabS f) (tabw f) := same_cond rfl (tab_same f)
theorem evS (n : Nat) : evH tabS n = evFn tabw n := evH_eq tabS_same n
def fuelSchemaAssociative : Nat := 3000
theorem run_SchemaAssociative (xs : List Da) (h : Pw (datTy prog0 (cellsTy prog0 8)) Go.Proofs.Tryz.f8.params.toList xs) : evFn tabw fuelSchemaAssociative 8 (xs.map .p) [] = some (.p (.bool true), []) := by
  have hp : Go.Proofs.Tryz.f8.params.toList = [62, 62, 62] := by kernel_rfl
  rw [hp] at h
  obtain ⟨x, r, rfl, h1, h⟩ := h.cons_inv
  obtain ⟨y, r, rfl, h2, h⟩ := h.cons_inv
  obtain ⟨z, r, rfl, h3, h⟩ := h.cons_inv
  obtain rfl := h.nil_inv
  obtain ⟨a, rfl, _⟩ := d_Migrator 0 x h1
  obtain ⟨b, rfl, _⟩ := d_Migrator 0 y h2
  obtain ⟨c, rfl, _⟩ := d_Migrator 0 z h3
  rw [← evS]
  exact q_SchemaAssociative 2939 a.type b.type c.type a.rules b.rules c.rules
end Go.Ab
