/- The run of SchemaConverts on every typed datum. -/
import Derived.Test.YtmofokakccionaaGreatDoorRr
import Derived.Test.YtmofokakccionaaGreatDoorAbD
import Derived.Test.YtmofokakccionaaGreatDoorAm5
import Derived.Test.YtmofokakccionaaGreatDoorAwN
set_option linter.all false
namespace Go.Ab
open Go
set_option maxRecDepth 100000
theorem tabS_same (f : Nat) : same (tabS f) (tabw f) := same_cond rfl (tab_same f)
theorem evS (n : Nat) : evH tabS n = evFn tabw n := evH_eq tabS_same n
theorem wf_in {n : Int} (h : wfI n) : inI n := by
  simp only [wfI, Lit.wf, Bool.and_eq_true, decide_eq_true_eq] at h
  exact ⟨h.1, h.2⟩
def fuelSchemaConverts : Nat := 3000
theorem run_SchemaConverts (xs : List Da) (h : Pw (datTy prog0 (cellsTy prog0 8)) Go.Proofs.Tryz.f6.params.toList xs) : evFn tabw fuelSchemaConverts 6 (xs.map .p) [] = some (.p (.bool true), []) := by
  have hp : Go.Proofs.Tryz.f6.params.toList = [51, 49, 3] := by kernel_rfl
  rw [hp] at h
  obtain ⟨x, r, rfl, h1, h⟩ := h.cons_inv
  obtain ⟨y, r, rfl, h2, h⟩ := h.cons_inv
  obtain ⟨z, r, rfl, h3, h⟩ := h.cons_inv
  obtain rfl := h.nil_inv
  obtain ⟨o, rfl, wo⟩ := d_Op 4 x h1
  obtain ⟨v, rfl, wv⟩ := d_Value 5 y h2
  obtain ⟨kd, rfl, _⟩ := d_int 7 z h3
  rw [← evS]
  exact q_SchemaConverts 2939 o.kind o.arg v kd (wf_in wv.2.1) (wf_in wo.2.2.1)
end Go.Ab
