/- The run of RolloutSteps on every typed datum. -/
import Derived.Test.YtdppgkglljpdaaaGreatDoorRs
import Derived.Test.YtdppgkglljpdaaaGreatDoorAbD
import Derived.Test.YtdppgkglljpdaaaGreatDoorAm5
import Derived.Test.YtdppgkglljpdaaaGreatDoorAwK
set_option linter.all false
namespace Go.Ab
open Go
set_option maxRecDepth 100000
theorem evS (n : Nat) : evH tabS n = evFn tabw2 n := evH_eq tabS_same n
theorem wf_in {n : Int} (h : wfI n) : inI n := by
  simp only [wfI, Lit.wf, Bool.and_eq_true, decide_eq_true_eq] at h
  exact ⟨h.1, h.2⟩
def fuelRolloutSteps : Nat := 3000
theorem run_RolloutSteps (xs : List Da) (h : Pw (datTy prog0 (cellsTy prog0 8)) Go.Proofs.Tryz.f5.params.toList xs) : evFn tabw2 fuelRolloutSteps 5 (xs.map .p) [] = some (.p (.bool true), []) := by
  have hp : Go.Proofs.Tryz.f5.params.toList = [3, 36] := by kernel_rfl
  rw [hp] at h
  obtain ⟨x, r, rfl, h1, h⟩ := h.cons_inv
  obtain ⟨y, r, rfl, h2, h⟩ := h.cons_inv
  obtain rfl := h.nil_inv
  obtain ⟨b, rfl, wb⟩ := d_int 7 x h1
  obtain ⟨l, hl, _⟩ := c_ints 6 _ (d_one (by kernel_rfl) h2)
  obtain rfl : y = .slice 1 (l.map (.int .i64)) := by simpa using hl
  rw [← evS]
  exact q_Steps 2890 b l (wf_in wb)
end Go.Ab
