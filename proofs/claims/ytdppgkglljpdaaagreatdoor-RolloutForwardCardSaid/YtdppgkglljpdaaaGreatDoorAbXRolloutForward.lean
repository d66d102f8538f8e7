/- The run of RolloutForward on every typed datum. -/
import Derived.Test.YtdppgkglljpdaaaGreatDoorS6b
import Derived.Test.YtdppgkglljpdaaaGreatDoorD37
import Derived.Test.YtdppgkglljpdaaaGreatDoorAm5
import Derived.Test.YtdppgkglljpdaaaGreatDoorAwN
set_option linter.all false
namespace Go.Ab
open Go
set_option maxRecDepth 100000
theorem tabS_same (f : Nat) : same (tabS f) (tabw f) := same_cond rfl (tab_same f)
theorem evS (n : Nat) : evH tabS n = evFn tabw n := evH_eq tabS_same n
theorem run_RolloutForward (xs : List Da) (h : Pw (datTy prog0 (cellsTy prog0 8)) Go.Proofs.Tryz.f7.params.toList xs) : ∃ N, evFn tabw N 7 (xs.map .p) [] = some (.p (.bool true), []) := by
  have hp : Go.Proofs.Tryz.f7.params.toList = [63, 23] := by kernel_rfl
  rw [hp] at h
  obtain ⟨x, r, rfl, h1, h⟩ := h.cons_inv
  obtain ⟨w, r, rfl, h5, h⟩ := h.cons_inv
  obtain rfl := h.nil_inv
  obtain ⟨l, rfl, _, hl⟩ := d_Acts 5 x h1
  obtain ⟨s, t, rfl, ws, wt⟩ := d_Ref 6 w h5
  refine ⟨200 + s.length + t.length, ?_⟩
  rw [← evS]
  exact q_Forward _ l hl s t ws.1 wt.1 (Nat.le_refl _)
end Go.Ab
