/- The run of RolloutAny on every typed datum. -/
import Derived.Test.YtdppgkglljpdaaaGreatDoorRr
import Derived.Test.YtdppgkglljpdaaaGreatDoorD37
import Derived.Test.YtdppgkglljpdaaaGreatDoorAm5
import Derived.Test.YtdppgkglljpdaaaGreatDoorAwN
set_option linter.all false
namespace Go.Ab
open Go
set_option maxRecDepth 100000
theorem tabS_same (f : Nat) : same (tabS f) (tabw f) := same_cond rfl (tab_same f)
theorem evS (n : Nat) : evH tabS n = evFn tabw n := evH_eq tabS_same n
theorem run_RolloutAny (xs : List Da) (h : Pw (datTy prog0 (cellsTy prog0 8)) Go.Proofs.Tryz.f6.params.toList xs) : ∃ N, evFn tabw N 6 (xs.map .p) [] = some (.p (.bool true), []) := by
  have hp : Go.Proofs.Tryz.f6.params.toList = [54, 3, 3, 3, 23] := by kernel_rfl
  rw [hp] at h
  obtain ⟨x, r, rfl, h1, h⟩ := h.cons_inv
  obtain ⟨y, r, rfl, h2, h⟩ := h.cons_inv
  obtain ⟨z, r, rfl, h3, h⟩ := h.cons_inv
  obtain ⟨u, r, rfl, h4, h⟩ := h.cons_inv
  obtain ⟨w, r, rfl, h5, h⟩ := h.cons_inv
  obtain rfl := h.nil_inv
  obtain ⟨ro, rfl, _⟩ := d_Rollout 6 x h1
  obtain ⟨a, rfl, _⟩ := d_int 7 y h2
  obtain ⟨b, rfl, _⟩ := d_int 7 z h3
  obtain ⟨c, rfl, _⟩ := d_int 7 u h4
  obtain ⟨s, t, rfl, ws, wt⟩ := d_Ref 6 w h5
  refine ⟨60 + s.length + t.length, ?_⟩
  rw [← evS]
  exact q_Any _ ro.a ro.n ro.p a b c s t ws.1 wt.1 (Nat.le_refl _)
end Go.Ab
