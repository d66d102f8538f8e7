/- The run of RolloutCarries on every typed datum. -/
import Derived.Test.YtdppgkglljpdaaaGreatDoorRs
import Derived.Test.YtdppgkglljpdaaaGreatDoorAbD
import Derived.Test.YtdppgkglljpdaaaGreatDoorAm5
import Derived.Test.YtdppgkglljpdaaaGreatDoorAwK
set_option linter.all false
namespace Go.Ab
open Go
set_option maxRecDepth 100000
theorem evS (n : Nat) : evH tabS n = evFn tabw2 n := evH_eq tabS_same n
theorem wf_in {n : Int} (h : wfI n) : inI n := by
  simp only [wfI, Lit.wf, Bool.and_eq_true, decide_eq_true_eq] at h
  exact ⟨h.1, h.2⟩
theorem wf_u8 {a : Int} (h : (Lit.int .u8 a).wf = true) : 0 ≤ a ∧ a < 256 := by
  simp only [Lit.wf, Bool.and_eq_true, decide_eq_true_eq] at h
  exact ⟨h.1, Int.lt_of_le_of_lt h.2 (by decide)⟩
def fuelRolloutCarries : Nat := 3000
theorem run_RolloutCarries (xs : List Da) (h : Pw (datTy prog0 (cellsTy prog0 8)) Go.Proofs.Tryz.f4.params.toList xs) : evFn tabw2 fuelRolloutCarries 4 (xs.map .p) [] = some (.p (.bool true), []) := by
  have hp : Go.Proofs.Tryz.f4.params.toList = [5, 5, 9, 3, 3, 27, 4] := by kernel_rfl
  rw [hp] at h
  obtain ⟨x1, r, rfl, h1, h⟩ := h.cons_inv
  obtain ⟨x2, r, rfl, h2, h⟩ := h.cons_inv
  obtain ⟨x3, r, rfl, h3, h⟩ := h.cons_inv
  obtain ⟨x4, r, rfl, h4, h⟩ := h.cons_inv
  obtain ⟨x5, r, rfl, h5, h⟩ := h.cons_inv
  obtain ⟨x6, r, rfl, h6, h⟩ := h.cons_inv
  obtain ⟨x7, r, rfl, h7, h⟩ := h.cons_inv
  obtain rfl := h.nil_inv
  obtain ⟨how, rfl, w1⟩ := d_u8 7 x1 h1
  obtain ⟨a, rfl, w2⟩ := d_u8 7 x2 h2
  obtain ⟨typ, rfl, _⟩ := d_str 7 x3 h3
  obtain ⟨f, rfl, _⟩ := d_int 7 x4 h4
  obtain ⟨t, rfl, _⟩ := d_int 7 x5 h5
  obtain ⟨ws, rfl, _, w6⟩ := d_Values 4 x6 h6
  obtain ⟨b, rfl⟩ := d_bool 7 x7 h7
  have hw : ∀ v ∈ ws, inI v.n := fun v hv => wf_in (w6 v hv).2.1
  rw [← evS]
  cases b
  · exact q_CarriesF 2890 how a typ f t ws (wf_u8 w1).1 (wf_u8 w2).1 (wf_u8 w2).2 hw
  · exact q_CarriesT 2890 how a typ f t ws (wf_u8 w1).1 (wf_u8 w2).1 (wf_u8 w2).2 hw
end Go.Ab
