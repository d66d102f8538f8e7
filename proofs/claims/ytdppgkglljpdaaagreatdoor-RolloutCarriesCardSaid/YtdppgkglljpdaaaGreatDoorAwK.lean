/- The table with the known answers: the program's versions, what is acceptable of them. -/
import Derived.Test.YtdppgkglljpdaaaGreatDoorAwN
import Derived.Test.YtdppgkglljpdaaaGreatDoorAbZ
import Derived.KernelRfl
set_option linter.all false
namespace Go.Ab
open Go
set_option maxRecDepth 100000
theorem run_check1 : evH tabH 3000 97 [.p (.agg [prog1])] [] = ansB := by kernel_rfl
theorem run_check2 : evH tabH 3000 97 [.p (.agg [prog2])] [] = ansB := by kernel_rfl
theorem run_vers : evH tabHn 3000 32 [] [] = ansV := by kernel_rfl
theorem run_third : evH tabHn 3000 34 [.p (.agg [prog2])] [] = ans3 := by kernel_rfl
noncomputable def tabk (f : Nat) : Option Fn := bif Nat.beq f 104 then some (.prim kA) else bif Nat.beq f 97 then some (.prim kB) else bif Nat.beq f 32 then some (.prim kV) else bif Nat.beq f 34 then some (.prim k3) else tab f
theorem tabK_same (f : Nat) : same (tabK f) (tabk f) := same_cond rfl (same_cond rfl (same_cond rfl (same_cond rfl (tab_same f))))
theorem tabk_ok : TabOk prog0 globs0 tabk := tab_add (tab_add (tab_add (tab_add tab_ok (memo_prim (evH_run mix0 tabn_ok tabn_same 3000) (by
  intro p hp
  simp only [List.mem_cons, List.not_mem_nil, or_false] at hp
  subst hp
  exact .inr run_third))) (memo_prim (evH_run mix0 tabn_ok tabn_same 3000) (by
  intro p hp
  simp only [List.mem_cons, List.not_mem_nil, or_false] at hp
  subst hp
  exact .inr run_vers))) (memo_prim (evH_run mix0 tab_ok tab_same 3000) (by
  intro p hp
  simp only [List.mem_cons, List.not_mem_nil, or_false] at hp
  rcases hp with rfl | rfl
  · exact .inr run_check1
  · exact .inr run_check2))) (memo_prim (evH_run mix0 tab_ok tab_same 3000) (by
  intro p hp
  simp only [List.mem_cons, List.not_mem_nil, or_false] at hp
  rcases hp with rfl | rfl
  · exact .inr run_analyze1
  · exact .inr run_analyze2))
theorem run_vr00 : evH tabK 3000 33 [.p (.slice 2 (verS 0 0))] [] = ansR (badS 0) (goodS 0) := by kernel_rfl
theorem run_vq00 : evH tabK 3000 39 [.p (.slice 2 (verS 0 0))] [] = ansR (badS 0) (goodS 0) := by kernel_rfl
theorem run_vr10 : evH tabK 3000 33 [.p (.slice 2 (verS 1 0))] [] = ansR (badS 1) (goodS 1) := by kernel_rfl
theorem run_vq10 : evH tabK 3000 39 [.p (.slice 2 (verS 1 0))] [] = ansR (badS 1) (goodS 1) := by kernel_rfl
theorem run_vr20 : evH tabK 3000 33 [.p (.slice 2 (verS 2 0))] [] = ansR (badS 2) (goodS 2) := by kernel_rfl
theorem run_vq20 : evH tabK 3000 39 [.p (.slice 2 (verS 2 0))] [] = ansR (badS 2) (goodS 2) := by kernel_rfl
theorem run_vr30 : evH tabK 3000 33 [.p (.slice 2 (verS 3 0))] [] = ansR (badS 3) (goodS 3) := by kernel_rfl
theorem run_vq30 : evH tabK 3000 39 [.p (.slice 2 (verS 3 0))] [] = ansR (badS 3) (goodS 3) := by kernel_rfl
theorem run_vr40 : evH tabK 3000 33 [.p (.slice 2 (verS 4 0))] [] = ansR (badS 4) (goodS 4) := by kernel_rfl
theorem run_vq40 : evH tabK 3000 39 [.p (.slice 2 (verS 4 0))] [] = ansR (badS 4) (goodS 4) := by kernel_rfl
theorem run_vr50 : evH tabK 3000 33 [.p (.slice 2 (verS 5 0))] [] = ansR (badS 5) (goodS 5) := by kernel_rfl
theorem run_vq50 : evH tabK 3000 39 [.p (.slice 2 (verS 5 0))] [] = ansR (badS 5) (goodS 5) := by kernel_rfl
theorem run_vr51 : evH tabK 3000 33 [.p (.slice 2 (verS 5 1))] [] = ansR (badS 5) (goodS 5) := by kernel_rfl
theorem run_vq51 : evH tabK 3000 39 [.p (.slice 2 (verS 5 1))] [] = ansR (badS 5) (goodS 5) := by kernel_rfl
theorem run_vr52 : evH tabK 3000 33 [.p (.slice 2 (verS 5 2))] [] = ansR (badS 5) (goodS 5) := by kernel_rfl
theorem run_vq52 : evH tabK 3000 39 [.p (.slice 2 (verS 5 2))] [] = ansR (badS 5) (goodS 5) := by kernel_rfl
theorem run_vr60 : evH tabK 3000 33 [.p (.slice 2 (verS 6 0))] [] = ansR (badS 6) (goodS 6) := by kernel_rfl
theorem run_vq60 : evH tabK 3000 39 [.p (.slice 2 (verS 6 0))] [] = ansR (badS 6) (goodS 6) := by kernel_rfl
theorem run_vr70 : evH tabK 3000 33 [.p (.slice 2 (verS 7 0))] [] = ansR (badS 7) (goodS 7) := by kernel_rfl
theorem run_vq70 : evH tabK 3000 39 [.p (.slice 2 (verS 7 0))] [] = ansR (badS 7) (goodS 7) := by kernel_rfl
theorem run_vr80 : evH tabK 3000 33 [.p (.slice 2 (verS 8 0))] [] = ansR (badS 8) (goodS 8) := by kernel_rfl
theorem run_vq80 : evH tabK 3000 39 [.p (.slice 2 (verS 8 0))] [] = ansR (badS 8) (goodS 8) := by kernel_rfl
theorem ent_mem (p : List Da × R) (h : p ∈ [kEnt 0 0, kEnt 1 0, kEnt 2 0, kEnt 3 0, kEnt 4 0, kEnt 5 0, kEnt 5 1, kEnt 5 2, kEnt 6 0, kEnt 7 0, kEnt 8 0]) : evH tabK 3000 33 (p.1.map .p) [] = p.2 ∧ evH tabK 3000 39 (p.1.map .p) [] = p.2 := by
  simp only [List.mem_cons, List.not_mem_nil, or_false] at h
  rcases h with rfl | rfl | rfl | rfl | rfl | rfl | rfl | rfl | rfl | rfl | rfl
  · exact ⟨run_vr00, run_vq00⟩
  · exact ⟨run_vr10, run_vq10⟩
  · exact ⟨run_vr20, run_vq20⟩
  · exact ⟨run_vr30, run_vq30⟩
  · exact ⟨run_vr40, run_vq40⟩
  · exact ⟨run_vr50, run_vq50⟩
  · exact ⟨run_vr51, run_vq51⟩
  · exact ⟨run_vr52, run_vq52⟩
  · exact ⟨run_vr60, run_vq60⟩
  · exact ⟨run_vr70, run_vq70⟩
  · exact ⟨run_vr80, run_vq80⟩
noncomputable def tabw2 (f : Nat) : Option Fn := bif Nat.beq f 8 then some (.prim kW) else bif Nat.beq f 33 then some (.prim kR) else bif Nat.beq f 39 then some (.prim kR) else tabk f
theorem tabS_same (f : Nat) : same (tabS f) (tabw2 f) := same_cond rfl (same_cond rfl (same_cond rfl (tabK_same f)))
theorem tabw2_ok : TabOk prog0 globs0 tabw2 := tab_add (tab_add (tab_add tabk_ok (memo_prim (evH_run mix0 tabk_ok tabK_same 3000) fun p hp => .inr (ent_mem p hp).2)) (memo_prim (evH_run mix0 tabk_ok tabK_same 3000) fun p hp => .inr (ent_mem p hp).1)) (memo_prim (evH_run mix0 tabn_ok tabn_same 3000) (by
  intro p hp
  simp only [List.mem_cons, List.not_mem_nil, or_false] at hp
  obtain rfl := hp
  exact .inr run_awake))
theorem callw2_ok (n : Nat) : CallOk Go.Proofs.Tryz.prog globs0 (evFn tabw2 n) := evFn_ok mix0 tabw2_ok n
end Go.Ab
