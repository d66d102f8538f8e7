/- The table with the known answers of the parser and the type checker; awake is true. -/
import Derived.Test.YtdppgkglljpdaaaGreatDoorAwS1
import Derived.Test.YtdppgkglljpdaaaGreatDoorAwS2
import Derived.Test.YtdppgkglljpdaaaGreatDoorAwA1
import Derived.Test.YtdppgkglljpdaaaGreatDoorAwA2
import Derived.KernelRfl
set_option linter.all false
namespace Go.Ab
set_option maxRecDepth 100000
noncomputable def memoS : List Da → R := memo [([text1], ansS1), ([text2], ansS2)]
noncomputable def memoA : List Da → R := memo [([.agg [prog1]], ansA1), ([.agg [prog2]], ansA2)]
noncomputable def tabHn (f : Nat) : Option Hn := iffO (Nat.beq f 54) (some (.prim memoS)) (iffO (Nat.beq f 104) (some (.prim memoA)) (tabH f))
noncomputable def tabn (f : Nat) : Option Fn := bif Nat.beq f 54 then some (.prim memoS) else bif Nat.beq f 104 then some (.prim memoA) else tab f
theorem tabn_same (f : Nat) : same (tabHn f) (tabn f) := same_cond rfl (same_cond rfl (tab_same f))
theorem tabn_ok : TabOk prog0 globs0 tabn := tab_add (tab_add tab_ok (memo_prim (evH_run mix0 tab_ok tab_same 3000) (by
  intro p hp
  simp only [List.mem_cons, List.not_mem_nil, or_false] at hp
  rcases hp with rfl | rfl
  · exact .inr run_analyze1
  · exact .inr run_analyze2))) (memo_prim (evH_run mix0 tabm_ok tabm_same 3000) (by
  intro p hp
  simp only [List.mem_cons, List.not_mem_nil, or_false] at hp
  rcases hp with rfl | rfl
  · exact .inr run_source1
  · exact .inr run_source2))
theorem run_awake : evH tabHn 3000 8 [] [] = some (.p (.bool true), []) := by kernel_rfl
end Go.Ab
