/- The table with the known answers of the lexer. -/
import Derived.Test.YtdppgkglljpdaaaGreatDoorAwT1
import Derived.Test.YtdppgkglljpdaaaGreatDoorAwT2
import Derived.Test.YtdppgkglljpdaaaGreatDoorAbQ
set_option linter.all false
namespace Go.Ab
set_option maxRecDepth 100000
noncomputable def memoT : List Da → R := memo [([text1], ansT1), ([text2], ansT2)]
noncomputable def tabHm (f : Nat) : Option Hn := iffO (Nat.beq f 79) (some (.prim memoT)) (tabH f)
noncomputable def tabm (f : Nat) : Option Fn := bif Nat.beq f 79 then some (.prim memoT) else tab f
theorem tabm_same (f : Nat) : same (tabHm f) (tabm f) := same_cond rfl (tab_same f)
theorem tabm_ok : TabOk prog0 globs0 tabm := tab_add tab_ok (memo_prim (evH_run mix0 tab_ok tab_same 3000) (by
  intro p hp
  simp only [List.mem_cons, List.not_mem_nil, or_false] at hp
  rcases hp with rfl | rfl
  · exact .inr run_tokens1
  · exact .inr run_tokens2))
end Go.Ab
