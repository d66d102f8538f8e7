/- The table with awake's known answer, in the fast form. -/
import Derived.Test.YtdppgkglljpdaaaGreatDoorAbU
import Derived.Test.YtdppgkglljpdaaaGreatDoorAm4
import Derived.Test.YtdppgkglljpdaaaGreatDoorAm3
import Derived.Test.YtdppgkglljpdaaaGreatDoorDK
import Derived.KernelRfl
set_option linter.all false
namespace Go.Ab
open Go
noncomputable def tabK (f : Nat) : Option Hn := iffO (Nat.beq f 104) (some (.prim kA)) (iffO (Nat.beq f 97) (some (.prim kB)) (iffO (Nat.beq f 32) (some (.prim kV)) (iffO (Nat.beq f 34) (some (.prim k3)) (tabH f))))
noncomputable def tabS (f : Nat) : Option Hn := iffO (Nat.beq f 8) (some (.prim kW)) (iffO (Nat.beq f 33) (some (.prim kR)) (iffO (Nat.beq f 39) (some (.prim kR)) (tabK f)))
def vOk (v : V) : Bool := decide (0 ≤ v.k ∧ v.k ≤ 5 ∧ (v.n = 0 ∨ v.k = 1 ∨ (v.k = 2 ∧ v.n = 1)) ∧ (v.s = [] ∨ v.k = 3) ∧ (v.is.length = 0 ∨ v.k = 4) ∧ (v.ls.length = 0 ∨ v.k = 5) ∧ v.s.length ≤ 64 ∧ v.is.length ≤ 16 ∧ v.ls.length ≤ 16) && v.ls.all fun t => decide (t.length ≤ 64)
def nameOk (s : List Nat) : Bool := decide (1 ≤ s.length ∧ s.length ≤ 32)
attribute [go_sem] V.e Fi.e V.cs Op.e Ru.e
theorem op_eta (o : Op) : (⟨o.kind, o.arg⟩ : Op) = o := rfl
theorem v_eta (v : V) : (⟨v.k, v.n, v.s, v.is, v.ls⟩ : V) = v := rfl
end Go.Ab
