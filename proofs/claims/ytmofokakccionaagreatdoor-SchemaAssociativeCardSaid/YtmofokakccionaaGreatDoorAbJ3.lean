/- The code as functions, computed. Printed by mkco2.py. -/
import Derived.Test.YtmofokakccionaaGreatDoorAbC0
import Derived.Test.YtmofokakccionaaGreatDoorAbC1
import Derived.Test.YtmofokakccionaaGreatDoorAbC2
import Derived.Test.YtmofokakccionaaGreatDoorAbC3
import Derived.Test.YtmofokakccionaaGreatDoorAm4
set_option linter.all false
namespace Go.Ab
set_option maxRecDepth 100000
set_option maxHeartbeats 4000000
noncomputable section
def p120 : { h : Sem // den x120.body = h } := ⟨_, by simp -implicitDefEqProofs only [x120, d_seq, go_sem, Nat.reduceEqDiff, reduceIte]; exact rfl⟩
def h120 : Sem := p120.1
theorem e120 : den x120.body = h120 := p120.2
def p9 : { h : Sem // den x9.body = h } := ⟨_, by simp -implicitDefEqProofs only [x9, d_seq, go_sem, Nat.reduceEqDiff, reduceIte]; exact rfl⟩
def h9 : Sem := p9.1
theorem e9 : den x9.body = h9 := p9.2
def p177 : { h : Sem // den x177.body = h } := ⟨_, by simp -implicitDefEqProofs only [x177, d_seq, go_sem, Nat.reduceEqDiff, reduceIte]; exact rfl⟩
def h177 : Sem := p177.1
theorem e177 : den x177.body = h177 := p177.2
def p179 : { h : Sem // den x179.body = h } := ⟨_, by simp -implicitDefEqProofs only [x179, d_seq, go_sem, Nat.reduceEqDiff, reduceIte]; exact rfl⟩
def h179 : Sem := p179.1
theorem e179 : den x179.body = h179 := p179.2
def p183 : { h : Sem // den x183.body = h } := ⟨_, by simp -implicitDefEqProofs only [x183, d_seq, go_sem, Nat.reduceEqDiff, reduceIte]; exact rfl⟩
def h183 : Sem := p183.1
theorem e183 : den x183.body = h183 := p183.2
def p35 : { h : Sem // den x35.body = h } := ⟨_, by simp -implicitDefEqProofs only [x35, d_seq, go_sem, Nat.reduceEqDiff, reduceIte]; exact rfl⟩
def h35 : Sem := p35.1
theorem e35 : den x35.body = h35 := p35.2
def p34 : { h : Sem // den x34.body = h } := ⟨_, by simp -implicitDefEqProofs only [x34, d_seq, go_sem, Nat.reduceEqDiff, reduceIte]; exact rfl⟩
def h34 : Sem := p34.1
theorem e34 : den x34.body = h34 := p34.2
def p222 : { h : Sem // den x222.body = h } := ⟨_, by simp -implicitDefEqProofs only [x222, d_seq, go_sem, Nat.reduceEqDiff, reduceIte]; exact rfl⟩
def h222 : Sem := p222.1
theorem e222 : den x222.body = h222 := p222.2
def p173 : { h : Sem // den x173.body = h } := ⟨_, by simp -implicitDefEqProofs only [x173, d_seq, go_sem, Nat.reduceEqDiff, reduceIte]; exact rfl⟩
def h173 : Sem := p173.1
theorem e173 : den x173.body = h173 := p173.2
def p180 : { h : Sem // den x180.body = h } := ⟨_, by simp -implicitDefEqProofs only [x180, d_seq, go_sem, Nat.reduceEqDiff, reduceIte]; exact rfl⟩
def h180 : Sem := p180.1
theorem e180 : den x180.body = h180 := p180.2
def p223 : { h : Sem // den x223.body = h } := ⟨_, by simp -implicitDefEqProofs only [x223, d_seq, go_sem, Nat.reduceEqDiff, reduceIte]; exact rfl⟩
def h223 : Sem := p223.1
theorem e223 : den x223.body = h223 := p223.2
def p151 : { h : Sem // den x151.body = h } := ⟨_, by simp -implicitDefEqProofs only [x151, d_seq, go_sem, Nat.reduceEqDiff, reduceIte]; exact rfl⟩
def h151 : Sem := p151.1
theorem e151 : den x151.body = h151 := p151.2
def p152 : { h : Sem // den x152.body = h } := ⟨_, by simp -implicitDefEqProofs only [x152, d_seq, go_sem, Nat.reduceEqDiff, reduceIte]; exact rfl⟩
def h152 : Sem := p152.1
theorem e152 : den x152.body = h152 := p152.2
def p181 : { h : Sem // den x181.body = h } := ⟨_, by simp -implicitDefEqProofs only [x181, d_seq, go_sem, Nat.reduceEqDiff, reduceIte]; exact rfl⟩
def h181 : Sem := p181.1
theorem e181 : den x181.body = h181 := p181.2
def p83 : { h : Sem // den x83.body = h } := ⟨_, by simp -implicitDefEqProofs only [x83, d_seq, go_sem, Nat.reduceEqDiff, reduceIte]; exact rfl⟩
def h83 : Sem := p83.1
theorem e83 : den x83.body = h83 := p83.2
def p232 : { h : Sem // den x232.body = h } := ⟨_, by simp -implicitDefEqProofs only [x232, d_seq, go_sem, Nat.reduceEqDiff, reduceIte]; exact rfl⟩
def h232 : Sem := p232.1
theorem e232 : den x232.body = h232 := p232.2
def p218 : { h : Sem // den x218.body = h } := ⟨_, by simp -implicitDefEqProofs only [x218, d_seq, go_sem, Nat.reduceEqDiff, reduceIte]; exact rfl⟩
def h218 : Sem := p218.1
theorem e218 : den x218.body = h218 := p218.2
def p236 : { h : Sem // den x236.body = h } := ⟨_, by simp -implicitDefEqProofs only [x236, d_seq, go_sem, Nat.reduceEqDiff, reduceIte]; exact rfl⟩
def h236 : Sem := p236.1
theorem e236 : den x236.body = h236 := p236.2
def p207 : { h : Sem // den x207.body = h } := ⟨_, by simp -implicitDefEqProofs only [x207, d_seq, go_sem, Nat.reduceEqDiff, reduceIte]; exact rfl⟩
def h207 : Sem := p207.1
theorem e207 : den x207.body = h207 := p207.2
def p205 : { h : Sem // den x205.body = h } := ⟨_, by simp -implicitDefEqProofs only [x205, d_seq, go_sem, Nat.reduceEqDiff, reduceIte]; exact rfl⟩
def h205 : Sem := p205.1
theorem e205 : den x205.body = h205 := p205.2
def p171 : { h : Sem // den x171.body = h } := ⟨_, by simp -implicitDefEqProofs only [x171, d_seq, go_sem, Nat.reduceEqDiff, reduceIte]; exact rfl⟩
def h171 : Sem := p171.1
theorem e171 : den x171.body = h171 := p171.2
def p231 : { h : Sem // den x231.body = h } := ⟨_, by simp -implicitDefEqProofs only [x231, d_seq, go_sem, Nat.reduceEqDiff, reduceIte]; exact rfl⟩
def h231 : Sem := p231.1
theorem e231 : den x231.body = h231 := p231.2
def p46 : { h : Sem // den x46.body = h } := ⟨_, by simp -implicitDefEqProofs only [x46, d_seq, go_sem, Nat.reduceEqDiff, reduceIte]; exact rfl⟩
def h46 : Sem := p46.1
theorem e46 : den x46.body = h46 := p46.2
def p65 : { h : Sem // den x65.body = h } := ⟨_, by simp -implicitDefEqProofs only [x65, d_seq, go_sem, Nat.reduceEqDiff, reduceIte]; exact rfl⟩
def h65 : Sem := p65.1
theorem e65 : den x65.body = h65 := p65.2
def p146 : { h : Sem // den x146.body = h } := ⟨_, by simp -implicitDefEqProofs only [x146, d_seq, go_sem, Nat.reduceEqDiff, reduceIte]; exact rfl⟩
def h146 : Sem := p146.1
theorem e146 : den x146.body = h146 := p146.2
def p174 : { h : Sem // den x174.body = h } := ⟨_, by simp -implicitDefEqProofs only [x174, d_seq, go_sem, Nat.reduceEqDiff, reduceIte]; exact rfl⟩
def h174 : Sem := p174.1
theorem e174 : den x174.body = h174 := p174.2
def p72 : { h : Sem // den x72.body = h } := ⟨_, by simp -implicitDefEqProofs only [x72, d_seq, go_sem, Nat.reduceEqDiff, reduceIte]; exact rfl⟩
def h72 : Sem := p72.1
theorem e72 : den x72.body = h72 := p72.2
def p61 : { h : Sem // den x61.body = h } := ⟨_, by simp -implicitDefEqProofs only [x61, d_seq, go_sem, Nat.reduceEqDiff, reduceIte]; exact rfl⟩
def h61 : Sem := p61.1
theorem e61 : den x61.body = h61 := p61.2
def p100 : { h : Sem // den x100.body = h } := ⟨_, by simp -implicitDefEqProofs only [x100, d_seq, go_sem, Nat.reduceEqDiff, reduceIte]; exact rfl⟩
def h100 : Sem := p100.1
theorem e100 : den x100.body = h100 := p100.2
def p175 : { h : Sem // den x175.body = h } := ⟨_, by simp -implicitDefEqProofs only [x175, d_seq, go_sem, Nat.reduceEqDiff, reduceIte]; exact rfl⟩
def h175 : Sem := p175.1
theorem e175 : den x175.body = h175 := p175.2
def p149 : { h : Sem // den x149.body = h } := ⟨_, by simp -implicitDefEqProofs only [x149, d_seq, go_sem, Nat.reduceEqDiff, reduceIte]; exact rfl⟩
def h149 : Sem := p149.1
theorem e149 : den x149.body = h149 := p149.2
def p184 : { h : Sem // den x184.body = h } := ⟨_, by simp -implicitDefEqProofs only [x184, d_seq, go_sem, Nat.reduceEqDiff, reduceIte]; exact rfl⟩
def h184 : Sem := p184.1
theorem e184 : den x184.body = h184 := p184.2
end
end Go.Ab
