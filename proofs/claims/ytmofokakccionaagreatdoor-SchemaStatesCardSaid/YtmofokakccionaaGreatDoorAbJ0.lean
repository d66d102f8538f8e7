/- The code as functions, computed. Printed by mkco2.py. -/
import Derived.Test.YtmofokakccionaaGreatDoorAbC0
import Derived.Test.YtmofokakccionaaGreatDoorAbC1
import Derived.Test.YtmofokakccionaaGreatDoorAbC2
import Derived.Test.YtmofokakccionaaGreatDoorAbC3
import Derived.Test.YtmofokakccionaaGreatDoorAm4
set_option linter.all false
namespace Go.Ab
set_option maxRecDepth 100000
set_option maxHeartbeats 4000000
noncomputable section
def p235 : { h : Sem // den x235.body = h } := ⟨_, by simp -implicitDefEqProofs only [x235, d_seq, go_sem, Nat.reduceEqDiff, reduceIte]; exact rfl⟩
def h235 : Sem := p235.1
theorem e235 : den x235.body = h235 := p235.2
def p178 : { h : Sem // den x178.body = h } := ⟨_, by simp -implicitDefEqProofs only [x178, d_seq, go_sem, Nat.reduceEqDiff, reduceIte]; exact rfl⟩
def h178 : Sem := p178.1
theorem e178 : den x178.body = h178 := p178.2
def p142 : { h : Sem // den x142.body = h } := ⟨_, by simp -implicitDefEqProofs only [x142, d_seq, go_sem, Nat.reduceEqDiff, reduceIte]; exact rfl⟩
def h142 : Sem := p142.1
theorem e142 : den x142.body = h142 := p142.2
def p96 : { h : Sem // den x96.body = h } := ⟨_, by simp -implicitDefEqProofs only [x96, d_seq, go_sem, Nat.reduceEqDiff, reduceIte]; exact rfl⟩
def h96 : Sem := p96.1
theorem e96 : den x96.body = h96 := p96.2
def p23 : { h : Sem // den x23.body = h } := ⟨_, by simp -implicitDefEqProofs only [x23, d_seq, go_sem, Nat.reduceEqDiff, reduceIte]; exact rfl⟩
def h23 : Sem := p23.1
theorem e23 : den x23.body = h23 := p23.2
def p154 : { h : Sem // den x154.body = h } := ⟨_, by simp -implicitDefEqProofs only [x154, d_seq, go_sem, Nat.reduceEqDiff, reduceIte]; exact rfl⟩
def h154 : Sem := p154.1
theorem e154 : den x154.body = h154 := p154.2
def p121 : { h : Sem // den x121.body = h } := ⟨_, by simp -implicitDefEqProofs only [x121, d_seq, go_sem, Nat.reduceEqDiff, reduceIte]; exact rfl⟩
def h121 : Sem := p121.1
theorem e121 : den x121.body = h121 := p121.2
def p113 : { h : Sem // den x113.body = h } := ⟨_, by simp -implicitDefEqProofs only [x113, d_seq, go_sem, Nat.reduceEqDiff, reduceIte]; exact rfl⟩
def h113 : Sem := p113.1
theorem e113 : den x113.body = h113 := p113.2
def p44 : { h : Sem // den x44.body = h } := ⟨_, by simp -implicitDefEqProofs only [x44, d_seq, go_sem, Nat.reduceEqDiff, reduceIte]; exact rfl⟩
def h44 : Sem := p44.1
theorem e44 : den x44.body = h44 := p44.2
def p109 : { h : Sem // den x109.body = h } := ⟨_, by simp -implicitDefEqProofs only [x109, d_seq, go_sem, Nat.reduceEqDiff, reduceIte]; exact rfl⟩
def h109 : Sem := p109.1
theorem e109 : den x109.body = h109 := p109.2
def p223 : { h : Sem // den x223.body = h } := ⟨_, by simp -implicitDefEqProofs only [x223, d_seq, go_sem, Nat.reduceEqDiff, reduceIte]; exact rfl⟩
def h223 : Sem := p223.1
theorem e223 : den x223.body = h223 := p223.2
def p53 : { h : Sem // den x53.body = h } := ⟨_, by simp -implicitDefEqProofs only [x53, d_seq, go_sem, Nat.reduceEqDiff, reduceIte]; exact rfl⟩
def h53 : Sem := p53.1
theorem e53 : den x53.body = h53 := p53.2
def p176 : { h : Sem // den x176.body = h } := ⟨_, by simp -implicitDefEqProofs only [x176, d_seq, go_sem, Nat.reduceEqDiff, reduceIte]; exact rfl⟩
def h176 : Sem := p176.1
theorem e176 : den x176.body = h176 := p176.2
def p197 : { h : Sem // den x197.body = h } := ⟨_, by simp -implicitDefEqProofs only [x197, d_seq, go_sem, Nat.reduceEqDiff, reduceIte]; exact rfl⟩
def h197 : Sem := p197.1
theorem e197 : den x197.body = h197 := p197.2
def p181 : { h : Sem // den x181.body = h } := ⟨_, by simp -implicitDefEqProofs only [x181, d_seq, go_sem, Nat.reduceEqDiff, reduceIte]; exact rfl⟩
def h181 : Sem := p181.1
theorem e181 : den x181.body = h181 := p181.2
def p150 : { h : Sem // den x150.body = h } := ⟨_, by simp -implicitDefEqProofs only [x150, d_seq, go_sem, Nat.reduceEqDiff, reduceIte]; exact rfl⟩
def h150 : Sem := p150.1
theorem e150 : den x150.body = h150 := p150.2
def p126 : { h : Sem // den x126.body = h } := ⟨_, by simp -implicitDefEqProofs only [x126, d_seq, go_sem, Nat.reduceEqDiff, reduceIte]; exact rfl⟩
def h126 : Sem := p126.1
theorem e126 : den x126.body = h126 := p126.2
def p153 : { h : Sem // den x153.body = h } := ⟨_, by simp -implicitDefEqProofs only [x153, d_seq, go_sem, Nat.reduceEqDiff, reduceIte]; exact rfl⟩
def h153 : Sem := p153.1
theorem e153 : den x153.body = h153 := p153.2
def p220 : { h : Sem // den x220.body = h } := ⟨_, by simp -implicitDefEqProofs only [x220, d_seq, go_sem, Nat.reduceEqDiff, reduceIte]; exact rfl⟩
def h220 : Sem := p220.1
theorem e220 : den x220.body = h220 := p220.2
def p236 : { h : Sem // den x236.body = h } := ⟨_, by simp -implicitDefEqProofs only [x236, d_seq, go_sem, Nat.reduceEqDiff, reduceIte]; exact rfl⟩
def h236 : Sem := p236.1
theorem e236 : den x236.body = h236 := p236.2
def p107 : { h : Sem // den x107.body = h } := ⟨_, by simp -implicitDefEqProofs only [x107, d_seq, go_sem, Nat.reduceEqDiff, reduceIte]; exact rfl⟩
def h107 : Sem := p107.1
theorem e107 : den x107.body = h107 := p107.2
def p147 : { h : Sem // den x147.body = h } := ⟨_, by simp -implicitDefEqProofs only [x147, d_seq, go_sem, Nat.reduceEqDiff, reduceIte]; exact rfl⟩
def h147 : Sem := p147.1
theorem e147 : den x147.body = h147 := p147.2
def p101 : { h : Sem // den x101.body = h } := ⟨_, by simp -implicitDefEqProofs only [x101, d_seq, go_sem, Nat.reduceEqDiff, reduceIte]; exact rfl⟩
def h101 : Sem := p101.1
theorem e101 : den x101.body = h101 := p101.2
def p105 : { h : Sem // den x105.body = h } := ⟨_, by simp -implicitDefEqProofs only [x105, d_seq, go_sem, Nat.reduceEqDiff, reduceIte]; exact rfl⟩
def h105 : Sem := p105.1
theorem e105 : den x105.body = h105 := p105.2
def p196 : { h : Sem // den x196.body = h } := ⟨_, by simp -implicitDefEqProofs only [x196, d_seq, go_sem, Nat.reduceEqDiff, reduceIte]; exact rfl⟩
def h196 : Sem := p196.1
theorem e196 : den x196.body = h196 := p196.2
def p47 : { h : Sem // den x47.body = h } := ⟨_, by simp -implicitDefEqProofs only [x47, d_seq, go_sem, Nat.reduceEqDiff, reduceIte]; exact rfl⟩
def h47 : Sem := p47.1
theorem e47 : den x47.body = h47 := p47.2
def p146 : { h : Sem // den x146.body = h } := ⟨_, by simp -implicitDefEqProofs only [x146, d_seq, go_sem, Nat.reduceEqDiff, reduceIte]; exact rfl⟩
def h146 : Sem := p146.1
theorem e146 : den x146.body = h146 := p146.2
def p174 : { h : Sem // den x174.body = h } := ⟨_, by simp -implicitDefEqProofs only [x174, d_seq, go_sem, Nat.reduceEqDiff, reduceIte]; exact rfl⟩
def h174 : Sem := p174.1
theorem e174 : den x174.body = h174 := p174.2
def p72 : { h : Sem // den x72.body = h } := ⟨_, by simp -implicitDefEqProofs only [x72, d_seq, go_sem, Nat.reduceEqDiff, reduceIte]; exact rfl⟩
def h72 : Sem := p72.1
theorem e72 : den x72.body = h72 := p72.2
def p61 : { h : Sem // den x61.body = h } := ⟨_, by simp -implicitDefEqProofs only [x61, d_seq, go_sem, Nat.reduceEqDiff, reduceIte]; exact rfl⟩
def h61 : Sem := p61.1
theorem e61 : den x61.body = h61 := p61.2
def p91 : { h : Sem // den x91.body = h } := ⟨_, by simp -implicitDefEqProofs only [x91, d_seq, go_sem, Nat.reduceEqDiff, reduceIte]; exact rfl⟩
def h91 : Sem := p91.1
theorem e91 : den x91.body = h91 := p91.2
def p102 : { h : Sem // den x102.body = h } := ⟨_, by simp -implicitDefEqProofs only [x102, d_seq, go_sem, Nat.reduceEqDiff, reduceIte]; exact rfl⟩
def h102 : Sem := p102.1
theorem e102 : den x102.body = h102 := p102.2
def p214 : { h : Sem // den x214.body = h } := ⟨_, by simp -implicitDefEqProofs only [x214, d_seq, go_sem, Nat.reduceEqDiff, reduceIte]; exact rfl⟩
def h214 : Sem := p214.1
theorem e214 : den x214.body = h214 := p214.2
def p69 : { h : Sem // den x69.body = h } := ⟨_, by simp -implicitDefEqProofs only [x69, d_seq, go_sem, Nat.reduceEqDiff, reduceIte]; exact rfl⟩
def h69 : Sem := p69.1
theorem e69 : den x69.body = h69 := p69.2
def p184 : { h : Sem // den x184.body = h } := ⟨_, by simp -implicitDefEqProofs only [x184, d_seq, go_sem, Nat.reduceEqDiff, reduceIte]; exact rfl⟩
def h184 : Sem := p184.1
theorem e184 : den x184.body = h184 := p184.2
end
end Go.Ab
