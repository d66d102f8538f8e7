/- The code as functions, computed. Printed by mkco2.py. -/
import Derived.Test.YtmofokakccionaaGreatDoorAbC0
import Derived.Test.YtmofokakccionaaGreatDoorAbC1
import Derived.Test.YtmofokakccionaaGreatDoorAbC2
import Derived.Test.YtmofokakccionaaGreatDoorAbC3
import Derived.Test.YtmofokakccionaaGreatDoorAm4
set_option linter.all false
namespace Go.Ab
set_option maxRecDepth 100000
set_option maxHeartbeats 4000000
noncomputable section
def p93 : { h : Sem // den x93.body = h } := ⟨_, by simp -implicitDefEqProofs only [x93, d_seq, go_sem, Nat.reduceEqDiff, reduceIte]; exact rfl⟩
def h93 : Sem := p93.1
theorem e93 : den x93.body = h93 := p93.2
def p178 : { h : Sem // den x178.body = h } := ⟨_, by simp -implicitDefEqProofs only [x178, d_seq, go_sem, Nat.reduceEqDiff, reduceIte]; exact rfl⟩
def h178 : Sem := p178.1
theorem e178 : den x178.body = h178 := p178.2
def p33 : { h : Sem // den x33.body = h } := ⟨_, by simp -implicitDefEqProofs only [x33, d_seq, go_sem, Nat.reduceEqDiff, reduceIte]; exact rfl⟩
def h33 : Sem := p33.1
theorem e33 : den x33.body = h33 := p33.2
def p96 : { h : Sem // den x96.body = h } := ⟨_, by simp -implicitDefEqProofs only [x96, d_seq, go_sem, Nat.reduceEqDiff, reduceIte]; exact rfl⟩
def h96 : Sem := p96.1
theorem e96 : den x96.body = h96 := p96.2
def p23 : { h : Sem // den x23.body = h } := ⟨_, by simp -implicitDefEqProofs only [x23, d_seq, go_sem, Nat.reduceEqDiff, reduceIte]; exact rfl⟩
def h23 : Sem := p23.1
theorem e23 : den x23.body = h23 := p23.2
def p139 : { h : Sem // den x139.body = h } := ⟨_, by simp -implicitDefEqProofs only [x139, d_seq, go_sem, Nat.reduceEqDiff, reduceIte]; exact rfl⟩
def h139 : Sem := p139.1
theorem e139 : den x139.body = h139 := p139.2
def p221 : { h : Sem // den x221.body = h } := ⟨_, by simp -implicitDefEqProofs only [x221, d_seq, go_sem, Nat.reduceEqDiff, reduceIte]; exact rfl⟩
def h221 : Sem := p221.1
theorem e221 : den x221.body = h221 := p221.2
def p113 : { h : Sem // den x113.body = h } := ⟨_, by simp -implicitDefEqProofs only [x113, d_seq, go_sem, Nat.reduceEqDiff, reduceIte]; exact rfl⟩
def h113 : Sem := p113.1
theorem e113 : den x113.body = h113 := p113.2
def p216 : { h : Sem // den x216.body = h } := ⟨_, by simp -implicitDefEqProofs only [x216, d_seq, go_sem, Nat.reduceEqDiff, reduceIte]; exact rfl⟩
def h216 : Sem := p216.1
theorem e216 : den x216.body = h216 := p216.2
def p173 : { h : Sem // den x173.body = h } := ⟨_, by simp -implicitDefEqProofs only [x173, d_seq, go_sem, Nat.reduceEqDiff, reduceIte]; exact rfl⟩
def h173 : Sem := p173.1
theorem e173 : den x173.body = h173 := p173.2
def p114 : { h : Sem // den x114.body = h } := ⟨_, by simp -implicitDefEqProofs only [x114, d_seq, go_sem, Nat.reduceEqDiff, reduceIte]; exact rfl⟩
def h114 : Sem := p114.1
theorem e114 : den x114.body = h114 := p114.2
def p118 : { h : Sem // den x118.body = h } := ⟨_, by simp -implicitDefEqProofs only [x118, d_seq, go_sem, Nat.reduceEqDiff, reduceIte]; exact rfl⟩
def h118 : Sem := p118.1
theorem e118 : den x118.body = h118 := p118.2
def p176 : { h : Sem // den x176.body = h } := ⟨_, by simp -implicitDefEqProofs only [x176, d_seq, go_sem, Nat.reduceEqDiff, reduceIte]; exact rfl⟩
def h176 : Sem := p176.1
theorem e176 : den x176.body = h176 := p176.2
def p197 : { h : Sem // den x197.body = h } := ⟨_, by simp -implicitDefEqProofs only [x197, d_seq, go_sem, Nat.reduceEqDiff, reduceIte]; exact rfl⟩
def h197 : Sem := p197.1
theorem e197 : den x197.body = h197 := p197.2
def p181 : { h : Sem // den x181.body = h } := ⟨_, by simp -implicitDefEqProofs only [x181, d_seq, go_sem, Nat.reduceEqDiff, reduceIte]; exact rfl⟩
def h181 : Sem := p181.1
theorem e181 : den x181.body = h181 := p181.2
def p92 : { h : Sem // den x92.body = h } := ⟨_, by simp -implicitDefEqProofs only [x92, d_seq, go_sem, Nat.reduceEqDiff, reduceIte]; exact rfl⟩
def h92 : Sem := p92.1
theorem e92 : den x92.body = h92 := p92.2
def p232 : { h : Sem // den x232.body = h } := ⟨_, by simp -implicitDefEqProofs only [x232, d_seq, go_sem, Nat.reduceEqDiff, reduceIte]; exact rfl⟩
def h232 : Sem := p232.1
theorem e232 : den x232.body = h232 := p232.2
def p111 : { h : Sem // den x111.body = h } := ⟨_, by simp -implicitDefEqProofs only [x111, d_seq, go_sem, Nat.reduceEqDiff, reduceIte]; exact rfl⟩
def h111 : Sem := p111.1
theorem e111 : den x111.body = h111 := p111.2
def p16 : { h : Sem // den x16.body = h } := ⟨_, by simp -implicitDefEqProofs only [x16, d_seq, go_sem, Nat.reduceEqDiff, reduceIte]; exact rfl⟩
def h16 : Sem := p16.1
theorem e16 : den x16.body = h16 := p16.2
def p70 : { h : Sem // den x70.body = h } := ⟨_, by simp -implicitDefEqProofs only [x70, d_seq, go_sem, Nat.reduceEqDiff, reduceIte]; exact rfl⟩
def h70 : Sem := p70.1
theorem e70 : den x70.body = h70 := p70.2
def p115 : { h : Sem // den x115.body = h } := ⟨_, by simp -implicitDefEqProofs only [x115, d_seq, go_sem, Nat.reduceEqDiff, reduceIte]; exact rfl⟩
def h115 : Sem := p115.1
theorem e115 : den x115.body = h115 := p115.2
def p147 : { h : Sem // den x147.body = h } := ⟨_, by simp -implicitDefEqProofs only [x147, d_seq, go_sem, Nat.reduceEqDiff, reduceIte]; exact rfl⟩
def h147 : Sem := p147.1
theorem e147 : den x147.body = h147 := p147.2
def p90 : { h : Sem // den x90.body = h } := ⟨_, by simp -implicitDefEqProofs only [x90, d_seq, go_sem, Nat.reduceEqDiff, reduceIte]; exact rfl⟩
def h90 : Sem := p90.1
theorem e90 : den x90.body = h90 := p90.2
def p231 : { h : Sem // den x231.body = h } := ⟨_, by simp -implicitDefEqProofs only [x231, d_seq, go_sem, Nat.reduceEqDiff, reduceIte]; exact rfl⟩
def h231 : Sem := p231.1
theorem e231 : den x231.body = h231 := p231.2
def p172 : { h : Sem // den x172.body = h } := ⟨_, by simp -implicitDefEqProofs only [x172, d_seq, go_sem, Nat.reduceEqDiff, reduceIte]; exact rfl⟩
def h172 : Sem := p172.1
theorem e172 : den x172.body = h172 := p172.2
def p140 : { h : Sem // den x140.body = h } := ⟨_, by simp -implicitDefEqProofs only [x140, d_seq, go_sem, Nat.reduceEqDiff, reduceIte]; exact rfl⟩
def h140 : Sem := p140.1
theorem e140 : den x140.body = h140 := p140.2
def p47 : { h : Sem // den x47.body = h } := ⟨_, by simp -implicitDefEqProofs only [x47, d_seq, go_sem, Nat.reduceEqDiff, reduceIte]; exact rfl⟩
def h47 : Sem := p47.1
theorem e47 : den x47.body = h47 := p47.2
def p208 : { h : Sem // den x208.body = h } := ⟨_, by simp -implicitDefEqProofs only [x208, d_seq, go_sem, Nat.reduceEqDiff, reduceIte]; exact rfl⟩
def h208 : Sem := p208.1
theorem e208 : den x208.body = h208 := p208.2
def p108 : { h : Sem // den x108.body = h } := ⟨_, by simp -implicitDefEqProofs only [x108, d_seq, go_sem, Nat.reduceEqDiff, reduceIte]; exact rfl⟩
def h108 : Sem := p108.1
theorem e108 : den x108.body = h108 := p108.2
def p122 : { h : Sem // den x122.body = h } := ⟨_, by simp -implicitDefEqProofs only [x122, d_seq, go_sem, Nat.reduceEqDiff, reduceIte]; exact rfl⟩
def h122 : Sem := p122.1
theorem e122 : den x122.body = h122 := p122.2
def p100 : { h : Sem // den x100.body = h } := ⟨_, by simp -implicitDefEqProofs only [x100, d_seq, go_sem, Nat.reduceEqDiff, reduceIte]; exact rfl⟩
def h100 : Sem := p100.1
theorem e100 : den x100.body = h100 := p100.2
def p123 : { h : Sem // den x123.body = h } := ⟨_, by simp -implicitDefEqProofs only [x123, d_seq, go_sem, Nat.reduceEqDiff, reduceIte]; exact rfl⟩
def h123 : Sem := p123.1
theorem e123 : den x123.body = h123 := p123.2
def p148 : { h : Sem // den x148.body = h } := ⟨_, by simp -implicitDefEqProofs only [x148, d_seq, go_sem, Nat.reduceEqDiff, reduceIte]; exact rfl⟩
def h148 : Sem := p148.1
theorem e148 : den x148.body = h148 := p148.2
def p141 : { h : Sem // den x141.body = h } := ⟨_, by simp -implicitDefEqProofs only [x141, d_seq, go_sem, Nat.reduceEqDiff, reduceIte]; exact rfl⟩
def h141 : Sem := p141.1
theorem e141 : den x141.body = h141 := p141.2
end
end Go.Ab
