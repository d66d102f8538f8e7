/- The code as functions, computed. Printed by mkco2.py. -/
import Derived.Test.YtdppgkglljpdaaaGreatDoorAbC0
import Derived.Test.YtdppgkglljpdaaaGreatDoorAbC1
import Derived.Test.YtdppgkglljpdaaaGreatDoorAbC2
import Derived.Test.YtdppgkglljpdaaaGreatDoorAbC3
import Derived.Test.YtdppgkglljpdaaaGreatDoorAm4
set_option linter.all false
namespace Go.Ab
set_option maxRecDepth 100000
set_option maxHeartbeats 4000000
noncomputable section
def p211 : { h : Sem // den x211.body = h } := ⟨_, by simp -implicitDefEqProofs only [x211, d_seq, go_sem, Nat.reduceEqDiff, reduceIte]; exact rfl⟩
def h211 : Sem := p211.1
theorem e211 : den x211.body = h211 := p211.2
def p104 : { h : Sem // den x104.body = h } := ⟨_, by simp -implicitDefEqProofs only [x104, d_seq, go_sem, Nat.reduceEqDiff, reduceIte]; exact rfl⟩
def h104 : Sem := p104.1
theorem e104 : den x104.body = h104 := p104.2
def p138 : { h : Sem // den x138.body = h } := ⟨_, by simp -implicitDefEqProofs only [x138, d_seq, go_sem, Nat.reduceEqDiff, reduceIte]; exact rfl⟩
def h138 : Sem := p138.1
theorem e138 : den x138.body = h138 := p138.2
def p110 : { h : Sem // den x110.body = h } := ⟨_, by simp -implicitDefEqProofs only [x110, d_seq, go_sem, Nat.reduceEqDiff, reduceIte]; exact rfl⟩
def h110 : Sem := p110.1
theorem e110 : den x110.body = h110 := p110.2
def p208 : { h : Sem // den x208.body = h } := ⟨_, by simp -implicitDefEqProofs only [x208, d_seq, go_sem, Nat.reduceEqDiff, reduceIte]; exact rfl⟩
def h208 : Sem := p208.1
theorem e208 : den x208.body = h208 := p208.2
def p173 : { h : Sem // den x173.body = h } := ⟨_, by simp -implicitDefEqProofs only [x173, d_seq, go_sem, Nat.reduceEqDiff, reduceIte]; exact rfl⟩
def h173 : Sem := p173.1
theorem e173 : den x173.body = h173 := p173.2
def p57 : { h : Sem // den x57.body = h } := ⟨_, by simp -implicitDefEqProofs only [x57, d_seq, go_sem, Nat.reduceEqDiff, reduceIte]; exact rfl⟩
def h57 : Sem := p57.1
theorem e57 : den x57.body = h57 := p57.2
def p247 : { h : Sem // den x247.body = h } := ⟨_, by simp -implicitDefEqProofs only [x247, d_seq, go_sem, Nat.reduceEqDiff, reduceIte]; exact rfl⟩
def h247 : Sem := p247.1
theorem e247 : den x247.body = h247 := p247.2
def p80 : { h : Sem // den x80.body = h } := ⟨_, by simp -implicitDefEqProofs only [x80, d_seq, go_sem, Nat.reduceEqDiff, reduceIte]; exact rfl⟩
def h80 : Sem := p80.1
theorem e80 : den x80.body = h80 := p80.2
def p135 : { h : Sem // den x135.body = h } := ⟨_, by simp -implicitDefEqProofs only [x135, d_seq, go_sem, Nat.reduceEqDiff, reduceIte]; exact rfl⟩
def h135 : Sem := p135.1
theorem e135 : den x135.body = h135 := p135.2
def p205 : { h : Sem // den x205.body = h } := ⟨_, by simp -implicitDefEqProofs only [x205, d_seq, go_sem, Nat.reduceEqDiff, reduceIte]; exact rfl⟩
def h205 : Sem := p205.1
theorem e205 : den x205.body = h205 := p205.2
def p113 : { h : Sem // den x113.body = h } := ⟨_, by simp -implicitDefEqProofs only [x113, d_seq, go_sem, Nat.reduceEqDiff, reduceIte]; exact rfl⟩
def h113 : Sem := p113.1
theorem e113 : den x113.body = h113 := p113.2
def p167 : { h : Sem // den x167.body = h } := ⟨_, by simp -implicitDefEqProofs only [x167, d_seq, go_sem, Nat.reduceEqDiff, reduceIte]; exact rfl⟩
def h167 : Sem := p167.1
theorem e167 : den x167.body = h167 := p167.2
def p168 : { h : Sem // den x168.body = h } := ⟨_, by simp -implicitDefEqProofs only [x168, d_seq, go_sem, Nat.reduceEqDiff, reduceIte]; exact rfl⟩
def h168 : Sem := p168.1
theorem e168 : den x168.body = h168 := p168.2
def p115 : { h : Sem // den x115.body = h } := ⟨_, by simp -implicitDefEqProofs only [x115, d_seq, go_sem, Nat.reduceEqDiff, reduceIte]; exact rfl⟩
def h115 : Sem := p115.1
theorem e115 : den x115.body = h115 := p115.2
def p206 : { h : Sem // den x206.body = h } := ⟨_, by simp -implicitDefEqProofs only [x206, d_seq, go_sem, Nat.reduceEqDiff, reduceIte]; exact rfl⟩
def h206 : Sem := p206.1
theorem e206 : den x206.body = h206 := p206.2
def p85 : { h : Sem // den x85.body = h } := ⟨_, by simp -implicitDefEqProofs only [x85, d_seq, go_sem, Nat.reduceEqDiff, reduceIte]; exact rfl⟩
def h85 : Sem := p85.1
theorem e85 : den x85.body = h85 := p85.2
def p143 : { h : Sem // den x143.body = h } := ⟨_, by simp -implicitDefEqProofs only [x143, d_seq, go_sem, Nat.reduceEqDiff, reduceIte]; exact rfl⟩
def h143 : Sem := p143.1
theorem e143 : den x143.body = h143 := p143.2
def p82 : { h : Sem // den x82.body = h } := ⟨_, by simp -implicitDefEqProofs only [x82, d_seq, go_sem, Nat.reduceEqDiff, reduceIte]; exact rfl⟩
def h82 : Sem := p82.1
theorem e82 : den x82.body = h82 := p82.2
def p178 : { h : Sem // den x178.body = h } := ⟨_, by simp -implicitDefEqProofs only [x178, d_seq, go_sem, Nat.reduceEqDiff, reduceIte]; exact rfl⟩
def h178 : Sem := p178.1
theorem e178 : den x178.body = h178 := p178.2
def p268 : { h : Sem // den x268.body = h } := ⟨_, by simp -implicitDefEqProofs only [x268, d_seq, go_sem, Nat.reduceEqDiff, reduceIte]; exact rfl⟩
def h268 : Sem := p268.1
theorem e268 : den x268.body = h268 := p268.2
def p232 : { h : Sem // den x232.body = h } := ⟨_, by simp -implicitDefEqProofs only [x232, d_seq, go_sem, Nat.reduceEqDiff, reduceIte]; exact rfl⟩
def h232 : Sem := p232.1
theorem e232 : den x232.body = h232 := p232.2
def p163 : { h : Sem // den x163.body = h } := ⟨_, by simp -implicitDefEqProofs only [x163, d_seq, go_sem, Nat.reduceEqDiff, reduceIte]; exact rfl⟩
def h163 : Sem := p163.1
theorem e163 : den x163.body = h163 := p163.2
def p212 : { h : Sem // den x212.body = h } := ⟨_, by simp -implicitDefEqProofs only [x212, d_seq, go_sem, Nat.reduceEqDiff, reduceIte]; exact rfl⟩
def h212 : Sem := p212.1
theorem e212 : den x212.body = h212 := p212.2
def p151 : { h : Sem // den x151.body = h } := ⟨_, by simp -implicitDefEqProofs only [x151, d_seq, go_sem, Nat.reduceEqDiff, reduceIte]; exact rfl⟩
def h151 : Sem := p151.1
theorem e151 : den x151.body = h151 := p151.2
def p261 : { h : Sem // den x261.body = h } := ⟨_, by simp -implicitDefEqProofs only [x261, d_seq, go_sem, Nat.reduceEqDiff, reduceIte]; exact rfl⟩
def h261 : Sem := p261.1
theorem e261 : den x261.body = h261 := p261.2
def p197 : { h : Sem // den x197.body = h } := ⟨_, by simp -implicitDefEqProofs only [x197, d_seq, go_sem, Nat.reduceEqDiff, reduceIte]; exact rfl⟩
def h197 : Sem := p197.1
theorem e197 : den x197.body = h197 := p197.2
def p48 : { h : Sem // den x48.body = h } := ⟨_, by simp -implicitDefEqProofs only [x48, d_seq, go_sem, Nat.reduceEqDiff, reduceIte]; exact rfl⟩
def h48 : Sem := p48.1
theorem e48 : den x48.body = h48 := p48.2
def p242 : { h : Sem // den x242.body = h } := ⟨_, by simp -implicitDefEqProofs only [x242, d_seq, go_sem, Nat.reduceEqDiff, reduceIte]; exact rfl⟩
def h242 : Sem := p242.1
theorem e242 : den x242.body = h242 := p242.2
def p180 : { h : Sem // den x180.body = h } := ⟨_, by simp -implicitDefEqProofs only [x180, d_seq, go_sem, Nat.reduceEqDiff, reduceIte]; exact rfl⟩
def h180 : Sem := p180.1
theorem e180 : den x180.body = h180 := p180.2
def p136 : { h : Sem // den x136.body = h } := ⟨_, by simp -implicitDefEqProofs only [x136, d_seq, go_sem, Nat.reduceEqDiff, reduceIte]; exact rfl⟩
def h136 : Sem := p136.1
theorem e136 : den x136.body = h136 := p136.2
def p73 : { h : Sem // den x73.body = h } := ⟨_, by simp -implicitDefEqProofs only [x73, d_seq, go_sem, Nat.reduceEqDiff, reduceIte]; exact rfl⟩
def h73 : Sem := p73.1
theorem e73 : den x73.body = h73 := p73.2
def p86 : { h : Sem // den x86.body = h } := ⟨_, by simp -implicitDefEqProofs only [x86, d_seq, go_sem, Nat.reduceEqDiff, reduceIte]; exact rfl⟩
def h86 : Sem := p86.1
theorem e86 : den x86.body = h86 := p86.2
def p94 : { h : Sem // den x94.body = h } := ⟨_, by simp -implicitDefEqProofs only [x94, d_seq, go_sem, Nat.reduceEqDiff, reduceIte]; exact rfl⟩
def h94 : Sem := p94.1
theorem e94 : den x94.body = h94 := p94.2
def p38 : { h : Sem // den x38.body = h } := ⟨_, by simp -implicitDefEqProofs only [x38, d_seq, go_sem, Nat.reduceEqDiff, reduceIte]; exact rfl⟩
def h38 : Sem := p38.1
theorem e38 : den x38.body = h38 := p38.2
def p89 : { h : Sem // den x89.body = h } := ⟨_, by simp -implicitDefEqProofs only [x89, d_seq, go_sem, Nat.reduceEqDiff, reduceIte]; exact rfl⟩
def h89 : Sem := p89.1
theorem e89 : den x89.body = h89 := p89.2
def p244 : { h : Sem // den x244.body = h } := ⟨_, by simp -implicitDefEqProofs only [x244, d_seq, go_sem, Nat.reduceEqDiff, reduceIte]; exact rfl⟩
def h244 : Sem := p244.1
theorem e244 : den x244.body = h244 := p244.2
def p164 : { h : Sem // den x164.body = h } := ⟨_, by simp -implicitDefEqProofs only [x164, d_seq, go_sem, Nat.reduceEqDiff, reduceIte]; exact rfl⟩
def h164 : Sem := p164.1
theorem e164 : den x164.body = h164 := p164.2
def p58 : { h : Sem // den x58.body = h } := ⟨_, by simp -implicitDefEqProofs only [x58, d_seq, go_sem, Nat.reduceEqDiff, reduceIte]; exact rfl⟩
def h58 : Sem := p58.1
theorem e58 : den x58.body = h58 := p58.2
def p236 : { h : Sem // den x236.body = h } := ⟨_, by simp -implicitDefEqProofs only [x236, d_seq, go_sem, Nat.reduceEqDiff, reduceIte]; exact rfl⟩
def h236 : Sem := p236.1
theorem e236 : den x236.body = h236 := p236.2
def p119 : { h : Sem // den x119.body = h } := ⟨_, by simp -implicitDefEqProofs only [x119, d_seq, go_sem, Nat.reduceEqDiff, reduceIte]; exact rfl⟩
def h119 : Sem := p119.1
theorem e119 : den x119.body = h119 := p119.2
end
end Go.Ab
