/- The code as functions, computed. Printed by mkco2.py. -/
import Derived.Test.YtdppgkglljpdaaaGreatDoorAbC0
import Derived.Test.YtdppgkglljpdaaaGreatDoorAbC1
import Derived.Test.YtdppgkglljpdaaaGreatDoorAbC2
import Derived.Test.YtdppgkglljpdaaaGreatDoorAbC3
import Derived.Test.YtdppgkglljpdaaaGreatDoorAm4
set_option linter.all false
namespace Go.Ab
set_option maxRecDepth 100000
set_option maxHeartbeats 4000000
noncomputable section
def p107 : { h : Sem // den x107.body = h } := ⟨_, by simp -implicitDefEqProofs only [x107, d_seq, go_sem, Nat.reduceEqDiff, reduceIte]; exact rfl⟩
def h107 : Sem := p107.1
theorem e107 : den x107.body = h107 := p107.2
def p202 : { h : Sem // den x202.body = h } := ⟨_, by simp -implicitDefEqProofs only [x202, d_seq, go_sem, Nat.reduceEqDiff, reduceIte]; exact rfl⟩
def h202 : Sem := p202.1
theorem e202 : den x202.body = h202 := p202.2
def p204 : { h : Sem // den x204.body = h } := ⟨_, by simp -implicitDefEqProofs only [x204, d_seq, go_sem, Nat.reduceEqDiff, reduceIte]; exact rfl⟩
def h204 : Sem := p204.1
theorem e204 : den x204.body = h204 := p204.2
def p79 : { h : Sem // den x79.body = h } := ⟨_, by simp -implicitDefEqProofs only [x79, d_seq, go_sem, Nat.reduceEqDiff, reduceIte]; exact rfl⟩
def h79 : Sem := p79.1
theorem e79 : den x79.body = h79 := p79.2
def p171 : { h : Sem // den x171.body = h } := ⟨_, by simp -implicitDefEqProofs only [x171, d_seq, go_sem, Nat.reduceEqDiff, reduceIte]; exact rfl⟩
def h171 : Sem := p171.1
theorem e171 : den x171.body = h171 := p171.2
def p57 : { h : Sem // den x57.body = h } := ⟨_, by simp -implicitDefEqProofs only [x57, d_seq, go_sem, Nat.reduceEqDiff, reduceIte]; exact rfl⟩
def h57 : Sem := p57.1
theorem e57 : den x57.body = h57 := p57.2
def p32 : { h : Sem // den x32.body = h } := ⟨_, by simp -implicitDefEqProofs only [x32, d_seq, go_sem, Nat.reduceEqDiff, reduceIte]; exact rfl⟩
def h32 : Sem := p32.1
theorem e32 : den x32.body = h32 := p32.2
def p241 : { h : Sem // den x241.body = h } := ⟨_, by simp -implicitDefEqProofs only [x241, d_seq, go_sem, Nat.reduceEqDiff, reduceIte]; exact rfl⟩
def h241 : Sem := p241.1
theorem e241 : den x241.body = h241 := p241.2
def p15 : { h : Sem // den x15.body = h } := ⟨_, by simp -implicitDefEqProofs only [x15, d_seq, go_sem, Nat.reduceEqDiff, reduceIte]; exact rfl⟩
def h15 : Sem := p15.1
theorem e15 : den x15.body = h15 := p15.2
def p266 : { h : Sem // den x266.body = h } := ⟨_, by simp -implicitDefEqProofs only [x266, d_seq, go_sem, Nat.reduceEqDiff, reduceIte]; exact rfl⟩
def h266 : Sem := p266.1
theorem e266 : den x266.body = h266 := p266.2
def p167 : { h : Sem // den x167.body = h } := ⟨_, by simp -implicitDefEqProofs only [x167, d_seq, go_sem, Nat.reduceEqDiff, reduceIte]; exact rfl⟩
def h167 : Sem := p167.1
theorem e167 : den x167.body = h167 := p167.2
def p201 : { h : Sem // den x201.body = h } := ⟨_, by simp -implicitDefEqProofs only [x201, d_seq, go_sem, Nat.reduceEqDiff, reduceIte]; exact rfl⟩
def h201 : Sem := p201.1
theorem e201 : den x201.body = h201 := p201.2
def p84 : { h : Sem // den x84.body = h } := ⟨_, by simp -implicitDefEqProofs only [x84, d_seq, go_sem, Nat.reduceEqDiff, reduceIte]; exact rfl⟩
def h84 : Sem := p84.1
theorem e84 : den x84.body = h84 := p84.2
def p219 : { h : Sem // den x219.body = h } := ⟨_, by simp -implicitDefEqProofs only [x219, d_seq, go_sem, Nat.reduceEqDiff, reduceIte]; exact rfl⟩
def h219 : Sem := p219.1
theorem e219 : den x219.body = h219 := p219.2
def p166 : { h : Sem // den x166.body = h } := ⟨_, by simp -implicitDefEqProofs only [x166, d_seq, go_sem, Nat.reduceEqDiff, reduceIte]; exact rfl⟩
def h166 : Sem := p166.1
theorem e166 : den x166.body = h166 := p166.2
def p85 : { h : Sem // den x85.body = h } := ⟨_, by simp -implicitDefEqProofs only [x85, d_seq, go_sem, Nat.reduceEqDiff, reduceIte]; exact rfl⟩
def h85 : Sem := p85.1
theorem e85 : den x85.body = h85 := p85.2
def p156 : { h : Sem // den x156.body = h } := ⟨_, by simp -implicitDefEqProofs only [x156, d_seq, go_sem, Nat.reduceEqDiff, reduceIte]; exact rfl⟩
def h156 : Sem := p156.1
theorem e156 : den x156.body = h156 := p156.2
def p262 : { h : Sem // den x262.body = h } := ⟨_, by simp -implicitDefEqProofs only [x262, d_seq, go_sem, Nat.reduceEqDiff, reduceIte]; exact rfl⟩
def h262 : Sem := p262.1
theorem e262 : den x262.body = h262 := p262.2
def p25 : { h : Sem // den x25.body = h } := ⟨_, by simp -implicitDefEqProofs only [x25, d_seq, go_sem, Nat.reduceEqDiff, reduceIte]; exact rfl⟩
def h25 : Sem := p25.1
theorem e25 : den x25.body = h25 := p25.2
def p178 : { h : Sem // den x178.body = h } := ⟨_, by simp -implicitDefEqProofs only [x178, d_seq, go_sem, Nat.reduceEqDiff, reduceIte]; exact rfl⟩
def h178 : Sem := p178.1
theorem e178 : den x178.body = h178 := p178.2
def p268 : { h : Sem // den x268.body = h } := ⟨_, by simp -implicitDefEqProofs only [x268, d_seq, go_sem, Nat.reduceEqDiff, reduceIte]; exact rfl⟩
def h268 : Sem := p268.1
theorem e268 : den x268.body = h268 := p268.2
def p133 : { h : Sem // den x133.body = h } := ⟨_, by simp -implicitDefEqProofs only [x133, d_seq, go_sem, Nat.reduceEqDiff, reduceIte]; exact rfl⟩
def h133 : Sem := p133.1
theorem e133 : den x133.body = h133 := p133.2
def p210 : { h : Sem // den x210.body = h } := ⟨_, by simp -implicitDefEqProofs only [x210, d_seq, go_sem, Nat.reduceEqDiff, reduceIte]; exact rfl⟩
def h210 : Sem := p210.1
theorem e210 : den x210.body = h210 := p210.2
def p37 : { h : Sem // den x37.body = h } := ⟨_, by simp -implicitDefEqProofs only [x37, d_seq, go_sem, Nat.reduceEqDiff, reduceIte]; exact rfl⟩
def h37 : Sem := p37.1
theorem e37 : den x37.body = h37 := p37.2
def p183 : { h : Sem // den x183.body = h } := ⟨_, by simp -implicitDefEqProofs only [x183, d_seq, go_sem, Nat.reduceEqDiff, reduceIte]; exact rfl⟩
def h183 : Sem := p183.1
theorem e183 : den x183.body = h183 := p183.2
def p250 : { h : Sem // den x250.body = h } := ⟨_, by simp -implicitDefEqProofs only [x250, d_seq, go_sem, Nat.reduceEqDiff, reduceIte]; exact rfl⟩
def h250 : Sem := p250.1
theorem e250 : den x250.body = h250 := p250.2
def p55 : { h : Sem // den x55.body = h } := ⟨_, by simp -implicitDefEqProofs only [x55, d_seq, go_sem, Nat.reduceEqDiff, reduceIte]; exact rfl⟩
def h55 : Sem := p55.1
theorem e55 : den x55.body = h55 := p55.2
def p180 : { h : Sem // den x180.body = h } := ⟨_, by simp -implicitDefEqProofs only [x180, d_seq, go_sem, Nat.reduceEqDiff, reduceIte]; exact rfl⟩
def h180 : Sem := p180.1
theorem e180 : den x180.body = h180 := p180.2
def p240 : { h : Sem // den x240.body = h } := ⟨_, by simp -implicitDefEqProofs only [x240, d_seq, go_sem, Nat.reduceEqDiff, reduceIte]; exact rfl⟩
def h240 : Sem := p240.1
theorem e240 : den x240.body = h240 := p240.2
def p73 : { h : Sem // den x73.body = h } := ⟨_, by simp -implicitDefEqProofs only [x73, d_seq, go_sem, Nat.reduceEqDiff, reduceIte]; exact rfl⟩
def h73 : Sem := p73.1
theorem e73 : den x73.body = h73 := p73.2
def p86 : { h : Sem // den x86.body = h } := ⟨_, by simp -implicitDefEqProofs only [x86, d_seq, go_sem, Nat.reduceEqDiff, reduceIte]; exact rfl⟩
def h86 : Sem := p86.1
theorem e86 : den x86.body = h86 := p86.2
def p127 : { h : Sem // den x127.body = h } := ⟨_, by simp -implicitDefEqProofs only [x127, d_seq, go_sem, Nat.reduceEqDiff, reduceIte]; exact rfl⟩
def h127 : Sem := p127.1
theorem e127 : den x127.body = h127 := p127.2
def p38 : { h : Sem // den x38.body = h } := ⟨_, by simp -implicitDefEqProofs only [x38, d_seq, go_sem, Nat.reduceEqDiff, reduceIte]; exact rfl⟩
def h38 : Sem := p38.1
theorem e38 : den x38.body = h38 := p38.2
def p182 : { h : Sem // den x182.body = h } := ⟨_, by simp -implicitDefEqProofs only [x182, d_seq, go_sem, Nat.reduceEqDiff, reduceIte]; exact rfl⟩
def h182 : Sem := p182.1
theorem e182 : den x182.body = h182 := p182.2
def p149 : { h : Sem // den x149.body = h } := ⟨_, by simp -implicitDefEqProofs only [x149, d_seq, go_sem, Nat.reduceEqDiff, reduceIte]; exact rfl⟩
def h149 : Sem := p149.1
theorem e149 : den x149.body = h149 := p149.2
def p116 : { h : Sem // den x116.body = h } := ⟨_, by simp -implicitDefEqProofs only [x116, d_seq, go_sem, Nat.reduceEqDiff, reduceIte]; exact rfl⟩
def h116 : Sem := p116.1
theorem e116 : den x116.body = h116 := p116.2
def p175 : { h : Sem // den x175.body = h } := ⟨_, by simp -implicitDefEqProofs only [x175, d_seq, go_sem, Nat.reduceEqDiff, reduceIte]; exact rfl⟩
def h175 : Sem := p175.1
theorem e175 : den x175.body = h175 := p175.2
end
end Go.Ab
