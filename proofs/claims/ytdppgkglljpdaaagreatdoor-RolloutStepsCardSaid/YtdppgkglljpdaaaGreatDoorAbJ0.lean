/- The code as functions, computed. Printed by mkco2.py. -/
import Derived.Test.YtdppgkglljpdaaaGreatDoorAbC0
import Derived.Test.YtdppgkglljpdaaaGreatDoorAbC1
import Derived.Test.YtdppgkglljpdaaaGreatDoorAbC2
import Derived.Test.YtdppgkglljpdaaaGreatDoorAbC3
import Derived.Test.YtdppgkglljpdaaaGreatDoorAm4
set_option linter.all false
namespace Go.Ab
set_option maxRecDepth 100000
set_option maxHeartbeats 4000000
noncomputable section
def p270 : { h : Sem // den x270.body = h } := ⟨_, by simp -implicitDefEqProofs only [x270, d_seq, go_sem, Nat.reduceEqDiff, reduceIte]; exact rfl⟩
def h270 : Sem := p270.1
theorem e270 : den x270.body = h270 := p270.2
def p138 : { h : Sem // den x138.body = h } := ⟨_, by simp -implicitDefEqProofs only [x138, d_seq, go_sem, Nat.reduceEqDiff, reduceIte]; exact rfl⟩
def h138 : Sem := p138.1
theorem e138 : den x138.body = h138 := p138.2
def p253 : { h : Sem // den x253.body = h } := ⟨_, by simp -implicitDefEqProofs only [x253, d_seq, go_sem, Nat.reduceEqDiff, reduceIte]; exact rfl⟩
def h253 : Sem := p253.1
theorem e253 : den x253.body = h253 := p253.2
def p208 : { h : Sem // den x208.body = h } := ⟨_, by simp -implicitDefEqProofs only [x208, d_seq, go_sem, Nat.reduceEqDiff, reduceIte]; exact rfl⟩
def h208 : Sem := p208.1
theorem e208 : den x208.body = h208 := p208.2
def p173 : { h : Sem // den x173.body = h } := ⟨_, by simp -implicitDefEqProofs only [x173, d_seq, go_sem, Nat.reduceEqDiff, reduceIte]; exact rfl⟩
def h173 : Sem := p173.1
theorem e173 : den x173.body = h173 := p173.2
def p179 : { h : Sem // den x179.body = h } := ⟨_, by simp -implicitDefEqProofs only [x179, d_seq, go_sem, Nat.reduceEqDiff, reduceIte]; exact rfl⟩
def h179 : Sem := p179.1
theorem e179 : den x179.body = h179 := p179.2
def p139 : { h : Sem // den x139.body = h } := ⟨_, by simp -implicitDefEqProofs only [x139, d_seq, go_sem, Nat.reduceEqDiff, reduceIte]; exact rfl⟩
def h139 : Sem := p139.1
theorem e139 : den x139.body = h139 := p139.2
def p53 : { h : Sem // den x53.body = h } := ⟨_, by simp -implicitDefEqProofs only [x53, d_seq, go_sem, Nat.reduceEqDiff, reduceIte]; exact rfl⟩
def h53 : Sem := p53.1
theorem e53 : den x53.body = h53 := p53.2
def p207 : { h : Sem // den x207.body = h } := ⟨_, by simp -implicitDefEqProofs only [x207, d_seq, go_sem, Nat.reduceEqDiff, reduceIte]; exact rfl⟩
def h207 : Sem := p207.1
theorem e207 : den x207.body = h207 := p207.2
def p248 : { h : Sem // den x248.body = h } := ⟨_, by simp -implicitDefEqProofs only [x248, d_seq, go_sem, Nat.reduceEqDiff, reduceIte]; exact rfl⟩
def h248 : Sem := p248.1
theorem e248 : den x248.body = h248 := p248.2
def p113 : { h : Sem // den x113.body = h } := ⟨_, by simp -implicitDefEqProofs only [x113, d_seq, go_sem, Nat.reduceEqDiff, reduceIte]; exact rfl⟩
def h113 : Sem := p113.1
theorem e113 : den x113.body = h113 := p113.2
def p17 : { h : Sem // den x17.body = h } := ⟨_, by simp -implicitDefEqProofs only [x17, d_seq, go_sem, Nat.reduceEqDiff, reduceIte]; exact rfl⟩
def h17 : Sem := p17.1
theorem e17 : den x17.body = h17 := p17.2
def p251 : { h : Sem // den x251.body = h } := ⟨_, by simp -implicitDefEqProofs only [x251, d_seq, go_sem, Nat.reduceEqDiff, reduceIte]; exact rfl⟩
def h251 : Sem := p251.1
theorem e251 : den x251.body = h251 := p251.2
def p115 : { h : Sem // den x115.body = h } := ⟨_, by simp -implicitDefEqProofs only [x115, d_seq, go_sem, Nat.reduceEqDiff, reduceIte]; exact rfl⟩
def h115 : Sem := p115.1
theorem e115 : den x115.body = h115 := p115.2
def p177 : { h : Sem // den x177.body = h } := ⟨_, by simp -implicitDefEqProofs only [x177, d_seq, go_sem, Nat.reduceEqDiff, reduceIte]; exact rfl⟩
def h177 : Sem := p177.1
theorem e177 : den x177.body = h177 := p177.2
def p34 : { h : Sem // den x34.body = h } := ⟨_, by simp -implicitDefEqProofs only [x34, d_seq, go_sem, Nat.reduceEqDiff, reduceIte]; exact rfl⟩
def h34 : Sem := p34.1
theorem e34 : den x34.body = h34 := p34.2
def p21 : { h : Sem // den x21.body = h } := ⟨_, by simp -implicitDefEqProofs only [x21, d_seq, go_sem, Nat.reduceEqDiff, reduceIte]; exact rfl⟩
def h21 : Sem := p21.1
theorem e21 : den x21.body = h21 := p21.2
def p137 : { h : Sem // den x137.body = h } := ⟨_, by simp -implicitDefEqProofs only [x137, d_seq, go_sem, Nat.reduceEqDiff, reduceIte]; exact rfl⟩
def h137 : Sem := p137.1
theorem e137 : den x137.body = h137 := p137.2
def p243 : { h : Sem // den x243.body = h } := ⟨_, by simp -implicitDefEqProofs only [x243, d_seq, go_sem, Nat.reduceEqDiff, reduceIte]; exact rfl⟩
def h243 : Sem := p243.1
theorem e243 : den x243.body = h243 := p243.2
def p267 : { h : Sem // den x267.body = h } := ⟨_, by simp -implicitDefEqProofs only [x267, d_seq, go_sem, Nat.reduceEqDiff, reduceIte]; exact rfl⟩
def h267 : Sem := p267.1
theorem e267 : den x267.body = h267 := p267.2
def p54 : { h : Sem // den x54.body = h } := ⟨_, by simp -implicitDefEqProofs only [x54, d_seq, go_sem, Nat.reduceEqDiff, reduceIte]; exact rfl⟩
def h54 : Sem := p54.1
theorem e54 : den x54.body = h54 := p54.2
def p76 : { h : Sem // den x76.body = h } := ⟨_, by simp -implicitDefEqProofs only [x76, d_seq, go_sem, Nat.reduceEqDiff, reduceIte]; exact rfl⟩
def h76 : Sem := p76.1
theorem e76 : den x76.body = h76 := p76.2
def p163 : { h : Sem // den x163.body = h } := ⟨_, by simp -implicitDefEqProofs only [x163, d_seq, go_sem, Nat.reduceEqDiff, reduceIte]; exact rfl⟩
def h163 : Sem := p163.1
theorem e163 : den x163.body = h163 := p163.2
def p147 : { h : Sem // den x147.body = h } := ⟨_, by simp -implicitDefEqProofs only [x147, d_seq, go_sem, Nat.reduceEqDiff, reduceIte]; exact rfl⟩
def h147 : Sem := p147.1
theorem e147 : den x147.body = h147 := p147.2
def p227 : { h : Sem // den x227.body = h } := ⟨_, by simp -implicitDefEqProofs only [x227, d_seq, go_sem, Nat.reduceEqDiff, reduceIte]; exact rfl⟩
def h227 : Sem := p227.1
theorem e227 : den x227.body = h227 := p227.2
def p71 : { h : Sem // den x71.body = h } := ⟨_, by simp -implicitDefEqProofs only [x71, d_seq, go_sem, Nat.reduceEqDiff, reduceIte]; exact rfl⟩
def h71 : Sem := p71.1
theorem e71 : den x71.body = h71 := p71.2
def p249 : { h : Sem // den x249.body = h } := ⟨_, by simp -implicitDefEqProofs only [x249, d_seq, go_sem, Nat.reduceEqDiff, reduceIte]; exact rfl⟩
def h249 : Sem := p249.1
theorem e249 : den x249.body = h249 := p249.2
def p47 : { h : Sem // den x47.body = h } := ⟨_, by simp -implicitDefEqProofs only [x47, d_seq, go_sem, Nat.reduceEqDiff, reduceIte]; exact rfl⟩
def h47 : Sem := p47.1
theorem e47 : den x47.body = h47 := p47.2
def p72 : { h : Sem // den x72.body = h } := ⟨_, by simp -implicitDefEqProofs only [x72, d_seq, go_sem, Nat.reduceEqDiff, reduceIte]; exact rfl⟩
def h72 : Sem := p72.1
theorem e72 : den x72.body = h72 := p72.2
def p199 : { h : Sem // den x199.body = h } := ⟨_, by simp -implicitDefEqProofs only [x199, d_seq, go_sem, Nat.reduceEqDiff, reduceIte]; exact rfl⟩
def h199 : Sem := p199.1
theorem e199 : den x199.body = h199 := p199.2
def p234 : { h : Sem // den x234.body = h } := ⟨_, by simp -implicitDefEqProofs only [x234, d_seq, go_sem, Nat.reduceEqDiff, reduceIte]; exact rfl⟩
def h234 : Sem := p234.1
theorem e234 : den x234.body = h234 := p234.2
def p112 : { h : Sem // den x112.body = h } := ⟨_, by simp -implicitDefEqProofs only [x112, d_seq, go_sem, Nat.reduceEqDiff, reduceIte]; exact rfl⟩
def h112 : Sem := p112.1
theorem e112 : den x112.body = h112 := p112.2
def p131 : { h : Sem // den x131.body = h } := ⟨_, by simp -implicitDefEqProofs only [x131, d_seq, go_sem, Nat.reduceEqDiff, reduceIte]; exact rfl⟩
def h131 : Sem := p131.1
theorem e131 : den x131.body = h131 := p131.2
def p244 : { h : Sem // den x244.body = h } := ⟨_, by simp -implicitDefEqProofs only [x244, d_seq, go_sem, Nat.reduceEqDiff, reduceIte]; exact rfl⟩
def h244 : Sem := p244.1
theorem e244 : den x244.body = h244 := p244.2
def p111 : { h : Sem // den x111.body = h } := ⟨_, by simp -implicitDefEqProofs only [x111, d_seq, go_sem, Nat.reduceEqDiff, reduceIte]; exact rfl⟩
def h111 : Sem := p111.1
theorem e111 : den x111.body = h111 := p111.2
def p239 : { h : Sem // den x239.body = h } := ⟨_, by simp -implicitDefEqProofs only [x239, d_seq, go_sem, Nat.reduceEqDiff, reduceIte]; exact rfl⟩
def h239 : Sem := p239.1
theorem e239 : den x239.body = h239 := p239.2
def p236 : { h : Sem // den x236.body = h } := ⟨_, by simp -implicitDefEqProofs only [x236, d_seq, go_sem, Nat.reduceEqDiff, reduceIte]; exact rfl⟩
def h236 : Sem := p236.1
theorem e236 : den x236.body = h236 := p236.2
def p92 : { h : Sem // den x92.body = h } := ⟨_, by simp -implicitDefEqProofs only [x92, d_seq, go_sem, Nat.reduceEqDiff, reduceIte]; exact rfl⟩
def h92 : Sem := p92.1
theorem e92 : den x92.body = h92 := p92.2
end
end Go.Ab
