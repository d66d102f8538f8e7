/- The code as functions, computed. Printed by mkco2.py. -/
import Derived.Test.YtdppgkglljpdaaaGreatDoorAbC0
import Derived.Test.YtdppgkglljpdaaaGreatDoorAbC1
import Derived.Test.YtdppgkglljpdaaaGreatDoorAbC2
import Derived.Test.YtdppgkglljpdaaaGreatDoorAbC3
import Derived.Test.YtdppgkglljpdaaaGreatDoorAm4
set_option linter.all false
namespace Go.Ab
set_option maxRecDepth 100000
set_option maxHeartbeats 4000000
noncomputable section
def p270 : { h : Sem // den x270.body = h } := ⟨_, by simp -implicitDefEqProofs only [x270, d_seq, go_sem, Nat.reduceEqDiff, reduceIte]; exact rfl⟩
def h270 : Sem := p270.1
theorem e270 : den x270.body = h270 := p270.2
def p202 : { h : Sem // den x202.body = h } := ⟨_, by simp -implicitDefEqProofs only [x202, d_seq, go_sem, Nat.reduceEqDiff, reduceIte]; exact rfl⟩
def h202 : Sem := p202.1
theorem e202 : den x202.body = h202 := p202.2
def p11 : { h : Sem // den x11.body = h } := ⟨_, by simp -implicitDefEqProofs only [x11, d_seq, go_sem, Nat.reduceEqDiff, reduceIte]; exact rfl⟩
def h11 : Sem := p11.1
theorem e11 : den x11.body = h11 := p11.2
def p50 : { h : Sem // den x50.body = h } := ⟨_, by simp -implicitDefEqProofs only [x50, d_seq, go_sem, Nat.reduceEqDiff, reduceIte]; exact rfl⟩
def h50 : Sem := p50.1
theorem e50 : den x50.body = h50 := p50.2
def p79 : { h : Sem // den x79.body = h } := ⟨_, by simp -implicitDefEqProofs only [x79, d_seq, go_sem, Nat.reduceEqDiff, reduceIte]; exact rfl⟩
def h79 : Sem := p79.1
theorem e79 : den x79.body = h79 := p79.2
def p171 : { h : Sem // den x171.body = h } := ⟨_, by simp -implicitDefEqProofs only [x171, d_seq, go_sem, Nat.reduceEqDiff, reduceIte]; exact rfl⟩
def h171 : Sem := p171.1
theorem e171 : den x171.body = h171 := p171.2
def p179 : { h : Sem // den x179.body = h } := ⟨_, by simp -implicitDefEqProofs only [x179, d_seq, go_sem, Nat.reduceEqDiff, reduceIte]; exact rfl⟩
def h179 : Sem := p179.1
theorem e179 : den x179.body = h179 := p179.2
def p145 : { h : Sem // den x145.body = h } := ⟨_, by simp -implicitDefEqProofs only [x145, d_seq, go_sem, Nat.reduceEqDiff, reduceIte]; exact rfl⟩
def h145 : Sem := p145.1
theorem e145 : den x145.body = h145 := p145.2
def p139 : { h : Sem // den x139.body = h } := ⟨_, by simp -implicitDefEqProofs only [x139, d_seq, go_sem, Nat.reduceEqDiff, reduceIte]; exact rfl⟩
def h139 : Sem := p139.1
theorem e139 : den x139.body = h139 := p139.2
def p15 : { h : Sem // den x15.body = h } := ⟨_, by simp -implicitDefEqProofs only [x15, d_seq, go_sem, Nat.reduceEqDiff, reduceIte]; exact rfl⟩
def h15 : Sem := p15.1
theorem e15 : den x15.body = h15 := p15.2
def p263 : { h : Sem // den x263.body = h } := ⟨_, by simp -implicitDefEqProofs only [x263, d_seq, go_sem, Nat.reduceEqDiff, reduceIte]; exact rfl⟩
def h263 : Sem := p263.1
theorem e263 : den x263.body = h263 := p263.2
def p140 : { h : Sem // den x140.body = h } := ⟨_, by simp -implicitDefEqProofs only [x140, d_seq, go_sem, Nat.reduceEqDiff, reduceIte]; exact rfl⟩
def h140 : Sem := p140.1
theorem e140 : den x140.body = h140 := p140.2
def p201 : { h : Sem // den x201.body = h } := ⟨_, by simp -implicitDefEqProofs only [x201, d_seq, go_sem, Nat.reduceEqDiff, reduceIte]; exact rfl⟩
def h201 : Sem := p201.1
theorem e201 : den x201.body = h201 := p201.2
def p56 : { h : Sem // den x56.body = h } := ⟨_, by simp -implicitDefEqProofs only [x56, d_seq, go_sem, Nat.reduceEqDiff, reduceIte]; exact rfl⟩
def h56 : Sem := p56.1
theorem e56 : den x56.body = h56 := p56.2
def p251 : { h : Sem // den x251.body = h } := ⟨_, by simp -implicitDefEqProofs only [x251, d_seq, go_sem, Nat.reduceEqDiff, reduceIte]; exact rfl⟩
def h251 : Sem := p251.1
theorem e251 : den x251.body = h251 := p251.2
def p177 : { h : Sem // den x177.body = h } := ⟨_, by simp -implicitDefEqProofs only [x177, d_seq, go_sem, Nat.reduceEqDiff, reduceIte]; exact rfl⟩
def h177 : Sem := p177.1
theorem e177 : den x177.body = h177 := p177.2
def p258 : { h : Sem // den x258.body = h } := ⟨_, by simp -implicitDefEqProofs only [x258, d_seq, go_sem, Nat.reduceEqDiff, reduceIte]; exact rfl⟩
def h258 : Sem := p258.1
theorem e258 : den x258.body = h258 := p258.2
def p109 : { h : Sem // den x109.body = h } := ⟨_, by simp -implicitDefEqProofs only [x109, d_seq, go_sem, Nat.reduceEqDiff, reduceIte]; exact rfl⟩
def h109 : Sem := p109.1
theorem e109 : den x109.body = h109 := p109.2
def p137 : { h : Sem // den x137.body = h } := ⟨_, by simp -implicitDefEqProofs only [x137, d_seq, go_sem, Nat.reduceEqDiff, reduceIte]; exact rfl⟩
def h137 : Sem := p137.1
theorem e137 : den x137.body = h137 := p137.2
def p95 : { h : Sem // den x95.body = h } := ⟨_, by simp -implicitDefEqProofs only [x95, d_seq, go_sem, Nat.reduceEqDiff, reduceIte]; exact rfl⟩
def h95 : Sem := p95.1
theorem e95 : den x95.body = h95 := p95.2
def p114 : { h : Sem // den x114.body = h } := ⟨_, by simp -implicitDefEqProofs only [x114, d_seq, go_sem, Nat.reduceEqDiff, reduceIte]; exact rfl⟩
def h114 : Sem := p114.1
theorem e114 : den x114.body = h114 := p114.2
def p54 : { h : Sem // den x54.body = h } := ⟨_, by simp -implicitDefEqProofs only [x54, d_seq, go_sem, Nat.reduceEqDiff, reduceIte]; exact rfl⟩
def h54 : Sem := p54.1
theorem e54 : den x54.body = h54 := p54.2
def p210 : { h : Sem // den x210.body = h } := ⟨_, by simp -implicitDefEqProofs only [x210, d_seq, go_sem, Nat.reduceEqDiff, reduceIte]; exact rfl⟩
def h210 : Sem := p210.1
theorem e210 : den x210.body = h210 := p210.2
def p230 : { h : Sem // den x230.body = h } := ⟨_, by simp -implicitDefEqProofs only [x230, d_seq, go_sem, Nat.reduceEqDiff, reduceIte]; exact rfl⟩
def h230 : Sem := p230.1
theorem e230 : den x230.body = h230 := p230.2
def p88 : { h : Sem // den x88.body = h } := ⟨_, by simp -implicitDefEqProofs only [x88, d_seq, go_sem, Nat.reduceEqDiff, reduceIte]; exact rfl⟩
def h88 : Sem := p88.1
theorem e88 : den x88.body = h88 := p88.2
def p183 : { h : Sem // den x183.body = h } := ⟨_, by simp -implicitDefEqProofs only [x183, d_seq, go_sem, Nat.reduceEqDiff, reduceIte]; exact rfl⟩
def h183 : Sem := p183.1
theorem e183 : den x183.body = h183 := p183.2
def p71 : { h : Sem // den x71.body = h } := ⟨_, by simp -implicitDefEqProofs only [x71, d_seq, go_sem, Nat.reduceEqDiff, reduceIte]; exact rfl⟩
def h71 : Sem := p71.1
theorem e71 : den x71.body = h71 := p71.2
def p55 : { h : Sem // den x55.body = h } := ⟨_, by simp -implicitDefEqProofs only [x55, d_seq, go_sem, Nat.reduceEqDiff, reduceIte]; exact rfl⟩
def h55 : Sem := p55.1
theorem e55 : den x55.body = h55 := p55.2
def p74 : { h : Sem // den x74.body = h } := ⟨_, by simp -implicitDefEqProofs only [x74, d_seq, go_sem, Nat.reduceEqDiff, reduceIte]; exact rfl⟩
def h74 : Sem := p74.1
theorem e74 : den x74.body = h74 := p74.2
def p47 : { h : Sem // den x47.body = h } := ⟨_, by simp -implicitDefEqProofs only [x47, d_seq, go_sem, Nat.reduceEqDiff, reduceIte]; exact rfl⟩
def h47 : Sem := p47.1
theorem e47 : den x47.body = h47 := p47.2
def p72 : { h : Sem // den x72.body = h } := ⟨_, by simp -implicitDefEqProofs only [x72, d_seq, go_sem, Nat.reduceEqDiff, reduceIte]; exact rfl⟩
def h72 : Sem := p72.1
theorem e72 : den x72.body = h72 := p72.2
def p229 : { h : Sem // den x229.body = h } := ⟨_, by simp -implicitDefEqProofs only [x229, d_seq, go_sem, Nat.reduceEqDiff, reduceIte]; exact rfl⟩
def h229 : Sem := p229.1
theorem e229 : den x229.body = h229 := p229.2
def p265 : { h : Sem // den x265.body = h } := ⟨_, by simp -implicitDefEqProofs only [x265, d_seq, go_sem, Nat.reduceEqDiff, reduceIte]; exact rfl⟩
def h265 : Sem := p265.1
theorem e265 : den x265.body = h265 := p265.2
def p14 : { h : Sem // den x14.body = h } := ⟨_, by simp -implicitDefEqProofs only [x14, d_seq, go_sem, Nat.reduceEqDiff, reduceIte]; exact rfl⟩
def h14 : Sem := p14.1
theorem e14 : den x14.body = h14 := p14.2
def p127 : { h : Sem // den x127.body = h } := ⟨_, by simp -implicitDefEqProofs only [x127, d_seq, go_sem, Nat.reduceEqDiff, reduceIte]; exact rfl⟩
def h127 : Sem := p127.1
theorem e127 : den x127.body = h127 := p127.2
def p181 : { h : Sem // den x181.body = h } := ⟨_, by simp -implicitDefEqProofs only [x181, d_seq, go_sem, Nat.reduceEqDiff, reduceIte]; exact rfl⟩
def h181 : Sem := p181.1
theorem e181 : den x181.body = h181 := p181.2
def p128 : { h : Sem // den x128.body = h } := ⟨_, by simp -implicitDefEqProofs only [x128, d_seq, go_sem, Nat.reduceEqDiff, reduceIte]; exact rfl⟩
def h128 : Sem := p128.1
theorem e128 : den x128.body = h128 := p128.2
def p239 : { h : Sem // den x239.body = h } := ⟨_, by simp -implicitDefEqProofs only [x239, d_seq, go_sem, Nat.reduceEqDiff, reduceIte]; exact rfl⟩
def h239 : Sem := p239.1
theorem e239 : den x239.body = h239 := p239.2
def p116 : { h : Sem // den x116.body = h } := ⟨_, by simp -implicitDefEqProofs only [x116, d_seq, go_sem, Nat.reduceEqDiff, reduceIte]; exact rfl⟩
def h116 : Sem := p116.1
theorem e116 : den x116.body = h116 := p116.2
def p209 : { h : Sem // den x209.body = h } := ⟨_, by simp -implicitDefEqProofs only [x209, d_seq, go_sem, Nat.reduceEqDiff, reduceIte]; exact rfl⟩
def h209 : Sem := p209.1
theorem e209 : den x209.body = h209 := p209.2
def p93 : { h : Sem // den x93.body = h } := ⟨_, by simp -implicitDefEqProofs only [x93, d_seq, go_sem, Nat.reduceEqDiff, reduceIte]; exact rfl⟩
def h93 : Sem := p93.1
theorem e93 : den x93.body = h93 := p93.2
end
end Go.Ab
