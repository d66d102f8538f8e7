/- Runs with letters: an operation of a play; the law RolloutForward. -/
import Derived.Test.YtdppgkglljpdaaaGreatDoorRr
import Derived.Test.YtdppgkglljpdaaaGreatDoorD37
set_option linter.all false
namespace Go.Ab
open Go
set_option maxHeartbeats 4000000
set_option maxRecDepth 20000
attribute [go_sem] Ac.e
def selS (r : Ro) (x : Ro × Int) : Ro := if x.2 = 0 then x.1 else r
def playS (r : Ro) (K P : Int) : Ro :=
  selS r (if K = 0 then beginS r (r.a + 1) 4 else if K = 1 then advanceS r P else if K = 2 then advanceS r P else if K = 3 then advanceS r 100 else if K = 4 then finishS r else cancelS r)
theorem u8_6 (n : Int) (h1 : 0 ≤ n) : n.tmod 6 = 0 ∨ n.tmod 6 = 1 ∨ n.tmod 6 = 2 ∨ n.tmod 6 = 3 ∨ n.tmod 6 = 4 ∨ n.tmod 6 = 5 := by
  have a1 := Int.tmod_nonneg 6 h1
  have a2 := Int.tmod_lt_of_pos n (show (0 : Int) < 6 by decide)
  omega
theorem q_play (m : Nat) (a n p k v : Int) (ha : 1 ≤ a ∧ a ≤ 4) (hk : 0 ≤ k ∧ k < 256) (hv : 0 ≤ v ∧ v < 256) :
    evH tabS (m + 8) 31 [.p (.agg [.int .i64 a, .int .i64 n, .int .i64 p]), .p (.agg [.int .u8 k, .int .u8 v])] [] = some (.p (playS ⟨a, n, p⟩ (k.tmod 6) (v.tmod 101)).e, []) := by
  refine (evH_code (show tabS 31 = some (.code h31 [.cell 4 3 true] true) by kernel_rfl) (m + 7) _ _).trans ?_
  have rk := fun (f : D → R) => b_rem .u8 k 6 f (by decide)
  have rv := fun (f : D → R) => b_rem .i64 v 101 f (by decide)
  have w := wrapIn (a + 1) (by omega) (by omega)
  have wv := wrapIn v (by omega) (by omega)
  rcases u8_6 k hk.1 with e | e | e | e | e | e <;> rw [e] at rk ⊢
  · generalize hq : beginS ⟨a, n, p⟩ (a + 1) 4 = q
    by_cases z : q.2 = 0 <;> simp -implicitDefEqProofs (maxSteps := 1000000) only [h31, go_sem, ↓reduceIte, Nat.reduceEqDiff, Nat.reduceAdd, Nat.reduceSub, Nat.reduceBEq, Int.reduceEq, Int.reduceLT, Int.reduceLE, Int.reduceNeg, Nat.reduceLeDiff, rk, w, g_Begin, ext_tup, hq, playS, selS, z]
  · generalize hq : advanceS ⟨a, n, p⟩ (v.tmod 101) = q
    by_cases z : q.2 = 0 <;> simp -implicitDefEqProofs (maxSteps := 1000000) only [h31, go_sem, ↓reduceIte, Nat.reduceEqDiff, Nat.reduceAdd, Nat.reduceSub, Nat.reduceBEq, Int.reduceEq, Int.reduceLT, Int.reduceLE, Int.reduceNeg, Nat.reduceLeDiff, rk, rv, conv_int, wv, g_Advance, ext_tup, hq, playS, selS, z]
  · generalize hq : advanceS ⟨a, n, p⟩ (v.tmod 101) = q
    by_cases z : q.2 = 0 <;> simp -implicitDefEqProofs (maxSteps := 1000000) only [h31, go_sem, ↓reduceIte, Nat.reduceEqDiff, Nat.reduceAdd, Nat.reduceSub, Nat.reduceBEq, Int.reduceEq, Int.reduceLT, Int.reduceLE, Int.reduceNeg, Nat.reduceLeDiff, rk, rv, conv_int, wv, g_Advance, ext_tup, hq, playS, selS, z]
  · generalize hq : advanceS ⟨a, n, p⟩ 100 = q
    by_cases z : q.2 = 0 <;> simp -implicitDefEqProofs (maxSteps := 1000000) only [h31, go_sem, ↓reduceIte, Nat.reduceEqDiff, Nat.reduceAdd, Nat.reduceSub, Nat.reduceBEq, Int.reduceEq, Int.reduceLT, Int.reduceLE, Int.reduceNeg, Nat.reduceLeDiff, rk, rv, conv_int, wv, g_Advance, ext_tup, hq, playS, selS, z]
  · generalize hq : finishS ⟨a, n, p⟩ = q
    by_cases z : q.2 = 0 <;> simp -implicitDefEqProofs (maxSteps := 1000000) only [h31, go_sem, ↓reduceIte, Nat.reduceEqDiff, Nat.reduceAdd, Nat.reduceSub, Nat.reduceBEq, Int.reduceEq, Int.reduceLT, Int.reduceLE, Int.reduceNeg, Nat.reduceLeDiff, rk, rv, conv_int, wv, g_Finish, ext_tup, hq, playS, selS, z]
  · generalize hq : cancelS ⟨a, n, p⟩ = q
    by_cases z : q.2 = 0 <;> simp -implicitDefEqProofs (maxSteps := 1000000) only [h31, go_sem, ↓reduceIte, Nat.reduceEqDiff, Nat.reduceAdd, Nat.reduceSub, Nat.reduceBEq, Int.reduceEq, Int.reduceLT, Int.reduceLE, Int.reduceNeg, Nat.reduceLeDiff, rk, rv, conv_int, wv, g_Cancel, ext_tup, hq, playS, selS, z]
/-- The plain law of one operation. -/
theorem play_ok (r : Ro) (K P b : Int) (hr : roOk r = true) (hP : 0 ≤ P ∧ P ≤ 100) (hb : 0 ≤ b ∧ b < 100) :
    roOk (playS r K P) = true ∧ wantS r b ≤ wantS (playS r K P) b ∧ (playS r K P).a ≤ wantS (playS r K P) b ∧ (wantS (playS r K P) b ≤ (playS r K P).a ∨ wantS (playS r K P) b ≤ (playS r K P).n) := by
  obtain ⟨a, n, p⟩ := r
  have h := hr
  simp only [roOk, decide_eq_true_eq] at h
  have key : ∀ x : Ro, (1 ≤ x.a ∧ x.a ≤ 4 ∧ 0 ≤ x.p ∧ x.p ≤ 100 ∧ (x.n = 0 ∧ x.p = 0 ∨ x.n ≠ 0 ∧ x.n = x.a + 1 ∧ x.n ≤ 4)) → ((if n ≠ 0 ∧ b < p then n else a) ≤ if x.n ≠ 0 ∧ b < x.p then x.n else x.a) →
      roOk x = true ∧ wantS ⟨a, n, p⟩ b ≤ wantS x b ∧ x.a ≤ wantS x b ∧ (wantS x b ≤ x.a ∨ wantS x b ≤ x.n) := by
    intro x hx hw
    have hx' : roOk x = true := by simp only [roOk, decide_eq_true_eq]; exact hx
    refine ⟨hx', ?_⟩
    simp only [wantS, hr, hx', if_true]
    refine ⟨hw, ?_, ?_⟩ <;> split <;> omega
  unfold playS selS beginS advanceS finishS cancelS
  rw [hr]
  simp only [if_true]
  repeat' split
  all_goals (apply key <;> simp only [] at * <;> grind)
end Go.Ab
