/- The evaluator and its laws, part Rr: R1 R2 R3 R4 R5 R6 R7 R8 R9 R10 -/
import Derived.Test.YtmofokakccionaaGreatDoorAbZ
set_option linter.all false
/- Runs with letters: small functions of layer 36. -/
section
namespace Go.Ab
open Go

theorem r_validName (m : Nat) (s : List Nat) : runH h38 (evH tabS (m + 0)) (m + 0) [.t 2] true [.p (.str s)] [] = some (.p (.bool (nameOk s)), []) := by
  simp -implicitDefEqProofs (maxSteps := 1000000) only [h38, go_sem, ↓reduceIte, Nat.reduceEqDiff, Nat.reduceAdd, Nat.reduceSub, Nat.reduceBEq, Int.reduceEq, Int.reduceLT, Int.reduceLE, Int.reduceNeg, Nat.reduceLeDiff, ite_ans]
  apply ans
  unfold nameOk
  grind
theorem q_validName (m : Nat) (s : List Nat) : evH tabS (m + 1) 38 [.p (.str s)] [] = some (.p (.bool (nameOk s)), []) := (evH_code (show tabS 38 = some (.code h38 [.t 2] true) by kernel_rfl) (m + 0) _ _).trans (r_validName m s)
theorem g_validName (m : Nat) (s : List Nat) (raw : Bool) (hp : List Ob) (K : KV) : callG (evH tabS (m + 1)) 38 raw [.p (.str s)] hp K = if (nameOk s) = true then K (.p (.bool true)) hp else K (.p (.bool false)) hp := call_bool rfl (q_validName m s)
theorem gF_validName (m : Nat) (s : List Nat) (raw : Bool) (hp : List Ob) (K : KF) : callF (evH tabS (m + 1)) 38 raw [.p (.str s)] hp K = if (nameOk s) = true then K (.p (.bool true)) hp (footE hp) else K (.p (.bool false)) hp (footE hp) := callF_bool rfl (q_validName m s)


theorem r_ValidName (m : Nat) (s : List Nat) : runH h41 (evH tabS (m + 0)) (m + 0) [.t 2] true [.p (.str s)] [] = some (.p (.bool (nameOk s)), []) := by
  simp -implicitDefEqProofs (maxSteps := 1000000) only [h41, go_sem, ↓reduceIte, Nat.reduceEqDiff, Nat.reduceAdd, Nat.reduceSub, Nat.reduceBEq, Int.reduceEq, Int.reduceLT, Int.reduceLE, Int.reduceNeg, Nat.reduceLeDiff, ite_ans]
  apply ans
  unfold nameOk
  grind
theorem q_ValidName (m : Nat) (s : List Nat) : evH tabS (m + 1) 41 [.p (.str s)] [] = some (.p (.bool (nameOk s)), []) := (evH_code (show tabS 41 = some (.code h41 [.t 2] true) by kernel_rfl) (m + 0) _ _).trans (r_ValidName m s)
theorem g_ValidName (m : Nat) (s : List Nat) (raw : Bool) (hp : List Ob) (K : KV) : callG (evH tabS (m + 1)) 41 raw [.p (.str s)] hp K = if (nameOk s) = true then K (.p (.bool true)) hp else K (.p (.bool false)) hp := call_bool rfl (q_ValidName m s)
theorem gF_ValidName (m : Nat) (s : List Nat) (raw : Bool) (hp : List Ob) (K : KF) : callF (evH tabS (m + 1)) 41 raw [.p (.str s)] hp K = if (nameOk s) = true then K (.p (.bool true)) hp (footE hp) else K (.p (.bool false)) hp (footE hp) := callF_bool rfl (q_ValidName m s)


theorem L39 (call : CallF) (N : Nat) (ls : List (List Nat)) (hl : ls.length ≤ 16) (hN : 20 ≤ N) (ke : Nat → K) (kr : K) (cs : List D) :
    loopK 0 [76, 77, 78] (fun tm hp k => l39_1 call N 0 tm hp k ke kr) N (.cons 76 (.p (.slice 1 (ls.map .str))) (.cons 77 (.p (.int .i64 ls.length)) (.cons 78 (.p (.int .i64 0)) .nil))) [.box cs] =
      if (ls.all fun t => decide (t.length ≤ 64)) = true then ke 1 (.cons 76 (.p (.slice 1 (ls.map .str))) (.cons 77 (.p (.int .i64 ls.length)) (.cons 78 (.p (.int .i64 ls.length)) (.cons 79 (.p (.bool false)) .nil)))) [] else kr (.cons 2 (.p (.bool false)) .nil) [] := by
  refine (loop_all (m := 0) (live := [76, 77, 78]) (body := fun tm hp k => l39_1 call N 0 tm hp k ke kr) ls.length
    (fun j => .cons 76 (.p (.slice 1 (ls.map .str))) (.cons 77 (.p (.int .i64 ls.length)) (.cons 78 (.p (.int .i64 (j : Nat))) .nil))) (fun _ => [])
    (fun j => .cons 76 (.p (.slice 1 (ls.map .str))) (.cons 77 (.p (.int .i64 ls.length)) (.cons 78 (.p (.int .i64 (j + 1 : Nat))) .nil))) (fun _ => [])
    (fun j => !decide ((64 : Int) < (ls[j]?.getD []).length)) (kr (.cons 2 (.p (.bool false)) .nil) []) (ke 1 (.cons 76 (.p (.slice 1 (ls.map .str))) (.cons 77 (.p (.int .i64 ls.length)) (.cons 78 (.p (.int .i64 ls.length)) (.cons 79 (.p (.bool false)) .nil)))) [])
    (fun j _ => by kernel_rfl)
    (fun j kn hj => by
      simp -implicitDefEqProofs (maxSteps := 1000000) only [l39_1, go_sem, ↓reduceIte, Nat.reduceEqDiff, Nat.reduceAdd, Nat.reduceSub, Nat.reduceBEq, Int.reduceEq, Int.reduceLT, Int.reduceLE, Int.reduceNeg, Nat.reduceLeDiff, at_map _ ls j hj, wrap_succ j (by omega), Int.ofNat_lt.mpr hj, if_true, List.getElem?_eq_getElem hj, Option.getD_some])
    (fun kn => by
      simp -implicitDefEqProofs (maxSteps := 1000000) only [l39_1, go_sem, ↓reduceIte, Nat.reduceEqDiff, Nat.reduceAdd, Nat.reduceSub, Nat.reduceBEq, Int.reduceEq, Int.reduceLT, Int.reduceLE, Int.reduceNeg, Nat.reduceLeDiff, Int.lt_irrefl, if_false]) N _ _ (by omega) (by kernel_rfl)).trans ?_
  have e : (∀ j, j < ls.length → (!decide ((64 : Int) < (ls[j]?.getD []).length)) = true) ↔ (ls.all fun t => decide (t.length ≤ 64)) = true := by
    rw [List.all_eq_true, ← all_idx ls [] fun t => decide (t.length ≤ 64) = true]
    simp
    grind
  simp only [e]

set_option maxHeartbeats 1000000
theorem r_wireValid (m : Nat) (k : Int) (n : Int) (s : List Nat) (is : List Int) (ls : List (List Nat)) : runH h39 (evH tabS (m + 20)) (m + 20) [.t 2] true [.p (.agg [.int .i64 k, .int .i64 n, .str s, .slice 1 (is.map (.int .i64)), .slice 1 (ls.map .str)])] [] = some (.p (.bool (vOk ⟨k, n, s, is, ls⟩)), []) := by
  by_cases hl : ls.length ≤ 16
  · simp -implicitDefEqProofs (maxSteps := 1000000) only [h39, go_sem, ↓reduceIte, Nat.reduceEqDiff, Nat.reduceAdd, Nat.reduceSub, Nat.reduceBEq, Int.reduceEq, Int.reduceLT, Int.reduceLE, Int.reduceNeg, Nat.reduceLeDiff, L39 _ _ ls hl (Nat.le_add_left _ _)]
    simp only [ite_ans]
    apply ans
    unfold vOk
    generalize (ls.all fun t => decide (t.length ≤ 64)) = q
    grind (splits := 40)
  · have hl' : (16 : Int) < ls.length := by omega
    simp -implicitDefEqProofs (maxSteps := 1000000) only [h39, go_sem, ↓reduceIte, Nat.reduceEqDiff, Nat.reduceAdd, Nat.reduceSub, Nat.reduceBEq, Int.reduceEq, Int.reduceLT, Int.reduceLE, Int.reduceNeg, Nat.reduceLeDiff, hl', if_true]
    simp only [ite_ans, ite_self]
    apply ans
    unfold vOk
    generalize (ls.all fun t => decide (t.length ≤ 64)) = q
    grind (splits := 40)
theorem q_wireValid (m : Nat) (k : Int) (n : Int) (s : List Nat) (is : List Int) (ls : List (List Nat)) : evH tabS (m + 21) 39 [.p (.agg [.int .i64 k, .int .i64 n, .str s, .slice 1 (is.map (.int .i64)), .slice 1 (ls.map .str)])] [] = some (.p (.bool (vOk ⟨k, n, s, is, ls⟩)), []) := (evH_code (show tabS 39 = some (.code h39 [.t 2] true) by kernel_rfl) (m + 20) _ _).trans (r_wireValid m k n s is ls)
theorem g_wireValid (m : Nat) (k : Int) (n : Int) (s : List Nat) (is : List Int) (ls : List (List Nat)) (raw : Bool) (hp : List Ob) (K : KV) : callG (evH tabS (m + 21)) 39 raw [.p (.agg [.int .i64 k, .int .i64 n, .str s, .slice 1 (is.map (.int .i64)), .slice 1 (ls.map .str)])] hp K = if (vOk ⟨k, n, s, is, ls⟩) = true then K (.p (.bool true)) hp else K (.p (.bool false)) hp := call_bool rfl (q_wireValid m k n s is ls)
theorem gF_wireValid (m : Nat) (k : Int) (n : Int) (s : List Nat) (is : List Int) (ls : List (List Nat)) (raw : Bool) (hp : List Ob) (K : KF) : callF (evH tabS (m + 21)) 39 raw [.p (.agg [.int .i64 k, .int .i64 n, .str s, .slice 1 (is.map (.int .i64)), .slice 1 (ls.map .str)])] hp K = if (vOk ⟨k, n, s, is, ls⟩) = true then K (.p (.bool true)) hp (footE hp) else K (.p (.bool false)) hp (footE hp) := callF_bool rfl (q_wireValid m k n s is ls)


end Go.Ab
end
/- Runs with letters: the references' equalities and valid values. -/
section
namespace Go.Ab
open Go

theorem L30 (call : CallF) (N : Nat) (c0 c1 c2 c3 : Da) (ls : List (List Nat)) (hl : ls.length ≤ 16) (hN : 20 ≤ N) (ke : Nat → K) (kr : K) :
    loopK 0 [1, 3] (fun tm hp k => l30_1 call N 0 tm hp k ke kr) N (.cons 1 (.box 0 0) (.cons 3 (.p (.int .i64 0)) .nil)) [.box [.p c0, .p c1, .p c2, .p c3, .p (.slice 1 (ls.map .str))]] =
      if (ls.all fun t => decide (t.length ≤ 64)) = true then ke 0 (.cons 1 (.box 0 0) (.cons 3 (.p (.int .i64 ls.length)) (.cons 94 (.p (.bool false)) .nil))) [.box [.p c0, .p c1, .p c2, .p c3, .p (.slice 1 (ls.map .str))]] else kr (.cons 2 (.p (.bool false)) .nil) [.box [.p c0, .p c1, .p c2, .p c3, .p (.slice 1 (ls.map .str))]] := by
  refine (loop_all (m := 0) (live := [1, 3]) (body := fun tm hp k => l30_1 call N 0 tm hp k ke kr) ls.length
    (fun j => .cons 1 (.box 0 0) (.cons 3 (.p (.int .i64 (j : Nat))) .nil)) (fun _ => [.box [.p c0, .p c1, .p c2, .p c3, .p (.slice 1 (ls.map .str))]])
    (fun j => .cons 1 (.box 0 0) (.cons 3 (.p (.int .i64 (j + 1 : Nat))) .nil)) (fun _ => [.box [.p c0, .p c1, .p c2, .p c3, .p (.slice 1 (ls.map .str))]])
    (fun j => !decide ((64 : Int) < (ls[j]?.getD []).length)) (kr (.cons 2 (.p (.bool false)) .nil) [.box [.p c0, .p c1, .p c2, .p c3, .p (.slice 1 (ls.map .str))]]) (ke 0 (.cons 1 (.box 0 0) (.cons 3 (.p (.int .i64 ls.length)) (.cons 94 (.p (.bool false)) .nil))) [.box [.p c0, .p c1, .p c2, .p c3, .p (.slice 1 (ls.map .str))]])
    (fun j _ => by kernel_rfl)
    (fun j kn hj => by
      simp -implicitDefEqProofs (maxSteps := 1000000) only [l30_1, go_sem, ↓reduceIte, Nat.reduceEqDiff, Nat.reduceAdd, Nat.reduceSub, Nat.reduceBEq, Int.reduceEq, Int.reduceLT, Int.reduceLE, Int.reduceNeg, Nat.reduceLeDiff, at_map _ ls j hj, wrap_succ j (by omega), Int.ofNat_lt.mpr hj, if_true, List.getElem?_eq_getElem hj, Option.getD_some])
    (fun kn => by
      simp -implicitDefEqProofs (maxSteps := 1000000) only [l30_1, go_sem, ↓reduceIte, Nat.reduceEqDiff, Nat.reduceAdd, Nat.reduceSub, Nat.reduceBEq, Int.reduceEq, Int.reduceLT, Int.reduceLE, Int.reduceNeg, Nat.reduceLeDiff, Int.lt_irrefl, if_false]) N _ _ (by omega) (by kernel_rfl)).trans ?_
  have e : (∀ j, j < ls.length → (!decide ((64 : Int) < (ls[j]?.getD []).length)) = true) ↔ (ls.all fun t => decide (t.length ≤ 64)) = true := by
    rw [List.all_eq_true, ← all_idx ls [] fun t => decide (t.length ≤ 64) = true]
    simp
    grind
  simp only [e]

set_option maxHeartbeats 1000000
theorem r_refValid (m : Nat) (k : Int) (n : Int) (s : List Nat) (is : List Int) (ls : List (List Nat)) : runH h30 (evH tabS (m + 20)) (m + 20) [.t 2] true [.p (.agg [.int .i64 k, .int .i64 n, .str s, .slice 1 (is.map (.int .i64)), .slice 1 (ls.map .str)])] [] = some (.p (.bool (vOk ⟨k, n, s, is, ls⟩)), []) := by
  by_cases hl : ls.length ≤ 16
  · simp -implicitDefEqProofs (maxSteps := 1000000) only [h30, go_sem, ↓reduceIte, Nat.reduceEqDiff, Nat.reduceAdd, Nat.reduceSub, Nat.reduceBEq, Int.reduceEq, Int.reduceLT, Int.reduceLE, Int.reduceNeg, Nat.reduceLeDiff, L30 _ _ _ _ _ _ ls hl (Nat.le_add_left _ _)]
    simp only [ite_ans]
    apply ans
    unfold vOk
    generalize (ls.all fun t => decide (t.length ≤ 64)) = q
    grind (splits := 40)
  · have hl' : (16 : Int) < ls.length := by omega
    simp -implicitDefEqProofs (maxSteps := 1000000) only [h30, go_sem, ↓reduceIte, Nat.reduceEqDiff, Nat.reduceAdd, Nat.reduceSub, Nat.reduceBEq, Int.reduceEq, Int.reduceLT, Int.reduceLE, Int.reduceNeg, Nat.reduceLeDiff, hl', if_true]
    simp only [ite_ans, ite_self]
    apply ans
    unfold vOk
    generalize (ls.all fun t => decide (t.length ≤ 64)) = q
    grind (splits := 40)
theorem q_refValid (m : Nat) (k : Int) (n : Int) (s : List Nat) (is : List Int) (ls : List (List Nat)) : evH tabS (m + 21) 30 [.p (.agg [.int .i64 k, .int .i64 n, .str s, .slice 1 (is.map (.int .i64)), .slice 1 (ls.map .str)])] [] = some (.p (.bool (vOk ⟨k, n, s, is, ls⟩)), []) := (evH_code (show tabS 30 = some (.code h30 [.t 2] true) by kernel_rfl) (m + 20) _ _).trans (r_refValid m k n s is ls)
theorem g_refValid (m : Nat) (k : Int) (n : Int) (s : List Nat) (is : List Int) (ls : List (List Nat)) (raw : Bool) (hp : List Ob) (K : KV) : callG (evH tabS (m + 21)) 30 raw [.p (.agg [.int .i64 k, .int .i64 n, .str s, .slice 1 (is.map (.int .i64)), .slice 1 (ls.map .str)])] hp K = if (vOk ⟨k, n, s, is, ls⟩) = true then K (.p (.bool true)) hp else K (.p (.bool false)) hp := call_bool rfl (q_refValid m k n s is ls)
theorem gF_refValid (m : Nat) (k : Int) (n : Int) (s : List Nat) (is : List Int) (ls : List (List Nat)) (raw : Bool) (hp : List Ob) (K : KF) : callF (evH tabS (m + 21)) 30 raw [.p (.agg [.int .i64 k, .int .i64 n, .str s, .slice 1 (is.map (.int .i64)), .slice 1 (ls.map .str)])] hp K = if (vOk ⟨k, n, s, is, ls⟩) = true then K (.p (.bool true)) hp (footE hp) else K (.p (.bool false)) hp (footE hp) := callF_bool rfl (q_refValid m k n s is ls)


theorem same_idx {α : Type} (a b : List α) (h : a.length = b.length) : (∀ j, j < a.length → a[j]? = b[j]?) ↔ a = b := by
  constructor
  · intro h2
    apply List.ext_getElem? fun i => ?_
    by_cases hi : i < a.length
    · exact h2 i hi
    · rw [List.getElem?_eq_none (by omega), List.getElem?_eq_none (by omega)]
  · rintro rfl _ _; rfl

theorem r_SameInts (m : Nat) (a : List Int) (b : List Int) (ha : a.length ≤ 16) : runH h57 (evH tabS (m + 20)) (m + 20) [.t 4] true [.p (.slice 1 (a.map (.int .i64))), .p (.slice 1 (b.map (.int .i64)))] [] = some (.p (.bool (decide (a = b))), []) := by
  have L := fun (hab : a.length = b.length) (ke : Nat → K) (kr : K) => loop_all (m := 0) (live := [0, 1, 5]) (body := fun tm hp k => l57_1 (evH tabS (m + 20)) (m + 20) 0 tm hp k ke kr) a.length
    (fun j => .cons 0 (.p (.slice 1 (a.map (.int .i64)))) (.cons 1 (.p (.slice 1 (b.map (.int .i64)))) (.cons 5 (.p (.int .i64 (j : Nat))) .nil))) (fun _ => [])
    (fun j => .cons 0 (.p (.slice 1 (a.map (.int .i64)))) (.cons 1 (.p (.slice 1 (b.map (.int .i64)))) (.cons 5 (.p (.int .i64 (j + 1 : Nat))) .nil))) (fun _ => [])
    (fun j => decide (a[j]? = b[j]?)) (kr (.cons 4 (.p (.bool false)) .nil) []) (ke 0 (.cons 0 (.p (.slice 1 (a.map (.int .i64)))) (.cons 1 (.p (.slice 1 (b.map (.int .i64)))) (.cons 5 (.p (.int .i64 a.length)) (.cons 14 (.p (.bool false)) .nil)))) [])
    (fun j _ => by kernel_rfl)
    (fun j kn hj => by
      simp -implicitDefEqProofs (maxSteps := 1000000) only [l57_1, go_sem, ↓reduceIte, Nat.reduceEqDiff, Nat.reduceAdd, Nat.reduceSub, Nat.reduceBEq, Int.reduceEq, Int.reduceLT, Int.reduceLE, Int.reduceNeg, Nat.reduceLeDiff, at_map _ a j hj, at_map _ b j (hab ▸ hj), wrap_succ j (by omega), Int.ofNat_lt.mpr hj, if_true, List.getElem?_eq_getElem hj, List.getElem?_eq_getElem (hab ▸ hj), Option.some.injEq])
    (fun kn => by
      simp -implicitDefEqProofs (maxSteps := 1000000) only [l57_1, go_sem, ↓reduceIte, Nat.reduceEqDiff, Nat.reduceAdd, Nat.reduceSub, Nat.reduceBEq, Int.reduceEq, Int.reduceLT, Int.reduceLE, Int.reduceNeg, Nat.reduceLeDiff, Int.lt_irrefl, if_false]) (m + 20)
    (.cons 0 (.p (.slice 1 (a.map (.int .i64)))) (.cons 1 (.p (.slice 1 (b.map (.int .i64)))) (.cons 5 (.p (.int .i64 0)) .nil))) [] (by omega) (by kernel_rfl)
  by_cases hab : a.length = b.length
  · simp -implicitDefEqProofs (maxSteps := 1000000) only [h57, go_sem, ↓reduceIte, Nat.reduceEqDiff, Nat.reduceAdd, Nat.reduceSub, Nat.reduceBEq, Int.reduceEq, Int.reduceLT, Int.reduceLE, Int.reduceNeg, Nat.reduceLeDiff, hab, if_true]
    have L := L hab
    simp only [hab] at L
    simp -implicitDefEqProofs (maxSteps := 1000000) only [go_sem, ↓reduceIte, Nat.reduceEqDiff, Nat.reduceAdd, Nat.reduceSub, Nat.reduceBEq, Int.reduceEq, Int.reduceLT, Int.reduceLE, Int.reduceNeg, Nat.reduceLeDiff, L]
    simp only [ite_ans]
    apply ans
    have := same_idx a b hab
    simp only [hab] at this
    grind
  · have hab' : ¬ (a.length : Int) = b.length := by omega
    simp -implicitDefEqProofs (maxSteps := 1000000) only [h57, go_sem, ↓reduceIte, Nat.reduceEqDiff, Nat.reduceAdd, Nat.reduceSub, Nat.reduceBEq, Int.reduceEq, Int.reduceLT, Int.reduceLE, Int.reduceNeg, Nat.reduceLeDiff, hab', if_false]
    apply ans
    grind
theorem q_SameInts (m : Nat) (a : List Int) (b : List Int) (ha : a.length ≤ 16) : evH tabS (m + 21) 57 [.p (.slice 1 (a.map (.int .i64))), .p (.slice 1 (b.map (.int .i64)))] [] = some (.p (.bool (decide (a = b))), []) := (evH_code (show tabS 57 = some (.code h57 [.t 4] true) by kernel_rfl) (m + 20) _ _).trans (r_SameInts m a b ha)
theorem g_SameInts (m : Nat) (a : List Int) (b : List Int) (ha : a.length ≤ 16) (raw : Bool) (hp : List Ob) (K : KV) : callG (evH tabS (m + 21)) 57 raw [.p (.slice 1 (a.map (.int .i64))), .p (.slice 1 (b.map (.int .i64)))] hp K = if (decide (a = b)) = true then K (.p (.bool true)) hp else K (.p (.bool false)) hp := call_bool rfl (q_SameInts m a b ha)
theorem gF_SameInts (m : Nat) (a : List Int) (b : List Int) (ha : a.length ≤ 16) (raw : Bool) (hp : List Ob) (K : KF) : callF (evH tabS (m + 21)) 57 raw [.p (.slice 1 (a.map (.int .i64))), .p (.slice 1 (b.map (.int .i64)))] hp K = if (decide (a = b)) = true then K (.p (.bool true)) hp (footE hp) else K (.p (.bool false)) hp (footE hp) := callF_bool rfl (q_SameInts m a b ha)


theorem r_SameStrings (m : Nat) (a : List (List Nat)) (b : List (List Nat)) (ha : a.length ≤ 16) : runH h67 (evH tabS (m + 20)) (m + 20) [.t 4] true [.p (.slice 1 (a.map .str)), .p (.slice 1 (b.map .str))] [] = some (.p (.bool (decide (a = b))), []) := by
  have L := fun (hab : a.length = b.length) (ke : Nat → K) (kr : K) => loop_all (m := 0) (live := [0, 1, 5]) (body := fun tm hp k => l67_1 (evH tabS (m + 20)) (m + 20) 0 tm hp k ke kr) a.length
    (fun j => .cons 0 (.p (.slice 1 (a.map .str))) (.cons 1 (.p (.slice 1 (b.map .str))) (.cons 5 (.p (.int .i64 (j : Nat))) .nil))) (fun _ => [])
    (fun j => .cons 0 (.p (.slice 1 (a.map .str))) (.cons 1 (.p (.slice 1 (b.map .str))) (.cons 5 (.p (.int .i64 (j + 1 : Nat))) .nil))) (fun _ => [])
    (fun j => decide (a[j]? = b[j]?)) (kr (.cons 4 (.p (.bool false)) .nil) []) (ke 0 (.cons 0 (.p (.slice 1 (a.map .str))) (.cons 1 (.p (.slice 1 (b.map .str))) (.cons 5 (.p (.int .i64 a.length)) (.cons 14 (.p (.bool false)) .nil)))) [])
    (fun j _ => by kernel_rfl)
    (fun j kn hj => by
      simp -implicitDefEqProofs (maxSteps := 1000000) only [l67_1, go_sem, ↓reduceIte, Nat.reduceEqDiff, Nat.reduceAdd, Nat.reduceSub, Nat.reduceBEq, Int.reduceEq, Int.reduceLT, Int.reduceLE, Int.reduceNeg, Nat.reduceLeDiff, at_map _ a j hj, at_map _ b j (hab ▸ hj), wrap_succ j (by omega), Int.ofNat_lt.mpr hj, if_true, List.getElem?_eq_getElem hj, List.getElem?_eq_getElem (hab ▸ hj), Option.some.injEq])
    (fun kn => by
      simp -implicitDefEqProofs (maxSteps := 1000000) only [l67_1, go_sem, ↓reduceIte, Nat.reduceEqDiff, Nat.reduceAdd, Nat.reduceSub, Nat.reduceBEq, Int.reduceEq, Int.reduceLT, Int.reduceLE, Int.reduceNeg, Nat.reduceLeDiff, Int.lt_irrefl, if_false]) (m + 20)
    (.cons 0 (.p (.slice 1 (a.map .str))) (.cons 1 (.p (.slice 1 (b.map .str))) (.cons 5 (.p (.int .i64 0)) .nil))) [] (by omega) (by kernel_rfl)
  by_cases hab : a.length = b.length
  · simp -implicitDefEqProofs (maxSteps := 1000000) only [h67, go_sem, ↓reduceIte, Nat.reduceEqDiff, Nat.reduceAdd, Nat.reduceSub, Nat.reduceBEq, Int.reduceEq, Int.reduceLT, Int.reduceLE, Int.reduceNeg, Nat.reduceLeDiff, hab, if_true]
    have L := L hab
    simp only [hab] at L
    simp -implicitDefEqProofs (maxSteps := 1000000) only [go_sem, ↓reduceIte, Nat.reduceEqDiff, Nat.reduceAdd, Nat.reduceSub, Nat.reduceBEq, Int.reduceEq, Int.reduceLT, Int.reduceLE, Int.reduceNeg, Nat.reduceLeDiff, L]
    simp only [ite_ans]
    apply ans
    have := same_idx a b hab
    simp only [hab] at this
    grind
  · have hab' : ¬ (a.length : Int) = b.length := by omega
    simp -implicitDefEqProofs (maxSteps := 1000000) only [h67, go_sem, ↓reduceIte, Nat.reduceEqDiff, Nat.reduceAdd, Nat.reduceSub, Nat.reduceBEq, Int.reduceEq, Int.reduceLT, Int.reduceLE, Int.reduceNeg, Nat.reduceLeDiff, hab', if_false]
    apply ans
    grind
theorem q_SameStrings (m : Nat) (a : List (List Nat)) (b : List (List Nat)) (ha : a.length ≤ 16) : evH tabS (m + 21) 67 [.p (.slice 1 (a.map .str)), .p (.slice 1 (b.map .str))] [] = some (.p (.bool (decide (a = b))), []) := (evH_code (show tabS 67 = some (.code h67 [.t 4] true) by kernel_rfl) (m + 20) _ _).trans (r_SameStrings m a b ha)
theorem g_SameStrings (m : Nat) (a : List (List Nat)) (b : List (List Nat)) (ha : a.length ≤ 16) (raw : Bool) (hp : List Ob) (K : KV) : callG (evH tabS (m + 21)) 67 raw [.p (.slice 1 (a.map .str)), .p (.slice 1 (b.map .str))] hp K = if (decide (a = b)) = true then K (.p (.bool true)) hp else K (.p (.bool false)) hp := call_bool rfl (q_SameStrings m a b ha)
theorem gF_SameStrings (m : Nat) (a : List (List Nat)) (b : List (List Nat)) (ha : a.length ≤ 16) (raw : Bool) (hp : List Ob) (K : KF) : callF (evH tabS (m + 21)) 67 raw [.p (.slice 1 (a.map .str)), .p (.slice 1 (b.map .str))] hp K = if (decide (a = b)) = true then K (.p (.bool true)) hp (footE hp) else K (.p (.bool false)) hp (footE hp) := callF_bool rfl (q_SameStrings m a b ha)

end Go.Ab
end
/- Runs with letters: equal values, copies of values, the place of a field. -/
section
namespace Go.Ab
open Go
set_option maxHeartbeats 1000000

theorem r_SameValue (m : Nat) (k : Int) (n : Int) (s : List Nat) (is : List Int) (ls : List (List Nat)) (hi : is.length ≤ 16) (hl : ls.length ≤ 16) : runH h29 (evH tabS (m + 21)) (m + 21) [.t 4] true [.p (.agg [.int .i64 k, .int .i64 n, .str s, .slice 1 (is.map (.int .i64)), .slice 1 (ls.map .str)]), .p (.agg [.int .i64 k, .int .i64 n, .str s, .slice 1 (is.map (.int .i64)), .slice 1 (ls.map .str)])] [] = some (.p (.bool true), []) := by
  simp -implicitDefEqProofs (maxSteps := 1000000) only [h29, go_sem, ↓reduceIte, Nat.reduceEqDiff, Nat.reduceAdd, Nat.reduceSub, Nat.reduceBEq, Int.reduceEq, Int.reduceLT, Int.reduceLE, Int.reduceNeg, Nat.reduceLeDiff, g_SameInts, g_SameStrings, hi, hl]
theorem q_SameValue (m : Nat) (k : Int) (n : Int) (s : List Nat) (is : List Int) (ls : List (List Nat)) (hi : is.length ≤ 16) (hl : ls.length ≤ 16) : evH tabS (m + 22) 29 [.p (.agg [.int .i64 k, .int .i64 n, .str s, .slice 1 (is.map (.int .i64)), .slice 1 (ls.map .str)]), .p (.agg [.int .i64 k, .int .i64 n, .str s, .slice 1 (is.map (.int .i64)), .slice 1 (ls.map .str)])] [] = some (.p (.bool true), []) := (evH_code (show tabS 29 = some (.code h29 [.t 4] true) by kernel_rfl) (m + 21) _ _).trans (r_SameValue m k n s is ls hi hl)
theorem g_SameValue (m : Nat) (k : Int) (n : Int) (s : List Nat) (is : List Int) (ls : List (List Nat)) (hi : is.length ≤ 16) (hl : ls.length ≤ 16) (raw : Bool) (hp : List Ob) (K : KV) : callG (evH tabS (m + 22)) 29 raw [.p (.agg [.int .i64 k, .int .i64 n, .str s, .slice 1 (is.map (.int .i64)), .slice 1 (ls.map .str)]), .p (.agg [.int .i64 k, .int .i64 n, .str s, .slice 1 (is.map (.int .i64)), .slice 1 (ls.map .str)])] hp K = if true = true then K (.p (.bool true)) hp else K (.p (.bool false)) hp := call_bool rfl (q_SameValue m k n s is ls hi hl)
theorem gF_SameValue (m : Nat) (k : Int) (n : Int) (s : List Nat) (is : List Int) (ls : List (List Nat)) (hi : is.length ≤ 16) (hl : ls.length ≤ 16) (raw : Bool) (hp : List Ob) (K : KF) : callF (evH tabS (m + 22)) 29 raw [.p (.agg [.int .i64 k, .int .i64 n, .str s, .slice 1 (is.map (.int .i64)), .slice 1 (ls.map .str)]), .p (.agg [.int .i64 k, .int .i64 n, .str s, .slice 1 (is.map (.int .i64)), .slice 1 (ls.map .str)])] hp K = if true = true then K (.p (.bool true)) hp (footE hp) else K (.p (.bool false)) hp (footE hp) := callF_bool rfl (q_SameValue m k n s is ls hi hl)


theorem r_SameValues (m : Nat) (a : List V) (ha : a.length ≤ 20) (hs : ∀ v ∈ a, v.is.length ≤ 16 ∧ v.ls.length ≤ 16) : runH h15 (evH tabS (m + 22)) (m + 22) [.t 4] true [.p (.slice 5 (a.map V.e)), .p (.slice 5 (a.map V.e))] [] = some (.p (.bool true), []) := by
  have L := fun (ke : Nat → K) (kr : K) => loop_map (m := 0) (live := [0, 1, 5]) (body := fun tm hp k => l15_1 (evH tabS (m + 22)) (m + 22) 0 tm hp k ke kr) a.length
    (fun j => .cons 0 (.p (.slice 5 (a.map V.e))) (.cons 1 (.p (.slice 5 (a.map V.e))) (.cons 5 (.p (.int .i64 (j : Nat))) .nil))) (fun _ => [])
    (fun j => .cons 0 (.p (.slice 5 (a.map V.e))) (.cons 1 (.p (.slice 5 (a.map V.e))) (.cons 5 (.p (.int .i64 (j + 1 : Nat))) .nil))) (fun _ => [])
    (ke 0 (.cons 0 (.p (.slice 5 (a.map V.e))) (.cons 1 (.p (.slice 5 (a.map V.e))) (.cons 5 (.p (.int .i64 a.length)) (.cons 14 (.p (.bool false)) .nil)))) [])
    (fun j _ => by kernel_rfl)
    (fun j kn hj => by
      have hv := hs a[j] (List.getElem_mem hj)
      simp -implicitDefEqProofs (maxSteps := 1000000) only [l15_1, go_sem, ↓reduceIte, Nat.reduceEqDiff, Nat.reduceAdd, Nat.reduceSub, Nat.reduceBEq, Int.reduceEq, Int.reduceLT, Int.reduceLE, Int.reduceNeg, Nat.reduceLeDiff, at_map _ a j hj, wrap_succ j (by omega), Int.ofNat_lt.mpr hj, gF_SameValue, hv.1, hv.2])
    (fun kn => by
      simp -implicitDefEqProofs (maxSteps := 1000000) only [l15_1, go_sem, ↓reduceIte, Nat.reduceEqDiff, Nat.reduceAdd, Nat.reduceSub, Nat.reduceBEq, Int.reduceEq, Int.reduceLT, Int.reduceLE, Int.reduceNeg, Nat.reduceLeDiff, Int.lt_irrefl, if_false]) (m + 22)
    (.cons 0 (.p (.slice 5 (a.map V.e))) (.cons 1 (.p (.slice 5 (a.map V.e))) (.cons 5 (.p (.int .i64 0)) .nil))) [] (by omega) (by kernel_rfl)
  simp -implicitDefEqProofs (maxSteps := 1000000) only [h15, go_sem, ↓reduceIte, Nat.reduceEqDiff, Nat.reduceAdd, Nat.reduceSub, Nat.reduceBEq, Int.reduceEq, Int.reduceLT, Int.reduceLE, Int.reduceNeg, Nat.reduceLeDiff, L]
theorem q_SameValues (m : Nat) (a : List V) (ha : a.length ≤ 20) (hs : ∀ v ∈ a, v.is.length ≤ 16 ∧ v.ls.length ≤ 16) : evH tabS (m + 23) 15 [.p (.slice 5 (a.map V.e)), .p (.slice 5 (a.map V.e))] [] = some (.p (.bool true), []) := (evH_code (show tabS 15 = some (.code h15 [.t 4] true) by kernel_rfl) (m + 22) _ _).trans (r_SameValues m a ha hs)
theorem g_SameValues (m : Nat) (a : List V) (ha : a.length ≤ 20) (hs : ∀ v ∈ a, v.is.length ≤ 16 ∧ v.ls.length ≤ 16) (raw : Bool) (hp : List Ob) (K : KV) : callG (evH tabS (m + 23)) 15 raw [.p (.slice 5 (a.map V.e)), .p (.slice 5 (a.map V.e))] hp K = if true = true then K (.p (.bool true)) hp else K (.p (.bool false)) hp := call_bool rfl (q_SameValues m a ha hs)
theorem gF_SameValues (m : Nat) (a : List V) (ha : a.length ≤ 20) (hs : ∀ v ∈ a, v.is.length ≤ 16 ∧ v.ls.length ≤ 16) (raw : Bool) (hp : List Ob) (K : KF) : callF (evH tabS (m + 23)) 15 raw [.p (.slice 5 (a.map V.e)), .p (.slice 5 (a.map V.e))] hp K = if true = true then K (.p (.bool true)) hp (footE hp) else K (.p (.bool false)) hp (footE hp) := callF_bool rfl (q_SameValues m a ha hs)


theorem q_cloneInts (m : Nat) (es : List Da) (h : es.length ≤ 1000) : evH tabS (m + 1) 76 [.p (.slice 1 es)] [] = some (.p (.slice 1 es), []) := by
  refine (evH_prim (xs := [.slice 1 es]) (show tabS 76 = some (.prim (primClone 1 8)) by kernel_rfl) m).trans ?_
  have : roomy es.length 8 = true := by
    unfold roomy
    rw [Bool.and_eq_true, Nat.ble_eq, Nat.ble_eq]
    constructor <;> omega
  simp only [primClone, this, nbeq_dec, decide_true, Bool.and_self, cond_true]
theorem q_cloneStrs (m : Nat) (es : List Da) (h : es.length ≤ 1000) : evH tabS (m + 1) 77 [.p (.slice 1 es)] [] = some (.p (.slice 1 es), []) := by
  refine (evH_prim (xs := [.slice 1 es]) (show tabS 77 = some (.prim (primClone 1 16)) by kernel_rfl) m).trans ?_
  have : roomy es.length 16 = true := by
    unfold roomy
    rw [Bool.and_eq_true, Nat.ble_eq, Nat.ble_eq]
    constructor <;> omega
  simp only [primClone, this, nbeq_dec, decide_true, Bool.and_self, cond_true]
theorem gF_cloneInts (m : Nat) (es : List Da) (h : es.length ≤ 1000) (raw : Bool) (hp : List Ob) (K : KF) : callF (evH tabS (m + 1)) 76 raw [.p (.slice 1 es)] hp K = K (.p (.slice 1 es)) hp (footE hp) := callF_known rfl (q_cloneInts m es h) rfl
theorem gF_cloneStrs (m : Nat) (es : List Da) (h : es.length ≤ 1000) (raw : Bool) (hp : List Ob) (K : KF) : callF (evH tabS (m + 1)) 77 raw [.p (.slice 1 es)] hp K = K (.p (.slice 1 es)) hp (footE hp) := callF_known rfl (q_cloneStrs m es h) rfl

theorem r_cloneValue (m : Nat) (k : Int) (n : Int) (s : List Nat) (is : List Int) (ls : List (List Nat)) (hi : is.length ≤ 1000) (hl : ls.length ≤ 1000) : runH h42 (evH tabS (m + 1)) (m + 1) [.cell 2 5 true] true [.p (.agg [.int .i64 k, .int .i64 n, .str s, .slice 1 (is.map (.int .i64)), .slice 1 (ls.map .str)])] [] = some (.p (.agg [.int .i64 k, .int .i64 n, .str s, .slice 1 (is.map (.int .i64)), .slice 1 (ls.map .str)]), []) := by
  simp -implicitDefEqProofs (maxSteps := 1000000) only [h42, go_sem, ↓reduceIte, Nat.reduceEqDiff, Nat.reduceAdd, Nat.reduceSub, Nat.reduceBEq, Int.reduceEq, Int.reduceLT, Int.reduceLE, Int.reduceNeg, Nat.reduceLeDiff, gF_cloneInts, gF_cloneStrs, hi, hl]
theorem q_cloneValue (m : Nat) (k : Int) (n : Int) (s : List Nat) (is : List Int) (ls : List (List Nat)) (hi : is.length ≤ 1000) (hl : ls.length ≤ 1000) : evH tabS (m + 2) 42 [.p (.agg [.int .i64 k, .int .i64 n, .str s, .slice 1 (is.map (.int .i64)), .slice 1 (ls.map .str)])] [] = some (.p (.agg [.int .i64 k, .int .i64 n, .str s, .slice 1 (is.map (.int .i64)), .slice 1 (ls.map .str)]), []) := (evH_code (show tabS 42 = some (.code h42 [.cell 2 5 true] true) by kernel_rfl) (m + 1) _ _).trans (r_cloneValue m k n s is ls hi hl)
theorem g_cloneValue (m : Nat) (k : Int) (n : Int) (s : List Nat) (is : List Int) (ls : List (List Nat)) (hi : is.length ≤ 1000) (hl : ls.length ≤ 1000) (raw : Bool) (hp : List Ob) (K : KV) : callG (evH tabS (m + 2)) 42 raw [.p (.agg [.int .i64 k, .int .i64 n, .str s, .slice 1 (is.map (.int .i64)), .slice 1 (ls.map .str)])] hp K = K (.p (.agg [.int .i64 k, .int .i64 n, .str s, .slice 1 (is.map (.int .i64)), .slice 1 (ls.map .str)])) hp := call_known rfl (q_cloneValue m k n s is ls hi hl) rfl
theorem gF_cloneValue (m : Nat) (k : Int) (n : Int) (s : List Nat) (is : List Int) (ls : List (List Nat)) (hi : is.length ≤ 1000) (hl : ls.length ≤ 1000) (raw : Bool) (hp : List Ob) (K : KF) : callF (evH tabS (m + 2)) 42 raw [.p (.agg [.int .i64 k, .int .i64 n, .str s, .slice 1 (is.map (.int .i64)), .slice 1 (ls.map .str)])] hp K = K (.p (.agg [.int .i64 k, .int .i64 n, .str s, .slice 1 (is.map (.int .i64)), .slice 1 (ls.map .str)])) hp (footE hp) := callF_known rfl (q_cloneValue m k n s is ls hi hl) rfl


theorem r_CopyValue (m : Nat) (k : Int) (n : Int) (s : List Nat) (is : List Int) (ls : List (List Nat)) (hi : is.length ≤ 1000) (hl : ls.length ≤ 1000) : runH h43 (evH tabS (m + 1)) (m + 1) [.cell 2 5 true] true [.p (.agg [.int .i64 k, .int .i64 n, .str s, .slice 1 (is.map (.int .i64)), .slice 1 (ls.map .str)])] [] = some (.p (.agg [.int .i64 k, .int .i64 n, .str s, .slice 1 (is.map (.int .i64)), .slice 1 (ls.map .str)]), []) := by
  have a1 : ∀ (base kk : Nat) (hp : List Ob) (k : KV), isUnborn (obF hp (base + kk)) = true → appG (evH tabS (m + 1)) base 1 8 kk (.sl .nil 1 []) (.p (.slice 1 (is.map (.int .i64)))) hp k = k (.arr (base + kk) 0 is.length 1) (setOb hp (base + kk) (.arr (is.map (.int .i64)))) := by
    intro base kk hp k hu
    have := app_nil (call := evH tabS (m + 1)) (base := base) (esz := 1) (bytes := 8) (kk := kk) (z := 1) (hp := hp) (ys := is.map (.int .i64)) (k := k) (by rw [List.length_map]; omega) (by rw [List.length_map]; omega) hu
    rwa [List.length_map] at this
  have a2 : ∀ (base kk : Nat) (hp : List Ob) (k : KV), isUnborn (obF hp (base + kk)) = true → appG (evH tabS (m + 1)) base 1 16 kk (.sl .nil 1 []) (.p (.slice 1 (ls.map .str))) hp k = k (.arr (base + kk) 0 ls.length 1) (setOb hp (base + kk) (.arr (ls.map .str))) := by
    intro base kk hp k hu
    have := app_nil (call := evH tabS (m + 1)) (base := base) (esz := 1) (bytes := 16) (kk := kk) (z := 1) (hp := hp) (ys := ls.map .str) (k := k) (by rw [List.length_map]; omega) (by rw [List.length_map]; omega) hu
    rwa [List.length_map] at this
  simp -implicitDefEqProofs (maxSteps := 1000000) only [h43, go_sem, ↓reduceIte, Nat.reduceEqDiff, Nat.reduceAdd, Nat.reduceSub, Nat.reduceBEq, Int.reduceEq, Int.reduceLT, Int.reduceLE, Int.reduceNeg, Nat.reduceLeDiff, a1, a2, finK_V]
theorem q_CopyValue (m : Nat) (k : Int) (n : Int) (s : List Nat) (is : List Int) (ls : List (List Nat)) (hi : is.length ≤ 1000) (hl : ls.length ≤ 1000) : evH tabS (m + 2) 43 [.p (.agg [.int .i64 k, .int .i64 n, .str s, .slice 1 (is.map (.int .i64)), .slice 1 (ls.map .str)])] [] = some (.p (.agg [.int .i64 k, .int .i64 n, .str s, .slice 1 (is.map (.int .i64)), .slice 1 (ls.map .str)]), []) := (evH_code (show tabS 43 = some (.code h43 [.cell 2 5 true] true) by kernel_rfl) (m + 1) _ _).trans (r_CopyValue m k n s is ls hi hl)
theorem g_CopyValue (m : Nat) (k : Int) (n : Int) (s : List Nat) (is : List Int) (ls : List (List Nat)) (hi : is.length ≤ 1000) (hl : ls.length ≤ 1000) (raw : Bool) (hp : List Ob) (K : KV) : callG (evH tabS (m + 2)) 43 raw [.p (.agg [.int .i64 k, .int .i64 n, .str s, .slice 1 (is.map (.int .i64)), .slice 1 (ls.map .str)])] hp K = K (.p (.agg [.int .i64 k, .int .i64 n, .str s, .slice 1 (is.map (.int .i64)), .slice 1 (ls.map .str)])) hp := call_known rfl (q_CopyValue m k n s is ls hi hl) rfl
theorem gF_CopyValue (m : Nat) (k : Int) (n : Int) (s : List Nat) (is : List Int) (ls : List (List Nat)) (hi : is.length ≤ 1000) (hl : ls.length ≤ 1000) (raw : Bool) (hp : List Ob) (K : KF) : callF (evH tabS (m + 2)) 43 raw [.p (.agg [.int .i64 k, .int .i64 n, .str s, .slice 1 (is.map (.int .i64)), .slice 1 (ls.map .str)])] hp K = K (.p (.agg [.int .i64 k, .int .i64 n, .str s, .slice 1 (is.map (.int .i64)), .slice 1 (ls.map .str)])) hp (footE hp) := callF_known rfl (q_CopyValue m k n s is ls hi hl) rfl


/-- The closure of fieldIndex. -/
theorem q_fieldIndex1 (m : Nat) (a : List Nat) (kd : Int) (k : Int) (n : Int) (s : List Nat) (is : List Int) (ls : List (List Nat)) (nm : List Nat) : evH tabS (m + 1) 75 [.p (.agg [.str a, .int .i64 kd, .int .i64 k, .int .i64 n, .str s, .slice 1 (is.map (.int .i64)), .slice 1 (ls.map .str)]), .box 0 0] [.box [.p (.str nm)]] = some (.p (.bool (decide (a = nm))), [.box [.p (.str nm)]]) := by
  refine (evH_code (show tabS 75 = some (.code h75 [.t 3] true) by kernel_rfl) m _ _).trans ?_
  simp -implicitDefEqProofs (maxSteps := 1000000) only [h75, go_sem, ↓reduceIte, Nat.reduceEqDiff, Nat.reduceAdd, Nat.reduceSub, Nat.reduceBEq, Int.reduceEq, Int.reduceLT, Int.reduceLE, Int.reduceNeg, Nat.reduceLeDiff, finK_one]
  split <;> simp_all
/-- The first place of a field of that name. -/
def fieldIx (fs : List Fi) (nm : List Nat) : Int := match firstF (fun j => !decide ((fs[j]?.map Fi.name) = some nm)) fs.length 0 with
  | none => -1
  | some i => i
theorem q_indexFields (m : Nat) (fs : List Fi) (nm : List Nat) (hl : fs.length ≤ 20) : evH tabS (m + 23) 74 [.p (.slice 7 (fs.map Fi.e)), .fn 75 [.box 0 0]] [.box [.p (.str nm)]] = some (.p (.int .i64 (fieldIx fs nm)), [.box [.p (.str nm)]]) := by
  refine (evH_code (show tabS 74 = some (.code h74 [.t 4] true) by kernel_rfl) (m + 22) _ _).trans ?_
  have L := fun (ke : Nat → K) (kr : K) => loop_find (m := 1) (live := [0, 1, 7, 8]) (body := fun tm hp k => l74_1 (evH tabS (m + 22)) (m + 22) 1 tm hp k ke kr) fs.length
    (fun j => .cons 0 (.p (.slice 7 (fs.map Fi.e))) (.cons 1 (.fn 75 [.box 0 0]) (.cons 7 (.p (.int .i64 fs.length)) (.cons 8 (.p (.int .i64 (j : Nat))) .nil)))) (fun _ => [.box [.p (.str nm)]])
    (fun j => .cons 0 (.p (.slice 7 (fs.map Fi.e))) (.cons 1 (.fn 75 [.box 0 0]) (.cons 7 (.p (.int .i64 fs.length)) (.cons 8 (.p (.int .i64 (j + 1 : Nat))) .nil)))) (fun _ => [.box [.p (.str nm)]])
    (fun j => !decide ((fs[j]?.map Fi.name) = some nm)) (fun j => kr (.cons 4 (.p (.int .i64 j)) .nil) [.box [.p (.str nm)]]) (ke 0 (.cons 0 (.p (.slice 7 (fs.map Fi.e))) (.cons 1 (.fn 75 [.box 0 0]) (.cons 7 (.p (.int .i64 fs.length)) (.cons 8 (.p (.int .i64 fs.length)) (.cons 9 (.p (.bool false)) .nil))))) [.box [.p (.str nm)]])
    (fun j _ => by kernel_rfl)
    (fun j kn hj => by
      have hc := fun (k : KV) => callv_ref1 (base := 1) (kk := 0) (rest := []) (k := k) (q_fieldIndex1 (m + 21) fs[j].name fs[j].kind fs[j].init.k fs[j].init.n fs[j].init.s fs[j].init.is fs[j].init.ls nm)
      simp only [Nat.add_assoc, Nat.reduceAdd] at hc
      simp -implicitDefEqProofs (maxSteps := 1000000) only [l74_1, go_sem, ↓reduceIte, Nat.reduceEqDiff, Nat.reduceAdd, Nat.reduceSub, Nat.reduceBEq, Int.reduceEq, Int.reduceLT, Int.reduceLE, Int.reduceNeg, Nat.reduceLeDiff, at_map _ fs j hj, wrap_succ j (by omega), Int.ofNat_lt.mpr hj, List.getElem?_eq_getElem hj, hc]
      by_cases h : fs[j].name = nm
      · simp [h, condK_t, getF_cons]
      · simp [h, condK_f, getF_cons])
    (fun kn => by
      simp -implicitDefEqProofs (maxSteps := 1000000) only [l74_1, go_sem, ↓reduceIte, Nat.reduceEqDiff, Nat.reduceAdd, Nat.reduceSub, Nat.reduceBEq, Int.reduceEq, Int.reduceLT, Int.reduceLE, Int.reduceNeg, Nat.reduceLeDiff, Int.lt_irrefl, if_false]) (m + 22)
    (.cons 0 (.p (.slice 7 (fs.map Fi.e))) (.cons 1 (.fn 75 [.box 0 0]) (.cons 7 (.p (.int .i64 fs.length)) (.cons 8 (.p (.int .i64 0)) .nil)))) [.box [.p (.str nm)]] (by omega) (by kernel_rfl)
  simp -implicitDefEqProofs (maxSteps := 1000000) only [h74, go_sem, ↓reduceIte, Nat.reduceEqDiff, Nat.reduceAdd, Nat.reduceSub, Nat.reduceBEq, Int.reduceEq, Int.reduceLT, Int.reduceLE, Int.reduceNeg, Nat.reduceLeDiff, L]
  unfold fieldIx findR
  split <;> simp_all [finK_one]

theorem r_fieldIndex (m : Nat) (fs : List Fi) (nm : List Nat) (hl : fs.length ≤ 20) : runH h40 (evH tabS (m + 23)) (m + 23) [.t 4] true [.p (.slice 7 (fs.map Fi.e)), .p (.str nm)] [] = some (.p (.int .i64 (fieldIx fs nm)), []) := by
  have hc := fun (raw : Bool) (k : KV) => call_ref1 (raw := raw) (rest := []) (k := k) (q_indexFields m fs nm hl)
  simp -implicitDefEqProofs (maxSteps := 1000000) only [h40, go_sem, ↓reduceIte, Nat.reduceEqDiff, Nat.reduceAdd, Nat.reduceSub, Nat.reduceBEq, Int.reduceEq, Int.reduceLT, Int.reduceLE, Int.reduceNeg, Nat.reduceLeDiff, hc]
theorem q_fieldIndex (m : Nat) (fs : List Fi) (nm : List Nat) (hl : fs.length ≤ 20) : evH tabS (m + 24) 40 [.p (.slice 7 (fs.map Fi.e)), .p (.str nm)] [] = some (.p (.int .i64 (fieldIx fs nm)), []) := (evH_code (show tabS 40 = some (.code h40 [.t 4] true) by kernel_rfl) (m + 23) _ _).trans (r_fieldIndex m fs nm hl)
theorem g_fieldIndex (m : Nat) (fs : List Fi) (nm : List Nat) (hl : fs.length ≤ 20) (raw : Bool) (hp : List Ob) (K : KV) : callG (evH tabS (m + 24)) 40 raw [.p (.slice 7 (fs.map Fi.e)), .p (.str nm)] hp K = K (.p (.int .i64 (fieldIx fs nm))) hp := call_known rfl (q_fieldIndex m fs nm hl) rfl
theorem gF_fieldIndex (m : Nat) (fs : List Fi) (nm : List Nat) (hl : fs.length ≤ 20) (raw : Bool) (hp : List Ob) (K : KF) : callF (evH tabS (m + 24)) 40 raw [.p (.slice 7 (fs.map Fi.e)), .p (.str nm)] hp K = K (.p (.int .i64 (fieldIx fs nm))) hp (footE hp) := callF_known rfl (q_fieldIndex m fs nm hl) rfl

end Go.Ab
end
/- Runs with letters: valid schemas. -/
section
namespace Go.Ab
open Go
set_option maxHeartbeats 1000000

def sameName (fs : List Fi) (nm : List Nat) (j : Nat) : Bool := !decide ((fs[j]?.map Fi.name) = some nm)
/-- Is the field at that place valid, and its name new? -/
def okField (fs : List Fi) (j : Nat) : Bool :=
  match fs[j]? with
  | none => false
  | some f => nameOk f.name && decide (1 ≤ f.kind ∧ f.kind ≤ 5 ∧ f.init.k = f.kind) && vOk f.init && (firstF (sameName fs f.name) j 0).isNone
def scOk (s : Sc) : Bool := nameOk s.type && decide (s.fields.length ≤ 8) && (firstF (okField s.fields) s.fields.length 0).isNone

theorem firstF_stop (t : Nat → Bool) (n j : Nat) (hj : j < n) (h : t j = false) : ∃ i, i ≤ j ∧ firstF t n 0 = some i := by
  cases hf : firstF t n 0 with
  | none =>
    have := (firstF_none t n 0).1 hf j hj
    rw [Nat.zero_add, h] at this; cases this
  | some i =>
    obtain ⟨_, h2, h3, h4⟩ := firstF_some t n 0 i hf
    refine ⟨i, ?_, rfl⟩
    rcases Nat.lt_or_ge j i with h5 | h5
    · rw [h4 j (Nat.zero_le _) h5] at h; cases h
    · exact h5
theorem fieldIx_lt (fs : List Fi) (j : Nat) (hj : j < fs.length) : fieldIx fs fs[j].name < (j : Int) ↔ (firstF (sameName fs fs[j].name) j 0).isNone = false := by
  have hs : sameName fs fs[j].name j = false := by simp [sameName, List.getElem?_eq_getElem hj]
  obtain ⟨i, hi, he⟩ := firstF_stop (sameName fs fs[j].name) fs.length j hj hs
  have hx : fieldIx fs fs[j].name = (i : Int) := by
    unfold fieldIx
    show (match firstF (sameName fs fs[j].name) fs.length 0 with | none => _ | some i => _) = _
    rw [he]
  obtain ⟨_, h2, h3, h4⟩ := firstF_some _ _ _ _ he
  rw [hx]
  constructor
  · intro h
    cases hf : firstF (sameName fs fs[j].name) j 0 with
    | some _ => rfl
    | none =>
      have := (firstF_none _ j 0).1 hf i (by omega)
      rw [Nat.zero_add, h3] at this; cases this
  · intro h
    cases hf : firstF (sameName fs fs[j].name) j 0 with
    | none => rw [hf] at h; cases h
    | some l =>
      obtain ⟨_, g2, g3, _⟩ := firstF_some _ _ _ _ hf
      rcases Nat.lt_or_ge i j with h5 | h5
      · omega
      · rw [h4 l (Nat.zero_le _) (by omega)] at g3; cases g3

theorem r_schemaValid (m : Nat) (ty : List Nat) (fs : List Fi) (hl : fs.length ≤ 20) : runH h11 (evH tabS (m + 24)) (m + 24) [.t 2] true [.p (.agg [.str ty, .slice 7 (fs.map Fi.e)])] [] = some (.p (.bool (scOk ⟨ty, fs⟩)), []) := by
  have L := fun (ke : Nat → K) (kr : K) => loop_find (m := 0) (live := [1, 16, 17, 18]) (body := fun tm hp k => l11_1 (evH tabS (m + 24)) (m + 24) 0 tm hp k ke kr) fs.length
    (fun j => .cons 1 (.box 0 0) (.cons 16 (.p (.slice 7 (fs.map Fi.e))) (.cons 17 (.p (.int .i64 fs.length)) (.cons 18 (.p (.int .i64 (j : Nat))) .nil)))) (fun _ => [.box [.p (.str ty), .p (.slice 7 (fs.map Fi.e))]])
    (fun j => .cons 1 (.box 0 0) (.cons 16 (.p (.slice 7 (fs.map Fi.e))) (.cons 17 (.p (.int .i64 fs.length)) (.cons 18 (.p (.int .i64 (j + 1 : Nat))) .nil)))) (fun j => [.box [.p (.str ty), .p (.slice 7 (fs.map Fi.e))], .box (mapP (cells ((fs[j]?.getD ⟨[], 0, ⟨0, 0, [], [], []⟩⟩).e)))])
    (okField fs) (fun j => kr (.cons 2 (.p (.bool false)) .nil) [.box [.p (.str ty), .p (.slice 7 (fs.map Fi.e))], .box (mapP (cells ((fs[j]?.getD ⟨[], 0, ⟨0, 0, [], [], []⟩⟩).e)))]) (ke 0 (.cons 1 (.box 0 0) (.cons 16 (.p (.slice 7 (fs.map Fi.e))) (.cons 17 (.p (.int .i64 fs.length)) (.cons 18 (.p (.int .i64 fs.length)) (.cons 19 (.p (.bool false)) .nil))))) [.box [.p (.str ty), .p (.slice 7 (fs.map Fi.e))]])
    (fun j _ => by kernel_rfl)
    (fun j kn hj => by
      simp -implicitDefEqProofs (maxSteps := 1000000) only [l11_1, go_sem, ↓reduceIte, Nat.reduceEqDiff, Nat.reduceAdd, Nat.reduceSub, Nat.reduceBEq, Int.reduceEq, Int.reduceLT, Int.reduceLE, Int.reduceNeg, Nat.reduceLeDiff, at_map _ fs j hj, wrap_succ j (by omega), Int.ofNat_lt.mpr hj, List.getElem?_eq_getElem hj, Option.getD_some, g_validName, g_wireValid, g_fieldIndex, hl, fieldIx_lt fs j hj, v_eta, okField]
      generalize kn _ _ = A
      generalize kr _ _ = B
      grind)
    (fun kn => by
      simp -implicitDefEqProofs (maxSteps := 1000000) only [l11_1, go_sem, ↓reduceIte, Nat.reduceEqDiff, Nat.reduceAdd, Nat.reduceSub, Nat.reduceBEq, Int.reduceEq, Int.reduceLT, Int.reduceLE, Int.reduceNeg, Nat.reduceLeDiff, Int.lt_irrefl, if_false]) (m + 24)
    (.cons 1 (.box 0 0) (.cons 16 (.p (.slice 7 (fs.map Fi.e))) (.cons 17 (.p (.int .i64 fs.length)) (.cons 18 (.p (.int .i64 0)) .nil)))) [.box [.p (.str ty), .p (.slice 7 (fs.map Fi.e))]] (by omega) (by kernel_rfl)
  simp -implicitDefEqProofs (maxSteps := 1000000) only [h11, go_sem, ↓reduceIte, Nat.reduceEqDiff, Nat.reduceAdd, Nat.reduceSub, Nat.reduceBEq, Int.reduceEq, Int.reduceLT, Int.reduceLE, Int.reduceNeg, Nat.reduceLeDiff, L, findR_const, g_validName]
  simp only [ite_ans]
  apply ans
  unfold scOk
  grind
theorem q_schemaValid (m : Nat) (ty : List Nat) (fs : List Fi) (hl : fs.length ≤ 20) : evH tabS (m + 25) 11 [.p (.agg [.str ty, .slice 7 (fs.map Fi.e)])] [] = some (.p (.bool (scOk ⟨ty, fs⟩)), []) := (evH_code (show tabS 11 = some (.code h11 [.t 2] true) by kernel_rfl) (m + 24) _ _).trans (r_schemaValid m ty fs hl)
theorem g_schemaValid (m : Nat) (ty : List Nat) (fs : List Fi) (hl : fs.length ≤ 20) (raw : Bool) (hp : List Ob) (K : KV) : callG (evH tabS (m + 25)) 11 raw [.p (.agg [.str ty, .slice 7 (fs.map Fi.e)])] hp K = if (scOk ⟨ty, fs⟩) = true then K (.p (.bool true)) hp else K (.p (.bool false)) hp := call_bool rfl (q_schemaValid m ty fs hl)
theorem gF_schemaValid (m : Nat) (ty : List Nat) (fs : List Fi) (hl : fs.length ≤ 20) (raw : Bool) (hp : List Ob) (K : KF) : callF (evH tabS (m + 25)) 11 raw [.p (.agg [.str ty, .slice 7 (fs.map Fi.e)])] hp K = if (scOk ⟨ty, fs⟩) = true then K (.p (.bool true)) hp (footE hp) else K (.p (.bool false)) hp (footE hp) := callF_bool rfl (q_schemaValid m ty fs hl)


theorem r_refSchemaValid (m : Nat) (ty : List Nat) (fs : List Fi) (hl : fs.length ≤ 20) : runH h12 (evH tabS (m + 24)) (m + 24) [.t 2] true [.p (.agg [.str ty, .slice 7 (fs.map Fi.e)])] [] = some (.p (.bool (scOk ⟨ty, fs⟩)), []) := by
  have L1 := fun (i : Nat) (f : Fi) (hi : i < fs.length) (ke : Nat → K) (kr : K) => loop_find (m := 0) (live := [1, 3, 4, 5]) (body := fun tm hp k => l12_1 (evH tabS (m + 24)) (m + 24) 0 tm hp k ke kr) i
    (fun j => .cons 1 (.box 0 0) (.cons 3 (.p (.int .i64 i)) (.cons 4 (.box 1 0) (.cons 5 (.p (.int .i64 (j : Nat))) .nil)))) (fun _ => [.box [.p (.str ty), .p (.slice 7 (fs.map Fi.e))], .box (mapP (cells f.e))])
    (fun j => .cons 1 (.box 0 0) (.cons 3 (.p (.int .i64 i)) (.cons 4 (.box 1 0) (.cons 5 (.p (.int .i64 (j + 1 : Nat))) .nil)))) (fun _ => [.box [.p (.str ty), .p (.slice 7 (fs.map Fi.e))], .box (mapP (cells f.e))])
    (sameName fs f.name) (fun _ => kr (.cons 2 (.p (.bool false)) .nil) [.box [.p (.str ty), .p (.slice 7 (fs.map Fi.e))], .box (mapP (cells f.e))]) (ke 2 (.cons 1 (.box 0 0) (.cons 3 (.p (.int .i64 i)) (.cons 4 (.box 1 0) (.cons 5 (.p (.int .i64 i)) (.cons 58 (.p (.bool false)) .nil))))) [.box [.p (.str ty), .p (.slice 7 (fs.map Fi.e))], .box (mapP (cells f.e))])
    (fun j _ => by kernel_rfl)
    (fun j kn hj => by
      simp -implicitDefEqProofs (maxSteps := 1000000) only [l12_1, go_sem, ↓reduceIte, Nat.reduceEqDiff, Nat.reduceAdd, Nat.reduceSub, Nat.reduceBEq, Int.reduceEq, Int.reduceLT, Int.reduceLE, Int.reduceNeg, Nat.reduceLeDiff, at_map _ fs j (Nat.lt_trans hj hi), wrap_succ j (by omega), Int.ofNat_lt.mpr hj, List.getElem?_eq_getElem (Nat.lt_trans hj hi), sameName, Option.map_some, Option.some.injEq])
    (fun kn => by
      simp -implicitDefEqProofs (maxSteps := 1000000) only [l12_1, go_sem, ↓reduceIte, Nat.reduceEqDiff, Nat.reduceAdd, Nat.reduceSub, Nat.reduceBEq, Int.reduceEq, Int.reduceLT, Int.reduceLE, Int.reduceNeg, Nat.reduceLeDiff, Int.lt_irrefl, if_false]) (m + 24)
    (.cons 1 (.box 0 0) (.cons 3 (.p (.int .i64 i)) (.cons 4 (.box 1 0) (.cons 5 (.p (.int .i64 0)) .nil)))) [.box [.p (.str ty), .p (.slice 7 (fs.map Fi.e))], .box (mapP (cells f.e))] (by omega) (by kernel_rfl)
  have L := fun (ke : Nat → K) (kr : K) => loop_find (m := 0) (live := [1, 3]) (body := fun tm hp k => l12_2 (evH tabS (m + 24)) (m + 24) 0 tm hp k ke kr) fs.length
    (fun j => .cons 1 (.box 0 0) (.cons 3 (.p (.int .i64 (j : Nat))) .nil)) (fun _ => [.box [.p (.str ty), .p (.slice 7 (fs.map Fi.e))]])
    (fun j => .cons 1 (.box 0 0) (.cons 3 (.p (.int .i64 (j + 1 : Nat))) .nil)) (fun j => [.box [.p (.str ty), .p (.slice 7 (fs.map Fi.e))], .box (mapP (cells ((fs[j]?.getD ⟨[], 0, ⟨0, 0, [], [], []⟩⟩).e)))])
    (okField fs) (fun j => kr (.cons 2 (.p (.bool false)) .nil) [.box [.p (.str ty), .p (.slice 7 (fs.map Fi.e))], .box (mapP (cells ((fs[j]?.getD ⟨[], 0, ⟨0, 0, [], [], []⟩⟩).e)))]) (ke 0 (.cons 1 (.box 0 0) (.cons 3 (.p (.int .i64 fs.length)) (.cons 20 (.p (.bool false)) .nil))) [.box [.p (.str ty), .p (.slice 7 (fs.map Fi.e))]])
    (fun j _ => by kernel_rfl)
    (fun j kn hj => by
      have L1 := L1 j fs[j] hj
      simp -implicitDefEqProofs (maxSteps := 1000000) only [go_sem, ↓reduceIte, Nat.reduceEqDiff, Nat.reduceAdd, Nat.reduceSub, Nat.reduceBEq, Int.reduceEq, Int.reduceLT, Int.reduceLE, Int.reduceNeg, Nat.reduceLeDiff] at L1
      simp -implicitDefEqProofs (maxSteps := 1000000) only [l12_2, go_sem, ↓reduceIte, Nat.reduceEqDiff, Nat.reduceAdd, Nat.reduceSub, Nat.reduceBEq, Int.reduceEq, Int.reduceLT, Int.reduceLE, Int.reduceNeg, Nat.reduceLeDiff, at_map _ fs j hj, wrap_succ j (by omega), Int.ofNat_lt.mpr hj, List.getElem?_eq_getElem hj, Option.getD_some, g_ValidName, g_refValid, hl, v_eta, okField, L1, findR_const]
      generalize kn _ _ = A
      generalize kr _ _ = B
      grind)
    (fun kn => by
      simp -implicitDefEqProofs (maxSteps := 1000000) only [l12_2, go_sem, ↓reduceIte, Nat.reduceEqDiff, Nat.reduceAdd, Nat.reduceSub, Nat.reduceBEq, Int.reduceEq, Int.reduceLT, Int.reduceLE, Int.reduceNeg, Nat.reduceLeDiff, Int.lt_irrefl, if_false]) (m + 24)
    (.cons 1 (.box 0 0) (.cons 3 (.p (.int .i64 0)) .nil)) [.box [.p (.str ty), .p (.slice 7 (fs.map Fi.e))]] (by omega) (by kernel_rfl)
  simp -implicitDefEqProofs (maxSteps := 1000000) only [h12, go_sem, ↓reduceIte, Nat.reduceEqDiff, Nat.reduceAdd, Nat.reduceSub, Nat.reduceBEq, Int.reduceEq, Int.reduceLT, Int.reduceLE, Int.reduceNeg, Nat.reduceLeDiff, L, findR_const, g_ValidName]
  simp only [ite_ans]
  apply ans
  unfold scOk
  grind
theorem q_refSchemaValid (m : Nat) (ty : List Nat) (fs : List Fi) (hl : fs.length ≤ 20) : evH tabS (m + 25) 12 [.p (.agg [.str ty, .slice 7 (fs.map Fi.e)])] [] = some (.p (.bool (scOk ⟨ty, fs⟩)), []) := (evH_code (show tabS 12 = some (.code h12 [.t 2] true) by kernel_rfl) (m + 24) _ _).trans (r_refSchemaValid m ty fs hl)
theorem g_refSchemaValid (m : Nat) (ty : List Nat) (fs : List Fi) (hl : fs.length ≤ 20) (raw : Bool) (hp : List Ob) (K : KV) : callG (evH tabS (m + 25)) 12 raw [.p (.agg [.str ty, .slice 7 (fs.map Fi.e)])] hp K = if (scOk ⟨ty, fs⟩) = true then K (.p (.bool true)) hp else K (.p (.bool false)) hp := call_bool rfl (q_refSchemaValid m ty fs hl)
theorem gF_refSchemaValid (m : Nat) (ty : List Nat) (fs : List Fi) (hl : fs.length ≤ 20) (raw : Bool) (hp : List Ob) (K : KF) : callF (evH tabS (m + 25)) 12 raw [.p (.agg [.str ty, .slice 7 (fs.map Fi.e)])] hp K = if (scOk ⟨ty, fs⟩) = true then K (.p (.bool true)) hp (footE hp) else K (.p (.bool false)) hp (footE hp) := callF_bool rfl (q_refSchemaValid m ty fs hl)

end Go.Ab
end
/- Runs with letters: valid states, initial states, the law SchemaStates. -/
section
namespace Go.Ab
open Go
set_option maxHeartbeats 1000000

/-- Is the value at that place valid, and of the field's kind? -/
def okValue (fs : List Fi) (vs : List V) (j : Nat) : Bool :=
  match vs[j]?, fs[j]? with
  | some v, some f => decide (v.k = f.kind) && vOk v
  | _, _ => false
def stateOk (s : Sc) (vs : List V) : Bool := scOk s && decide (vs.length = s.fields.length) && (firstF (okValue s.fields vs) vs.length 0).isNone

theorem r_validState (m : Nat) (ty : List Nat) (fs : List Fi) (vs : List V) (hl : fs.length ≤ 20) (hv : vs.length ≤ 20) : runH h13 (evH tabS (m + 25)) (m + 25) [.t 4] true [.p (.agg [.str ty, .slice 7 (fs.map Fi.e)]), .p (.slice 5 (vs.map V.e))] [] = some (.p (.bool (stateOk ⟨ty, fs⟩ vs)), []) := by
  by_cases he : vs.length = fs.length
  · have L := fun (ke : Nat → K) (kr : K) => loop_find (m := 0) (live := [2, 18, 19, 20]) (body := fun tm hp k => l13_1 (evH tabS (m + 25)) (m + 25) 0 tm hp k ke kr) vs.length
      (fun j => .cons 2 (.box 0 0) (.cons 18 (.p (.slice 5 (vs.map V.e))) (.cons 19 (.p (.int .i64 vs.length)) (.cons 20 (.p (.int .i64 (j : Nat))) .nil)))) (fun _ => [.box [.p (.str ty), .p (.slice 7 (fs.map Fi.e))]])
      (fun j => .cons 2 (.box 0 0) (.cons 18 (.p (.slice 5 (vs.map V.e))) (.cons 19 (.p (.int .i64 vs.length)) (.cons 20 (.p (.int .i64 (j + 1 : Nat))) .nil)))) (fun j => [.box [.p (.str ty), .p (.slice 7 (fs.map Fi.e))], .box (mapP (cells ((vs[j]?.getD ⟨0, 0, [], [], []⟩).e)))])
      (okValue fs vs) (fun j => kr (.cons 4 (.p (.bool false)) .nil) [.box [.p (.str ty), .p (.slice 7 (fs.map Fi.e))], .box (mapP (cells ((vs[j]?.getD ⟨0, 0, [], [], []⟩).e)))]) (ke 0 (.cons 2 (.box 0 0) (.cons 18 (.p (.slice 5 (vs.map V.e))) (.cons 19 (.p (.int .i64 vs.length)) (.cons 20 (.p (.int .i64 vs.length)) (.cons 21 (.p (.bool false)) .nil))))) [.box [.p (.str ty), .p (.slice 7 (fs.map Fi.e))]])
      (fun j _ => by kernel_rfl)
      (fun j kn hj => by
        simp -implicitDefEqProofs (maxSteps := 1000000) only [l13_1, go_sem, ↓reduceIte, Nat.reduceEqDiff, Nat.reduceAdd, Nat.reduceSub, Nat.reduceBEq, Int.reduceEq, Int.reduceLT, Int.reduceLE, Int.reduceNeg, Nat.reduceLeDiff, at_map _ vs j hj, at_map _ fs j (he ▸ hj), wrap_succ j (by omega), Int.ofNat_lt.mpr hj, List.getElem?_eq_getElem hj, List.getElem?_eq_getElem (show j < fs.length from he ▸ hj), Option.getD_some, gF_wireValid, v_eta, okValue]
        generalize kn _ _ = A
        generalize kr _ _ = B
        grind)
      (fun kn => by
        simp -implicitDefEqProofs (maxSteps := 1000000) only [l13_1, go_sem, ↓reduceIte, Nat.reduceEqDiff, Nat.reduceAdd, Nat.reduceSub, Nat.reduceBEq, Int.reduceEq, Int.reduceLT, Int.reduceLE, Int.reduceNeg, Nat.reduceLeDiff, Int.lt_irrefl, if_false]) (m + 25)
      (.cons 2 (.box 0 0) (.cons 18 (.p (.slice 5 (vs.map V.e))) (.cons 19 (.p (.int .i64 vs.length)) (.cons 20 (.p (.int .i64 0)) .nil)))) [.box [.p (.str ty), .p (.slice 7 (fs.map Fi.e))]] (by omega) (by kernel_rfl)
    have heT : ((vs.length : Int) = fs.length) = True := eq_true (by omega)
    simp -implicitDefEqProofs (maxSteps := 1000000) only [h13, go_sem, ↓reduceIte, Nat.reduceEqDiff, Nat.reduceAdd, Nat.reduceSub, Nat.reduceBEq, Int.reduceEq, Int.reduceLT, Int.reduceLE, Int.reduceNeg, Nat.reduceLeDiff, L, findR_const, g_schemaValid, hl, heT]
    simp only [ite_ans]
    apply ans
    unfold stateOk
    simp only [he]
    grind
  · have he' : ¬ ((vs.length : Int) = fs.length) := by omega
    simp -implicitDefEqProofs (maxSteps := 1000000) only [h13, go_sem, ↓reduceIte, Nat.reduceEqDiff, Nat.reduceAdd, Nat.reduceSub, Nat.reduceBEq, Int.reduceEq, Int.reduceLT, Int.reduceLE, Int.reduceNeg, Nat.reduceLeDiff, findR_const, g_schemaValid, hl, he', ite_self]
    apply ans
    unfold stateOk
    grind
theorem q_validState (m : Nat) (ty : List Nat) (fs : List Fi) (vs : List V) (hl : fs.length ≤ 20) (hv : vs.length ≤ 20) : evH tabS (m + 26) 13 [.p (.agg [.str ty, .slice 7 (fs.map Fi.e)]), .p (.slice 5 (vs.map V.e))] [] = some (.p (.bool (stateOk ⟨ty, fs⟩ vs)), []) := (evH_code (show tabS 13 = some (.code h13 [.t 4] true) by kernel_rfl) (m + 25) _ _).trans (r_validState m ty fs vs hl hv)
theorem g_validState (m : Nat) (ty : List Nat) (fs : List Fi) (vs : List V) (hl : fs.length ≤ 20) (hv : vs.length ≤ 20) (raw : Bool) (hp : List Ob) (K : KV) : callG (evH tabS (m + 26)) 13 raw [.p (.agg [.str ty, .slice 7 (fs.map Fi.e)]), .p (.slice 5 (vs.map V.e))] hp K = if (stateOk ⟨ty, fs⟩ vs) = true then K (.p (.bool true)) hp else K (.p (.bool false)) hp := call_bool rfl (q_validState m ty fs vs hl hv)
theorem gF_validState (m : Nat) (ty : List Nat) (fs : List Fi) (vs : List V) (hl : fs.length ≤ 20) (hv : vs.length ≤ 20) (raw : Bool) (hp : List Ob) (K : KF) : callF (evH tabS (m + 26)) 13 raw [.p (.agg [.str ty, .slice 7 (fs.map Fi.e)]), .p (.slice 5 (vs.map V.e))] hp K = if (stateOk ⟨ty, fs⟩ vs) = true then K (.p (.bool true)) hp (footE hp) else K (.p (.bool false)) hp (footE hp) := callF_bool rfl (q_validState m ty fs vs hl hv)


theorem r_refValidState (m : Nat) (ty : List Nat) (fs : List Fi) (vs : List V) (hl : fs.length ≤ 20) (hv : vs.length ≤ 20) : runH h14 (evH tabS (m + 25)) (m + 25) [.t 4] true [.p (.agg [.str ty, .slice 7 (fs.map Fi.e)]), .p (.slice 5 (vs.map V.e))] [] = some (.p (.bool (stateOk ⟨ty, fs⟩ vs)), []) := by
  by_cases he : vs.length = fs.length
  · have L := fun (ke : Nat → K) (kr : K) => loop_find (m := 0) (live := [1, 2, 5]) (body := fun tm hp k => l14_1 (evH tabS (m + 25)) (m + 25) 0 tm hp k ke kr) vs.length
      (fun j => .cons 1 (.p (.slice 5 (vs.map V.e))) (.cons 2 (.box 0 0) (.cons 5 (.p (.int .i64 (j : Nat))) .nil))) (fun _ => [.box [.p (.str ty), .p (.slice 7 (fs.map Fi.e))]])
      (fun j => .cons 1 (.p (.slice 5 (vs.map V.e))) (.cons 2 (.box 0 0) (.cons 5 (.p (.int .i64 (j + 1 : Nat))) .nil))) (fun _ => [.box [.p (.str ty), .p (.slice 7 (fs.map Fi.e))]])
      (okValue fs vs) (fun _ => kr (.cons 4 (.p (.bool false)) .nil) [.box [.p (.str ty), .p (.slice 7 (fs.map Fi.e))]]) (ke 0 (.cons 1 (.p (.slice 5 (vs.map V.e))) (.cons 2 (.box 0 0) (.cons 5 (.p (.int .i64 vs.length)) (.cons 20 (.p (.bool false)) .nil)))) [.box [.p (.str ty), .p (.slice 7 (fs.map Fi.e))]])
      (fun j _ => by kernel_rfl)
      (fun j kn hj => by
        simp -implicitDefEqProofs (maxSteps := 1000000) only [l14_1, go_sem, ↓reduceIte, Nat.reduceEqDiff, Nat.reduceAdd, Nat.reduceSub, Nat.reduceBEq, Int.reduceEq, Int.reduceLT, Int.reduceLE, Int.reduceNeg, Nat.reduceLeDiff, at_map _ vs j hj, at_map _ fs j (he ▸ hj), wrap_succ j (by omega), Int.ofNat_lt.mpr hj, List.getElem?_eq_getElem hj, List.getElem?_eq_getElem (show j < fs.length from he ▸ hj), Option.getD_some, gF_refValid, v_eta, okValue]
        generalize kn _ _ = A
        generalize kr _ _ = B
        grind)
      (fun kn => by
        simp -implicitDefEqProofs (maxSteps := 1000000) only [l14_1, go_sem, ↓reduceIte, Nat.reduceEqDiff, Nat.reduceAdd, Nat.reduceSub, Nat.reduceBEq, Int.reduceEq, Int.reduceLT, Int.reduceLE, Int.reduceNeg, Nat.reduceLeDiff, Int.lt_irrefl, if_false]) (m + 25)
      (.cons 1 (.p (.slice 5 (vs.map V.e))) (.cons 2 (.box 0 0) (.cons 5 (.p (.int .i64 0)) .nil))) [.box [.p (.str ty), .p (.slice 7 (fs.map Fi.e))]] (by omega) (by kernel_rfl)
    have heT : ((vs.length : Int) = fs.length) = True := eq_true (by omega)
    simp -implicitDefEqProofs (maxSteps := 1000000) only [h14, go_sem, ↓reduceIte, Nat.reduceEqDiff, Nat.reduceAdd, Nat.reduceSub, Nat.reduceBEq, Int.reduceEq, Int.reduceLT, Int.reduceLE, Int.reduceNeg, Nat.reduceLeDiff, L, findR_const, g_refSchemaValid, hl, heT]
    simp only [ite_ans]
    apply ans
    unfold stateOk
    simp only [he]
    grind
  · have he' : ¬ ((vs.length : Int) = fs.length) := by omega
    simp -implicitDefEqProofs (maxSteps := 1000000) only [h14, go_sem, ↓reduceIte, Nat.reduceEqDiff, Nat.reduceAdd, Nat.reduceSub, Nat.reduceBEq, Int.reduceEq, Int.reduceLT, Int.reduceLE, Int.reduceNeg, Nat.reduceLeDiff, findR_const, g_refSchemaValid, hl, he', ite_self]
    apply ans
    unfold stateOk
    grind
theorem q_refValidState (m : Nat) (ty : List Nat) (fs : List Fi) (vs : List V) (hl : fs.length ≤ 20) (hv : vs.length ≤ 20) : evH tabS (m + 26) 14 [.p (.agg [.str ty, .slice 7 (fs.map Fi.e)]), .p (.slice 5 (vs.map V.e))] [] = some (.p (.bool (stateOk ⟨ty, fs⟩ vs)), []) := (evH_code (show tabS 14 = some (.code h14 [.t 4] true) by kernel_rfl) (m + 25) _ _).trans (r_refValidState m ty fs vs hl hv)
theorem g_refValidState (m : Nat) (ty : List Nat) (fs : List Fi) (vs : List V) (hl : fs.length ≤ 20) (hv : vs.length ≤ 20) (raw : Bool) (hp : List Ob) (K : KV) : callG (evH tabS (m + 26)) 14 raw [.p (.agg [.str ty, .slice 7 (fs.map Fi.e)]), .p (.slice 5 (vs.map V.e))] hp K = if (stateOk ⟨ty, fs⟩ vs) = true then K (.p (.bool true)) hp else K (.p (.bool false)) hp := call_bool rfl (q_refValidState m ty fs vs hl hv)
theorem gF_refValidState (m : Nat) (ty : List Nat) (fs : List Fi) (vs : List V) (hl : fs.length ≤ 20) (hv : vs.length ≤ 20) (raw : Bool) (hp : List Ob) (K : KF) : callF (evH tabS (m + 26)) 14 raw [.p (.agg [.str ty, .slice 7 (fs.map Fi.e)]), .p (.slice 5 (vs.map V.e))] hp K = if (stateOk ⟨ty, fs⟩ vs) = true then K (.p (.bool true)) hp (footE hp) else K (.p (.bool false)) hp (footE hp) := callF_bool rfl (q_refValidState m ty fs vs hl hv)

theorem r_small (m : Nat) (ty : List Nat) (fs : List Fi) : runH h10 (evH tabS (m + 0)) (m + 0) [.t 2] true [.p (.agg [.str ty, .slice 7 (fs.map Fi.e)])] [] = some (.p (.bool (decide (fs.length ≤ 20))), []) := by
  simp -implicitDefEqProofs (maxSteps := 1000000) only [h10, go_sem, ↓reduceIte, Nat.reduceEqDiff, Nat.reduceAdd, Nat.reduceSub, Nat.reduceBEq, Int.reduceEq, Int.reduceLT, Int.reduceLE, Int.reduceNeg, Nat.reduceLeDiff]
  simp only [ite_ans]
  apply ans
  grind
theorem q_small (m : Nat) (ty : List Nat) (fs : List Fi) : evH tabS (m + 1) 10 [.p (.agg [.str ty, .slice 7 (fs.map Fi.e)])] [] = some (.p (.bool (decide (fs.length ≤ 20))), []) := (evH_code (show tabS 10 = some (.code h10 [.t 2] true) by kernel_rfl) (m + 0) _ _).trans (r_small m ty fs)
theorem g_small (m : Nat) (ty : List Nat) (fs : List Fi) (raw : Bool) (hp : List Ob) (K : KV) : callG (evH tabS (m + 1)) 10 raw [.p (.agg [.str ty, .slice 7 (fs.map Fi.e)])] hp K = if (decide (fs.length ≤ 20)) = true then K (.p (.bool true)) hp else K (.p (.bool false)) hp := call_bool rfl (q_small m ty fs)
theorem gF_small (m : Nat) (ty : List Nat) (fs : List Fi) (raw : Bool) (hp : List Ob) (K : KF) : callF (evH tabS (m + 1)) 10 raw [.p (.agg [.str ty, .slice 7 (fs.map Fi.e)])] hp K = if (decide (fs.length ≤ 20)) = true then K (.p (.bool true)) hp (footE hp) else K (.p (.bool false)) hp (footE hp) := callF_bool rfl (q_small m ty fs)


theorem vOk_len {v : V} (h : vOk v = true) : v.is.length ≤ 1000 ∧ v.ls.length ≤ 1000 := by
  unfold vOk at h
  simp only [Bool.and_eq_true, decide_eq_true_eq] at h
  omega
theorem scOk_len {s : Sc} (h : scOk s = true) : s.fields.length ≤ 8 := by
  unfold scOk at h
  simp only [Bool.and_eq_true, decide_eq_true_eq] at h
  exact h.1.2
theorem scOk_init {s : Sc} (h : scOk s = true) (j : Nat) (hj : j < s.fields.length) : vOk s.fields[j].init = true := by
  unfold scOk at h
  simp only [Bool.and_eq_true, Option.isNone_iff_eq_none] at h
  have := (firstF_none _ _ _).1 h.2 j hj
  rw [Nat.zero_add] at this
  simp only [okField, List.getElem?_eq_getElem hj, Bool.and_eq_true] at this
  exact this.1.2
/-- The initial state. -/
def initOf (s : Sc) : List V := if scOk s = true then s.fields.map Fi.init else []

theorem r_initial (m : Nat) (ty : List Nat) (fs : List Fi) (hl : fs.length ≤ 20) : runH h16 (evH tabS (m + 25)) (m + 25) [.t 2] true [.p (.agg [.str ty, .slice 7 (fs.map Fi.e)])] [] = some (.p (.slice 5 ((initOf ⟨ty, fs⟩).map V.e)), []) := by
  by_cases hs : scOk ⟨ty, fs⟩ = true
  · have L := fun (ke : Nat → K) (kr : K) => loop_map (m := 0) (live := [3, 10, 11, 12]) (body := fun tm hp k => l16_1 (evH tabS (m + 25)) (m + 25) 0 tm hp k ke kr) fs.length
      (fun j => .cons 3 (.arr 0 0 j 5) (.cons 10 (.p (.slice 7 (fs.map Fi.e))) (.cons 11 (.p (.int .i64 fs.length)) (.cons 12 (.p (.int .i64 (j : Nat))) .nil)))) (fun j => [.arr ((fs.take j).map fun f => f.init.e)])
      (fun j => .cons 3 (.arr 2 0 (j + 1) 5) (.cons 10 (.p (.slice 7 (fs.map Fi.e))) (.cons 11 (.p (.int .i64 fs.length)) (.cons 12 (.p (.int .i64 (j + 1 : Nat))) .nil)))) (fun j => [.dead, .box (mapP (cells ((fs[j]?.getD ⟨[], 0, ⟨0, 0, [], [], []⟩⟩).e))), .arr ((fs.take (j + 1)).map fun f => f.init.e)])
      (ke 0 (.cons 3 (.arr 0 0 fs.length 5) (.cons 10 (.p (.slice 7 (fs.map Fi.e))) (.cons 11 (.p (.int .i64 fs.length)) (.cons 12 (.p (.int .i64 fs.length)) (.cons 13 (.p (.bool false)) .nil))))) [.arr ((fs.take fs.length).map fun f => f.init.e)])
      (fun j _ => by kernel_rfl)
      (fun j kn hj => by
        have hv := vOk_len (scOk_init hs j hj)
        have hlen : (fs.take j).length = j := by rw [List.length_take]; omega
        rw [← take_snoc (fun f => f.init.e) fs j hj]
        simp -implicitDefEqProofs (maxSteps := 1000000) only [l16_1, go_sem, ↓reduceIte, Nat.reduceEqDiff, Nat.reduceAdd, Nat.reduceSub, Nat.reduceBEq, Int.reduceEq, Int.reduceLT, Int.reduceLE, Int.reduceNeg, Nat.reduceLeDiff, at_map _ fs j hj, wrap_succ j (by omega), Int.ofNat_lt.mpr hj, List.getElem?_eq_getElem hj, Option.getD_some, g_cloneValue, hv.1, hv.2, app_own0, hlen, show j ≤ 1000 by omega])
      (fun kn => by
        simp -implicitDefEqProofs (maxSteps := 1000000) only [l16_1, go_sem, ↓reduceIte, Nat.reduceEqDiff, Nat.reduceAdd, Nat.reduceSub, Nat.reduceBEq, Int.reduceEq, Int.reduceLT, Int.reduceLE, Int.reduceNeg, Nat.reduceLeDiff, Int.lt_irrefl, if_false]) (m + 25)
      (.cons 3 (.arr 1 0 0 5) (.cons 3 (.sl .nil 5 []) (.cons 10 (.p (.slice 7 (fs.map Fi.e))) (.cons 11 (.p (.int .i64 fs.length)) (.cons 12 (.p (.int .i64 0)) .nil))))) [.box [.p (.str ty), .p (.slice 7 (fs.map Fi.e))], .arr []] (by omega) (by kernel_rfl)
    simp -implicitDefEqProofs (maxSteps := 1000000) only [h16, go_sem, ↓reduceIte, Nat.reduceEqDiff, Nat.reduceAdd, Nat.reduceSub, Nat.reduceBEq, Int.reduceEq, Int.reduceLT, Int.reduceLE, Int.reduceNeg, Nat.reduceLeDiff, L, g_schemaValid, hl, hs, List.take_length, finK_arr0]
    simp only [initOf, hs, if_true, List.map_map]
    rfl
  · simp -implicitDefEqProofs (maxSteps := 1000000) only [h16, go_sem, ↓reduceIte, Nat.reduceEqDiff, Nat.reduceAdd, Nat.reduceSub, Nat.reduceBEq, Int.reduceEq, Int.reduceLT, Int.reduceLE, Int.reduceNeg, Nat.reduceLeDiff, g_schemaValid, hl, hs]
    simp only [initOf, hs]
    rfl
theorem q_initial (m : Nat) (ty : List Nat) (fs : List Fi) (hl : fs.length ≤ 20) : evH tabS (m + 26) 16 [.p (.agg [.str ty, .slice 7 (fs.map Fi.e)])] [] = some (.p (.slice 5 ((initOf ⟨ty, fs⟩).map V.e)), []) := (evH_code (show tabS 16 = some (.code h16 [.t 2] true) by kernel_rfl) (m + 25) _ _).trans (r_initial m ty fs hl)
theorem g_initial (m : Nat) (ty : List Nat) (fs : List Fi) (hl : fs.length ≤ 20) (raw : Bool) (hp : List Ob) (K : KV) : callG (evH tabS (m + 26)) 16 raw [.p (.agg [.str ty, .slice 7 (fs.map Fi.e)])] hp K = K (.p (.slice 5 ((initOf ⟨ty, fs⟩).map V.e))) hp := call_known rfl (q_initial m ty fs hl) rfl
theorem gF_initial (m : Nat) (ty : List Nat) (fs : List Fi) (hl : fs.length ≤ 20) (raw : Bool) (hp : List Ob) (K : KF) : callF (evH tabS (m + 26)) 16 raw [.p (.agg [.str ty, .slice 7 (fs.map Fi.e)])] hp K = K (.p (.slice 5 ((initOf ⟨ty, fs⟩).map V.e))) hp (footE hp) := callF_known rfl (q_initial m ty fs hl) rfl


theorem r_refInitial (m : Nat) (ty : List Nat) (fs : List Fi) (hl : fs.length ≤ 20) : runH h17 (evH tabS (m + 25)) (m + 25) [.t 2] true [.p (.agg [.str ty, .slice 7 (fs.map Fi.e)])] [] = some (.p (.slice 5 ((initOf ⟨ty, fs⟩).map V.e)), []) := by
  by_cases hs : scOk ⟨ty, fs⟩ = true
  · have L := fun (ke : Nat → K) (kr : K) => loop_map (m := 0) (live := [1, 3, 4]) (body := fun tm hp k => l17_1 (evH tabS (m + 25)) (m + 25) 0 tm hp k ke kr) fs.length
      (fun j => .cons 1 (.box 0 0) (.cons 3 (.arr 1 0 j 5) (.cons 4 (.p (.int .i64 (j : Nat))) .nil))) (fun j => [.box [.p (.str ty), .p (.slice 7 (fs.map Fi.e))], .arr ((fs.take j).map fun f => f.init.e)])
      (fun j => .cons 1 (.box 0 0) (.cons 3 (.arr 2 0 (j + 1) 5) (.cons 4 (.p (.int .i64 (j + 1 : Nat))) .nil))) (fun j => [.box [.p (.str ty), .p (.slice 7 (fs.map Fi.e))], .dead, .arr ((fs.take (j + 1)).map fun f => f.init.e)])
      (ke 0 (.cons 1 (.box 0 0) (.cons 3 (.arr 1 0 fs.length 5) (.cons 4 (.p (.int .i64 fs.length)) (.cons 12 (.p (.bool false)) .nil)))) [.box [.p (.str ty), .p (.slice 7 (fs.map Fi.e))], .arr ((fs.take fs.length).map fun f => f.init.e)])
      (fun j _ => by kernel_rfl)
      (fun j kn hj => by
        have hv := vOk_len (scOk_init hs j hj)
        have hlen : (fs.take j).length = j := by rw [List.length_take]; omega
        rw [← take_snoc (fun f => f.init.e) fs j hj]
        simp -implicitDefEqProofs (maxSteps := 1000000) only [l17_1, go_sem, ↓reduceIte, Nat.reduceEqDiff, Nat.reduceAdd, Nat.reduceSub, Nat.reduceBEq, Int.reduceEq, Int.reduceLT, Int.reduceLE, Int.reduceNeg, Nat.reduceLeDiff, at_map _ fs j hj, wrap_succ j (by omega), Int.ofNat_lt.mpr hj, List.getElem?_eq_getElem hj, Option.getD_some, g_CopyValue, hv.1, hv.2, app_own1, hlen, show j ≤ 1000 by omega])
      (fun kn => by
        simp -implicitDefEqProofs (maxSteps := 1000000) only [l17_1, go_sem, ↓reduceIte, Nat.reduceEqDiff, Nat.reduceAdd, Nat.reduceSub, Nat.reduceBEq, Int.reduceEq, Int.reduceLT, Int.reduceLE, Int.reduceNeg, Nat.reduceLeDiff, Int.lt_irrefl, if_false]) (m + 25)
      (.cons 3 (.arr 1 0 0 5) (.cons 1 (.box 0 0) (.cons 3 (.sl .nil 5 []) (.cons 4 (.p (.int .i64 0)) .nil)))) [.box [.p (.str ty), .p (.slice 7 (fs.map Fi.e))], .arr []] (by omega) (by kernel_rfl)
    simp -implicitDefEqProofs (maxSteps := 1000000) only [h17, go_sem, ↓reduceIte, Nat.reduceEqDiff, Nat.reduceAdd, Nat.reduceSub, Nat.reduceBEq, Int.reduceEq, Int.reduceLT, Int.reduceLE, Int.reduceNeg, Nat.reduceLeDiff, L, g_refSchemaValid, hl, hs, List.take_length, finK_arr1]
    simp only [initOf, hs, if_true, List.map_map]
    rfl
  · simp -implicitDefEqProofs (maxSteps := 1000000) only [h17, go_sem, ↓reduceIte, Nat.reduceEqDiff, Nat.reduceAdd, Nat.reduceSub, Nat.reduceBEq, Int.reduceEq, Int.reduceLT, Int.reduceLE, Int.reduceNeg, Nat.reduceLeDiff, g_refSchemaValid, hl, hs]
    simp only [initOf, hs]
    rfl
theorem q_refInitial (m : Nat) (ty : List Nat) (fs : List Fi) (hl : fs.length ≤ 20) : evH tabS (m + 26) 17 [.p (.agg [.str ty, .slice 7 (fs.map Fi.e)])] [] = some (.p (.slice 5 ((initOf ⟨ty, fs⟩).map V.e)), []) := (evH_code (show tabS 17 = some (.code h17 [.t 2] true) by kernel_rfl) (m + 25) _ _).trans (r_refInitial m ty fs hl)
theorem g_refInitial (m : Nat) (ty : List Nat) (fs : List Fi) (hl : fs.length ≤ 20) (raw : Bool) (hp : List Ob) (K : KV) : callG (evH tabS (m + 26)) 17 raw [.p (.agg [.str ty, .slice 7 (fs.map Fi.e)])] hp K = K (.p (.slice 5 ((initOf ⟨ty, fs⟩).map V.e))) hp := call_known rfl (q_refInitial m ty fs hl) rfl
theorem gF_refInitial (m : Nat) (ty : List Nat) (fs : List Fi) (hl : fs.length ≤ 20) (raw : Bool) (hp : List Ob) (K : KF) : callF (evH tabS (m + 26)) 17 raw [.p (.agg [.str ty, .slice 7 (fs.map Fi.e)])] hp K = K (.p (.slice 5 ((initOf ⟨ty, fs⟩).map V.e))) hp (footE hp) := callF_known rfl (q_refInitial m ty fs hl) rfl


theorem initOf_len {s : Sc} (h : s.fields.length ≤ 20) : (initOf s).length ≤ 20 := by
  unfold initOf; split <;> simp <;> omega
theorem initOf_small {s : Sc} : ∀ v ∈ initOf s, v.is.length ≤ 16 ∧ v.ls.length ≤ 16 := by
  intro v hv
  unfold initOf at hv
  split at hv
  · rename_i hs
    obtain ⟨f, hf, rfl⟩ := List.mem_map.1 hv
    obtain ⟨j, hj, rfl⟩ := List.mem_iff_getElem.1 hf
    have h := scOk_init hs j hj
    unfold vOk at h
    simp only [Bool.and_eq_true, decide_eq_true_eq] at h
    omega
  · simp at hv

theorem g_awake (m : Nat) (raw : Bool) (hp : List Ob) (K : KV) : callG (evH tabS (m + 1)) 9 raw [] hp K = K (.p (.bool true)) hp :=
  call_known rfl ((evH_prim (xs := []) (show tabS 9 = some (.prim (memo [([], some (.p (.bool true), []))])) by kernel_rfl) m).trans (by kernel_rfl)) rfl

theorem r_SchemaStates (m : Nat) (ty : List Nat) (fs : List Fi) (vs : List V) : runH h3 (evH tabS (m + 30)) (m + 30) [.t 4] true [.p (.agg [.str ty, .slice 7 (fs.map Fi.e)]), .p (.slice 5 (vs.map V.e))] [] = some (.p (.bool true), []) := by
  by_cases hl : fs.length ≤ 20
  · by_cases hv : vs.length ≤ 20
    · have u1 : ¬ (20 : Int) < vs.length := by omega
      have u2 := initOf_len (s := ⟨ty, fs⟩) hl
      have u3 := initOf_small (s := ⟨ty, fs⟩)
      have u4 := fun (raw : Bool) (hp : List Ob) (K : KF) => gF_SameValues (m + 7) _ u2 u3 raw hp K
      simp only [Nat.add_assoc, Nat.reduceAdd] at u4
      cases q1 : scOk ⟨ty, fs⟩ <;> cases q2 : stateOk ⟨ty, fs⟩ vs <;> simp -implicitDefEqProofs (maxSteps := 1000000) only [h3, go_sem, ↓reduceIte, Nat.reduceEqDiff, Nat.reduceAdd, Nat.reduceSub, Nat.reduceBEq, Int.reduceEq, Int.reduceLT, Int.reduceLE, Int.reduceNeg, Nat.reduceLeDiff, g_awake, g_small, hl, hv, u1, gF_schemaValid, gF_refSchemaValid, gF_validState, gF_refValidState, gF_initial, gF_refInitial, u4, q1, q2]
    · have u1 : (20 : Int) < vs.length := by omega
      simp -implicitDefEqProofs (maxSteps := 1000000) only [h3, go_sem, ↓reduceIte, Nat.reduceEqDiff, Nat.reduceAdd, Nat.reduceSub, Nat.reduceBEq, Int.reduceEq, Int.reduceLT, Int.reduceLE, Int.reduceNeg, Nat.reduceLeDiff, g_awake, g_small, hl, hv, u1]
  · simp -implicitDefEqProofs (maxSteps := 1000000) only [h3, go_sem, ↓reduceIte, Nat.reduceEqDiff, Nat.reduceAdd, Nat.reduceSub, Nat.reduceBEq, Int.reduceEq, Int.reduceLT, Int.reduceLE, Int.reduceNeg, Nat.reduceLeDiff, g_awake, g_small, hl]
theorem q_SchemaStates (m : Nat) (ty : List Nat) (fs : List Fi) (vs : List V) : evH tabS (m + 31) 3 [.p (.agg [.str ty, .slice 7 (fs.map Fi.e)]), .p (.slice 5 (vs.map V.e))] [] = some (.p (.bool true), []) := (evH_code (show tabS 3 = some (.code h3 [.t 4] true) by kernel_rfl) (m + 30) _ _).trans (r_SchemaStates m ty fs vs)
theorem g_SchemaStates (m : Nat) (ty : List Nat) (fs : List Fi) (vs : List V) (raw : Bool) (hp : List Ob) (K : KV) : callG (evH tabS (m + 31)) 3 raw [.p (.agg [.str ty, .slice 7 (fs.map Fi.e)]), .p (.slice 5 (vs.map V.e))] hp K = if true = true then K (.p (.bool true)) hp else K (.p (.bool false)) hp := call_bool rfl (q_SchemaStates m ty fs vs)
theorem gF_SchemaStates (m : Nat) (ty : List Nat) (fs : List Fi) (vs : List V) (raw : Bool) (hp : List Ob) (K : KF) : callF (evH tabS (m + 31)) 3 raw [.p (.agg [.str ty, .slice 7 (fs.map Fi.e)]), .p (.slice 5 (vs.map V.e))] hp K = if true = true then K (.p (.bool true)) hp (footE hp) else K (.p (.bool false)) hp (footE hp) := callF_bool rfl (q_SchemaStates m ty fs vs)

end Go.Ab
end
/- Runs with letters: valid migrators. -/
section
namespace Go.Ab
open Go
set_option maxHeartbeats 1000000

def opOk (o : Op) : Bool := decide (1 ≤ o.kind ∧ o.kind ≤ 8) && vOk o.arg
theorem r_opBad (m : Nat) (kd : Int) (k : Int) (n : Int) (s : List Nat) (is : List Int) (ls : List (List Nat)) : runH h105 (evH tabS (m + 21)) (m + 21) [.t 2] true [.p (.agg [.int .i64 kd, .int .i64 k, .int .i64 n, .str s, .slice 1 (is.map (.int .i64)), .slice 1 (ls.map .str)])] [] = some (.p (.bool (!opOk ⟨kd, ⟨k, n, s, is, ls⟩⟩)), []) := by
  simp -implicitDefEqProofs (maxSteps := 1000000) only [h105, go_sem, ↓reduceIte, Nat.reduceEqDiff, Nat.reduceAdd, Nat.reduceSub, Nat.reduceBEq, Int.reduceEq, Int.reduceLT, Int.reduceLE, Int.reduceNeg, Nat.reduceLeDiff, g_wireValid]
  simp only [ite_ans]
  apply ans
  unfold opOk
  grind
theorem q_opBad (m : Nat) (kd : Int) (k : Int) (n : Int) (s : List Nat) (is : List Int) (ls : List (List Nat)) : evH tabS (m + 22) 105 [.p (.agg [.int .i64 kd, .int .i64 k, .int .i64 n, .str s, .slice 1 (is.map (.int .i64)), .slice 1 (ls.map .str)])] [] = some (.p (.bool (!opOk ⟨kd, ⟨k, n, s, is, ls⟩⟩)), []) := (evH_code (show tabS 105 = some (.code h105 [.t 2] true) by kernel_rfl) (m + 21) _ _).trans (r_opBad m kd k n s is ls)
theorem g_opBad (m : Nat) (kd : Int) (k : Int) (n : Int) (s : List Nat) (is : List Int) (ls : List (List Nat)) (raw : Bool) (hp : List Ob) (K : KV) : callG (evH tabS (m + 22)) 105 raw [.p (.agg [.int .i64 kd, .int .i64 k, .int .i64 n, .str s, .slice 1 (is.map (.int .i64)), .slice 1 (ls.map .str)])] hp K = if (!opOk ⟨kd, ⟨k, n, s, is, ls⟩⟩) = true then K (.p (.bool true)) hp else K (.p (.bool false)) hp := call_bool rfl (q_opBad m kd k n s is ls)
theorem gF_opBad (m : Nat) (kd : Int) (k : Int) (n : Int) (s : List Nat) (is : List Int) (ls : List (List Nat)) (raw : Bool) (hp : List Ob) (K : KF) : callF (evH tabS (m + 22)) 105 raw [.p (.agg [.int .i64 kd, .int .i64 k, .int .i64 n, .str s, .slice 1 (is.map (.int .i64)), .slice 1 (ls.map .str)])] hp K = if (!opOk ⟨kd, ⟨k, n, s, is, ls⟩⟩) = true then K (.p (.bool true)) hp (footE hp) else K (.p (.bool false)) hp (footE hp) := callF_bool rfl (q_opBad m kd k n s is ls)

def okOp (os : List Op) (j : Nat) : Bool :=
  match os[j]? with
  | some o => opOk o
  | none => false
def opIx (os : List Op) : Int :=
  match firstF (okOp os) os.length 0 with
  | none => -1
  | some i => i
theorem opIx_le (os : List Op) : decide (0 ≤ opIx os) = (firstF (okOp os) os.length 0).isSome := by
  unfold opIx
  cases firstF (okOp os) os.length 0 <;> simp
theorem r_indexOps (m : Nat) (os : List Op) (hl : os.length ≤ 20) : runH h137 (evH tabS (m + 22)) (m + 22) [.t 4] true [.p (.slice 6 (os.map Op.e)), .p (.fn 105 [])] [] = some (.p (.int .i64 (opIx os)), []) := by
  have L := fun (ke : Nat → K) (kr : K) => loop_find (m := 0) (live := [0, 1, 7, 8]) (body := fun tm hp k => l137_1 (evH tabS (m + 22)) (m + 22) 0 tm hp k ke kr) os.length
    (fun j => .cons 0 (.p (.slice 6 (os.map Op.e))) (.cons 1 (.p (.fn 105 [])) (.cons 7 (.p (.int .i64 os.length)) (.cons 8 (.p (.int .i64 (j : Nat))) .nil)))) (fun _ => [])
    (fun j => .cons 0 (.p (.slice 6 (os.map Op.e))) (.cons 1 (.p (.fn 105 [])) (.cons 7 (.p (.int .i64 os.length)) (.cons 8 (.p (.int .i64 (j + 1 : Nat))) .nil)))) (fun _ => [])
    (okOp os) (fun j => kr (.cons 4 (.p (.int .i64 j)) .nil) []) (ke 0 (.cons 0 (.p (.slice 6 (os.map Op.e))) (.cons 1 (.p (.fn 105 [])) (.cons 7 (.p (.int .i64 os.length)) (.cons 8 (.p (.int .i64 os.length)) (.cons 9 (.p (.bool false)) .nil))))) [])
    (fun j _ => by kernel_rfl)
    (fun j kn hj => by
      have hc := fun (k : KV) => callv_bool (base := 0) (kk := 0) (caps := []) (args := [.p (.agg [.int .i64 os[j].kind, .int .i64 os[j].arg.k, .int .i64 os[j].arg.n, .str os[j].arg.s, .slice 1 (os[j].arg.is.map (.int .i64)), .slice 1 (os[j].arg.ls.map .str)])]) (hp := []) (k := k) rfl (q_opBad m os[j].kind os[j].arg.k os[j].arg.n os[j].arg.s os[j].arg.is os[j].arg.ls)
      simp -implicitDefEqProofs (maxSteps := 1000000) only [l137_1, go_sem, ↓reduceIte, Nat.reduceEqDiff, Nat.reduceAdd, Nat.reduceSub, Nat.reduceBEq, Int.reduceEq, Int.reduceLT, Int.reduceLE, Int.reduceNeg, Nat.reduceLeDiff, at_map _ os j hj, wrap_succ j (by omega), Int.ofNat_lt.mpr hj, List.getElem?_eq_getElem hj, hc, okOp, v_eta, op_eta]
      cases h : opOk os[j] <;> simp [h])
    (fun kn => by
      simp -implicitDefEqProofs (maxSteps := 1000000) only [l137_1, go_sem, ↓reduceIte, Nat.reduceEqDiff, Nat.reduceAdd, Nat.reduceSub, Nat.reduceBEq, Int.reduceEq, Int.reduceLT, Int.reduceLE, Int.reduceNeg, Nat.reduceLeDiff, Int.lt_irrefl, if_false]) (m + 22)
    (.cons 0 (.p (.slice 6 (os.map Op.e))) (.cons 1 (.p (.fn 105 [])) (.cons 7 (.p (.int .i64 os.length)) (.cons 8 (.p (.int .i64 0)) .nil)))) [] (by omega) (by kernel_rfl)
  simp -implicitDefEqProofs (maxSteps := 1000000) only [h137, go_sem, ↓reduceIte, Nat.reduceEqDiff, Nat.reduceAdd, Nat.reduceSub, Nat.reduceBEq, Int.reduceEq, Int.reduceLT, Int.reduceLE, Int.reduceNeg, Nat.reduceLeDiff, L]
  unfold opIx findR
  split <;> simp_all
theorem q_indexOps (m : Nat) (os : List Op) (hl : os.length ≤ 20) : evH tabS (m + 23) 137 [.p (.slice 6 (os.map Op.e)), .p (.fn 105 [])] [] = some (.p (.int .i64 (opIx os)), []) := (evH_code (show tabS 137 = some (.code h137 [.t 4] true) by kernel_rfl) (m + 22) _ _).trans (r_indexOps m os hl)
theorem g_indexOps (m : Nat) (os : List Op) (hl : os.length ≤ 20) (raw : Bool) (hp : List Ob) (K : KV) : callG (evH tabS (m + 23)) 137 raw [.p (.slice 6 (os.map Op.e)), .p (.fn 105 [])] hp K = K (.p (.int .i64 (opIx os))) hp := call_known rfl (q_indexOps m os hl) rfl
theorem gF_indexOps (m : Nat) (os : List Op) (hl : os.length ≤ 20) (raw : Bool) (hp : List Ob) (K : KF) : callF (evH tabS (m + 23)) 137 raw [.p (.slice 6 (os.map Op.e)), .p (.fn 105 [])] hp K = K (.p (.int .i64 (opIx os))) hp (footE hp) := callF_known rfl (q_indexOps m os hl) rfl

theorem r_hasBadOp (m : Nat) (os : List Op) (hl : os.length ≤ 20) : runH h104 (evH tabS (m + 23)) (m + 23) [.t 4] true [.p (.slice 6 (os.map Op.e)), .p (.fn 105 [])] [] = some (.p (.bool (firstF (okOp os) os.length 0).isSome), []) := by
  simp -implicitDefEqProofs (maxSteps := 1000000) only [h104, go_sem, ↓reduceIte, Nat.reduceEqDiff, Nat.reduceAdd, Nat.reduceSub, Nat.reduceBEq, Int.reduceEq, Int.reduceLT, Int.reduceLE, Int.reduceNeg, Nat.reduceLeDiff, g_indexOps, hl]
  simp only [ite_ans]
  apply ans
  rw [← opIx_le]
  grind
theorem q_hasBadOp (m : Nat) (os : List Op) (hl : os.length ≤ 20) : evH tabS (m + 24) 104 [.p (.slice 6 (os.map Op.e)), .p (.fn 105 [])] [] = some (.p (.bool (firstF (okOp os) os.length 0).isSome), []) := (evH_code (show tabS 104 = some (.code h104 [.t 4] true) by kernel_rfl) (m + 23) _ _).trans (r_hasBadOp m os hl)
theorem g_hasBadOp (m : Nat) (os : List Op) (hl : os.length ≤ 20) (raw : Bool) (hp : List Ob) (K : KV) : callG (evH tabS (m + 24)) 104 raw [.p (.slice 6 (os.map Op.e)), .p (.fn 105 [])] hp K = if (firstF (okOp os) os.length 0).isSome = true then K (.p (.bool true)) hp else K (.p (.bool false)) hp := call_bool rfl (q_hasBadOp m os hl)
theorem gF_hasBadOp (m : Nat) (os : List Op) (hl : os.length ≤ 20) (raw : Bool) (hp : List Ob) (K : KF) : callF (evH tabS (m + 24)) 104 raw [.p (.slice 6 (os.map Op.e)), .p (.fn 105 [])] hp K = if (firstF (okOp os) os.length 0).isSome = true then K (.p (.bool true)) hp (footE hp) else K (.p (.bool false)) hp (footE hp) := callF_bool rfl (q_hasBadOp m os hl)

def ruOk (r : Ru) : Bool := nameOk r.field && decide (r.source.length ≤ 32) && vOk r.init && decide (r.source = [] ↔ r.init.k ≠ 0) && decide (r.ops.length ≤ 8) && (firstF (okOp r.ops) r.ops.length 0).isNone
theorem r_validRule (m : Nat) (fld : List Nat) (src : List Nat) (k : Int) (n : Int) (s : List Nat) (is : List Int) (ls : List (List Nat)) (os : List Op) : runH h89 (evH tabS (m + 24)) (m + 24) [.t 2] true [.p (.agg [.str fld, .str src, .int .i64 k, .int .i64 n, .str s, .slice 1 (is.map (.int .i64)), .slice 1 (ls.map .str), .slice 6 (os.map Op.e)])] [] = some (.p (.bool (ruOk ⟨fld, src, ⟨k, n, s, is, ls⟩, os⟩)), []) := by
  by_cases hl : os.length ≤ 8
  · simp -implicitDefEqProofs (maxSteps := 1000000) only [h89, go_sem, ↓reduceIte, Nat.reduceEqDiff, Nat.reduceAdd, Nat.reduceSub, Nat.reduceBEq, Int.reduceEq, Int.reduceLT, Int.reduceLE, Int.reduceNeg, Nat.reduceLeDiff, g_validName, g_wireValid, g_hasBadOp, show os.length ≤ 20 by omega]
    simp only [ite_ans]
    apply ans
    unfold ruOk
    generalize firstF (okOp os) os.length 0 = q
    cases q <;> simp <;> grind
  · have hl' : (8 : Int) < os.length := by omega
    simp -implicitDefEqProofs (maxSteps := 1000000) only [h89, go_sem, ↓reduceIte, Nat.reduceEqDiff, Nat.reduceAdd, Nat.reduceSub, Nat.reduceBEq, Int.reduceEq, Int.reduceLT, Int.reduceLE, Int.reduceNeg, Nat.reduceLeDiff, g_validName, g_wireValid, hl', if_true]
    simp only [ite_ans, ite_self]
    apply ans
    unfold ruOk
    grind
theorem q_validRule (m : Nat) (fld : List Nat) (src : List Nat) (k : Int) (n : Int) (s : List Nat) (is : List Int) (ls : List (List Nat)) (os : List Op) : evH tabS (m + 25) 89 [.p (.agg [.str fld, .str src, .int .i64 k, .int .i64 n, .str s, .slice 1 (is.map (.int .i64)), .slice 1 (ls.map .str), .slice 6 (os.map Op.e)])] [] = some (.p (.bool (ruOk ⟨fld, src, ⟨k, n, s, is, ls⟩, os⟩)), []) := (evH_code (show tabS 89 = some (.code h89 [.t 2] true) by kernel_rfl) (m + 24) _ _).trans (r_validRule m fld src k n s is ls os)
theorem g_validRule (m : Nat) (fld : List Nat) (src : List Nat) (k : Int) (n : Int) (s : List Nat) (is : List Int) (ls : List (List Nat)) (os : List Op) (raw : Bool) (hp : List Ob) (K : KV) : callG (evH tabS (m + 25)) 89 raw [.p (.agg [.str fld, .str src, .int .i64 k, .int .i64 n, .str s, .slice 1 (is.map (.int .i64)), .slice 1 (ls.map .str), .slice 6 (os.map Op.e)])] hp K = if (ruOk ⟨fld, src, ⟨k, n, s, is, ls⟩, os⟩) = true then K (.p (.bool true)) hp else K (.p (.bool false)) hp := call_bool rfl (q_validRule m fld src k n s is ls os)
theorem gF_validRule (m : Nat) (fld : List Nat) (src : List Nat) (k : Int) (n : Int) (s : List Nat) (is : List Int) (ls : List (List Nat)) (os : List Op) (raw : Bool) (hp : List Ob) (K : KF) : callF (evH tabS (m + 25)) 89 raw [.p (.agg [.str fld, .str src, .int .i64 k, .int .i64 n, .str s, .slice 1 (is.map (.int .i64)), .slice 1 (ls.map .str), .slice 6 (os.map Op.e)])] hp K = if (ruOk ⟨fld, src, ⟨k, n, s, is, ls⟩, os⟩) = true then K (.p (.bool true)) hp (footE hp) else K (.p (.bool false)) hp (footE hp) := callF_bool rfl (q_validRule m fld src k n s is ls os)


/-- The closure of ruleIndex. -/
theorem q_ruleIndex1 (m : Nat) (a : List Nat) (sc : List Nat) (k : Int) (n : Int) (s : List Nat) (is : List Int) (ls : List (List Nat)) (os : List Op) (nm : List Nat) : evH tabS (m + 1) 91 [.p (.agg [.str a, .str sc, .int .i64 k, .int .i64 n, .str s, .slice 1 (is.map (.int .i64)), .slice 1 (ls.map .str), .slice 6 (os.map Op.e)]), .box 0 0] [.box [.p (.str nm)]] = some (.p (.bool (decide (a = nm))), [.box [.p (.str nm)]]) := by
  refine (evH_code (show tabS 91 = some (.code h91 [.t 3] true) by kernel_rfl) m _ _).trans ?_
  simp -implicitDefEqProofs (maxSteps := 1000000) only [h91, go_sem, ↓reduceIte, Nat.reduceEqDiff, Nat.reduceAdd, Nat.reduceSub, Nat.reduceBEq, Int.reduceEq, Int.reduceLT, Int.reduceLE, Int.reduceNeg, Nat.reduceLeDiff, finK_one]
  split <;> simp_all
/-- The first place of a rule of that field. -/
def ruleIx (fs : List Ru) (nm : List Nat) : Int := match firstF (fun j => !decide ((fs[j]?.map Ru.field) = some nm)) fs.length 0 with
  | none => -1
  | some i => i
theorem q_indexRules (m : Nat) (fs : List Ru) (nm : List Nat) (hl : fs.length ≤ 20) : evH tabS (m + 23) 90 [.p (.slice 8 (fs.map Ru.e)), .fn 91 [.box 0 0]] [.box [.p (.str nm)]] = some (.p (.int .i64 (ruleIx fs nm)), [.box [.p (.str nm)]]) := by
  refine (evH_code (show tabS 90 = some (.code h90 [.t 4] true) by kernel_rfl) (m + 22) _ _).trans ?_
  have L := fun (ke : Nat → K) (kr : K) => loop_find (m := 1) (live := [0, 1, 7, 8]) (body := fun tm hp k => l90_1 (evH tabS (m + 22)) (m + 22) 1 tm hp k ke kr) fs.length
    (fun j => .cons 0 (.p (.slice 8 (fs.map Ru.e))) (.cons 1 (.fn 91 [.box 0 0]) (.cons 7 (.p (.int .i64 fs.length)) (.cons 8 (.p (.int .i64 (j : Nat))) .nil)))) (fun _ => [.box [.p (.str nm)]])
    (fun j => .cons 0 (.p (.slice 8 (fs.map Ru.e))) (.cons 1 (.fn 91 [.box 0 0]) (.cons 7 (.p (.int .i64 fs.length)) (.cons 8 (.p (.int .i64 (j + 1 : Nat))) .nil)))) (fun _ => [.box [.p (.str nm)]])
    (fun j => !decide ((fs[j]?.map Ru.field) = some nm)) (fun j => kr (.cons 4 (.p (.int .i64 j)) .nil) [.box [.p (.str nm)]]) (ke 0 (.cons 0 (.p (.slice 8 (fs.map Ru.e))) (.cons 1 (.fn 91 [.box 0 0]) (.cons 7 (.p (.int .i64 fs.length)) (.cons 8 (.p (.int .i64 fs.length)) (.cons 9 (.p (.bool false)) .nil))))) [.box [.p (.str nm)]])
    (fun j _ => by kernel_rfl)
    (fun j kn hj => by
      have hc := fun (k : KV) => callv_ref1 (base := 1) (kk := 0) (rest := []) (k := k) (q_ruleIndex1 (m + 21) fs[j].field fs[j].source fs[j].init.k fs[j].init.n fs[j].init.s fs[j].init.is fs[j].init.ls fs[j].ops nm)
      simp only [Nat.add_assoc, Nat.reduceAdd] at hc
      simp -implicitDefEqProofs (maxSteps := 1000000) only [l90_1, go_sem, ↓reduceIte, Nat.reduceEqDiff, Nat.reduceAdd, Nat.reduceSub, Nat.reduceBEq, Int.reduceEq, Int.reduceLT, Int.reduceLE, Int.reduceNeg, Nat.reduceLeDiff, at_map _ fs j hj, wrap_succ j (by omega), Int.ofNat_lt.mpr hj, List.getElem?_eq_getElem hj, hc]
      by_cases h : fs[j].field = nm
      · simp [h, condK_t, getF_cons]
      · simp [h, condK_f, getF_cons])
    (fun kn => by
      simp -implicitDefEqProofs (maxSteps := 1000000) only [l90_1, go_sem, ↓reduceIte, Nat.reduceEqDiff, Nat.reduceAdd, Nat.reduceSub, Nat.reduceBEq, Int.reduceEq, Int.reduceLT, Int.reduceLE, Int.reduceNeg, Nat.reduceLeDiff, Int.lt_irrefl, if_false]) (m + 22)
    (.cons 0 (.p (.slice 8 (fs.map Ru.e))) (.cons 1 (.fn 91 [.box 0 0]) (.cons 7 (.p (.int .i64 fs.length)) (.cons 8 (.p (.int .i64 0)) .nil)))) [.box [.p (.str nm)]] (by omega) (by kernel_rfl)
  simp -implicitDefEqProofs (maxSteps := 1000000) only [h90, go_sem, ↓reduceIte, Nat.reduceEqDiff, Nat.reduceAdd, Nat.reduceSub, Nat.reduceBEq, Int.reduceEq, Int.reduceLT, Int.reduceLE, Int.reduceNeg, Nat.reduceLeDiff, L]
  unfold ruleIx findR
  split <;> simp_all [finK_one]

theorem r_ruleIndex (m : Nat) (fs : List Ru) (nm : List Nat) (hl : fs.length ≤ 20) : runH h69 (evH tabS (m + 23)) (m + 23) [.t 4] true [.p (.slice 8 (fs.map Ru.e)), .p (.str nm)] [] = some (.p (.int .i64 (ruleIx fs nm)), []) := by
  have hc := fun (raw : Bool) (k : KV) => call_ref1 (raw := raw) (rest := []) (k := k) (q_indexRules m fs nm hl)
  simp -implicitDefEqProofs (maxSteps := 1000000) only [h69, go_sem, ↓reduceIte, Nat.reduceEqDiff, Nat.reduceAdd, Nat.reduceSub, Nat.reduceBEq, Int.reduceEq, Int.reduceLT, Int.reduceLE, Int.reduceNeg, Nat.reduceLeDiff, hc]
theorem q_ruleIndex (m : Nat) (fs : List Ru) (nm : List Nat) (hl : fs.length ≤ 20) : evH tabS (m + 24) 69 [.p (.slice 8 (fs.map Ru.e)), .p (.str nm)] [] = some (.p (.int .i64 (ruleIx fs nm)), []) := (evH_code (show tabS 69 = some (.code h69 [.t 4] true) by kernel_rfl) (m + 23) _ _).trans (r_ruleIndex m fs nm hl)
theorem g_ruleIndex (m : Nat) (fs : List Ru) (nm : List Nat) (hl : fs.length ≤ 20) (raw : Bool) (hp : List Ob) (K : KV) : callG (evH tabS (m + 24)) 69 raw [.p (.slice 8 (fs.map Ru.e)), .p (.str nm)] hp K = K (.p (.int .i64 (ruleIx fs nm))) hp := call_known rfl (q_ruleIndex m fs nm hl) rfl
theorem gF_ruleIndex (m : Nat) (fs : List Ru) (nm : List Nat) (hl : fs.length ≤ 20) (raw : Bool) (hp : List Ob) (K : KF) : callF (evH tabS (m + 24)) 69 raw [.p (.slice 8 (fs.map Ru.e)), .p (.str nm)] hp K = K (.p (.int .i64 (ruleIx fs nm))) hp (footE hp) := callF_known rfl (q_ruleIndex m fs nm hl) rfl


def sameRule (fs : List Ru) (nm : List Nat) (j : Nat) : Bool := !decide ((fs[j]?.map Ru.field) = some nm)
theorem ruleIx_lt (fs : List Ru) (j : Nat) (hj : j < fs.length) : ruleIx fs fs[j].field < (j : Int) ↔ (firstF (sameRule fs fs[j].field) j 0).isNone = false := by
  have hs : sameRule fs fs[j].field j = false := by simp [sameRule, List.getElem?_eq_getElem hj]
  obtain ⟨i, hi, he⟩ := firstF_stop (sameRule fs fs[j].field) fs.length j hj hs
  have hx : ruleIx fs fs[j].field = (i : Int) := by
    unfold ruleIx
    show (match firstF (sameRule fs fs[j].field) fs.length 0 with | none => _ | some i => _) = _
    rw [he]
  obtain ⟨_, h2, h3, h4⟩ := firstF_some _ _ _ _ he
  rw [hx]
  constructor
  · intro h
    cases hf : firstF (sameRule fs fs[j].field) j 0 with
    | some _ => rfl
    | none =>
      have := (firstF_none _ j 0).1 hf i (by omega)
      rw [Nat.zero_add, h3] at this; cases this
  · intro h
    cases hf : firstF (sameRule fs fs[j].field) j 0 with
    | none => rw [hf] at h; cases h
    | some l =>
      obtain ⟨_, g2, g3, _⟩ := firstF_some _ _ _ _ hf
      rcases Nat.lt_or_ge i j with h5 | h5
      · omega
      · rw [h4 l (Nat.zero_le _) (by omega)] at g3; cases g3


/-- Is the rule at that place valid, and its field new? -/
def okRule (fs : List Ru) (j : Nat) : Bool :=
  match fs[j]? with
  | none => false
  | some f => ruOk f && (firstF (sameRule fs f.field) j 0).isNone
def miOk (s : Mi) : Bool := nameOk s.type && decide (s.rules.length ≤ 8) && (firstF (okRule s.rules) s.rules.length 0).isNone
def ru0 : Ru := ⟨[], [], ⟨0, 0, [], [], []⟩, []⟩
theorem r_validMigrator (m : Nat) (ty : List Nat) (fs : List Ru) (hl : fs.length ≤ 20) : runH h68 (evH tabS (m + 25)) (m + 25) [.t 2] true [.p (.agg [.str ty, .slice 8 (fs.map Ru.e)])] [] = some (.p (.bool (miOk ⟨ty, fs⟩)), []) := by
  have L := fun (ke : Nat → K) (kr : K) => loop_find (m := 0) (live := [1, 16, 17, 18]) (body := fun tm hp k => l68_1 (evH tabS (m + 25)) (m + 25) 0 tm hp k ke kr) fs.length
    (fun j => .cons 1 (.box 0 0) (.cons 16 (.p (.slice 8 (fs.map Ru.e))) (.cons 17 (.p (.int .i64 fs.length)) (.cons 18 (.p (.int .i64 (j : Nat))) .nil)))) (fun _ => [.box [.p (.str ty), .p (.slice 8 (fs.map Ru.e))]])
    (fun j => .cons 1 (.box 0 0) (.cons 16 (.p (.slice 8 (fs.map Ru.e))) (.cons 17 (.p (.int .i64 fs.length)) (.cons 18 (.p (.int .i64 (j + 1 : Nat))) .nil)))) (fun j => [.box [.p (.str ty), .p (.slice 8 (fs.map Ru.e))], .box (mapP (cells ((fs[j]?.getD ru0).e)))])
    (okRule fs) (fun j => kr (.cons 2 (.p (.bool false)) .nil) [.box [.p (.str ty), .p (.slice 8 (fs.map Ru.e))], .box (mapP (cells ((fs[j]?.getD ru0).e)))]) (ke 0 (.cons 1 (.box 0 0) (.cons 16 (.p (.slice 8 (fs.map Ru.e))) (.cons 17 (.p (.int .i64 fs.length)) (.cons 18 (.p (.int .i64 fs.length)) (.cons 19 (.p (.bool false)) .nil))))) [.box [.p (.str ty), .p (.slice 8 (fs.map Ru.e))]])
    (fun j _ => by kernel_rfl)
    (fun j kn hj => by
      simp -implicitDefEqProofs (maxSteps := 1000000) only [l68_1, go_sem, ↓reduceIte, Nat.reduceEqDiff, Nat.reduceAdd, Nat.reduceSub, Nat.reduceBEq, Int.reduceEq, Int.reduceLT, Int.reduceLE, Int.reduceNeg, Nat.reduceLeDiff, at_map _ fs j hj, wrap_succ j (by omega), Int.ofNat_lt.mpr hj, List.getElem?_eq_getElem hj, Option.getD_some, g_validName, g_validRule, g_ruleIndex, hl, ruleIx_lt fs j hj, v_eta, ru_eta, okRule]
      generalize kn _ _ = A
      generalize kr _ _ = B
      grind)
    (fun kn => by
      simp -implicitDefEqProofs (maxSteps := 1000000) only [l68_1, go_sem, ↓reduceIte, Nat.reduceEqDiff, Nat.reduceAdd, Nat.reduceSub, Nat.reduceBEq, Int.reduceEq, Int.reduceLT, Int.reduceLE, Int.reduceNeg, Nat.reduceLeDiff, Int.lt_irrefl, if_false]) (m + 25)
    (.cons 1 (.box 0 0) (.cons 16 (.p (.slice 8 (fs.map Ru.e))) (.cons 17 (.p (.int .i64 fs.length)) (.cons 18 (.p (.int .i64 0)) .nil)))) [.box [.p (.str ty), .p (.slice 8 (fs.map Ru.e))]] (by omega) (by kernel_rfl)
  simp -implicitDefEqProofs (maxSteps := 1000000) only [h68, go_sem, ↓reduceIte, Nat.reduceEqDiff, Nat.reduceAdd, Nat.reduceSub, Nat.reduceBEq, Int.reduceEq, Int.reduceLT, Int.reduceLE, Int.reduceNeg, Nat.reduceLeDiff, L, findR_const, g_validName]
  simp only [ite_ans]
  apply ans
  unfold miOk
  grind
theorem q_validMigrator (m : Nat) (ty : List Nat) (fs : List Ru) (hl : fs.length ≤ 20) : evH tabS (m + 26) 68 [.p (.agg [.str ty, .slice 8 (fs.map Ru.e)])] [] = some (.p (.bool (miOk ⟨ty, fs⟩)), []) := (evH_code (show tabS 68 = some (.code h68 [.t 2] true) by kernel_rfl) (m + 25) _ _).trans (r_validMigrator m ty fs hl)
theorem g_validMigrator (m : Nat) (ty : List Nat) (fs : List Ru) (hl : fs.length ≤ 20) (raw : Bool) (hp : List Ob) (K : KV) : callG (evH tabS (m + 26)) 68 raw [.p (.agg [.str ty, .slice 8 (fs.map Ru.e)])] hp K = if (miOk ⟨ty, fs⟩) = true then K (.p (.bool true)) hp else K (.p (.bool false)) hp := call_bool rfl (q_validMigrator m ty fs hl)
theorem gF_validMigrator (m : Nat) (ty : List Nat) (fs : List Ru) (hl : fs.length ≤ 20) (raw : Bool) (hp : List Ob) (K : KF) : callF (evH tabS (m + 26)) 68 raw [.p (.agg [.str ty, .slice 8 (fs.map Ru.e)])] hp K = if (miOk ⟨ty, fs⟩) = true then K (.p (.bool true)) hp (footE hp) else K (.p (.bool false)) hp (footE hp) := callF_bool rfl (q_validMigrator m ty fs hl)

def fitOk (s : Mi) : Bool := decide (s.rules.length ≤ 20) && s.rules.all fun r => decide (r.ops.length ≤ 20)
theorem r_fits (m : Nat) (ty : List Nat) (fs : List Ru) : runH h31 (evH tabS (m + 22)) (m + 22) [.t 2] true [.p (.agg [.str ty, .slice 8 (fs.map Ru.e)])] [] = some (.p (.bool (fitOk ⟨ty, fs⟩)), []) := by
  by_cases hl : fs.length ≤ 20
  · have L := fun (ke : Nat → K) (kr : K) => loop_all (m := 0) (live := [1, 3]) (body := fun tm hp k => l31_1 (evH tabS (m + 22)) (m + 22) 0 tm hp k ke kr) fs.length
      (fun j => .cons 1 (.box 0 0) (.cons 3 (.p (.int .i64 (j : Nat))) .nil)) (fun _ => [.box [.p (.str ty), .p (.slice 8 (fs.map Ru.e))]])
      (fun j => .cons 1 (.box 0 0) (.cons 3 (.p (.int .i64 (j + 1 : Nat))) .nil)) (fun _ => [.box [.p (.str ty), .p (.slice 8 (fs.map Ru.e))]])
      (fun j => !decide ((20 : Int) < (fs[j]?.getD ru0).ops.length)) (kr (.cons 2 (.p (.bool false)) .nil) [.box [.p (.str ty), .p (.slice 8 (fs.map Ru.e))]]) (ke 0 (.cons 1 (.box 0 0) (.cons 3 (.p (.int .i64 fs.length)) (.cons 12 (.p (.bool false)) .nil))) [.box [.p (.str ty), .p (.slice 8 (fs.map Ru.e))]])
      (fun j _ => by kernel_rfl)
      (fun j kn hj => by
        simp -implicitDefEqProofs (maxSteps := 1000000) only [l31_1, go_sem, ↓reduceIte, Nat.reduceEqDiff, Nat.reduceAdd, Nat.reduceSub, Nat.reduceBEq, Int.reduceEq, Int.reduceLT, Int.reduceLE, Int.reduceNeg, Nat.reduceLeDiff, at_map _ fs j hj, wrap_succ j (by omega), Int.ofNat_lt.mpr hj, if_true, List.getElem?_eq_getElem hj, Option.getD_some])
      (fun kn => by
        simp -implicitDefEqProofs (maxSteps := 1000000) only [l31_1, go_sem, ↓reduceIte, Nat.reduceEqDiff, Nat.reduceAdd, Nat.reduceSub, Nat.reduceBEq, Int.reduceEq, Int.reduceLT, Int.reduceLE, Int.reduceNeg, Nat.reduceLeDiff, Int.lt_irrefl, if_false]) (m + 22)
      (.cons 1 (.box 0 0) (.cons 3 (.p (.int .i64 0)) .nil)) [.box [.p (.str ty), .p (.slice 8 (fs.map Ru.e))]] (by omega) (by kernel_rfl)
    have e : (∀ j, j < fs.length → (!decide ((20 : Int) < (fs[j]?.getD ru0).ops.length)) = true) ↔ (fs.all fun r => decide (r.ops.length ≤ 20)) = true := by
      rw [List.all_eq_true, ← all_idx fs ru0 fun r => decide (r.ops.length ≤ 20) = true]
      simp
      grind
    simp only [e] at L
    simp -implicitDefEqProofs (maxSteps := 1000000) only [h31, go_sem, ↓reduceIte, Nat.reduceEqDiff, Nat.reduceAdd, Nat.reduceSub, Nat.reduceBEq, Int.reduceEq, Int.reduceLT, Int.reduceLE, Int.reduceNeg, Nat.reduceLeDiff, L]
    simp only [ite_ans]
    apply ans
    unfold fitOk
    generalize (fs.all fun r => decide (r.ops.length ≤ 20)) = q
    grind
  · have hl' : (20 : Int) < fs.length := by omega
    simp -implicitDefEqProofs (maxSteps := 1000000) only [h31, go_sem, ↓reduceIte, Nat.reduceEqDiff, Nat.reduceAdd, Nat.reduceSub, Nat.reduceBEq, Int.reduceEq, Int.reduceLT, Int.reduceLE, Int.reduceNeg, Nat.reduceLeDiff, hl', if_true]
    apply ans
    unfold fitOk
    grind
theorem q_fits (m : Nat) (ty : List Nat) (fs : List Ru) : evH tabS (m + 23) 31 [.p (.agg [.str ty, .slice 8 (fs.map Ru.e)])] [] = some (.p (.bool (fitOk ⟨ty, fs⟩)), []) := (evH_code (show tabS 31 = some (.code h31 [.t 2] true) by kernel_rfl) (m + 22) _ _).trans (r_fits m ty fs)
theorem g_fits (m : Nat) (ty : List Nat) (fs : List Ru) (raw : Bool) (hp : List Ob) (K : KV) : callG (evH tabS (m + 23)) 31 raw [.p (.agg [.str ty, .slice 8 (fs.map Ru.e)])] hp K = if (fitOk ⟨ty, fs⟩) = true then K (.p (.bool true)) hp else K (.p (.bool false)) hp := call_bool rfl (q_fits m ty fs)
theorem gF_fits (m : Nat) (ty : List Nat) (fs : List Ru) (raw : Bool) (hp : List Ob) (K : KF) : callF (evH tabS (m + 23)) 31 raw [.p (.agg [.str ty, .slice 8 (fs.map Ru.e)])] hp K = if (fitOk ⟨ty, fs⟩) = true then K (.p (.bool true)) hp (footE hp) else K (.p (.bool false)) hp (footE hp) := callF_bool rfl (q_fits m ty fs)

end Go.Ab
end
/- Runs with letters: lists of operations joined and copied, equal migrators. -/
section
namespace Go.Ab
open Go
set_option maxHeartbeats 1000000

def op0 : Da := .agg [.int .i64 0, .int .i64 0, .int .i64 0, .str [], .slice 1 [], .slice 1 []]
theorem q_Grow (m n : Nat) (h0 : n ≠ 0) (hn : n ≤ 100) : evH tabS (m + 1) 106 [.sl .nil 6 [], .p (.int .i64 (n : Int))] [] = some (.arr 0 0 0 6, [.arr (List.replicate n op0)]) := by
  refine (evH_code (show tabS 106 = some (.code h106 [.t 4] false) by kernel_rfl) m _ _).trans ?_
  have u1 : ¬ (n : Int) < 0 := by omega
  have u2 : (0 : Int) < n := by omega
  have fin0 : finK 0 false [.arr 0 0 0 6] [.arr (List.replicate n op0)] = some (.arr 0 0 0 6, [.arr (List.replicate n op0)]) := by rw [finK_eq]; rfl
  unfold op0 at fin0 ⊢
  simp -implicitDefEqProofs (maxSteps := 1000000) only [h106, go_sem, ↓reduceIte, Nat.reduceEqDiff, Nat.reduceAdd, Nat.reduceSub, Nat.reduceBEq, Int.reduceEq, Int.reduceLT, Int.reduceLE, Int.reduceNeg, Nat.reduceLeDiff, u1, u2, cap_nil, slSl_nil, slSl_arr, appm_nil h0 (show n ≤ 1000 by omega), Int.sub_self, Int.sub_zero, wrap_zero, wrap_few n (by omega), List.length_nil, Int.natCast_zero, fin0]
theorem q_Grow0 (m : Nat) : evH tabS (m + 1) 106 [.sl .nil 6 [], .p (.int .i64 ((0 : Nat) : Int))] [] = some (.sl .nil 6 [], []) := by
  refine (evH_code (show tabS 106 = some (.code h106 [.t 4] false) by kernel_rfl) m _ _).trans ?_
  have fin0 : finK 0 false [.sl .nil 6 []] [] = some (.sl .nil 6 [], []) := by rw [finK_eq]; rfl
  simp -implicitDefEqProofs (maxSteps := 1000000) only [h106, go_sem, ↓reduceIte, Nat.reduceEqDiff, Nat.reduceAdd, Nat.reduceSub, Nat.reduceBEq, Int.reduceEq, Int.reduceLT, Int.reduceLE, Int.reduceNeg, Nat.reduceLeDiff, cap_nil, Int.sub_self, Int.sub_zero, wrap_zero, Int.natCast_zero, List.length_nil, fin0]

theorem q_Concat (m : Nat) (a b : List Da) (ha : a.length ≤ 20) (hb : b.length ≤ 20) : evH tabS (m + 6) 92 [.p (.slice 1 [.slice 6 a, .slice 6 b])] [] = some (.arr 0 0 (a.length + b.length) 6, [.arr (a ++ b)]) := by
  refine (evH_code (show tabS 92 = some (.code h92 [.t 2] false) by kernel_rfl) (m + 5) _ _).trans ?_
  have w1 : wrapF .i64 (a.length : Int) = a.length := wrap_few _ (by omega)
  have w2 : wrapF .i64 ((a.length : Int) + b.length) = ((a.length + b.length : Nat) : Int) := by
    rw [show ((a.length : Int) + b.length) = ((a.length + b.length : Nat) : Int) by omega]; exact wrap_few _ (by omega)
  have u1 : ¬ (a.length : Int) < 0 := by omega
  have u2 : ¬ ((a.length + b.length : Nat) : Int) < 0 := by omega
  let S : Nat → Nat := fun j => match j with
    | 0 => 0
    | 1 => a.length
    | _ => a.length + b.length
  have L := fun (ke : Nat → K) (kr : K) => loop_map (m := 0) (live := [0, 3, 9, 10, 11]) (body := fun tm hp k => l92_1 (evH tabS (m + 5)) (m + 5) 0 tm hp k ke kr) 2
    (fun j => .cons 0 (.p (.slice 1 [.slice 6 a, .slice 6 b])) (.cons 3 (.p (.int .i64 (S j : Nat))) (.cons 9 (.p (.slice 1 [.slice 6 a, .slice 6 b])) (.cons 10 (.p (.int .i64 2)) (.cons 11 (.p (.int .i64 (j : Nat))) .nil))))) (fun _ => [])
    (fun j => .cons 0 (.p (.slice 1 [.slice 6 a, .slice 6 b])) (.cons 3 (.p (.int .i64 (S (j + 1) : Nat))) (.cons 9 (.p (.slice 1 [.slice 6 a, .slice 6 b])) (.cons 10 (.p (.int .i64 2)) (.cons 11 (.p (.int .i64 (j + 1 : Nat))) .nil))))) (fun _ => [])
    (ke 0 (.cons 0 (.p (.slice 1 [.slice 6 a, .slice 6 b])) (.cons 3 (.p (.int .i64 (a.length + b.length : Nat))) (.cons 9 (.p (.slice 1 [.slice 6 a, .slice 6 b])) (.cons 10 (.p (.int .i64 2)) (.cons 11 (.p (.int .i64 2)) (.cons 12 (.p (.bool false)) .nil)))))) [])
    (fun j _ => by kernel_rfl)
    (fun j kn hj => by
      match j, hj with
      | 0, _ =>
        simp -implicitDefEqProofs (maxSteps := 1000000) only [l92_1, go_sem, ↓reduceIte, Nat.reduceEqDiff, Nat.reduceAdd, Nat.reduceSub, Nat.reduceBEq, Int.reduceEq, Int.reduceLT, Int.reduceLE, Int.reduceNeg, Nat.reduceLeDiff, S, Int.natCast_zero, show at? [Da.slice 6 a, .slice 6 b] 0 = some (.slice 6 a) from rfl, cells, Int.zero_add, w1, u1, show wrapF .i64 1 = 1 from rfl, show ((1 : Nat) : Int) = 1 from rfl]
      | 1, _ =>
        simp -implicitDefEqProofs (maxSteps := 1000000) only [l92_1, go_sem, ↓reduceIte, Nat.reduceEqDiff, Nat.reduceAdd, Nat.reduceSub, Nat.reduceBEq, Int.reduceEq, Int.reduceLT, Int.reduceLE, Int.reduceNeg, Nat.reduceLeDiff, S, show ((1 : Nat) : Int) = 1 from rfl, show ((2 : Nat) : Int) = 2 from rfl, show at? [Da.slice 6 a, .slice 6 b] 1 = some (.slice 6 b) from rfl, cells, w2, u2, show wrapF .i64 2 = 2 from rfl, Int.reduceAdd])
    (fun kn => by
      simp -implicitDefEqProofs (maxSteps := 1000000) only [l92_1, go_sem, ↓reduceIte, Nat.reduceEqDiff, Nat.reduceAdd, Nat.reduceSub, Nat.reduceBEq, Int.reduceEq, Int.reduceLT, Int.reduceLE, Int.reduceNeg, Nat.reduceLeDiff, S, show ((2 : Nat) : Int) = 2 from rfl]) (m + 5)
    (.cons 0 (.p (.slice 1 [.slice 6 a, .slice 6 b])) (.cons 3 (.p (.int .i64 0)) (.cons 9 (.p (.slice 1 [.slice 6 a, .slice 6 b])) (.cons 10 (.p (.int .i64 2)) (.cons 11 (.p (.int .i64 0)) .nil))))) [] (by omega) (by kernel_rfl)
  let E : List Da → Nat → List Da := fun e0 j => match j with
    | 0 => e0
    | 1 => a
    | _ => a ++ b
  have M := fun (e0 : List Da) (hp : List Ob) (tm : Tm) (h0 : evGh 0 (.keep [6, 25, 26, 27]) ⟨tm, hp⟩ = some ⟨.cons 6 (.arr 0 0 0 6) (.cons 25 (.p (.slice 1 [.slice 6 a, .slice 6 b])) (.cons 26 (.p (.int .i64 2)) (.cons 27 (.p (.int .i64 0)) .nil))), [.arr e0]⟩) (ke : Nat → K) (kr : K) => loop_map (m := 0) (live := [6, 25, 26, 27]) (body := fun tm hp k => l92_2 (evH tabS (m + 5)) (m + 5) 0 tm hp k ke kr) 2
    (fun j => .cons 6 (.arr 0 0 (S j) 6) (.cons 25 (.p (.slice 1 [.slice 6 a, .slice 6 b])) (.cons 26 (.p (.int .i64 2)) (.cons 27 (.p (.int .i64 (j : Nat))) .nil)))) (fun j => [.arr (E e0 j)])
    (fun j => .cons 6 (.arr 1 0 (S (j + 1)) 6) (.cons 25 (.p (.slice 1 [.slice 6 a, .slice 6 b])) (.cons 26 (.p (.int .i64 2)) (.cons 27 (.p (.int .i64 (j + 1 : Nat))) .nil)))) (fun j => [.dead, .arr (E e0 (j + 1))])
    (ke 2 (.cons 6 (.arr 0 0 (a.length + b.length) 6) (.cons 25 (.p (.slice 1 [.slice 6 a, .slice 6 b])) (.cons 26 (.p (.int .i64 2)) (.cons 27 (.p (.int .i64 2)) (.cons 28 (.p (.bool false)) .nil))))) [.arr (a ++ b)])
    (fun j _ => by kernel_rfl)
    (fun j kn hj => by
      match j, hj with
      | 0, _ =>
        simp -implicitDefEqProofs (maxSteps := 1000000) only [l92_2, go_sem, ↓reduceIte, Nat.reduceEqDiff, Nat.reduceAdd, Nat.reduceSub, Nat.reduceBEq, Int.reduceEq, Int.reduceLT, Int.reduceLE, Int.reduceNeg, Nat.reduceLeDiff, S, E, Int.natCast_zero, show at? [Da.slice 6 a, .slice 6 b] 0 = some (.slice 6 a) from rfl, cells, Int.zero_add, show wrapF .i64 1 = 1 from rfl, show ((1 : Nat) : Int) = 1 from rfl, app_take0, Nat.zero_le, show a.length ≤ 1000 by omega, List.take_zero]
      | 1, _ =>
        simp -implicitDefEqProofs (maxSteps := 1000000) only [l92_2, go_sem, ↓reduceIte, Nat.reduceEqDiff, Nat.reduceAdd, Nat.reduceSub, Nat.reduceBEq, Int.reduceEq, Int.reduceLT, Int.reduceLE, Int.reduceNeg, Nat.reduceLeDiff, S, E, show ((1 : Nat) : Int) = 1 from rfl, show ((2 : Nat) : Int) = 2 from rfl, show at? [Da.slice 6 a, .slice 6 b] 1 = some (.slice 6 b) from rfl, cells, show wrapF .i64 2 = 2 from rfl, Int.reduceAdd, app_take0, Nat.le_refl, show a.length ≤ 1000 by omega, show b.length ≤ 1000 by omega, List.take_length])
    (fun kn => by
      simp -implicitDefEqProofs (maxSteps := 1000000) only [l92_2, go_sem, ↓reduceIte, Nat.reduceEqDiff, Nat.reduceAdd, Nat.reduceSub, Nat.reduceBEq, Int.reduceEq, Int.reduceLT, Int.reduceLE, Int.reduceNeg, Nat.reduceLeDiff, S, E, show ((2 : Nat) : Int) = 2 from rfl]) (m + 5) tm hp (by omega) h0
  have fin1 : finK 0 false [.arr 0 0 (a.length + b.length) 6] [.arr (a ++ b)] = some (.arr 0 0 (a.length + b.length) 6, [.arr (a ++ b)]) := by rw [finK_eq]; rfl
  by_cases hz : a.length + b.length = 0
  · have g1 := fun (hp : List Ob) (k : KV) => call_raw_nil (call := evH tabS (m + 5)) (hp := hp) (k := k) (q_Grow0 (m + 4))
    have M0 := M [] [.arr []] (.cons 6 (.arr 0 0 0 6) (.cons 6 (.sl .nil 6 []) (.cons 25 (.p (.slice 1 [.slice 6 a, .slice 6 b])) (.cons 26 (.p (.int .i64 2)) (.cons 27 (.p (.int .i64 0)) .nil))))) (by kernel_rfl)
    simp only [hz] at L M0 fin1 ⊢
    simp -implicitDefEqProofs (maxSteps := 1000000) only [h92, go_sem, ↓reduceIte, Nat.reduceEqDiff, Nat.reduceAdd, Nat.reduceSub, Nat.reduceBEq, Int.reduceEq, Int.reduceLT, Int.reduceLE, Int.reduceNeg, Nat.reduceLeDiff, L, g1, M0, fin1, show ((2 : Nat) : Int) = 2 from rfl]
  · have g1 := fun (hp : List Ob) (k : KV) => call_raw_arr (call := evH tabS (m + 5)) (hp := hp) (k := k) (q_Grow (m + 4) (a.length + b.length) hz (by omega))
    have M0 := M (List.replicate (a.length + b.length) op0) [.arr (List.replicate (a.length + b.length) op0)] (.cons 6 (.arr 0 0 0 6) (.cons 25 (.p (.slice 1 [.slice 6 a, .slice 6 b])) (.cons 26 (.p (.int .i64 2)) (.cons 27 (.p (.int .i64 0)) .nil)))) (by kernel_rfl)
    simp -implicitDefEqProofs (maxSteps := 1000000) only [h92, go_sem, ↓reduceIte, Nat.reduceEqDiff, Nat.reduceAdd, Nat.reduceSub, Nat.reduceBEq, Int.reduceEq, Int.reduceLT, Int.reduceLE, Int.reduceNeg, Nat.reduceLeDiff, L, g1, M0, fin1, show ((2 : Nat) : Int) = 2 from rfl]
end Go.Ab
end
/- Runs with letters: copies of operations, equal migrators. -/
section
namespace Go.Ab
open Go
set_option maxHeartbeats 1000000

def Op.few (o : Op) : Prop := o.arg.is.length ≤ 16 ∧ o.arg.ls.length ≤ 16
theorem r_cloneOps (m : Nat) (a : List Op) (b : List Op) (ha : a.length ≤ 20) (hb : b.length ≤ 20) (hs : ∀ o ∈ a ++ b, o.few) : runH h70 (evH tabS (m + 42)) (m + 42) [.t 4] true [.p (.slice 6 (a.map Op.e)), .p (.slice 6 (b.map Op.e))] [] = some (.p (.slice 6 ((a ++ b).map Op.e)), []) := by
  have hc : evH tabS (m + 42) 92 [.p (.slice 1 [.slice 6 (a.map Op.e), .slice 6 (b.map Op.e)])] [] = some (.arr 0 0 (a ++ b).length 6, [.arr ((a ++ b).map Op.e)]) := by
    have := q_Concat (m + 36) (a.map Op.e) (b.map Op.e) (by simpa using ha) (by simpa using hb)
    simpa using this
  have hl : (a ++ b).length ≤ 40 := by rw [List.length_append]; omega
  generalize a ++ b = os at *
  have gc := fun (g : Tag) (hp : List Ob) (k : KV) => call_sl_arr (g := g) (hp := hp) (k := k) hc
  have L := fun (ke : Nat → K) (kr : K) => loop_map (m := 0) (live := [5, 12, 13]) (body := fun tm hp k => l70_1 (evH tabS (m + 42)) (m + 42) 0 tm hp k ke kr) os.length
    (fun j => .cons 5 (.arr 0 0 os.length 6) (.cons 12 (.p (.int .i64 os.length)) (.cons 13 (.p (.int .i64 (j : Nat))) .nil))) (fun _ => [.arr (os.map Op.e)])
    (fun j => .cons 5 (.arr 0 0 os.length 6) (.cons 12 (.p (.int .i64 os.length)) (.cons 13 (.p (.int .i64 (j + 1 : Nat))) .nil))) (fun _ => [.arr (os.map Op.e)])
    (ke 0 (.cons 5 (.arr 0 0 os.length 6) (.cons 12 (.p (.int .i64 os.length)) (.cons 13 (.p (.int .i64 os.length)) (.cons 14 (.p (.bool false)) .nil)))) [.arr (os.map Op.e)])
    (fun j _ => by kernel_rfl)
    (fun j kn hj => by
      have hv := hs os[j] (List.getElem_mem hj)
      have he : (os.map Op.e)[j]? = some os[j].e := by simp [hj]
      have ld := fun (k : D → R) => load_el0 5 j 1 (os.map Op.e) [] k os[j].e he
      have st := fun (k : KV) => store_el0 (evH tabS (m + 42)) 1 5 0 j 1 (os.map Op.e) [] k os[j].e (.agg [.int .i64 os[j].arg.k, .int .i64 os[j].arg.n, .str os[j].arg.s, .slice 1 (os[j].arg.is.map (.int .i64)), .slice 1 (os[j].arg.ls.map .str)]) os[j].e he rfl (Nat.le_refl 6) rfl
      simp only [set_at_same Op.e os j hj] at st
      simp -implicitDefEqProofs (maxSteps := 1000000) only [l70_1, go_sem, ↓reduceIte, Nat.reduceEqDiff, Nat.reduceAdd, Nat.reduceSub, Nat.reduceBEq, Int.reduceEq, Int.reduceLT, Int.reduceLE, Int.reduceNeg, Nat.reduceLeDiff, ia_arr, hj, fa_el, ld, g_cloneValue, show os[j].arg.is.length ≤ 1000 by have := hv.1; omega, show os[j].arg.ls.length ≤ 1000 by have := hv.2; omega, st, wrap_succ j (by omega), Int.ofNat_lt.mpr hj])
    (fun kn => by
      simp -implicitDefEqProofs (maxSteps := 1000000) only [l70_1, go_sem, ↓reduceIte, Nat.reduceEqDiff, Nat.reduceAdd, Nat.reduceSub, Nat.reduceBEq, Int.reduceEq, Int.reduceLT, Int.reduceLE, Int.reduceNeg, Nat.reduceLeDiff, Int.lt_irrefl]) (m + 42)
    (.cons 5 (.arr 0 0 os.length 6) (.cons 12 (.p (.int .i64 os.length)) (.cons 13 (.p (.int .i64 0)) .nil))) [.arr (os.map Op.e)] (by omega) (by kernel_rfl)
  simp -implicitDefEqProofs (maxSteps := 1000000) only [h70, go_sem, ↓reduceIte, Nat.reduceEqDiff, Nat.reduceAdd, Nat.reduceSub, Nat.reduceBEq, Int.reduceEq, Int.reduceLT, Int.reduceLE, Int.reduceNeg, Nat.reduceLeDiff, bsl2_p, cells, gc, L, finK_arr0]
theorem q_cloneOps (m : Nat) (a : List Op) (b : List Op) (ha : a.length ≤ 20) (hb : b.length ≤ 20) (hs : ∀ o ∈ a ++ b, o.few) : evH tabS (m + 43) 70 [.p (.slice 6 (a.map Op.e)), .p (.slice 6 (b.map Op.e))] [] = some (.p (.slice 6 ((a ++ b).map Op.e)), []) := (evH_code (show tabS 70 = some (.code h70 [.t 4] true) by kernel_rfl) (m + 42) _ _).trans (r_cloneOps m a b ha hb hs)
theorem g_cloneOps (m : Nat) (a : List Op) (b : List Op) (ha : a.length ≤ 20) (hb : b.length ≤ 20) (hs : ∀ o ∈ a ++ b, o.few) (raw : Bool) (hp : List Ob) (K : KV) : callG (evH tabS (m + 43)) 70 raw [.p (.slice 6 (a.map Op.e)), .p (.slice 6 (b.map Op.e))] hp K = K (.p (.slice 6 ((a ++ b).map Op.e))) hp := call_known rfl (q_cloneOps m a b ha hb hs) rfl
theorem gF_cloneOps (m : Nat) (a : List Op) (b : List Op) (ha : a.length ≤ 20) (hb : b.length ≤ 20) (hs : ∀ o ∈ a ++ b, o.few) (raw : Bool) (hp : List Ob) (K : KF) : callF (evH tabS (m + 43)) 70 raw [.p (.slice 6 (a.map Op.e)), .p (.slice 6 (b.map Op.e))] hp K = K (.p (.slice 6 ((a ++ b).map Op.e))) hp (footE hp) := callF_known rfl (q_cloneOps m a b ha hb hs) rfl


def Ru.few (r : Ru) : Prop := r.init.is.length ≤ 16 ∧ r.init.ls.length ≤ 16 ∧ r.ops.length ≤ 20 ∧ ∀ o ∈ r.ops, o.few
theorem r_SameMigrator (m : Nat) (ty : List Nat) (fs : List Ru) (hl : fs.length ≤ 20) (hs : ∀ r ∈ fs, r.few) : runH h33 (evH tabS (m + 42)) (m + 42) [.t 4] true [.p (.agg [.str ty, .slice 8 (fs.map Ru.e)]), .p (.agg [.str ty, .slice 8 (fs.map Ru.e)])] [] = some (.p (.bool true), []) := by
  have L1 := fun (i : Nat) (f : Ru) (hf : f.few) (ke : Nat → K) (kr : K) => loop_map (m := 0) (live := [2, 3, 5, 6, 7, 8]) (body := fun tm hp k => l33_1 (evH tabS (m + 42)) (m + 42) 0 tm hp k ke kr) f.ops.length
    (fun j => .cons 2 (.box 0 0) (.cons 3 (.box 1 0) (.cons 5 (.p (.int .i64 i)) (.cons 6 (.box 2 0) (.cons 7 (.box 3 0) (.cons 8 (.p (.int .i64 (j : Nat))) .nil)))))) (fun _ => [.box [.p (.str ty), .p (.slice 8 (fs.map Ru.e))], .box [.p (.str ty), .p (.slice 8 (fs.map Ru.e))], .box (mapP (cells f.e)), .box (mapP (cells f.e))])
    (fun j => .cons 2 (.box 0 0) (.cons 3 (.box 1 0) (.cons 5 (.p (.int .i64 i)) (.cons 6 (.box 2 0) (.cons 7 (.box 3 0) (.cons 8 (.p (.int .i64 (j + 1 : Nat))) .nil)))))) (fun _ => [.box [.p (.str ty), .p (.slice 8 (fs.map Ru.e))], .box [.p (.str ty), .p (.slice 8 (fs.map Ru.e))], .box (mapP (cells f.e)), .box (mapP (cells f.e))])
    (ke 2 (.cons 2 (.box 0 0) (.cons 3 (.box 1 0) (.cons 5 (.p (.int .i64 i)) (.cons 6 (.box 2 0) (.cons 7 (.box 3 0) (.cons 8 (.p (.int .i64 f.ops.length)) (.cons 73 (.p (.bool false)) .nil))))))) [.box [.p (.str ty), .p (.slice 8 (fs.map Ru.e))], .box [.p (.str ty), .p (.slice 8 (fs.map Ru.e))], .box (mapP (cells f.e)), .box (mapP (cells f.e))])
    (fun j _ => by kernel_rfl)
    (fun j kn hj => by
      have hv := hf.2.2.2 f.ops[j] (List.getElem_mem hj)
      have h20 := hf.2.2.1
      simp -implicitDefEqProofs (maxSteps := 1000000) only [l33_1, go_sem, ↓reduceIte, Nat.reduceEqDiff, Nat.reduceAdd, Nat.reduceSub, Nat.reduceBEq, Int.reduceEq, Int.reduceLT, Int.reduceLE, Int.reduceNeg, Nat.reduceLeDiff, at_map _ f.ops j hj, wrap_succ j (by omega), Int.ofNat_lt.mpr hj, gF_SameValue, hv.1, hv.2])
    (fun kn => by
      simp -implicitDefEqProofs (maxSteps := 1000000) only [l33_1, go_sem, ↓reduceIte, Nat.reduceEqDiff, Nat.reduceAdd, Nat.reduceSub, Nat.reduceBEq, Int.reduceEq, Int.reduceLT, Int.reduceLE, Int.reduceNeg, Nat.reduceLeDiff, Int.lt_irrefl]) (m + 42)
    (.cons 2 (.box 0 0) (.cons 3 (.box 1 0) (.cons 5 (.p (.int .i64 i)) (.cons 6 (.box 2 0) (.cons 7 (.box 3 0) (.cons 8 (.p (.int .i64 0)) .nil)))))) [.box [.p (.str ty), .p (.slice 8 (fs.map Ru.e))], .box [.p (.str ty), .p (.slice 8 (fs.map Ru.e))], .box (mapP (cells f.e)), .box (mapP (cells f.e))] (by have := hf.2.2.1; omega) (by kernel_rfl)
  have L := fun (ke : Nat → K) (kr : K) => loop_map (m := 0) (live := [2, 3, 5]) (body := fun tm hp k => l33_2 (evH tabS (m + 42)) (m + 42) 0 tm hp k ke kr) fs.length
    (fun j => .cons 2 (.box 0 0) (.cons 3 (.box 1 0) (.cons 5 (.p (.int .i64 (j : Nat))) .nil))) (fun _ => [.box [.p (.str ty), .p (.slice 8 (fs.map Ru.e))], .box [.p (.str ty), .p (.slice 8 (fs.map Ru.e))]])
    (fun j => .cons 2 (.box 0 0) (.cons 3 (.box 1 0) (.cons 5 (.p (.int .i64 (j + 1 : Nat))) .nil))) (fun j => [.box [.p (.str ty), .p (.slice 8 (fs.map Ru.e))], .box [.p (.str ty), .p (.slice 8 (fs.map Ru.e))], .box (mapP (cells (fs[j]?.getD ru0).e)), .box (mapP (cells (fs[j]?.getD ru0).e))])
    (ke 0 (.cons 2 (.box 0 0) (.cons 3 (.box 1 0) (.cons 5 (.p (.int .i64 fs.length)) (.cons 27 (.p (.bool false)) .nil)))) [.box [.p (.str ty), .p (.slice 8 (fs.map Ru.e))], .box [.p (.str ty), .p (.slice 8 (fs.map Ru.e))]])
    (fun j _ => by kernel_rfl)
    (fun j kn hj => by
      have hf := hs fs[j] (List.getElem_mem hj)
      have L1 := L1 j fs[j] hf
      simp -implicitDefEqProofs (maxSteps := 1000000) only [go_sem, ↓reduceIte, Nat.reduceEqDiff, Nat.reduceAdd, Nat.reduceSub, Nat.reduceBEq, Int.reduceEq, Int.reduceLT, Int.reduceLE, Int.reduceNeg, Nat.reduceLeDiff] at L1
      simp -implicitDefEqProofs (maxSteps := 1000000) only [l33_2, go_sem, ↓reduceIte, Nat.reduceEqDiff, Nat.reduceAdd, Nat.reduceSub, Nat.reduceBEq, Int.reduceEq, Int.reduceLT, Int.reduceLE, Int.reduceNeg, Nat.reduceLeDiff, at_map _ fs j hj, wrap_succ j (by omega), Int.ofNat_lt.mpr hj, List.getElem?_eq_getElem hj, Option.getD_some, g_SameValue, hf.1, hf.2.1, L1, alloc_F, apart_OW, apart_WW, need_load, dids_box, dids_ip, List.contains_cons, List.contains_nil, Bool.or_false, Bool.not_false])
    (fun kn => by
      simp -implicitDefEqProofs (maxSteps := 1000000) only [l33_2, go_sem, ↓reduceIte, Nat.reduceEqDiff, Nat.reduceAdd, Nat.reduceSub, Nat.reduceBEq, Int.reduceEq, Int.reduceLT, Int.reduceLE, Int.reduceNeg, Nat.reduceLeDiff, Int.lt_irrefl]) (m + 42)
    (.cons 2 (.box 0 0) (.cons 3 (.box 1 0) (.cons 5 (.p (.int .i64 0)) .nil))) [.box [.p (.str ty), .p (.slice 8 (fs.map Ru.e))], .box [.p (.str ty), .p (.slice 8 (fs.map Ru.e))]] (by omega) (by kernel_rfl)
  simp -implicitDefEqProofs (maxSteps := 1000000) only [h33, go_sem, ↓reduceIte, Nat.reduceEqDiff, Nat.reduceAdd, Nat.reduceSub, Nat.reduceBEq, Int.reduceEq, Int.reduceLT, Int.reduceLE, Int.reduceNeg, Nat.reduceLeDiff, L]
theorem q_SameMigrator (m : Nat) (ty : List Nat) (fs : List Ru) (hl : fs.length ≤ 20) (hs : ∀ r ∈ fs, r.few) : evH tabS (m + 43) 33 [.p (.agg [.str ty, .slice 8 (fs.map Ru.e)]), .p (.agg [.str ty, .slice 8 (fs.map Ru.e)])] [] = some (.p (.bool true), []) := (evH_code (show tabS 33 = some (.code h33 [.t 4] true) by kernel_rfl) (m + 42) _ _).trans (r_SameMigrator m ty fs hl hs)
theorem g_SameMigrator (m : Nat) (ty : List Nat) (fs : List Ru) (hl : fs.length ≤ 20) (hs : ∀ r ∈ fs, r.few) (raw : Bool) (hp : List Ob) (K : KV) : callG (evH tabS (m + 43)) 33 raw [.p (.agg [.str ty, .slice 8 (fs.map Ru.e)]), .p (.agg [.str ty, .slice 8 (fs.map Ru.e)])] hp K = if true = true then K (.p (.bool true)) hp else K (.p (.bool false)) hp := call_bool rfl (q_SameMigrator m ty fs hl hs)
theorem gF_SameMigrator (m : Nat) (ty : List Nat) (fs : List Ru) (hl : fs.length ≤ 20) (hs : ∀ r ∈ fs, r.few) (raw : Bool) (hp : List Ob) (K : KF) : callF (evH tabS (m + 43)) 33 raw [.p (.agg [.str ty, .slice 8 (fs.map Ru.e)]), .p (.agg [.str ty, .slice 8 (fs.map Ru.e)])] hp K = if true = true then K (.p (.bool true)) hp (footE hp) else K (.p (.bool false)) hp (footE hp) := callF_bool rfl (q_SameMigrator m ty fs hl hs)

end Go.Ab
end
/- Runs with letters: composition of migrators. -/
section
namespace Go.Ab
open Go
set_option maxHeartbeats 2000000
set_option maxRecDepth 20000

/-- The rule of m that a rule of n comes from. -/
def qOf (ms : List Ru) (r : Ru) : Ru := if r.source = [] then ⟨[], [], r.init, []⟩ else ms[(ruleIx ms r.source).toNat]?.getD ru0
def errOf (ms : List Ru) (r : Ru) : Int := if r.source ≠ [] ∧ ruleIx ms r.source < 0 then 14 else if 8 < (qOf ms r).ops.length + r.ops.length then 5 else 0
def compR (ms : List Ru) (r : Ru) : Ru := ⟨r.field, (qOf ms r).source, (qOf ms r).init, (qOf ms r).ops ++ r.ops⟩
def goodR (ms ns : List Ru) (j : Nat) : Bool :=
  match ns[j]? with
  | some r => decide (errOf ms r = 0)
  | none => false
/-- The composition and its error. -/
def compose (m n : Mi) : Mi × Int :=
  if miOk m = true ∧ miOk n = true then
    if m.type = n.type then
      match firstF (goodR m.rules n.rules) n.rules.length 0 with
      | none => (⟨m.type, n.rules.map (compR m.rules)⟩, 0)
      | some i => (⟨[], []⟩, errOf m.rules (n.rules[i]?.getD ru0))
    else (⟨[], []⟩, 25)
  else (⟨[], []⟩, 1)

theorem ruleIx_cases (fs : List Ru) (nm : List Nat) : ruleIx fs nm = -1 ∨ ∃ i, i < fs.length ∧ ruleIx fs nm = (i : Int) := by
  unfold ruleIx
  cases h : firstF (fun j => !decide (fs[j]?.map Ru.field = some nm)) fs.length 0 with
  | none => exact .inl rfl
  | some i => exact .inr ⟨i, by have := (firstF_some _ _ _ _ h).2.1; omega, rfl⟩

noncomputable def K32 : K := fun tm hp => rvsK tm hp [.cell 4 2 true, .t 5] fun ds => finK 0 true ds hp
theorem k32_eq (tm : Tm) (hp : List Ob) : K32 tm hp = rvsK tm hp [.cell 4 2 true, .t 5] fun ds => finK 0 true ds hp := rfl

theorem miOk_len {s : Mi} (h : miOk s = true) : s.rules.length ≤ 8 := by
  unfold miOk at h
  simp only [Bool.and_eq_true, decide_eq_true_eq] at h
  exact h.1.2
theorem vOk_16 {v : V} (h : vOk v = true) : v.is.length ≤ 16 ∧ v.ls.length ≤ 16 := by
  unfold vOk at h
  simp only [Bool.and_eq_true, decide_eq_true_eq] at h
  omega
theorem ruOk_few {r : Ru} (h : ruOk r = true) : r.few ∧ r.ops.length ≤ 8 := by
  unfold ruOk at h
  simp only [Bool.and_eq_true, decide_eq_true_eq, Option.isNone_iff_eq_none] at h
  obtain ⟨⟨⟨⟨⟨_, _⟩, h3⟩, _⟩, h5⟩, h6⟩ := h
  have v := vOk_16 h3
  refine ⟨⟨v.1, v.2, by omega, fun o ho => ?_⟩, h5⟩
  obtain ⟨j, hj, rfl⟩ := List.mem_iff_getElem.1 ho
  have := (firstF_none _ _ _).1 h6 j hj
  rw [Nat.zero_add] at this
  simp only [okOp, List.getElem?_eq_getElem hj, opOk, Bool.and_eq_true] at this
  exact vOk_16 this.2
theorem miOk_few {s : Mi} (h : miOk s = true) : ∀ r ∈ s.rules, r.few ∧ r.ops.length ≤ 8 := by
  intro r hr
  obtain ⟨j, hj, rfl⟩ := List.mem_iff_getElem.1 hr
  unfold miOk at h
  simp only [Bool.and_eq_true, Option.isNone_iff_eq_none] at h
  have := (firstF_none _ _ _).1 h.2 j hj
  rw [Nat.zero_add] at this
  simp only [okRule, List.getElem?_eq_getElem hj, Bool.and_eq_true] at this
  exact ruOk_few this.1

theorem L32 (m : Nat) (ty1 : List Nat) (ms ns : List Ru) (hm : ms.length ≤ 8) (hn : ns.length ≤ 8) (fm : ∀ r ∈ ms, r.few ∧ r.ops.length ≤ 8) (fn : ∀ r ∈ ns, r.few ∧ r.ops.length ≤ 8) (ke : Nat → K) :
    loopK 0 [2, 4, 6, 30, 31, 32] (fun tm hp k => l32_1 (evH tabS (m + 50)) (m + 50) 0 tm hp k ke K32) (m + 50)
      (.cons 2 (.box 0 0) (.cons 4 (.box 2 0) (.cons 6 (.box 3 0) (.cons 30 (.p (.slice 8 (ns.map Ru.e))) (.cons 31 (.p (.int .i64 ns.length)) (.cons 32 (.p (.int .i64 0)) .nil))))))
      [.box [.p (.str ty1), .p (.slice 8 (ms.map Ru.e))], .box [.p (.str ty1), .p (.slice 8 (ns.map Ru.e))], .box [.p (.str []), .sl .nil 8 []], .box [.p (.str ty1), .arr 4 0 0 8], .arr []] =
    findR (firstF (goodR ms ns) ns.length 0)
      (ke 1 (.cons 2 (.box 0 0) (.cons 4 (.box 1 0) (.cons 6 (.box 2 0) (.cons 30 (.p (.slice 8 (ns.map Ru.e))) (.cons 31 (.p (.int .i64 ns.length)) (.cons 32 (.p (.int .i64 ns.length)) (.cons 33 (.p (.bool false)) .nil))))))) [.box [.p (.str ty1), .p (.slice 8 (ms.map Ru.e))], .box [.p (.str []), .sl .nil 8 []], .box [.p (.str ty1), .arr 3 0 ns.length 8], .arr ((ns.take ns.length).map fun r => (compR ms r).e)])
      (fun j => some (.tup [.p (.agg [.str [], .slice 8 []]), .p (.int .i64 (errOf ms (ns[j]?.getD ru0)))], [])) := by
  refine loop_find (m := 0) (live := [2, 4, 6, 30, 31, 32]) (body := fun tm hp k => l32_1 (evH tabS (m + 50)) (m + 50) 0 tm hp k ke K32) ns.length
    (fun j => .cons 2 (.box 0 0) (.cons 4 (.box 1 0) (.cons 6 (.box 2 0) (.cons 30 (.p (.slice 8 (ns.map Ru.e))) (.cons 31 (.p (.int .i64 ns.length)) (.cons 32 (.p (.int .i64 (j : Nat))) .nil))))))
    (fun j => [.box [.p (.str ty1), .p (.slice 8 (ms.map Ru.e))], .box [.p (.str []), .sl .nil 8 []], .box [.p (.str ty1), .arr 3 0 j 8], .arr ((ns.take j).map fun r => (compR ms r).e)])
    (fun j => .cons 2 (.box 0 0) (.cons 4 (.box 1 0) (.cons 6 (.box 2 0) (.cons 30 (.p (.slice 8 (ns.map Ru.e))) (.cons 31 (.p (.int .i64 ns.length)) (.cons 32 (.p (.int .i64 (j + 1 : Nat))) .nil))))))
    (fun j => [.box [.p (.str ty1), .p (.slice 8 (ms.map Ru.e))], .box [.p (.str []), .sl .nil 8 []], .box [.p (.str ty1), .arr 6 0 (j + 1) 8], .dead, .box (mapP (cells (ns[j]?.getD ru0).e)), .box (bif decide ((ns[j]?.getD ru0).source = []) then [.p (.str []), .p (.str []), .p (.int .i64 (ns[j]?.getD ru0).init.k), .p (.int .i64 (ns[j]?.getD ru0).init.n), .p (.str (ns[j]?.getD ru0).init.s), .p (.slice 1 ((ns[j]?.getD ru0).init.is.map (.int .i64))), .p (.slice 1 ((ns[j]?.getD ru0).init.ls.map .str)), .sl .nil 6 []] else mapP (cells (qOf ms (ns[j]?.getD ru0)).e)), .arr ((ns.take (j + 1)).map fun r => (compR ms r).e)])
    (goodR ms ns) _ _
    (fun j _ => by kernel_rfl)
    (fun j kn hj => ?_)
    (fun kn => by
      simp -implicitDefEqProofs (maxSteps := 1000000) only [l32_1, go_sem, ↓reduceIte, Nat.reduceEqDiff, Nat.reduceAdd, Nat.reduceSub, Nat.reduceBEq, Int.reduceEq, Int.reduceLT, Int.reduceLE, Int.reduceNeg, Nat.reduceLeDiff, Int.lt_irrefl, if_false]) (m + 50) _ _ (by omega) (by kernel_rfl)
  have hr := fn ns[j] (List.getElem_mem hj)
  have hlen : ((ns.take j).map fun r => (compR ms r).e).length = j := by rw [List.length_map, List.length_take]; omega
  have hlen2 : (ns.take j).length = j := by rw [List.length_take]; omega
  rw [← take_snoc (fun r => (compR ms r).e) ns j hj]
  simp only [goodR, List.getElem?_eq_getElem hj, Option.getD_some]
  by_cases hs : ns[j].source = []
  · have hq : qOf ms ns[j] = ⟨[], [], ns[j].init, []⟩ := by simp [qOf, hs]
    have he : errOf ms ns[j] = 0 := by simp only [errOf, hq, hs]; simp; have := hr.2; omega
    have hc := fun (g : Tag) (hp : List Ob) (k : KF) => callF_sl (g := g) (hp := hp) (k := k) (q_cloneOps (m + 7) [] ns[j].ops (by simp) (by have := hr.2; omega) (by simpa using hr.1.2.2.2))
    simp only [Nat.add_assoc, Nat.reduceAdd, List.map_nil, List.nil_append] at hc
    have hcr : compR ms ns[j] = ⟨ns[j].field, [], ns[j].init, ns[j].ops⟩ := by simp [compR, hq]
    have u8 : ¬ (8 : Int) < (ns[j].ops.length : Int) := by have := hr.2; omega
    simp -implicitDefEqProofs (maxSteps := 1000000) only [l32_1, go_sem, ↓reduceIte, Nat.reduceEqDiff, Nat.reduceAdd, Nat.reduceSub, Nat.reduceBEq, Int.reduceEq, Int.reduceLT, Int.reduceLE, Int.reduceNeg, Nat.reduceLeDiff, at_map _ ns j hj, wrap_succ j (by omega), Int.ofNat_lt.mpr hj, List.getElem?_eq_getElem hj, hs, k32_eq, he, hq, hcr, gF_cloneValue, show ns[j].init.is.length ≤ 1000 by have := hr.1.1; omega, show ns[j].init.ls.length ≤ 1000 by have := hr.1.2.1; omega, hc, bsl1_F, Int.natCast_zero, Int.zero_add, wrap_few ns[j].ops.length (by have := hr.2; omega), u8, app_F3, hlen2, show j ≤ 1000 by omega]
  · rcases ruleIx_cases ms ns[j].source with hx | ⟨i, hi, hx⟩
    · have he : errOf ms ns[j] = 14 := by simp [errOf, hs, hx]
      simp -implicitDefEqProofs (maxSteps := 1000000) only [l32_1, go_sem, ↓reduceIte, Nat.reduceEqDiff, Nat.reduceAdd, Nat.reduceSub, Nat.reduceBEq, Int.reduceEq, Int.reduceLT, Int.reduceLE, Int.reduceNeg, Nat.reduceLeDiff, at_map _ ns j hj, Int.ofNat_lt.mpr hj, List.getElem?_eq_getElem hj, hs, k32_eq, he, g_ruleIndex, show ms.length ≤ 20 by omega, hx, finK_err2]
    · have hq : qOf ms ns[j] = ms[i] := by simp [qOf, hs, hx, hi]
      have fi := fm ms[i] (List.getElem_mem hi)
      have u0 : ¬ (i : Int) < 0 := by omega
      have w : wrapF .i64 ((ms[i].ops.length : Int) + ns[j].ops.length) = (ms[i].ops.length : Int) + ns[j].ops.length := by
        rw [show ((ms[i].ops.length : Int) + ns[j].ops.length) = ((ms[i].ops.length + ns[j].ops.length : Nat) : Int) by omega]
        exact wrap_few _ (by have := fi.2; have := hr.2; omega)
      have hc := fun (hp : List Ob) (k : KF) => gF_cloneOps (m + 7) ms[i].ops ns[j].ops (by have := fi.2; omega) (by have := hr.2; omega) (by
        intro o ho
        rcases List.mem_append.1 ho with h | h
        · exact fi.1.2.2.2 o h
        · exact hr.1.2.2.2 o h) false hp k
      simp only [Nat.add_assoc, Nat.reduceAdd] at hc
      have hcr : compR ms ns[j] = ⟨ns[j].field, ms[i].source, ms[i].init, ms[i].ops ++ ns[j].ops⟩ := by simp [compR, hq]
      by_cases h8 : (8 : Int) < (ms[i].ops.length : Int) + ns[j].ops.length
      · have he : errOf ms ns[j] = 5 := by
          have : 8 < ms[i].ops.length + ns[j].ops.length := by omega
          simp only [errOf, hq, hx, if_pos this]
          rw [if_neg]; rintro ⟨_, h⟩; omega
        simp -implicitDefEqProofs (maxSteps := 1000000) only [l32_1, go_sem, ↓reduceIte, Nat.reduceEqDiff, Nat.reduceAdd, Nat.reduceSub, Nat.reduceBEq, Int.reduceEq, Int.reduceLT, Int.reduceLE, Int.reduceNeg, Nat.reduceLeDiff, at_map _ ns j hj, at_map _ ms i hi, Int.ofNat_lt.mpr hj, List.getElem?_eq_getElem hj, hs, k32_eq, he, g_ruleIndex, show ms.length ≤ 20 by omega, hx, u0, w, h8, finK_err2]
      · have he : errOf ms ns[j] = 0 := by
          have : ¬ 8 < ms[i].ops.length + ns[j].ops.length := by omega
          simp only [errOf, hq, hx, if_neg this]
          rw [if_neg]; rintro ⟨_, h⟩; omega
        simp -implicitDefEqProofs (maxSteps := 1000000) only [l32_1, go_sem, ↓reduceIte, Nat.reduceEqDiff, Nat.reduceAdd, Nat.reduceSub, Nat.reduceBEq, Int.reduceEq, Int.reduceLT, Int.reduceLE, Int.reduceNeg, Nat.reduceLeDiff, at_map _ ns j hj, at_map _ ms i hi, wrap_succ j (by omega), Int.ofNat_lt.mpr hj, List.getElem?_eq_getElem hj, hs, k32_eq, he, hq, hcr, g_ruleIndex, show ms.length ≤ 20 by omega, hx, u0, w, h8, gF_cloneValue, show ms[i].init.is.length ≤ 1000 by have := fi.1.1; omega, show ms[i].init.ls.length ≤ 1000 by have := fi.1.2.1; omega, hc, bsl1_F, app_F3, hlen2, show j ≤ 1000 by omega]
end Go.Ab
end
/- Composition of migrators is associative: the run of the law and the plain law. -/
section
namespace Go.Ab
open Go
set_option maxHeartbeats 2000000
set_option maxRecDepth 20000

theorem q_Compose (m : Nat) (ty1 ty2 : List Nat) (ms ns : List Ru) (hm : ms.length ≤ 20) (hn : ns.length ≤ 20) : evH tabS (m + 51) 32 [.p (.agg [.str ty1, .slice 8 (ms.map Ru.e)]), .p (.agg [.str ty2, .slice 8 (ns.map Ru.e)])] [] = some (.tup [.p (.agg [.str (compose ⟨ty1, ms⟩ ⟨ty2, ns⟩).1.type, .slice 8 ((compose ⟨ty1, ms⟩ ⟨ty2, ns⟩).1.rules.map Ru.e)]), .p (.int .i64 (compose ⟨ty1, ms⟩ ⟨ty2, ns⟩).2)], []) := by
  refine (evH_code (show tabS 32 = some (.code h32 [.cell 4 2 true, .t 5] true) by kernel_rfl) (m + 50) _ _).trans ?_
  show h32 (evH tabS (m + 50)) (m + 50) 0 (numbered [.p (.agg [.str ty1, .slice 8 (ms.map Ru.e)]), .p (.agg [.str ty2, .slice 8 (ns.map Ru.e)])] 0) [] K32 (fun _ _ _ => none) K32 = _
  by_cases v1 : miOk ⟨ty1, ms⟩ = true
  · by_cases v2 : miOk ⟨ty2, ns⟩ = true
    · by_cases ht : ty1 = ty2
      · subst ht
        have e : compose ⟨ty1, ms⟩ ⟨ty1, ns⟩ = match firstF (goodR ms ns) ns.length 0 with
            | none => (⟨ty1, ns.map (compR ms)⟩, 0)
            | some i => (⟨[], []⟩, errOf ms (ns[i]?.getD ru0)) := by simp only [compose, v1, v2, and_self, if_true] <;> rfl
        rw [e]
        have L := L32 m ty1 ms ns (miOk_len v1) (miOk_len v2) (miOk_few v1) (miOk_few v2)
        have f3 := fun (o0 o1 o2 : Ob) (e : Da) => finK_ok3 (.str ty1) e 8 ns.length ((ns.take ns.length).map fun r => (compR ms r).e) o0 o1 o2 [] (by simp)
        simp -implicitDefEqProofs (maxSteps := 1000000) only [h32, go_sem, ↓reduceIte, Nat.reduceEqDiff, Nat.reduceAdd, Nat.reduceSub, Nat.reduceBEq, Int.reduceEq, Int.reduceLT, Int.reduceLE, Int.reduceNeg, Nat.reduceLeDiff, g_validMigrator, hm, hn, v1, v2, L]
        cases hf : firstF (goodR ms ns) ns.length 0 with
        | none =>
          simp -implicitDefEqProofs (maxSteps := 1000000) only [go_sem, ↓reduceIte, Nat.reduceEqDiff, Nat.reduceAdd, Nat.reduceSub, Nat.reduceBEq, Int.reduceEq, Int.reduceLT, Int.reduceLE, Int.reduceNeg, Nat.reduceLeDiff, findR, k32_eq, finK_ok3, List.length_map, List.length_take, Nat.min_self, List.take_length, List.map_map]
          rfl
        | some i => simp only [findR, List.map_nil]
      · have e : compose ⟨ty1, ms⟩ ⟨ty2, ns⟩ = (⟨[], []⟩, 25) := by simp only [compose, v1, v2, and_self, if_true]; rw [if_neg]; exact ht
        rw [e]
        simp -implicitDefEqProofs (maxSteps := 1000000) only [h32, go_sem, ↓reduceIte, Nat.reduceEqDiff, Nat.reduceAdd, Nat.reduceSub, Nat.reduceBEq, Int.reduceEq, Int.reduceLT, Int.reduceLE, Int.reduceNeg, Nat.reduceLeDiff, g_validMigrator, hm, hn, v1, v2, ht, k32_eq, finK_err2]
    · have e : compose ⟨ty1, ms⟩ ⟨ty2, ns⟩ = (⟨[], []⟩, 1) := by simp only [compose]; rw [if_neg]; rintro ⟨_, h⟩; exact v2 h
      rw [e]
      simp -implicitDefEqProofs (maxSteps := 1000000) only [h32, go_sem, ↓reduceIte, Nat.reduceEqDiff, Nat.reduceAdd, Nat.reduceSub, Nat.reduceBEq, Int.reduceEq, Int.reduceLT, Int.reduceLE, Int.reduceNeg, Nat.reduceLeDiff, g_validMigrator, hm, hn, v1, v2, k32_eq, finK_err2]
  · have e : compose ⟨ty1, ms⟩ ⟨ty2, ns⟩ = (⟨[], []⟩, 1) := by simp only [compose]; rw [if_neg]; rintro ⟨h, _⟩; exact v1 h
    rw [e]
    simp -implicitDefEqProofs (maxSteps := 1000000) only [h32, go_sem, ↓reduceIte, Nat.reduceEqDiff, Nat.reduceAdd, Nat.reduceSub, Nat.reduceBEq, Int.reduceEq, Int.reduceLT, Int.reduceLE, Int.reduceNeg, Nat.reduceLeDiff, g_validMigrator, hm, hn, v1, k32_eq, finK_err2]

/- The plain law. -/
theorem compose_ok {m n : Mi} (h : (compose m n).2 = 0) : miOk m = true ∧ miOk n = true ∧ m.type = n.type ∧ (∀ r ∈ n.rules, errOf m.rules r = 0) ∧ (compose m n).1 = ⟨m.type, n.rules.map (compR m.rules)⟩ := by
  unfold compose at h ⊢
  split at h
  · rename_i h1
    rw [if_pos h1]
    split at h
    · rename_i h2
      rw [if_pos h2]
      split at h
      · rename_i h3
        refine ⟨h1.1, h1.2, h2, fun r hr => ?_, rfl⟩
        obtain ⟨j, hj, rfl⟩ := List.mem_iff_getElem.1 hr
        have := (firstF_none _ _ _).1 h3 j hj
        rw [Nat.zero_add] at this
        simpa [goodR, List.getElem?_eq_getElem hj] using this
      · rename_i i h3
        obtain ⟨_, h4, h5, _⟩ := firstF_some _ _ _ _ h3
        have hi : i < n.rules.length := by omega
        simp only [goodR, List.getElem?_eq_getElem hi, decide_eq_false_iff_not] at h5
        simp only [List.getElem?_eq_getElem hi, Option.getD_some] at h
        exact absurd h h5
    · simp at h
  · simp at h
theorem ruleIx_map (f : Ru → Ru) (hf : ∀ r, (f r).field = r.field) (l : List Ru) (s : List Nat) : ruleIx (l.map f) s = ruleIx l s := by
  unfold ruleIx
  have : (fun j : Nat => !decide ((l.map f)[j]?.map Ru.field = some s)) = fun j : Nat => !decide (l[j]?.map Ru.field = some s) := by
    funext j
    rw [List.getElem?_map, Option.map_map]
    have : (Ru.field ∘ f) = Ru.field := funext hf
    rw [this]
  rw [this, List.length_map]
theorem compR_assoc (ms ns : List Ru) (r : Ru) (h : errOf ns r = 0) : compR (ns.map (compR ms)) r = compR ms (compR ns r) := by
  by_cases hs : r.source = []
  · simp [compR, qOf, hs]
  · rcases ruleIx_cases ns r.source with hx | ⟨i, hi, hx⟩
    · simp [errOf, hs, hx] at h
    · have q1 : qOf (ns.map (compR ms)) r = compR ms ns[i] := by
        simp [qOf, hs, ruleIx_map (compR ms) (fun _ => rfl), hx, hi]
      have q2 : qOf ns r = ns[i] := by simp [qOf, hs, hx, hi]
      have e1 : (compR ns r).source = ns[i].source := by simp [compR, q2]
      have e2 : (compR ns r).init = ns[i].init := by simp [compR, q2]
      have q3 : qOf ms (compR ns r) = qOf ms ns[i] := by simp only [qOf, e1, e2]
      simp only [compR] at q1 q3 ⊢
      rw [q1, q3, q2]
      simp [List.append_assoc]
theorem compR_few {a p : Mi} (ha : miOk a = true) (hp : miOk p = true) (r : Ru) (hr : r ∈ p.rules) (he : errOf a.rules r = 0) : (compR a.rules r).few := by
  have f := (miOk_few hp r hr).1
  have hlen : (qOf a.rules r).ops.length + r.ops.length ≤ 8 := by
    unfold errOf at he
    split at he
    · simp at he
    · split at he
      · simp at he
      · omega
  have hq : (qOf a.rules r).init.is.length ≤ 16 ∧ (qOf a.rules r).init.ls.length ≤ 16 ∧ ∀ o ∈ (qOf a.rules r).ops, o.few := by
    by_cases hs : r.source = []
    · simp only [qOf, hs, if_true]
      exact ⟨f.1, f.2.1, by simp⟩
    · rcases ruleIx_cases a.rules r.source with hx | ⟨i, hi, hx⟩
      · simp [errOf, hs, hx] at he
      · have q2 : qOf a.rules r = a.rules[i] := by simp [qOf, hs, hx, hi]
        rw [q2]
        have g := (miOk_few ha a.rules[i] (List.getElem_mem hi)).1
        exact ⟨g.1, g.2.1, g.2.2.2⟩
  refine ⟨hq.1, hq.2.1, by simp only [compR, List.length_append]; omega, fun o ho => ?_⟩
  simp only [compR, List.mem_append] at ho
  rcases ho with h | h
  · exact hq.2.2 o h
  · exact f.2.2.2 o h
theorem compose_assoc {m n p : Mi} (h1 : (compose m n).2 = 0) (h2 : (compose n p).2 = 0) (h3 : (compose (compose m n).1 p).2 = 0) (h4 : (compose m (compose n p).1).2 = 0) : (compose (compose m n).1 p).1 = (compose m (compose n p).1).1 ∧ (compose (compose m n).1 p).1.rules.length ≤ 20 ∧ ∀ r ∈ (compose (compose m n).1 p).1.rules, r.few := by
  obtain ⟨a1, a2, a3, a4, a5⟩ := compose_ok h1
  obtain ⟨b1, b2, b3, b4, b5⟩ := compose_ok h2
  obtain ⟨c1, c2, c3, c4, c5⟩ := compose_ok h3
  obtain ⟨d1, d2, d3, d4, d5⟩ := compose_ok h4
  refine ⟨?_, ?_, ?_⟩
  · rw [c5, d5, a5, b5]
    simp only [List.map_map, Mi.mk.injEq, true_and]
    apply List.map_congr_left
    intro r hr
    exact compR_assoc m.rules n.rules r (b4 r hr)
  · rw [c5]
    have := miOk_len c2
    simp only [List.length_map]
    omega
  · rw [c5]
    intro r hr
    obtain ⟨s, hs, rfl⟩ := List.mem_map.1 hr
    exact compR_few c1 c2 s hs (c4 s hs)

theorem compose_few {m n : Mi} : (compose m n).1.rules.length ≤ 8 := by
  by_cases h : (compose m n).2 = 0
  · obtain ⟨_, b, _, _, e⟩ := compose_ok h
    rw [e]; simpa using miOk_len b
  · unfold compose at h ⊢
    split
    · split
      · split <;> simp_all
      · simp
    · simp
theorem fitOk_len {s : Mi} (h : fitOk s = true) : s.rules.length ≤ 20 := by
  unfold fitOk at h
  simp only [Bool.and_eq_true, decide_eq_true_eq] at h
  exact h.1
theorem g_Compose (m : Nat) (ty1 ty2 : List Nat) (ms ns : List Ru) (hm : ms.length ≤ 20) (hn : ns.length ≤ 20) (raw : Bool) (hp : List Ob) (K : KV) : callG (evH tabS (m + 51)) 32 raw [.p (.agg [.str ty1, .slice 8 (ms.map Ru.e)]), .p (.agg [.str ty2, .slice 8 (ns.map Ru.e)])] hp K = K (.tup [.p (.agg [.str (compose ⟨ty1, ms⟩ ⟨ty2, ns⟩).1.type, .slice 8 ((compose ⟨ty1, ms⟩ ⟨ty2, ns⟩).1.rules.map Ru.e)]), .p (.int .i64 (compose ⟨ty1, ms⟩ ⟨ty2, ns⟩).2)]) hp :=
  call_known rfl (q_Compose m ty1 ty2 ms ns hm hn) rfl
theorem mi_eta (m : Mi) : (⟨m.type, m.rules⟩ : Mi) = m := rfl

theorem r_SchemaAssociative (m : Nat) (t1 : List Nat) (t2 : List Nat) (t3 : List Nat) (ms : List Ru) (ns : List Ru) (ps : List Ru) : runH h8 (evH tabS (m + 60)) (m + 60) [.t 6] true [.p (.agg [.str t1, .slice 8 (ms.map Ru.e)]), .p (.agg [.str t2, .slice 8 (ns.map Ru.e)]), .p (.agg [.str t3, .slice 8 (ps.map Ru.e)])] [] = some (.p (.bool true), []) := by
  by_cases f1 : fitOk ⟨t1, ms⟩ = true
  · by_cases f2 : fitOk ⟨t2, ns⟩ = true
    · by_cases f3 : fitOk ⟨t3, ps⟩ = true
      · have z1 := fitOk_len f1
        have z2 := fitOk_len f2
        have z3 := fitOk_len f3
        simp only at z1 z2 z3
        have z4 : (compose ⟨t1, ms⟩ ⟨t2, ns⟩).1.rules.length ≤ 20 := by have := compose_few (m := ⟨t1, ms⟩) (n := ⟨t2, ns⟩); omega
        have z5 : (compose ⟨t2, ns⟩ ⟨t3, ps⟩).1.rules.length ≤ 20 := by have := compose_few (m := ⟨t2, ns⟩) (n := ⟨t3, ps⟩); omega
        by_cases c1 : (compose ⟨t1, ms⟩ ⟨t2, ns⟩).2 = 0
        · by_cases c2 : (compose ⟨t2, ns⟩ ⟨t3, ps⟩).2 = 0
          · by_cases c3 : (compose (compose ⟨t1, ms⟩ ⟨t2, ns⟩).1 ⟨t3, ps⟩).2 = 0
            · by_cases c4 : (compose ⟨t1, ms⟩ (compose ⟨t2, ns⟩ ⟨t3, ps⟩).1).2 = 0
              · obtain ⟨e, l, w⟩ := compose_assoc c1 c2 c3 c4
                rw [e] at l w
                have gs := fun (raw : Bool) (hp : List Ob) (K : KV) => g_SameMigrator (m + 17) (compose ⟨t1, ms⟩ (compose ⟨t2, ns⟩ ⟨t3, ps⟩).1).1.type (compose ⟨t1, ms⟩ (compose ⟨t2, ns⟩ ⟨t3, ps⟩).1).1.rules l w raw hp K
                simp only [Nat.add_assoc, Nat.reduceAdd] at gs
                simp -implicitDefEqProofs (maxSteps := 1000000) only [h8, go_sem, ↓reduceIte, Nat.reduceEqDiff, Nat.reduceAdd, Nat.reduceSub, Nat.reduceBEq, Int.reduceEq, Int.reduceLT, Int.reduceLE, Int.reduceNeg, Nat.reduceLeDiff, g_awake, g_fits, f1, f2, f3, g_Compose, z1, z2, z3, z4, z5, mi_eta, c1, c2, c3, c4, e, gs]
              · simp -implicitDefEqProofs (maxSteps := 1000000) only [h8, go_sem, ↓reduceIte, Nat.reduceEqDiff, Nat.reduceAdd, Nat.reduceSub, Nat.reduceBEq, Int.reduceEq, Int.reduceLT, Int.reduceLE, Int.reduceNeg, Nat.reduceLeDiff, g_awake, g_fits, f1, f2, f3, g_Compose, z1, z2, z3, z4, z5, mi_eta, c1, c2, c3, c4]
            · simp -implicitDefEqProofs (maxSteps := 1000000) only [h8, go_sem, ↓reduceIte, Nat.reduceEqDiff, Nat.reduceAdd, Nat.reduceSub, Nat.reduceBEq, Int.reduceEq, Int.reduceLT, Int.reduceLE, Int.reduceNeg, Nat.reduceLeDiff, g_awake, g_fits, f1, f2, f3, g_Compose, z1, z2, z3, z4, z5, mi_eta, c1, c2, c3]
          · simp -implicitDefEqProofs (maxSteps := 1000000) only [h8, go_sem, ↓reduceIte, Nat.reduceEqDiff, Nat.reduceAdd, Nat.reduceSub, Nat.reduceBEq, Int.reduceEq, Int.reduceLT, Int.reduceLE, Int.reduceNeg, Nat.reduceLeDiff, g_awake, g_fits, f1, f2, f3, g_Compose, z1, z2, z3, z4, z5, mi_eta, c1, c2]
        · simp -implicitDefEqProofs (maxSteps := 1000000) only [h8, go_sem, ↓reduceIte, Nat.reduceEqDiff, Nat.reduceAdd, Nat.reduceSub, Nat.reduceBEq, Int.reduceEq, Int.reduceLT, Int.reduceLE, Int.reduceNeg, Nat.reduceLeDiff, g_awake, g_fits, f1, f2, f3, g_Compose, z1, z2, z3, z4, z5, mi_eta, c1]
      · simp -implicitDefEqProofs (maxSteps := 1000000) only [h8, go_sem, ↓reduceIte, Nat.reduceEqDiff, Nat.reduceAdd, Nat.reduceSub, Nat.reduceBEq, Int.reduceEq, Int.reduceLT, Int.reduceLE, Int.reduceNeg, Nat.reduceLeDiff, g_awake, g_fits, f1, f2, f3]
    · simp -implicitDefEqProofs (maxSteps := 1000000) only [h8, go_sem, ↓reduceIte, Nat.reduceEqDiff, Nat.reduceAdd, Nat.reduceSub, Nat.reduceBEq, Int.reduceEq, Int.reduceLT, Int.reduceLE, Int.reduceNeg, Nat.reduceLeDiff, g_awake, g_fits, f1, f2]
  · simp -implicitDefEqProofs (maxSteps := 1000000) only [h8, go_sem, ↓reduceIte, Nat.reduceEqDiff, Nat.reduceAdd, Nat.reduceSub, Nat.reduceBEq, Int.reduceEq, Int.reduceLT, Int.reduceLE, Int.reduceNeg, Nat.reduceLeDiff, g_awake, g_fits, f1]
theorem q_SchemaAssociative (m : Nat) (t1 : List Nat) (t2 : List Nat) (t3 : List Nat) (ms : List Ru) (ns : List Ru) (ps : List Ru) : evH tabS (m + 61) 8 [.p (.agg [.str t1, .slice 8 (ms.map Ru.e)]), .p (.agg [.str t2, .slice 8 (ns.map Ru.e)]), .p (.agg [.str t3, .slice 8 (ps.map Ru.e)])] [] = some (.p (.bool true), []) := (evH_code (show tabS 8 = some (.code h8 [.t 6] true) by kernel_rfl) (m + 60) _ _).trans (r_SchemaAssociative m t1 t2 t3 ms ns ps)
theorem g_SchemaAssociative (m : Nat) (t1 : List Nat) (t2 : List Nat) (t3 : List Nat) (ms : List Ru) (ns : List Ru) (ps : List Ru) (raw : Bool) (hp : List Ob) (K : KV) : callG (evH tabS (m + 61)) 8 raw [.p (.agg [.str t1, .slice 8 (ms.map Ru.e)]), .p (.agg [.str t2, .slice 8 (ns.map Ru.e)]), .p (.agg [.str t3, .slice 8 (ps.map Ru.e)])] hp K = if true = true then K (.p (.bool true)) hp else K (.p (.bool false)) hp := call_bool rfl (q_SchemaAssociative m t1 t2 t3 ms ns ps)
theorem gF_SchemaAssociative (m : Nat) (t1 : List Nat) (t2 : List Nat) (t3 : List Nat) (ms : List Ru) (ns : List Ru) (ps : List Ru) (raw : Bool) (hp : List Ob) (K : KF) : callF (evH tabS (m + 61)) 8 raw [.p (.agg [.str t1, .slice 8 (ms.map Ru.e)]), .p (.agg [.str t2, .slice 8 (ns.map Ru.e)]), .p (.agg [.str t3, .slice 8 (ps.map Ru.e)])] hp K = if true = true then K (.p (.bool true)) hp (footE hp) else K (.p (.bool false)) hp (footE hp) := callF_bool rfl (q_SchemaAssociative m t1 t2 t3 ms ns ps)

end Go.Ab
end
