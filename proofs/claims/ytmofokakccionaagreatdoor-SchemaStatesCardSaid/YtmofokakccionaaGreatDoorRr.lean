/- The evaluator and its laws, part Rr: R1 R2 R3 R4 R5 -/
import Derived.Test.YtmofokakccionaaGreatDoorAbZ
set_option linter.all false
/- Runs with letters: small functions of layer 36. -/
section
namespace Go.Ab
open Go

theorem r_validName (m : Nat) (s : List Nat) : runH h38 (evH tabS (m + 0)) (m + 0) [.t 2] true [.p (.str s)] [] = some (.p (.bool (nameOk s)), []) := by
  simp -implicitDefEqProofs (maxSteps := 1000000) only [h38, go_sem, ↓reduceIte, Nat.reduceEqDiff, Nat.reduceAdd, Nat.reduceSub, Nat.reduceBEq, Int.reduceEq, Int.reduceLT, Int.reduceLE, Int.reduceNeg, Nat.reduceLeDiff, ite_ans]
  apply ans
  unfold nameOk
  grind
theorem q_validName (m : Nat) (s : List Nat) : evH tabS (m + 1) 38 [.p (.str s)] [] = some (.p (.bool (nameOk s)), []) := (evH_code (show tabS 38 = some (.code h38 [.t 2] true) by kernel_rfl) (m + 0) _ _).trans (r_validName m s)
theorem g_validName (m : Nat) (s : List Nat) (raw : Bool) (hp : List Ob) (K : KV) : callG (evH tabS (m + 1)) 38 raw [.p (.str s)] hp K = if (nameOk s) = true then K (.p (.bool true)) hp else K (.p (.bool false)) hp := call_bool rfl (q_validName m s)
theorem gF_validName (m : Nat) (s : List Nat) (raw : Bool) (hp : List Ob) (K : KF) : callF (evH tabS (m + 1)) 38 raw [.p (.str s)] hp K = if (nameOk s) = true then K (.p (.bool true)) hp (footE hp) else K (.p (.bool false)) hp (footE hp) := callF_bool rfl (q_validName m s)


theorem r_ValidName (m : Nat) (s : List Nat) : runH h41 (evH tabS (m + 0)) (m + 0) [.t 2] true [.p (.str s)] [] = some (.p (.bool (nameOk s)), []) := by
  simp -implicitDefEqProofs (maxSteps := 1000000) only [h41, go_sem, ↓reduceIte, Nat.reduceEqDiff, Nat.reduceAdd, Nat.reduceSub, Nat.reduceBEq, Int.reduceEq, Int.reduceLT, Int.reduceLE, Int.reduceNeg, Nat.reduceLeDiff, ite_ans]
  apply ans
  unfold nameOk
  grind
theorem q_ValidName (m : Nat) (s : List Nat) : evH tabS (m + 1) 41 [.p (.str s)] [] = some (.p (.bool (nameOk s)), []) := (evH_code (show tabS 41 = some (.code h41 [.t 2] true) by kernel_rfl) (m + 0) _ _).trans (r_ValidName m s)
theorem g_ValidName (m : Nat) (s : List Nat) (raw : Bool) (hp : List Ob) (K : KV) : callG (evH tabS (m + 1)) 41 raw [.p (.str s)] hp K = if (nameOk s) = true then K (.p (.bool true)) hp else K (.p (.bool false)) hp := call_bool rfl (q_ValidName m s)
theorem gF_ValidName (m : Nat) (s : List Nat) (raw : Bool) (hp : List Ob) (K : KF) : callF (evH tabS (m + 1)) 41 raw [.p (.str s)] hp K = if (nameOk s) = true then K (.p (.bool true)) hp (footE hp) else K (.p (.bool false)) hp (footE hp) := callF_bool rfl (q_ValidName m s)


theorem L39 (call : CallF) (N : Nat) (ls : List (List Nat)) (hl : ls.length ≤ 16) (hN : 20 ≤ N) (ke : Nat → K) (kr : K) (cs : List D) :
    loopK 0 [76, 77, 78] (fun tm hp k => l39_1 call N 0 tm hp k ke kr) N (.cons 76 (.p (.slice 1 (ls.map .str))) (.cons 77 (.p (.int .i64 ls.length)) (.cons 78 (.p (.int .i64 0)) .nil))) [.box cs] =
      if (ls.all fun t => decide (t.length ≤ 64)) = true then ke 1 (.cons 76 (.p (.slice 1 (ls.map .str))) (.cons 77 (.p (.int .i64 ls.length)) (.cons 78 (.p (.int .i64 ls.length)) (.cons 79 (.p (.bool false)) .nil)))) [] else kr (.cons 2 (.p (.bool false)) .nil) [] := by
  refine (loop_all (m := 0) (live := [76, 77, 78]) (body := fun tm hp k => l39_1 call N 0 tm hp k ke kr) ls.length
    (fun j => .cons 76 (.p (.slice 1 (ls.map .str))) (.cons 77 (.p (.int .i64 ls.length)) (.cons 78 (.p (.int .i64 (j : Nat))) .nil))) (fun _ => [])
    (fun j => .cons 76 (.p (.slice 1 (ls.map .str))) (.cons 77 (.p (.int .i64 ls.length)) (.cons 78 (.p (.int .i64 (j + 1 : Nat))) .nil))) (fun _ => [])
    (fun j => !decide ((64 : Int) < (ls[j]?.getD []).length)) (kr (.cons 2 (.p (.bool false)) .nil) []) (ke 1 (.cons 76 (.p (.slice 1 (ls.map .str))) (.cons 77 (.p (.int .i64 ls.length)) (.cons 78 (.p (.int .i64 ls.length)) (.cons 79 (.p (.bool false)) .nil)))) [])
    (fun j _ => by kernel_rfl)
    (fun j kn hj => by
      simp -implicitDefEqProofs (maxSteps := 1000000) only [l39_1, go_sem, ↓reduceIte, Nat.reduceEqDiff, Nat.reduceAdd, Nat.reduceSub, Nat.reduceBEq, Int.reduceEq, Int.reduceLT, Int.reduceLE, Int.reduceNeg, Nat.reduceLeDiff, at_map _ ls j hj, wrap_succ j (by omega), Int.ofNat_lt.mpr hj, if_true, List.getElem?_eq_getElem hj, Option.getD_some])
    (fun kn => by
      simp -implicitDefEqProofs (maxSteps := 1000000) only [l39_1, go_sem, ↓reduceIte, Nat.reduceEqDiff, Nat.reduceAdd, Nat.reduceSub, Nat.reduceBEq, Int.reduceEq, Int.reduceLT, Int.reduceLE, Int.reduceNeg, Nat.reduceLeDiff, Int.lt_irrefl, if_false]) N _ _ (by omega) (by kernel_rfl)).trans ?_
  have e : (∀ j, j < ls.length → (!decide ((64 : Int) < (ls[j]?.getD []).length)) = true) ↔ (ls.all fun t => decide (t.length ≤ 64)) = true := by
    rw [List.all_eq_true, ← all_idx ls [] fun t => decide (t.length ≤ 64) = true]
    simp
    grind
  simp only [e]

set_option maxHeartbeats 1000000
theorem r_wireValid (m : Nat) (k : Int) (n : Int) (s : List Nat) (is : List Int) (ls : List (List Nat)) : runH h39 (evH tabS (m + 20)) (m + 20) [.t 2] true [.p (.agg [.int .i64 k, .int .i64 n, .str s, .slice 1 (is.map (.int .i64)), .slice 1 (ls.map .str)])] [] = some (.p (.bool (vOk ⟨k, n, s, is, ls⟩)), []) := by
  by_cases hl : ls.length ≤ 16
  · simp -implicitDefEqProofs (maxSteps := 1000000) only [h39, go_sem, ↓reduceIte, Nat.reduceEqDiff, Nat.reduceAdd, Nat.reduceSub, Nat.reduceBEq, Int.reduceEq, Int.reduceLT, Int.reduceLE, Int.reduceNeg, Nat.reduceLeDiff, L39 _ _ ls hl (Nat.le_add_left _ _)]
    simp only [ite_ans]
    apply ans
    unfold vOk
    generalize (ls.all fun t => decide (t.length ≤ 64)) = q
    grind (splits := 40)
  · have hl' : (16 : Int) < ls.length := by omega
    simp -implicitDefEqProofs (maxSteps := 1000000) only [h39, go_sem, ↓reduceIte, Nat.reduceEqDiff, Nat.reduceAdd, Nat.reduceSub, Nat.reduceBEq, Int.reduceEq, Int.reduceLT, Int.reduceLE, Int.reduceNeg, Nat.reduceLeDiff, hl', if_true]
    simp only [ite_ans, ite_self]
    apply ans
    unfold vOk
    generalize (ls.all fun t => decide (t.length ≤ 64)) = q
    grind (splits := 40)
theorem q_wireValid (m : Nat) (k : Int) (n : Int) (s : List Nat) (is : List Int) (ls : List (List Nat)) : evH tabS (m + 21) 39 [.p (.agg [.int .i64 k, .int .i64 n, .str s, .slice 1 (is.map (.int .i64)), .slice 1 (ls.map .str)])] [] = some (.p (.bool (vOk ⟨k, n, s, is, ls⟩)), []) := (evH_code (show tabS 39 = some (.code h39 [.t 2] true) by kernel_rfl) (m + 20) _ _).trans (r_wireValid m k n s is ls)
theorem g_wireValid (m : Nat) (k : Int) (n : Int) (s : List Nat) (is : List Int) (ls : List (List Nat)) (raw : Bool) (hp : List Ob) (K : KV) : callG (evH tabS (m + 21)) 39 raw [.p (.agg [.int .i64 k, .int .i64 n, .str s, .slice 1 (is.map (.int .i64)), .slice 1 (ls.map .str)])] hp K = if (vOk ⟨k, n, s, is, ls⟩) = true then K (.p (.bool true)) hp else K (.p (.bool false)) hp := call_bool rfl (q_wireValid m k n s is ls)
theorem gF_wireValid (m : Nat) (k : Int) (n : Int) (s : List Nat) (is : List Int) (ls : List (List Nat)) (raw : Bool) (hp : List Ob) (K : KF) : callF (evH tabS (m + 21)) 39 raw [.p (.agg [.int .i64 k, .int .i64 n, .str s, .slice 1 (is.map (.int .i64)), .slice 1 (ls.map .str)])] hp K = if (vOk ⟨k, n, s, is, ls⟩) = true then K (.p (.bool true)) hp (footE hp) else K (.p (.bool false)) hp (footE hp) := callF_bool rfl (q_wireValid m k n s is ls)


end Go.Ab
end
/- Runs with letters: the references' equalities and valid values. -/
section
namespace Go.Ab
open Go

theorem L30 (call : CallF) (N : Nat) (c0 c1 c2 c3 : Da) (ls : List (List Nat)) (hl : ls.length ≤ 16) (hN : 20 ≤ N) (ke : Nat → K) (kr : K) :
    loopK 0 [1, 3] (fun tm hp k => l30_1 call N 0 tm hp k ke kr) N (.cons 1 (.box 0 0) (.cons 3 (.p (.int .i64 0)) .nil)) [.box [.p c0, .p c1, .p c2, .p c3, .p (.slice 1 (ls.map .str))]] =
      if (ls.all fun t => decide (t.length ≤ 64)) = true then ke 0 (.cons 1 (.box 0 0) (.cons 3 (.p (.int .i64 ls.length)) (.cons 94 (.p (.bool false)) .nil))) [.box [.p c0, .p c1, .p c2, .p c3, .p (.slice 1 (ls.map .str))]] else kr (.cons 2 (.p (.bool false)) .nil) [.box [.p c0, .p c1, .p c2, .p c3, .p (.slice 1 (ls.map .str))]] := by
  refine (loop_all (m := 0) (live := [1, 3]) (body := fun tm hp k => l30_1 call N 0 tm hp k ke kr) ls.length
    (fun j => .cons 1 (.box 0 0) (.cons 3 (.p (.int .i64 (j : Nat))) .nil)) (fun _ => [.box [.p c0, .p c1, .p c2, .p c3, .p (.slice 1 (ls.map .str))]])
    (fun j => .cons 1 (.box 0 0) (.cons 3 (.p (.int .i64 (j + 1 : Nat))) .nil)) (fun _ => [.box [.p c0, .p c1, .p c2, .p c3, .p (.slice 1 (ls.map .str))]])
    (fun j => !decide ((64 : Int) < (ls[j]?.getD []).length)) (kr (.cons 2 (.p (.bool false)) .nil) [.box [.p c0, .p c1, .p c2, .p c3, .p (.slice 1 (ls.map .str))]]) (ke 0 (.cons 1 (.box 0 0) (.cons 3 (.p (.int .i64 ls.length)) (.cons 94 (.p (.bool false)) .nil))) [.box [.p c0, .p c1, .p c2, .p c3, .p (.slice 1 (ls.map .str))]])
    (fun j _ => by kernel_rfl)
    (fun j kn hj => by
      simp -implicitDefEqProofs (maxSteps := 1000000) only [l30_1, go_sem, ↓reduceIte, Nat.reduceEqDiff, Nat.reduceAdd, Nat.reduceSub, Nat.reduceBEq, Int.reduceEq, Int.reduceLT, Int.reduceLE, Int.reduceNeg, Nat.reduceLeDiff, at_map _ ls j hj, wrap_succ j (by omega), Int.ofNat_lt.mpr hj, if_true, List.getElem?_eq_getElem hj, Option.getD_some])
    (fun kn => by
      simp -implicitDefEqProofs (maxSteps := 1000000) only [l30_1, go_sem, ↓reduceIte, Nat.reduceEqDiff, Nat.reduceAdd, Nat.reduceSub, Nat.reduceBEq, Int.reduceEq, Int.reduceLT, Int.reduceLE, Int.reduceNeg, Nat.reduceLeDiff, Int.lt_irrefl, if_false]) N _ _ (by omega) (by kernel_rfl)).trans ?_
  have e : (∀ j, j < ls.length → (!decide ((64 : Int) < (ls[j]?.getD []).length)) = true) ↔ (ls.all fun t => decide (t.length ≤ 64)) = true := by
    rw [List.all_eq_true, ← all_idx ls [] fun t => decide (t.length ≤ 64) = true]
    simp
    grind
  simp only [e]

set_option maxHeartbeats 1000000
theorem r_refValid (m : Nat) (k : Int) (n : Int) (s : List Nat) (is : List Int) (ls : List (List Nat)) : runH h30 (evH tabS (m + 20)) (m + 20) [.t 2] true [.p (.agg [.int .i64 k, .int .i64 n, .str s, .slice 1 (is.map (.int .i64)), .slice 1 (ls.map .str)])] [] = some (.p (.bool (vOk ⟨k, n, s, is, ls⟩)), []) := by
  by_cases hl : ls.length ≤ 16
  · simp -implicitDefEqProofs (maxSteps := 1000000) only [h30, go_sem, ↓reduceIte, Nat.reduceEqDiff, Nat.reduceAdd, Nat.reduceSub, Nat.reduceBEq, Int.reduceEq, Int.reduceLT, Int.reduceLE, Int.reduceNeg, Nat.reduceLeDiff, L30 _ _ _ _ _ _ ls hl (Nat.le_add_left _ _)]
    simp only [ite_ans]
    apply ans
    unfold vOk
    generalize (ls.all fun t => decide (t.length ≤ 64)) = q
    grind (splits := 40)
  · have hl' : (16 : Int) < ls.length := by omega
    simp -implicitDefEqProofs (maxSteps := 1000000) only [h30, go_sem, ↓reduceIte, Nat.reduceEqDiff, Nat.reduceAdd, Nat.reduceSub, Nat.reduceBEq, Int.reduceEq, Int.reduceLT, Int.reduceLE, Int.reduceNeg, Nat.reduceLeDiff, hl', if_true]
    simp only [ite_ans, ite_self]
    apply ans
    unfold vOk
    generalize (ls.all fun t => decide (t.length ≤ 64)) = q
    grind (splits := 40)
theorem q_refValid (m : Nat) (k : Int) (n : Int) (s : List Nat) (is : List Int) (ls : List (List Nat)) : evH tabS (m + 21) 30 [.p (.agg [.int .i64 k, .int .i64 n, .str s, .slice 1 (is.map (.int .i64)), .slice 1 (ls.map .str)])] [] = some (.p (.bool (vOk ⟨k, n, s, is, ls⟩)), []) := (evH_code (show tabS 30 = some (.code h30 [.t 2] true) by kernel_rfl) (m + 20) _ _).trans (r_refValid m k n s is ls)
theorem g_refValid (m : Nat) (k : Int) (n : Int) (s : List Nat) (is : List Int) (ls : List (List Nat)) (raw : Bool) (hp : List Ob) (K : KV) : callG (evH tabS (m + 21)) 30 raw [.p (.agg [.int .i64 k, .int .i64 n, .str s, .slice 1 (is.map (.int .i64)), .slice 1 (ls.map .str)])] hp K = if (vOk ⟨k, n, s, is, ls⟩) = true then K (.p (.bool true)) hp else K (.p (.bool false)) hp := call_bool rfl (q_refValid m k n s is ls)
theorem gF_refValid (m : Nat) (k : Int) (n : Int) (s : List Nat) (is : List Int) (ls : List (List Nat)) (raw : Bool) (hp : List Ob) (K : KF) : callF (evH tabS (m + 21)) 30 raw [.p (.agg [.int .i64 k, .int .i64 n, .str s, .slice 1 (is.map (.int .i64)), .slice 1 (ls.map .str)])] hp K = if (vOk ⟨k, n, s, is, ls⟩) = true then K (.p (.bool true)) hp (footE hp) else K (.p (.bool false)) hp (footE hp) := callF_bool rfl (q_refValid m k n s is ls)


theorem same_idx {α : Type} (a b : List α) (h : a.length = b.length) : (∀ j, j < a.length → a[j]? = b[j]?) ↔ a = b := by
  constructor
  · intro h2
    apply List.ext_getElem? fun i => ?_
    by_cases hi : i < a.length
    · exact h2 i hi
    · rw [List.getElem?_eq_none (by omega), List.getElem?_eq_none (by omega)]
  · rintro rfl _ _; rfl

theorem r_SameInts (m : Nat) (a : List Int) (b : List Int) (ha : a.length ≤ 16) : runH h57 (evH tabS (m + 20)) (m + 20) [.t 4] true [.p (.slice 1 (a.map (.int .i64))), .p (.slice 1 (b.map (.int .i64)))] [] = some (.p (.bool (decide (a = b))), []) := by
  have L := fun (hab : a.length = b.length) (ke : Nat → K) (kr : K) => loop_all (m := 0) (live := [0, 1, 5]) (body := fun tm hp k => l57_1 (evH tabS (m + 20)) (m + 20) 0 tm hp k ke kr) a.length
    (fun j => .cons 0 (.p (.slice 1 (a.map (.int .i64)))) (.cons 1 (.p (.slice 1 (b.map (.int .i64)))) (.cons 5 (.p (.int .i64 (j : Nat))) .nil))) (fun _ => [])
    (fun j => .cons 0 (.p (.slice 1 (a.map (.int .i64)))) (.cons 1 (.p (.slice 1 (b.map (.int .i64)))) (.cons 5 (.p (.int .i64 (j + 1 : Nat))) .nil))) (fun _ => [])
    (fun j => decide (a[j]? = b[j]?)) (kr (.cons 4 (.p (.bool false)) .nil) []) (ke 0 (.cons 0 (.p (.slice 1 (a.map (.int .i64)))) (.cons 1 (.p (.slice 1 (b.map (.int .i64)))) (.cons 5 (.p (.int .i64 a.length)) (.cons 14 (.p (.bool false)) .nil)))) [])
    (fun j _ => by kernel_rfl)
    (fun j kn hj => by
      simp -implicitDefEqProofs (maxSteps := 1000000) only [l57_1, go_sem, ↓reduceIte, Nat.reduceEqDiff, Nat.reduceAdd, Nat.reduceSub, Nat.reduceBEq, Int.reduceEq, Int.reduceLT, Int.reduceLE, Int.reduceNeg, Nat.reduceLeDiff, at_map _ a j hj, at_map _ b j (hab ▸ hj), wrap_succ j (by omega), Int.ofNat_lt.mpr hj, if_true, List.getElem?_eq_getElem hj, List.getElem?_eq_getElem (hab ▸ hj), Option.some.injEq])
    (fun kn => by
      simp -implicitDefEqProofs (maxSteps := 1000000) only [l57_1, go_sem, ↓reduceIte, Nat.reduceEqDiff, Nat.reduceAdd, Nat.reduceSub, Nat.reduceBEq, Int.reduceEq, Int.reduceLT, Int.reduceLE, Int.reduceNeg, Nat.reduceLeDiff, Int.lt_irrefl, if_false]) (m + 20)
    (.cons 0 (.p (.slice 1 (a.map (.int .i64)))) (.cons 1 (.p (.slice 1 (b.map (.int .i64)))) (.cons 5 (.p (.int .i64 0)) .nil))) [] (by omega) (by kernel_rfl)
  by_cases hab : a.length = b.length
  · simp -implicitDefEqProofs (maxSteps := 1000000) only [h57, go_sem, ↓reduceIte, Nat.reduceEqDiff, Nat.reduceAdd, Nat.reduceSub, Nat.reduceBEq, Int.reduceEq, Int.reduceLT, Int.reduceLE, Int.reduceNeg, Nat.reduceLeDiff, hab, if_true]
    have L := L hab
    simp only [hab] at L
    simp -implicitDefEqProofs (maxSteps := 1000000) only [go_sem, ↓reduceIte, Nat.reduceEqDiff, Nat.reduceAdd, Nat.reduceSub, Nat.reduceBEq, Int.reduceEq, Int.reduceLT, Int.reduceLE, Int.reduceNeg, Nat.reduceLeDiff, L]
    simp only [ite_ans]
    apply ans
    have := same_idx a b hab
    simp only [hab] at this
    grind
  · have hab' : ¬ (a.length : Int) = b.length := by omega
    simp -implicitDefEqProofs (maxSteps := 1000000) only [h57, go_sem, ↓reduceIte, Nat.reduceEqDiff, Nat.reduceAdd, Nat.reduceSub, Nat.reduceBEq, Int.reduceEq, Int.reduceLT, Int.reduceLE, Int.reduceNeg, Nat.reduceLeDiff, hab', if_false]
    apply ans
    grind
theorem q_SameInts (m : Nat) (a : List Int) (b : List Int) (ha : a.length ≤ 16) : evH tabS (m + 21) 57 [.p (.slice 1 (a.map (.int .i64))), .p (.slice 1 (b.map (.int .i64)))] [] = some (.p (.bool (decide (a = b))), []) := (evH_code (show tabS 57 = some (.code h57 [.t 4] true) by kernel_rfl) (m + 20) _ _).trans (r_SameInts m a b ha)
theorem g_SameInts (m : Nat) (a : List Int) (b : List Int) (ha : a.length ≤ 16) (raw : Bool) (hp : List Ob) (K : KV) : callG (evH tabS (m + 21)) 57 raw [.p (.slice 1 (a.map (.int .i64))), .p (.slice 1 (b.map (.int .i64)))] hp K = if (decide (a = b)) = true then K (.p (.bool true)) hp else K (.p (.bool false)) hp := call_bool rfl (q_SameInts m a b ha)
theorem gF_SameInts (m : Nat) (a : List Int) (b : List Int) (ha : a.length ≤ 16) (raw : Bool) (hp : List Ob) (K : KF) : callF (evH tabS (m + 21)) 57 raw [.p (.slice 1 (a.map (.int .i64))), .p (.slice 1 (b.map (.int .i64)))] hp K = if (decide (a = b)) = true then K (.p (.bool true)) hp (footE hp) else K (.p (.bool false)) hp (footE hp) := callF_bool rfl (q_SameInts m a b ha)


theorem r_SameStrings (m : Nat) (a : List (List Nat)) (b : List (List Nat)) (ha : a.length ≤ 16) : runH h67 (evH tabS (m + 20)) (m + 20) [.t 4] true [.p (.slice 1 (a.map .str)), .p (.slice 1 (b.map .str))] [] = some (.p (.bool (decide (a = b))), []) := by
  have L := fun (hab : a.length = b.length) (ke : Nat → K) (kr : K) => loop_all (m := 0) (live := [0, 1, 5]) (body := fun tm hp k => l67_1 (evH tabS (m + 20)) (m + 20) 0 tm hp k ke kr) a.length
    (fun j => .cons 0 (.p (.slice 1 (a.map .str))) (.cons 1 (.p (.slice 1 (b.map .str))) (.cons 5 (.p (.int .i64 (j : Nat))) .nil))) (fun _ => [])
    (fun j => .cons 0 (.p (.slice 1 (a.map .str))) (.cons 1 (.p (.slice 1 (b.map .str))) (.cons 5 (.p (.int .i64 (j + 1 : Nat))) .nil))) (fun _ => [])
    (fun j => decide (a[j]? = b[j]?)) (kr (.cons 4 (.p (.bool false)) .nil) []) (ke 0 (.cons 0 (.p (.slice 1 (a.map .str))) (.cons 1 (.p (.slice 1 (b.map .str))) (.cons 5 (.p (.int .i64 a.length)) (.cons 14 (.p (.bool false)) .nil)))) [])
    (fun j _ => by kernel_rfl)
    (fun j kn hj => by
      simp -implicitDefEqProofs (maxSteps := 1000000) only [l67_1, go_sem, ↓reduceIte, Nat.reduceEqDiff, Nat.reduceAdd, Nat.reduceSub, Nat.reduceBEq, Int.reduceEq, Int.reduceLT, Int.reduceLE, Int.reduceNeg, Nat.reduceLeDiff, at_map _ a j hj, at_map _ b j (hab ▸ hj), wrap_succ j (by omega), Int.ofNat_lt.mpr hj, if_true, List.getElem?_eq_getElem hj, List.getElem?_eq_getElem (hab ▸ hj), Option.some.injEq])
    (fun kn => by
      simp -implicitDefEqProofs (maxSteps := 1000000) only [l67_1, go_sem, ↓reduceIte, Nat.reduceEqDiff, Nat.reduceAdd, Nat.reduceSub, Nat.reduceBEq, Int.reduceEq, Int.reduceLT, Int.reduceLE, Int.reduceNeg, Nat.reduceLeDiff, Int.lt_irrefl, if_false]) (m + 20)
    (.cons 0 (.p (.slice 1 (a.map .str))) (.cons 1 (.p (.slice 1 (b.map .str))) (.cons 5 (.p (.int .i64 0)) .nil))) [] (by omega) (by kernel_rfl)
  by_cases hab : a.length = b.length
  · simp -implicitDefEqProofs (maxSteps := 1000000) only [h67, go_sem, ↓reduceIte, Nat.reduceEqDiff, Nat.reduceAdd, Nat.reduceSub, Nat.reduceBEq, Int.reduceEq, Int.reduceLT, Int.reduceLE, Int.reduceNeg, Nat.reduceLeDiff, hab, if_true]
    have L := L hab
    simp only [hab] at L
    simp -implicitDefEqProofs (maxSteps := 1000000) only [go_sem, ↓reduceIte, Nat.reduceEqDiff, Nat.reduceAdd, Nat.reduceSub, Nat.reduceBEq, Int.reduceEq, Int.reduceLT, Int.reduceLE, Int.reduceNeg, Nat.reduceLeDiff, L]
    simp only [ite_ans]
    apply ans
    have := same_idx a b hab
    simp only [hab] at this
    grind
  · have hab' : ¬ (a.length : Int) = b.length := by omega
    simp -implicitDefEqProofs (maxSteps := 1000000) only [h67, go_sem, ↓reduceIte, Nat.reduceEqDiff, Nat.reduceAdd, Nat.reduceSub, Nat.reduceBEq, Int.reduceEq, Int.reduceLT, Int.reduceLE, Int.reduceNeg, Nat.reduceLeDiff, hab', if_false]
    apply ans
    grind
theorem q_SameStrings (m : Nat) (a : List (List Nat)) (b : List (List Nat)) (ha : a.length ≤ 16) : evH tabS (m + 21) 67 [.p (.slice 1 (a.map .str)), .p (.slice 1 (b.map .str))] [] = some (.p (.bool (decide (a = b))), []) := (evH_code (show tabS 67 = some (.code h67 [.t 4] true) by kernel_rfl) (m + 20) _ _).trans (r_SameStrings m a b ha)
theorem g_SameStrings (m : Nat) (a : List (List Nat)) (b : List (List Nat)) (ha : a.length ≤ 16) (raw : Bool) (hp : List Ob) (K : KV) : callG (evH tabS (m + 21)) 67 raw [.p (.slice 1 (a.map .str)), .p (.slice 1 (b.map .str))] hp K = if (decide (a = b)) = true then K (.p (.bool true)) hp else K (.p (.bool false)) hp := call_bool rfl (q_SameStrings m a b ha)
theorem gF_SameStrings (m : Nat) (a : List (List Nat)) (b : List (List Nat)) (ha : a.length ≤ 16) (raw : Bool) (hp : List Ob) (K : KF) : callF (evH tabS (m + 21)) 67 raw [.p (.slice 1 (a.map .str)), .p (.slice 1 (b.map .str))] hp K = if (decide (a = b)) = true then K (.p (.bool true)) hp (footE hp) else K (.p (.bool false)) hp (footE hp) := callF_bool rfl (q_SameStrings m a b ha)

end Go.Ab
end
/- Runs with letters: equal values, copies of values, the place of a field. -/
section
namespace Go.Ab
open Go
set_option maxHeartbeats 1000000

theorem r_SameValue (m : Nat) (k : Int) (n : Int) (s : List Nat) (is : List Int) (ls : List (List Nat)) (hi : is.length ≤ 16) (hl : ls.length ≤ 16) : runH h29 (evH tabS (m + 21)) (m + 21) [.t 4] true [.p (.agg [.int .i64 k, .int .i64 n, .str s, .slice 1 (is.map (.int .i64)), .slice 1 (ls.map .str)]), .p (.agg [.int .i64 k, .int .i64 n, .str s, .slice 1 (is.map (.int .i64)), .slice 1 (ls.map .str)])] [] = some (.p (.bool true), []) := by
  simp -implicitDefEqProofs (maxSteps := 1000000) only [h29, go_sem, ↓reduceIte, Nat.reduceEqDiff, Nat.reduceAdd, Nat.reduceSub, Nat.reduceBEq, Int.reduceEq, Int.reduceLT, Int.reduceLE, Int.reduceNeg, Nat.reduceLeDiff, g_SameInts, g_SameStrings, hi, hl]
theorem q_SameValue (m : Nat) (k : Int) (n : Int) (s : List Nat) (is : List Int) (ls : List (List Nat)) (hi : is.length ≤ 16) (hl : ls.length ≤ 16) : evH tabS (m + 22) 29 [.p (.agg [.int .i64 k, .int .i64 n, .str s, .slice 1 (is.map (.int .i64)), .slice 1 (ls.map .str)]), .p (.agg [.int .i64 k, .int .i64 n, .str s, .slice 1 (is.map (.int .i64)), .slice 1 (ls.map .str)])] [] = some (.p (.bool true), []) := (evH_code (show tabS 29 = some (.code h29 [.t 4] true) by kernel_rfl) (m + 21) _ _).trans (r_SameValue m k n s is ls hi hl)
theorem g_SameValue (m : Nat) (k : Int) (n : Int) (s : List Nat) (is : List Int) (ls : List (List Nat)) (hi : is.length ≤ 16) (hl : ls.length ≤ 16) (raw : Bool) (hp : List Ob) (K : KV) : callG (evH tabS (m + 22)) 29 raw [.p (.agg [.int .i64 k, .int .i64 n, .str s, .slice 1 (is.map (.int .i64)), .slice 1 (ls.map .str)]), .p (.agg [.int .i64 k, .int .i64 n, .str s, .slice 1 (is.map (.int .i64)), .slice 1 (ls.map .str)])] hp K = if true = true then K (.p (.bool true)) hp else K (.p (.bool false)) hp := call_bool rfl (q_SameValue m k n s is ls hi hl)
theorem gF_SameValue (m : Nat) (k : Int) (n : Int) (s : List Nat) (is : List Int) (ls : List (List Nat)) (hi : is.length ≤ 16) (hl : ls.length ≤ 16) (raw : Bool) (hp : List Ob) (K : KF) : callF (evH tabS (m + 22)) 29 raw [.p (.agg [.int .i64 k, .int .i64 n, .str s, .slice 1 (is.map (.int .i64)), .slice 1 (ls.map .str)]), .p (.agg [.int .i64 k, .int .i64 n, .str s, .slice 1 (is.map (.int .i64)), .slice 1 (ls.map .str)])] hp K = if true = true then K (.p (.bool true)) hp (footE hp) else K (.p (.bool false)) hp (footE hp) := callF_bool rfl (q_SameValue m k n s is ls hi hl)


theorem r_SameValues (m : Nat) (a : List V) (ha : a.length ≤ 20) (hs : ∀ v ∈ a, v.is.length ≤ 16 ∧ v.ls.length ≤ 16) : runH h15 (evH tabS (m + 22)) (m + 22) [.t 4] true [.p (.slice 5 (a.map V.e)), .p (.slice 5 (a.map V.e))] [] = some (.p (.bool true), []) := by
  have L := fun (ke : Nat → K) (kr : K) => loop_map (m := 0) (live := [0, 1, 5]) (body := fun tm hp k => l15_1 (evH tabS (m + 22)) (m + 22) 0 tm hp k ke kr) a.length
    (fun j => .cons 0 (.p (.slice 5 (a.map V.e))) (.cons 1 (.p (.slice 5 (a.map V.e))) (.cons 5 (.p (.int .i64 (j : Nat))) .nil))) (fun _ => [])
    (fun j => .cons 0 (.p (.slice 5 (a.map V.e))) (.cons 1 (.p (.slice 5 (a.map V.e))) (.cons 5 (.p (.int .i64 (j + 1 : Nat))) .nil))) (fun _ => [])
    (ke 0 (.cons 0 (.p (.slice 5 (a.map V.e))) (.cons 1 (.p (.slice 5 (a.map V.e))) (.cons 5 (.p (.int .i64 a.length)) (.cons 14 (.p (.bool false)) .nil)))) [])
    (fun j _ => by kernel_rfl)
    (fun j kn hj => by
      have hv := hs a[j] (List.getElem_mem hj)
      simp -implicitDefEqProofs (maxSteps := 1000000) only [l15_1, go_sem, ↓reduceIte, Nat.reduceEqDiff, Nat.reduceAdd, Nat.reduceSub, Nat.reduceBEq, Int.reduceEq, Int.reduceLT, Int.reduceLE, Int.reduceNeg, Nat.reduceLeDiff, at_map _ a j hj, wrap_succ j (by omega), Int.ofNat_lt.mpr hj, gF_SameValue, hv.1, hv.2])
    (fun kn => by
      simp -implicitDefEqProofs (maxSteps := 1000000) only [l15_1, go_sem, ↓reduceIte, Nat.reduceEqDiff, Nat.reduceAdd, Nat.reduceSub, Nat.reduceBEq, Int.reduceEq, Int.reduceLT, Int.reduceLE, Int.reduceNeg, Nat.reduceLeDiff, Int.lt_irrefl, if_false]) (m + 22)
    (.cons 0 (.p (.slice 5 (a.map V.e))) (.cons 1 (.p (.slice 5 (a.map V.e))) (.cons 5 (.p (.int .i64 0)) .nil))) [] (by omega) (by kernel_rfl)
  simp -implicitDefEqProofs (maxSteps := 1000000) only [h15, go_sem, ↓reduceIte, Nat.reduceEqDiff, Nat.reduceAdd, Nat.reduceSub, Nat.reduceBEq, Int.reduceEq, Int.reduceLT, Int.reduceLE, Int.reduceNeg, Nat.reduceLeDiff, L]
theorem q_SameValues (m : Nat) (a : List V) (ha : a.length ≤ 20) (hs : ∀ v ∈ a, v.is.length ≤ 16 ∧ v.ls.length ≤ 16) : evH tabS (m + 23) 15 [.p (.slice 5 (a.map V.e)), .p (.slice 5 (a.map V.e))] [] = some (.p (.bool true), []) := (evH_code (show tabS 15 = some (.code h15 [.t 4] true) by kernel_rfl) (m + 22) _ _).trans (r_SameValues m a ha hs)
theorem g_SameValues (m : Nat) (a : List V) (ha : a.length ≤ 20) (hs : ∀ v ∈ a, v.is.length ≤ 16 ∧ v.ls.length ≤ 16) (raw : Bool) (hp : List Ob) (K : KV) : callG (evH tabS (m + 23)) 15 raw [.p (.slice 5 (a.map V.e)), .p (.slice 5 (a.map V.e))] hp K = if true = true then K (.p (.bool true)) hp else K (.p (.bool false)) hp := call_bool rfl (q_SameValues m a ha hs)
theorem gF_SameValues (m : Nat) (a : List V) (ha : a.length ≤ 20) (hs : ∀ v ∈ a, v.is.length ≤ 16 ∧ v.ls.length ≤ 16) (raw : Bool) (hp : List Ob) (K : KF) : callF (evH tabS (m + 23)) 15 raw [.p (.slice 5 (a.map V.e)), .p (.slice 5 (a.map V.e))] hp K = if true = true then K (.p (.bool true)) hp (footE hp) else K (.p (.bool false)) hp (footE hp) := callF_bool rfl (q_SameValues m a ha hs)


theorem q_cloneInts (m : Nat) (es : List Da) (h : es.length ≤ 1000) : evH tabS (m + 1) 76 [.p (.slice 1 es)] [] = some (.p (.slice 1 es), []) := by
  refine (evH_prim (xs := [.slice 1 es]) (show tabS 76 = some (.prim (primClone 1 8)) by kernel_rfl) m).trans ?_
  have : roomy es.length 8 = true := by
    unfold roomy
    rw [Bool.and_eq_true, Nat.ble_eq, Nat.ble_eq]
    constructor <;> omega
  simp only [primClone, this, nbeq_dec, decide_true, Bool.and_self, cond_true]
theorem q_cloneStrs (m : Nat) (es : List Da) (h : es.length ≤ 1000) : evH tabS (m + 1) 77 [.p (.slice 1 es)] [] = some (.p (.slice 1 es), []) := by
  refine (evH_prim (xs := [.slice 1 es]) (show tabS 77 = some (.prim (primClone 1 16)) by kernel_rfl) m).trans ?_
  have : roomy es.length 16 = true := by
    unfold roomy
    rw [Bool.and_eq_true, Nat.ble_eq, Nat.ble_eq]
    constructor <;> omega
  simp only [primClone, this, nbeq_dec, decide_true, Bool.and_self, cond_true]
theorem gF_cloneInts (m : Nat) (es : List Da) (h : es.length ≤ 1000) (raw : Bool) (hp : List Ob) (K : KF) : callF (evH tabS (m + 1)) 76 raw [.p (.slice 1 es)] hp K = K (.p (.slice 1 es)) hp (footE hp) := callF_known rfl (q_cloneInts m es h) rfl
theorem gF_cloneStrs (m : Nat) (es : List Da) (h : es.length ≤ 1000) (raw : Bool) (hp : List Ob) (K : KF) : callF (evH tabS (m + 1)) 77 raw [.p (.slice 1 es)] hp K = K (.p (.slice 1 es)) hp (footE hp) := callF_known rfl (q_cloneStrs m es h) rfl

theorem r_cloneValue (m : Nat) (k : Int) (n : Int) (s : List Nat) (is : List Int) (ls : List (List Nat)) (hi : is.length ≤ 1000) (hl : ls.length ≤ 1000) : runH h42 (evH tabS (m + 1)) (m + 1) [.cell 2 5 true] true [.p (.agg [.int .i64 k, .int .i64 n, .str s, .slice 1 (is.map (.int .i64)), .slice 1 (ls.map .str)])] [] = some (.p (.agg [.int .i64 k, .int .i64 n, .str s, .slice 1 (is.map (.int .i64)), .slice 1 (ls.map .str)]), []) := by
  simp -implicitDefEqProofs (maxSteps := 1000000) only [h42, go_sem, ↓reduceIte, Nat.reduceEqDiff, Nat.reduceAdd, Nat.reduceSub, Nat.reduceBEq, Int.reduceEq, Int.reduceLT, Int.reduceLE, Int.reduceNeg, Nat.reduceLeDiff, gF_cloneInts, gF_cloneStrs, hi, hl]
theorem q_cloneValue (m : Nat) (k : Int) (n : Int) (s : List Nat) (is : List Int) (ls : List (List Nat)) (hi : is.length ≤ 1000) (hl : ls.length ≤ 1000) : evH tabS (m + 2) 42 [.p (.agg [.int .i64 k, .int .i64 n, .str s, .slice 1 (is.map (.int .i64)), .slice 1 (ls.map .str)])] [] = some (.p (.agg [.int .i64 k, .int .i64 n, .str s, .slice 1 (is.map (.int .i64)), .slice 1 (ls.map .str)]), []) := (evH_code (show tabS 42 = some (.code h42 [.cell 2 5 true] true) by kernel_rfl) (m + 1) _ _).trans (r_cloneValue m k n s is ls hi hl)
theorem g_cloneValue (m : Nat) (k : Int) (n : Int) (s : List Nat) (is : List Int) (ls : List (List Nat)) (hi : is.length ≤ 1000) (hl : ls.length ≤ 1000) (raw : Bool) (hp : List Ob) (K : KV) : callG (evH tabS (m + 2)) 42 raw [.p (.agg [.int .i64 k, .int .i64 n, .str s, .slice 1 (is.map (.int .i64)), .slice 1 (ls.map .str)])] hp K = K (.p (.agg [.int .i64 k, .int .i64 n, .str s, .slice 1 (is.map (.int .i64)), .slice 1 (ls.map .str)])) hp := call_known rfl (q_cloneValue m k n s is ls hi hl) rfl
theorem gF_cloneValue (m : Nat) (k : Int) (n : Int) (s : List Nat) (is : List Int) (ls : List (List Nat)) (hi : is.length ≤ 1000) (hl : ls.length ≤ 1000) (raw : Bool) (hp : List Ob) (K : KF) : callF (evH tabS (m + 2)) 42 raw [.p (.agg [.int .i64 k, .int .i64 n, .str s, .slice 1 (is.map (.int .i64)), .slice 1 (ls.map .str)])] hp K = K (.p (.agg [.int .i64 k, .int .i64 n, .str s, .slice 1 (is.map (.int .i64)), .slice 1 (ls.map .str)])) hp (footE hp) := callF_known rfl (q_cloneValue m k n s is ls hi hl) rfl


theorem r_CopyValue (m : Nat) (k : Int) (n : Int) (s : List Nat) (is : List Int) (ls : List (List Nat)) (hi : is.length ≤ 1000) (hl : ls.length ≤ 1000) : runH h43 (evH tabS (m + 1)) (m + 1) [.cell 2 5 true] true [.p (.agg [.int .i64 k, .int .i64 n, .str s, .slice 1 (is.map (.int .i64)), .slice 1 (ls.map .str)])] [] = some (.p (.agg [.int .i64 k, .int .i64 n, .str s, .slice 1 (is.map (.int .i64)), .slice 1 (ls.map .str)]), []) := by
  have a1 : ∀ (base kk : Nat) (hp : List Ob) (k : KV), isUnborn (obF hp (base + kk)) = true → appG (evH tabS (m + 1)) base 1 8 kk (.sl .nil 1 []) (.p (.slice 1 (is.map (.int .i64)))) hp k = k (.arr (base + kk) 0 is.length 1) (setOb hp (base + kk) (.arr (is.map (.int .i64)))) := by
    intro base kk hp k hu
    have := app_nil (call := evH tabS (m + 1)) (base := base) (esz := 1) (bytes := 8) (kk := kk) (z := 1) (hp := hp) (ys := is.map (.int .i64)) (k := k) (by rw [List.length_map]; omega) (by rw [List.length_map]; omega) hu
    rwa [List.length_map] at this
  have a2 : ∀ (base kk : Nat) (hp : List Ob) (k : KV), isUnborn (obF hp (base + kk)) = true → appG (evH tabS (m + 1)) base 1 16 kk (.sl .nil 1 []) (.p (.slice 1 (ls.map .str))) hp k = k (.arr (base + kk) 0 ls.length 1) (setOb hp (base + kk) (.arr (ls.map .str))) := by
    intro base kk hp k hu
    have := app_nil (call := evH tabS (m + 1)) (base := base) (esz := 1) (bytes := 16) (kk := kk) (z := 1) (hp := hp) (ys := ls.map .str) (k := k) (by rw [List.length_map]; omega) (by rw [List.length_map]; omega) hu
    rwa [List.length_map] at this
  simp -implicitDefEqProofs (maxSteps := 1000000) only [h43, go_sem, ↓reduceIte, Nat.reduceEqDiff, Nat.reduceAdd, Nat.reduceSub, Nat.reduceBEq, Int.reduceEq, Int.reduceLT, Int.reduceLE, Int.reduceNeg, Nat.reduceLeDiff, a1, a2, finK_V]
theorem q_CopyValue (m : Nat) (k : Int) (n : Int) (s : List Nat) (is : List Int) (ls : List (List Nat)) (hi : is.length ≤ 1000) (hl : ls.length ≤ 1000) : evH tabS (m + 2) 43 [.p (.agg [.int .i64 k, .int .i64 n, .str s, .slice 1 (is.map (.int .i64)), .slice 1 (ls.map .str)])] [] = some (.p (.agg [.int .i64 k, .int .i64 n, .str s, .slice 1 (is.map (.int .i64)), .slice 1 (ls.map .str)]), []) := (evH_code (show tabS 43 = some (.code h43 [.cell 2 5 true] true) by kernel_rfl) (m + 1) _ _).trans (r_CopyValue m k n s is ls hi hl)
theorem g_CopyValue (m : Nat) (k : Int) (n : Int) (s : List Nat) (is : List Int) (ls : List (List Nat)) (hi : is.length ≤ 1000) (hl : ls.length ≤ 1000) (raw : Bool) (hp : List Ob) (K : KV) : callG (evH tabS (m + 2)) 43 raw [.p (.agg [.int .i64 k, .int .i64 n, .str s, .slice 1 (is.map (.int .i64)), .slice 1 (ls.map .str)])] hp K = K (.p (.agg [.int .i64 k, .int .i64 n, .str s, .slice 1 (is.map (.int .i64)), .slice 1 (ls.map .str)])) hp := call_known rfl (q_CopyValue m k n s is ls hi hl) rfl
theorem gF_CopyValue (m : Nat) (k : Int) (n : Int) (s : List Nat) (is : List Int) (ls : List (List Nat)) (hi : is.length ≤ 1000) (hl : ls.length ≤ 1000) (raw : Bool) (hp : List Ob) (K : KF) : callF (evH tabS (m + 2)) 43 raw [.p (.agg [.int .i64 k, .int .i64 n, .str s, .slice 1 (is.map (.int .i64)), .slice 1 (ls.map .str)])] hp K = K (.p (.agg [.int .i64 k, .int .i64 n, .str s, .slice 1 (is.map (.int .i64)), .slice 1 (ls.map .str)])) hp (footE hp) := callF_known rfl (q_CopyValue m k n s is ls hi hl) rfl


/-- The closure of fieldIndex. -/
theorem q_fieldIndex1 (m : Nat) (a : List Nat) (kd : Int) (k : Int) (n : Int) (s : List Nat) (is : List Int) (ls : List (List Nat)) (nm : List Nat) : evH tabS (m + 1) 75 [.p (.agg [.str a, .int .i64 kd, .int .i64 k, .int .i64 n, .str s, .slice 1 (is.map (.int .i64)), .slice 1 (ls.map .str)]), .box 0 0] [.box [.p (.str nm)]] = some (.p (.bool (decide (a = nm))), [.box [.p (.str nm)]]) := by
  refine (evH_code (show tabS 75 = some (.code h75 [.t 3] true) by kernel_rfl) m _ _).trans ?_
  simp -implicitDefEqProofs (maxSteps := 1000000) only [h75, go_sem, ↓reduceIte, Nat.reduceEqDiff, Nat.reduceAdd, Nat.reduceSub, Nat.reduceBEq, Int.reduceEq, Int.reduceLT, Int.reduceLE, Int.reduceNeg, Nat.reduceLeDiff, finK_one]
  split <;> simp_all
/-- The first place of a field of that name. -/
def fieldIx (fs : List Fi) (nm : List Nat) : Int := match firstF (fun j => !decide ((fs[j]?.map Fi.name) = some nm)) fs.length 0 with
  | none => -1
  | some i => i
theorem q_indexFields (m : Nat) (fs : List Fi) (nm : List Nat) (hl : fs.length ≤ 20) : evH tabS (m + 23) 74 [.p (.slice 7 (fs.map Fi.e)), .fn 75 [.box 0 0]] [.box [.p (.str nm)]] = some (.p (.int .i64 (fieldIx fs nm)), [.box [.p (.str nm)]]) := by
  refine (evH_code (show tabS 74 = some (.code h74 [.t 4] true) by kernel_rfl) (m + 22) _ _).trans ?_
  have L := fun (ke : Nat → K) (kr : K) => loop_find (m := 1) (live := [0, 1, 7, 8]) (body := fun tm hp k => l74_1 (evH tabS (m + 22)) (m + 22) 1 tm hp k ke kr) fs.length
    (fun j => .cons 0 (.p (.slice 7 (fs.map Fi.e))) (.cons 1 (.fn 75 [.box 0 0]) (.cons 7 (.p (.int .i64 fs.length)) (.cons 8 (.p (.int .i64 (j : Nat))) .nil)))) (fun _ => [.box [.p (.str nm)]])
    (fun j => .cons 0 (.p (.slice 7 (fs.map Fi.e))) (.cons 1 (.fn 75 [.box 0 0]) (.cons 7 (.p (.int .i64 fs.length)) (.cons 8 (.p (.int .i64 (j + 1 : Nat))) .nil)))) (fun _ => [.box [.p (.str nm)]])
    (fun j => !decide ((fs[j]?.map Fi.name) = some nm)) (fun j => kr (.cons 4 (.p (.int .i64 j)) .nil) [.box [.p (.str nm)]]) (ke 0 (.cons 0 (.p (.slice 7 (fs.map Fi.e))) (.cons 1 (.fn 75 [.box 0 0]) (.cons 7 (.p (.int .i64 fs.length)) (.cons 8 (.p (.int .i64 fs.length)) (.cons 9 (.p (.bool false)) .nil))))) [.box [.p (.str nm)]])
    (fun j _ => by kernel_rfl)
    (fun j kn hj => by
      have hc := fun (k : KV) => callv_ref1 (base := 1) (kk := 0) (rest := []) (k := k) (q_fieldIndex1 (m + 21) fs[j].name fs[j].kind fs[j].init.k fs[j].init.n fs[j].init.s fs[j].init.is fs[j].init.ls nm)
      simp only [Nat.add_assoc, Nat.reduceAdd] at hc
      simp -implicitDefEqProofs (maxSteps := 1000000) only [l74_1, go_sem, ↓reduceIte, Nat.reduceEqDiff, Nat.reduceAdd, Nat.reduceSub, Nat.reduceBEq, Int.reduceEq, Int.reduceLT, Int.reduceLE, Int.reduceNeg, Nat.reduceLeDiff, at_map _ fs j hj, wrap_succ j (by omega), Int.ofNat_lt.mpr hj, List.getElem?_eq_getElem hj, hc]
      by_cases h : fs[j].name = nm
      · simp [h, condK_t, getF_cons]
      · simp [h, condK_f, getF_cons])
    (fun kn => by
      simp -implicitDefEqProofs (maxSteps := 1000000) only [l74_1, go_sem, ↓reduceIte, Nat.reduceEqDiff, Nat.reduceAdd, Nat.reduceSub, Nat.reduceBEq, Int.reduceEq, Int.reduceLT, Int.reduceLE, Int.reduceNeg, Nat.reduceLeDiff, Int.lt_irrefl, if_false]) (m + 22)
    (.cons 0 (.p (.slice 7 (fs.map Fi.e))) (.cons 1 (.fn 75 [.box 0 0]) (.cons 7 (.p (.int .i64 fs.length)) (.cons 8 (.p (.int .i64 0)) .nil)))) [.box [.p (.str nm)]] (by omega) (by kernel_rfl)
  simp -implicitDefEqProofs (maxSteps := 1000000) only [h74, go_sem, ↓reduceIte, Nat.reduceEqDiff, Nat.reduceAdd, Nat.reduceSub, Nat.reduceBEq, Int.reduceEq, Int.reduceLT, Int.reduceLE, Int.reduceNeg, Nat.reduceLeDiff, L]
  unfold fieldIx findR
  split <;> simp_all [finK_one]

theorem r_fieldIndex (m : Nat) (fs : List Fi) (nm : List Nat) (hl : fs.length ≤ 20) : runH h40 (evH tabS (m + 23)) (m + 23) [.t 4] true [.p (.slice 7 (fs.map Fi.e)), .p (.str nm)] [] = some (.p (.int .i64 (fieldIx fs nm)), []) := by
  have hc := fun (raw : Bool) (k : KV) => call_ref1 (raw := raw) (rest := []) (k := k) (q_indexFields m fs nm hl)
  simp -implicitDefEqProofs (maxSteps := 1000000) only [h40, go_sem, ↓reduceIte, Nat.reduceEqDiff, Nat.reduceAdd, Nat.reduceSub, Nat.reduceBEq, Int.reduceEq, Int.reduceLT, Int.reduceLE, Int.reduceNeg, Nat.reduceLeDiff, hc]
theorem q_fieldIndex (m : Nat) (fs : List Fi) (nm : List Nat) (hl : fs.length ≤ 20) : evH tabS (m + 24) 40 [.p (.slice 7 (fs.map Fi.e)), .p (.str nm)] [] = some (.p (.int .i64 (fieldIx fs nm)), []) := (evH_code (show tabS 40 = some (.code h40 [.t 4] true) by kernel_rfl) (m + 23) _ _).trans (r_fieldIndex m fs nm hl)
theorem g_fieldIndex (m : Nat) (fs : List Fi) (nm : List Nat) (hl : fs.length ≤ 20) (raw : Bool) (hp : List Ob) (K : KV) : callG (evH tabS (m + 24)) 40 raw [.p (.slice 7 (fs.map Fi.e)), .p (.str nm)] hp K = K (.p (.int .i64 (fieldIx fs nm))) hp := call_known rfl (q_fieldIndex m fs nm hl) rfl
theorem gF_fieldIndex (m : Nat) (fs : List Fi) (nm : List Nat) (hl : fs.length ≤ 20) (raw : Bool) (hp : List Ob) (K : KF) : callF (evH tabS (m + 24)) 40 raw [.p (.slice 7 (fs.map Fi.e)), .p (.str nm)] hp K = K (.p (.int .i64 (fieldIx fs nm))) hp (footE hp) := callF_known rfl (q_fieldIndex m fs nm hl) rfl

end Go.Ab
end
/- Runs with letters: valid schemas. -/
section
namespace Go.Ab
open Go
set_option maxHeartbeats 1000000

def sameName (fs : List Fi) (nm : List Nat) (j : Nat) : Bool := !decide ((fs[j]?.map Fi.name) = some nm)
/-- Is the field at that place valid, and its name new? -/
def okField (fs : List Fi) (j : Nat) : Bool :=
  match fs[j]? with
  | none => false
  | some f => nameOk f.name && decide (1 ≤ f.kind ∧ f.kind ≤ 5 ∧ f.init.k = f.kind) && vOk f.init && (firstF (sameName fs f.name) j 0).isNone
def scOk (s : Sc) : Bool := nameOk s.type && decide (s.fields.length ≤ 8) && (firstF (okField s.fields) s.fields.length 0).isNone

theorem firstF_stop (t : Nat → Bool) (n j : Nat) (hj : j < n) (h : t j = false) : ∃ i, i ≤ j ∧ firstF t n 0 = some i := by
  cases hf : firstF t n 0 with
  | none =>
    have := (firstF_none t n 0).1 hf j hj
    rw [Nat.zero_add, h] at this; cases this
  | some i =>
    obtain ⟨_, h2, h3, h4⟩ := firstF_some t n 0 i hf
    refine ⟨i, ?_, rfl⟩
    rcases Nat.lt_or_ge j i with h5 | h5
    · rw [h4 j (Nat.zero_le _) h5] at h; cases h
    · exact h5
theorem fieldIx_lt (fs : List Fi) (j : Nat) (hj : j < fs.length) : fieldIx fs fs[j].name < (j : Int) ↔ (firstF (sameName fs fs[j].name) j 0).isNone = false := by
  have hs : sameName fs fs[j].name j = false := by simp [sameName, List.getElem?_eq_getElem hj]
  obtain ⟨i, hi, he⟩ := firstF_stop (sameName fs fs[j].name) fs.length j hj hs
  have hx : fieldIx fs fs[j].name = (i : Int) := by
    unfold fieldIx
    show (match firstF (sameName fs fs[j].name) fs.length 0 with | none => _ | some i => _) = _
    rw [he]
  obtain ⟨_, h2, h3, h4⟩ := firstF_some _ _ _ _ he
  rw [hx]
  constructor
  · intro h
    cases hf : firstF (sameName fs fs[j].name) j 0 with
    | some _ => rfl
    | none =>
      have := (firstF_none _ j 0).1 hf i (by omega)
      rw [Nat.zero_add, h3] at this; cases this
  · intro h
    cases hf : firstF (sameName fs fs[j].name) j 0 with
    | none => rw [hf] at h; cases h
    | some l =>
      obtain ⟨_, g2, g3, _⟩ := firstF_some _ _ _ _ hf
      rcases Nat.lt_or_ge i j with h5 | h5
      · omega
      · rw [h4 l (Nat.zero_le _) (by omega)] at g3; cases g3

theorem r_schemaValid (m : Nat) (ty : List Nat) (fs : List Fi) (hl : fs.length ≤ 20) : runH h11 (evH tabS (m + 24)) (m + 24) [.t 2] true [.p (.agg [.str ty, .slice 7 (fs.map Fi.e)])] [] = some (.p (.bool (scOk ⟨ty, fs⟩)), []) := by
  have L := fun (ke : Nat → K) (kr : K) => loop_find (m := 0) (live := [1, 16, 17, 18]) (body := fun tm hp k => l11_1 (evH tabS (m + 24)) (m + 24) 0 tm hp k ke kr) fs.length
    (fun j => .cons 1 (.box 0 0) (.cons 16 (.p (.slice 7 (fs.map Fi.e))) (.cons 17 (.p (.int .i64 fs.length)) (.cons 18 (.p (.int .i64 (j : Nat))) .nil)))) (fun _ => [.box [.p (.str ty), .p (.slice 7 (fs.map Fi.e))]])
    (fun j => .cons 1 (.box 0 0) (.cons 16 (.p (.slice 7 (fs.map Fi.e))) (.cons 17 (.p (.int .i64 fs.length)) (.cons 18 (.p (.int .i64 (j + 1 : Nat))) .nil)))) (fun j => [.box [.p (.str ty), .p (.slice 7 (fs.map Fi.e))], .box (mapP (cells ((fs[j]?.getD ⟨[], 0, ⟨0, 0, [], [], []⟩⟩).e)))])
    (okField fs) (fun j => kr (.cons 2 (.p (.bool false)) .nil) [.box [.p (.str ty), .p (.slice 7 (fs.map Fi.e))], .box (mapP (cells ((fs[j]?.getD ⟨[], 0, ⟨0, 0, [], [], []⟩⟩).e)))]) (ke 0 (.cons 1 (.box 0 0) (.cons 16 (.p (.slice 7 (fs.map Fi.e))) (.cons 17 (.p (.int .i64 fs.length)) (.cons 18 (.p (.int .i64 fs.length)) (.cons 19 (.p (.bool false)) .nil))))) [.box [.p (.str ty), .p (.slice 7 (fs.map Fi.e))]])
    (fun j _ => by kernel_rfl)
    (fun j kn hj => by
      simp -implicitDefEqProofs (maxSteps := 1000000) only [l11_1, go_sem, ↓reduceIte, Nat.reduceEqDiff, Nat.reduceAdd, Nat.reduceSub, Nat.reduceBEq, Int.reduceEq, Int.reduceLT, Int.reduceLE, Int.reduceNeg, Nat.reduceLeDiff, at_map _ fs j hj, wrap_succ j (by omega), Int.ofNat_lt.mpr hj, List.getElem?_eq_getElem hj, Option.getD_some, g_validName, g_wireValid, g_fieldIndex, hl, fieldIx_lt fs j hj, v_eta, okField]
      generalize kn _ _ = A
      generalize kr _ _ = B
      grind)
    (fun kn => by
      simp -implicitDefEqProofs (maxSteps := 1000000) only [l11_1, go_sem, ↓reduceIte, Nat.reduceEqDiff, Nat.reduceAdd, Nat.reduceSub, Nat.reduceBEq, Int.reduceEq, Int.reduceLT, Int.reduceLE, Int.reduceNeg, Nat.reduceLeDiff, Int.lt_irrefl, if_false]) (m + 24)
    (.cons 1 (.box 0 0) (.cons 16 (.p (.slice 7 (fs.map Fi.e))) (.cons 17 (.p (.int .i64 fs.length)) (.cons 18 (.p (.int .i64 0)) .nil)))) [.box [.p (.str ty), .p (.slice 7 (fs.map Fi.e))]] (by omega) (by kernel_rfl)
  simp -implicitDefEqProofs (maxSteps := 1000000) only [h11, go_sem, ↓reduceIte, Nat.reduceEqDiff, Nat.reduceAdd, Nat.reduceSub, Nat.reduceBEq, Int.reduceEq, Int.reduceLT, Int.reduceLE, Int.reduceNeg, Nat.reduceLeDiff, L, findR_const, g_validName]
  simp only [ite_ans]
  apply ans
  unfold scOk
  grind
theorem q_schemaValid (m : Nat) (ty : List Nat) (fs : List Fi) (hl : fs.length ≤ 20) : evH tabS (m + 25) 11 [.p (.agg [.str ty, .slice 7 (fs.map Fi.e)])] [] = some (.p (.bool (scOk ⟨ty, fs⟩)), []) := (evH_code (show tabS 11 = some (.code h11 [.t 2] true) by kernel_rfl) (m + 24) _ _).trans (r_schemaValid m ty fs hl)
theorem g_schemaValid (m : Nat) (ty : List Nat) (fs : List Fi) (hl : fs.length ≤ 20) (raw : Bool) (hp : List Ob) (K : KV) : callG (evH tabS (m + 25)) 11 raw [.p (.agg [.str ty, .slice 7 (fs.map Fi.e)])] hp K = if (scOk ⟨ty, fs⟩) = true then K (.p (.bool true)) hp else K (.p (.bool false)) hp := call_bool rfl (q_schemaValid m ty fs hl)
theorem gF_schemaValid (m : Nat) (ty : List Nat) (fs : List Fi) (hl : fs.length ≤ 20) (raw : Bool) (hp : List Ob) (K : KF) : callF (evH tabS (m + 25)) 11 raw [.p (.agg [.str ty, .slice 7 (fs.map Fi.e)])] hp K = if (scOk ⟨ty, fs⟩) = true then K (.p (.bool true)) hp (footE hp) else K (.p (.bool false)) hp (footE hp) := callF_bool rfl (q_schemaValid m ty fs hl)


theorem r_refSchemaValid (m : Nat) (ty : List Nat) (fs : List Fi) (hl : fs.length ≤ 20) : runH h12 (evH tabS (m + 24)) (m + 24) [.t 2] true [.p (.agg [.str ty, .slice 7 (fs.map Fi.e)])] [] = some (.p (.bool (scOk ⟨ty, fs⟩)), []) := by
  have L1 := fun (i : Nat) (f : Fi) (hi : i < fs.length) (ke : Nat → K) (kr : K) => loop_find (m := 0) (live := [1, 3, 4, 5]) (body := fun tm hp k => l12_1 (evH tabS (m + 24)) (m + 24) 0 tm hp k ke kr) i
    (fun j => .cons 1 (.box 0 0) (.cons 3 (.p (.int .i64 i)) (.cons 4 (.box 1 0) (.cons 5 (.p (.int .i64 (j : Nat))) .nil)))) (fun _ => [.box [.p (.str ty), .p (.slice 7 (fs.map Fi.e))], .box (mapP (cells f.e))])
    (fun j => .cons 1 (.box 0 0) (.cons 3 (.p (.int .i64 i)) (.cons 4 (.box 1 0) (.cons 5 (.p (.int .i64 (j + 1 : Nat))) .nil)))) (fun _ => [.box [.p (.str ty), .p (.slice 7 (fs.map Fi.e))], .box (mapP (cells f.e))])
    (sameName fs f.name) (fun _ => kr (.cons 2 (.p (.bool false)) .nil) [.box [.p (.str ty), .p (.slice 7 (fs.map Fi.e))], .box (mapP (cells f.e))]) (ke 2 (.cons 1 (.box 0 0) (.cons 3 (.p (.int .i64 i)) (.cons 4 (.box 1 0) (.cons 5 (.p (.int .i64 i)) (.cons 58 (.p (.bool false)) .nil))))) [.box [.p (.str ty), .p (.slice 7 (fs.map Fi.e))], .box (mapP (cells f.e))])
    (fun j _ => by kernel_rfl)
    (fun j kn hj => by
      simp -implicitDefEqProofs (maxSteps := 1000000) only [l12_1, go_sem, ↓reduceIte, Nat.reduceEqDiff, Nat.reduceAdd, Nat.reduceSub, Nat.reduceBEq, Int.reduceEq, Int.reduceLT, Int.reduceLE, Int.reduceNeg, Nat.reduceLeDiff, at_map _ fs j (Nat.lt_trans hj hi), wrap_succ j (by omega), Int.ofNat_lt.mpr hj, List.getElem?_eq_getElem (Nat.lt_trans hj hi), sameName, Option.map_some, Option.some.injEq])
    (fun kn => by
      simp -implicitDefEqProofs (maxSteps := 1000000) only [l12_1, go_sem, ↓reduceIte, Nat.reduceEqDiff, Nat.reduceAdd, Nat.reduceSub, Nat.reduceBEq, Int.reduceEq, Int.reduceLT, Int.reduceLE, Int.reduceNeg, Nat.reduceLeDiff, Int.lt_irrefl, if_false]) (m + 24)
    (.cons 1 (.box 0 0) (.cons 3 (.p (.int .i64 i)) (.cons 4 (.box 1 0) (.cons 5 (.p (.int .i64 0)) .nil)))) [.box [.p (.str ty), .p (.slice 7 (fs.map Fi.e))], .box (mapP (cells f.e))] (by omega) (by kernel_rfl)
  have L := fun (ke : Nat → K) (kr : K) => loop_find (m := 0) (live := [1, 3]) (body := fun tm hp k => l12_2 (evH tabS (m + 24)) (m + 24) 0 tm hp k ke kr) fs.length
    (fun j => .cons 1 (.box 0 0) (.cons 3 (.p (.int .i64 (j : Nat))) .nil)) (fun _ => [.box [.p (.str ty), .p (.slice 7 (fs.map Fi.e))]])
    (fun j => .cons 1 (.box 0 0) (.cons 3 (.p (.int .i64 (j + 1 : Nat))) .nil)) (fun j => [.box [.p (.str ty), .p (.slice 7 (fs.map Fi.e))], .box (mapP (cells ((fs[j]?.getD ⟨[], 0, ⟨0, 0, [], [], []⟩⟩).e)))])
    (okField fs) (fun j => kr (.cons 2 (.p (.bool false)) .nil) [.box [.p (.str ty), .p (.slice 7 (fs.map Fi.e))], .box (mapP (cells ((fs[j]?.getD ⟨[], 0, ⟨0, 0, [], [], []⟩⟩).e)))]) (ke 0 (.cons 1 (.box 0 0) (.cons 3 (.p (.int .i64 fs.length)) (.cons 20 (.p (.bool false)) .nil))) [.box [.p (.str ty), .p (.slice 7 (fs.map Fi.e))]])
    (fun j _ => by kernel_rfl)
    (fun j kn hj => by
      have L1 := L1 j fs[j] hj
      simp -implicitDefEqProofs (maxSteps := 1000000) only [go_sem, ↓reduceIte, Nat.reduceEqDiff, Nat.reduceAdd, Nat.reduceSub, Nat.reduceBEq, Int.reduceEq, Int.reduceLT, Int.reduceLE, Int.reduceNeg, Nat.reduceLeDiff] at L1
      simp -implicitDefEqProofs (maxSteps := 1000000) only [l12_2, go_sem, ↓reduceIte, Nat.reduceEqDiff, Nat.reduceAdd, Nat.reduceSub, Nat.reduceBEq, Int.reduceEq, Int.reduceLT, Int.reduceLE, Int.reduceNeg, Nat.reduceLeDiff, at_map _ fs j hj, wrap_succ j (by omega), Int.ofNat_lt.mpr hj, List.getElem?_eq_getElem hj, Option.getD_some, g_ValidName, g_refValid, hl, v_eta, okField, L1, findR_const]
      generalize kn _ _ = A
      generalize kr _ _ = B
      grind)
    (fun kn => by
      simp -implicitDefEqProofs (maxSteps := 1000000) only [l12_2, go_sem, ↓reduceIte, Nat.reduceEqDiff, Nat.reduceAdd, Nat.reduceSub, Nat.reduceBEq, Int.reduceEq, Int.reduceLT, Int.reduceLE, Int.reduceNeg, Nat.reduceLeDiff, Int.lt_irrefl, if_false]) (m + 24)
    (.cons 1 (.box 0 0) (.cons 3 (.p (.int .i64 0)) .nil)) [.box [.p (.str ty), .p (.slice 7 (fs.map Fi.e))]] (by omega) (by kernel_rfl)
  simp -implicitDefEqProofs (maxSteps := 1000000) only [h12, go_sem, ↓reduceIte, Nat.reduceEqDiff, Nat.reduceAdd, Nat.reduceSub, Nat.reduceBEq, Int.reduceEq, Int.reduceLT, Int.reduceLE, Int.reduceNeg, Nat.reduceLeDiff, L, findR_const, g_ValidName]
  simp only [ite_ans]
  apply ans
  unfold scOk
  grind
theorem q_refSchemaValid (m : Nat) (ty : List Nat) (fs : List Fi) (hl : fs.length ≤ 20) : evH tabS (m + 25) 12 [.p (.agg [.str ty, .slice 7 (fs.map Fi.e)])] [] = some (.p (.bool (scOk ⟨ty, fs⟩)), []) := (evH_code (show tabS 12 = some (.code h12 [.t 2] true) by kernel_rfl) (m + 24) _ _).trans (r_refSchemaValid m ty fs hl)
theorem g_refSchemaValid (m : Nat) (ty : List Nat) (fs : List Fi) (hl : fs.length ≤ 20) (raw : Bool) (hp : List Ob) (K : KV) : callG (evH tabS (m + 25)) 12 raw [.p (.agg [.str ty, .slice 7 (fs.map Fi.e)])] hp K = if (scOk ⟨ty, fs⟩) = true then K (.p (.bool true)) hp else K (.p (.bool false)) hp := call_bool rfl (q_refSchemaValid m ty fs hl)
theorem gF_refSchemaValid (m : Nat) (ty : List Nat) (fs : List Fi) (hl : fs.length ≤ 20) (raw : Bool) (hp : List Ob) (K : KF) : callF (evH tabS (m + 25)) 12 raw [.p (.agg [.str ty, .slice 7 (fs.map Fi.e)])] hp K = if (scOk ⟨ty, fs⟩) = true then K (.p (.bool true)) hp (footE hp) else K (.p (.bool false)) hp (footE hp) := callF_bool rfl (q_refSchemaValid m ty fs hl)

end Go.Ab
end
/- Runs with letters: valid states, initial states, the law SchemaStates. -/
section
namespace Go.Ab
open Go
set_option maxHeartbeats 1000000

/-- Is the value at that place valid, and of the field's kind? -/
def okValue (fs : List Fi) (vs : List V) (j : Nat) : Bool :=
  match vs[j]?, fs[j]? with
  | some v, some f => decide (v.k = f.kind) && vOk v
  | _, _ => false
def stateOk (s : Sc) (vs : List V) : Bool := scOk s && decide (vs.length = s.fields.length) && (firstF (okValue s.fields vs) vs.length 0).isNone

theorem r_validState (m : Nat) (ty : List Nat) (fs : List Fi) (vs : List V) (hl : fs.length ≤ 20) (hv : vs.length ≤ 20) : runH h13 (evH tabS (m + 25)) (m + 25) [.t 4] true [.p (.agg [.str ty, .slice 7 (fs.map Fi.e)]), .p (.slice 5 (vs.map V.e))] [] = some (.p (.bool (stateOk ⟨ty, fs⟩ vs)), []) := by
  by_cases he : vs.length = fs.length
  · have L := fun (ke : Nat → K) (kr : K) => loop_find (m := 0) (live := [2, 18, 19, 20]) (body := fun tm hp k => l13_1 (evH tabS (m + 25)) (m + 25) 0 tm hp k ke kr) vs.length
      (fun j => .cons 2 (.box 0 0) (.cons 18 (.p (.slice 5 (vs.map V.e))) (.cons 19 (.p (.int .i64 vs.length)) (.cons 20 (.p (.int .i64 (j : Nat))) .nil)))) (fun _ => [.box [.p (.str ty), .p (.slice 7 (fs.map Fi.e))]])
      (fun j => .cons 2 (.box 0 0) (.cons 18 (.p (.slice 5 (vs.map V.e))) (.cons 19 (.p (.int .i64 vs.length)) (.cons 20 (.p (.int .i64 (j + 1 : Nat))) .nil)))) (fun j => [.box [.p (.str ty), .p (.slice 7 (fs.map Fi.e))], .box (mapP (cells ((vs[j]?.getD ⟨0, 0, [], [], []⟩).e)))])
      (okValue fs vs) (fun j => kr (.cons 4 (.p (.bool false)) .nil) [.box [.p (.str ty), .p (.slice 7 (fs.map Fi.e))], .box (mapP (cells ((vs[j]?.getD ⟨0, 0, [], [], []⟩).e)))]) (ke 0 (.cons 2 (.box 0 0) (.cons 18 (.p (.slice 5 (vs.map V.e))) (.cons 19 (.p (.int .i64 vs.length)) (.cons 20 (.p (.int .i64 vs.length)) (.cons 21 (.p (.bool false)) .nil))))) [.box [.p (.str ty), .p (.slice 7 (fs.map Fi.e))]])
      (fun j _ => by kernel_rfl)
      (fun j kn hj => by
        simp -implicitDefEqProofs (maxSteps := 1000000) only [l13_1, go_sem, ↓reduceIte, Nat.reduceEqDiff, Nat.reduceAdd, Nat.reduceSub, Nat.reduceBEq, Int.reduceEq, Int.reduceLT, Int.reduceLE, Int.reduceNeg, Nat.reduceLeDiff, at_map _ vs j hj, at_map _ fs j (he ▸ hj), wrap_succ j (by omega), Int.ofNat_lt.mpr hj, List.getElem?_eq_getElem hj, List.getElem?_eq_getElem (show j < fs.length from he ▸ hj), Option.getD_some, gF_wireValid, v_eta, okValue]
        generalize kn _ _ = A
        generalize kr _ _ = B
        grind)
      (fun kn => by
        simp -implicitDefEqProofs (maxSteps := 1000000) only [l13_1, go_sem, ↓reduceIte, Nat.reduceEqDiff, Nat.reduceAdd, Nat.reduceSub, Nat.reduceBEq, Int.reduceEq, Int.reduceLT, Int.reduceLE, Int.reduceNeg, Nat.reduceLeDiff, Int.lt_irrefl, if_false]) (m + 25)
      (.cons 2 (.box 0 0) (.cons 18 (.p (.slice 5 (vs.map V.e))) (.cons 19 (.p (.int .i64 vs.length)) (.cons 20 (.p (.int .i64 0)) .nil)))) [.box [.p (.str ty), .p (.slice 7 (fs.map Fi.e))]] (by omega) (by kernel_rfl)
    have heT : ((vs.length : Int) = fs.length) = True := eq_true (by omega)
    simp -implicitDefEqProofs (maxSteps := 1000000) only [h13, go_sem, ↓reduceIte, Nat.reduceEqDiff, Nat.reduceAdd, Nat.reduceSub, Nat.reduceBEq, Int.reduceEq, Int.reduceLT, Int.reduceLE, Int.reduceNeg, Nat.reduceLeDiff, L, findR_const, g_schemaValid, hl, heT]
    simp only [ite_ans]
    apply ans
    unfold stateOk
    simp only [he]
    grind
  · have he' : ¬ ((vs.length : Int) = fs.length) := by omega
    simp -implicitDefEqProofs (maxSteps := 1000000) only [h13, go_sem, ↓reduceIte, Nat.reduceEqDiff, Nat.reduceAdd, Nat.reduceSub, Nat.reduceBEq, Int.reduceEq, Int.reduceLT, Int.reduceLE, Int.reduceNeg, Nat.reduceLeDiff, findR_const, g_schemaValid, hl, he', ite_self]
    apply ans
    unfold stateOk
    grind
theorem q_validState (m : Nat) (ty : List Nat) (fs : List Fi) (vs : List V) (hl : fs.length ≤ 20) (hv : vs.length ≤ 20) : evH tabS (m + 26) 13 [.p (.agg [.str ty, .slice 7 (fs.map Fi.e)]), .p (.slice 5 (vs.map V.e))] [] = some (.p (.bool (stateOk ⟨ty, fs⟩ vs)), []) := (evH_code (show tabS 13 = some (.code h13 [.t 4] true) by kernel_rfl) (m + 25) _ _).trans (r_validState m ty fs vs hl hv)
theorem g_validState (m : Nat) (ty : List Nat) (fs : List Fi) (vs : List V) (hl : fs.length ≤ 20) (hv : vs.length ≤ 20) (raw : Bool) (hp : List Ob) (K : KV) : callG (evH tabS (m + 26)) 13 raw [.p (.agg [.str ty, .slice 7 (fs.map Fi.e)]), .p (.slice 5 (vs.map V.e))] hp K = if (stateOk ⟨ty, fs⟩ vs) = true then K (.p (.bool true)) hp else K (.p (.bool false)) hp := call_bool rfl (q_validState m ty fs vs hl hv)
theorem gF_validState (m : Nat) (ty : List Nat) (fs : List Fi) (vs : List V) (hl : fs.length ≤ 20) (hv : vs.length ≤ 20) (raw : Bool) (hp : List Ob) (K : KF) : callF (evH tabS (m + 26)) 13 raw [.p (.agg [.str ty, .slice 7 (fs.map Fi.e)]), .p (.slice 5 (vs.map V.e))] hp K = if (stateOk ⟨ty, fs⟩ vs) = true then K (.p (.bool true)) hp (footE hp) else K (.p (.bool false)) hp (footE hp) := callF_bool rfl (q_validState m ty fs vs hl hv)


theorem r_refValidState (m : Nat) (ty : List Nat) (fs : List Fi) (vs : List V) (hl : fs.length ≤ 20) (hv : vs.length ≤ 20) : runH h14 (evH tabS (m + 25)) (m + 25) [.t 4] true [.p (.agg [.str ty, .slice 7 (fs.map Fi.e)]), .p (.slice 5 (vs.map V.e))] [] = some (.p (.bool (stateOk ⟨ty, fs⟩ vs)), []) := by
  by_cases he : vs.length = fs.length
  · have L := fun (ke : Nat → K) (kr : K) => loop_find (m := 0) (live := [1, 2, 5]) (body := fun tm hp k => l14_1 (evH tabS (m + 25)) (m + 25) 0 tm hp k ke kr) vs.length
      (fun j => .cons 1 (.p (.slice 5 (vs.map V.e))) (.cons 2 (.box 0 0) (.cons 5 (.p (.int .i64 (j : Nat))) .nil))) (fun _ => [.box [.p (.str ty), .p (.slice 7 (fs.map Fi.e))]])
      (fun j => .cons 1 (.p (.slice 5 (vs.map V.e))) (.cons 2 (.box 0 0) (.cons 5 (.p (.int .i64 (j + 1 : Nat))) .nil))) (fun _ => [.box [.p (.str ty), .p (.slice 7 (fs.map Fi.e))]])
      (okValue fs vs) (fun _ => kr (.cons 4 (.p (.bool false)) .nil) [.box [.p (.str ty), .p (.slice 7 (fs.map Fi.e))]]) (ke 0 (.cons 1 (.p (.slice 5 (vs.map V.e))) (.cons 2 (.box 0 0) (.cons 5 (.p (.int .i64 vs.length)) (.cons 20 (.p (.bool false)) .nil)))) [.box [.p (.str ty), .p (.slice 7 (fs.map Fi.e))]])
      (fun j _ => by kernel_rfl)
      (fun j kn hj => by
        simp -implicitDefEqProofs (maxSteps := 1000000) only [l14_1, go_sem, ↓reduceIte, Nat.reduceEqDiff, Nat.reduceAdd, Nat.reduceSub, Nat.reduceBEq, Int.reduceEq, Int.reduceLT, Int.reduceLE, Int.reduceNeg, Nat.reduceLeDiff, at_map _ vs j hj, at_map _ fs j (he ▸ hj), wrap_succ j (by omega), Int.ofNat_lt.mpr hj, List.getElem?_eq_getElem hj, List.getElem?_eq_getElem (show j < fs.length from he ▸ hj), Option.getD_some, gF_refValid, v_eta, okValue]
        generalize kn _ _ = A
        generalize kr _ _ = B
        grind)
      (fun kn => by
        simp -implicitDefEqProofs (maxSteps := 1000000) only [l14_1, go_sem, ↓reduceIte, Nat.reduceEqDiff, Nat.reduceAdd, Nat.reduceSub, Nat.reduceBEq, Int.reduceEq, Int.reduceLT, Int.reduceLE, Int.reduceNeg, Nat.reduceLeDiff, Int.lt_irrefl, if_false]) (m + 25)
      (.cons 1 (.p (.slice 5 (vs.map V.e))) (.cons 2 (.box 0 0) (.cons 5 (.p (.int .i64 0)) .nil))) [.box [.p (.str ty), .p (.slice 7 (fs.map Fi.e))]] (by omega) (by kernel_rfl)
    have heT : ((vs.length : Int) = fs.length) = True := eq_true (by omega)
    simp -implicitDefEqProofs (maxSteps := 1000000) only [h14, go_sem, ↓reduceIte, Nat.reduceEqDiff, Nat.reduceAdd, Nat.reduceSub, Nat.reduceBEq, Int.reduceEq, Int.reduceLT, Int.reduceLE, Int.reduceNeg, Nat.reduceLeDiff, L, findR_const, g_refSchemaValid, hl, heT]
    simp only [ite_ans]
    apply ans
    unfold stateOk
    simp only [he]
    grind
  · have he' : ¬ ((vs.length : Int) = fs.length) := by omega
    simp -implicitDefEqProofs (maxSteps := 1000000) only [h14, go_sem, ↓reduceIte, Nat.reduceEqDiff, Nat.reduceAdd, Nat.reduceSub, Nat.reduceBEq, Int.reduceEq, Int.reduceLT, Int.reduceLE, Int.reduceNeg, Nat.reduceLeDiff, findR_const, g_refSchemaValid, hl, he', ite_self]
    apply ans
    unfold stateOk
    grind
theorem q_refValidState (m : Nat) (ty : List Nat) (fs : List Fi) (vs : List V) (hl : fs.length ≤ 20) (hv : vs.length ≤ 20) : evH tabS (m + 26) 14 [.p (.agg [.str ty, .slice 7 (fs.map Fi.e)]), .p (.slice 5 (vs.map V.e))] [] = some (.p (.bool (stateOk ⟨ty, fs⟩ vs)), []) := (evH_code (show tabS 14 = some (.code h14 [.t 4] true) by kernel_rfl) (m + 25) _ _).trans (r_refValidState m ty fs vs hl hv)
theorem g_refValidState (m : Nat) (ty : List Nat) (fs : List Fi) (vs : List V) (hl : fs.length ≤ 20) (hv : vs.length ≤ 20) (raw : Bool) (hp : List Ob) (K : KV) : callG (evH tabS (m + 26)) 14 raw [.p (.agg [.str ty, .slice 7 (fs.map Fi.e)]), .p (.slice 5 (vs.map V.e))] hp K = if (stateOk ⟨ty, fs⟩ vs) = true then K (.p (.bool true)) hp else K (.p (.bool false)) hp := call_bool rfl (q_refValidState m ty fs vs hl hv)
theorem gF_refValidState (m : Nat) (ty : List Nat) (fs : List Fi) (vs : List V) (hl : fs.length ≤ 20) (hv : vs.length ≤ 20) (raw : Bool) (hp : List Ob) (K : KF) : callF (evH tabS (m + 26)) 14 raw [.p (.agg [.str ty, .slice 7 (fs.map Fi.e)]), .p (.slice 5 (vs.map V.e))] hp K = if (stateOk ⟨ty, fs⟩ vs) = true then K (.p (.bool true)) hp (footE hp) else K (.p (.bool false)) hp (footE hp) := callF_bool rfl (q_refValidState m ty fs vs hl hv)

theorem r_small (m : Nat) (ty : List Nat) (fs : List Fi) : runH h10 (evH tabS (m + 0)) (m + 0) [.t 2] true [.p (.agg [.str ty, .slice 7 (fs.map Fi.e)])] [] = some (.p (.bool (decide (fs.length ≤ 20))), []) := by
  simp -implicitDefEqProofs (maxSteps := 1000000) only [h10, go_sem, ↓reduceIte, Nat.reduceEqDiff, Nat.reduceAdd, Nat.reduceSub, Nat.reduceBEq, Int.reduceEq, Int.reduceLT, Int.reduceLE, Int.reduceNeg, Nat.reduceLeDiff]
  simp only [ite_ans]
  apply ans
  grind
theorem q_small (m : Nat) (ty : List Nat) (fs : List Fi) : evH tabS (m + 1) 10 [.p (.agg [.str ty, .slice 7 (fs.map Fi.e)])] [] = some (.p (.bool (decide (fs.length ≤ 20))), []) := (evH_code (show tabS 10 = some (.code h10 [.t 2] true) by kernel_rfl) (m + 0) _ _).trans (r_small m ty fs)
theorem g_small (m : Nat) (ty : List Nat) (fs : List Fi) (raw : Bool) (hp : List Ob) (K : KV) : callG (evH tabS (m + 1)) 10 raw [.p (.agg [.str ty, .slice 7 (fs.map Fi.e)])] hp K = if (decide (fs.length ≤ 20)) = true then K (.p (.bool true)) hp else K (.p (.bool false)) hp := call_bool rfl (q_small m ty fs)
theorem gF_small (m : Nat) (ty : List Nat) (fs : List Fi) (raw : Bool) (hp : List Ob) (K : KF) : callF (evH tabS (m + 1)) 10 raw [.p (.agg [.str ty, .slice 7 (fs.map Fi.e)])] hp K = if (decide (fs.length ≤ 20)) = true then K (.p (.bool true)) hp (footE hp) else K (.p (.bool false)) hp (footE hp) := callF_bool rfl (q_small m ty fs)


theorem vOk_len {v : V} (h : vOk v = true) : v.is.length ≤ 1000 ∧ v.ls.length ≤ 1000 := by
  unfold vOk at h
  simp only [Bool.and_eq_true, decide_eq_true_eq] at h
  omega
theorem scOk_len {s : Sc} (h : scOk s = true) : s.fields.length ≤ 8 := by
  unfold scOk at h
  simp only [Bool.and_eq_true, decide_eq_true_eq] at h
  exact h.1.2
theorem scOk_init {s : Sc} (h : scOk s = true) (j : Nat) (hj : j < s.fields.length) : vOk s.fields[j].init = true := by
  unfold scOk at h
  simp only [Bool.and_eq_true, Option.isNone_iff_eq_none] at h
  have := (firstF_none _ _ _).1 h.2 j hj
  rw [Nat.zero_add] at this
  simp only [okField, List.getElem?_eq_getElem hj, Bool.and_eq_true] at this
  exact this.1.2
/-- The initial state. -/
def initOf (s : Sc) : List V := if scOk s = true then s.fields.map Fi.init else []

theorem r_initial (m : Nat) (ty : List Nat) (fs : List Fi) (hl : fs.length ≤ 20) : runH h16 (evH tabS (m + 25)) (m + 25) [.t 2] true [.p (.agg [.str ty, .slice 7 (fs.map Fi.e)])] [] = some (.p (.slice 5 ((initOf ⟨ty, fs⟩).map V.e)), []) := by
  by_cases hs : scOk ⟨ty, fs⟩ = true
  · have L := fun (ke : Nat → K) (kr : K) => loop_map (m := 0) (live := [3, 10, 11, 12]) (body := fun tm hp k => l16_1 (evH tabS (m + 25)) (m + 25) 0 tm hp k ke kr) fs.length
      (fun j => .cons 3 (.arr 0 0 j 5) (.cons 10 (.p (.slice 7 (fs.map Fi.e))) (.cons 11 (.p (.int .i64 fs.length)) (.cons 12 (.p (.int .i64 (j : Nat))) .nil)))) (fun j => [.arr ((fs.take j).map fun f => f.init.e)])
      (fun j => .cons 3 (.arr 2 0 (j + 1) 5) (.cons 10 (.p (.slice 7 (fs.map Fi.e))) (.cons 11 (.p (.int .i64 fs.length)) (.cons 12 (.p (.int .i64 (j + 1 : Nat))) .nil)))) (fun j => [.dead, .box (mapP (cells ((fs[j]?.getD ⟨[], 0, ⟨0, 0, [], [], []⟩⟩).e))), .arr ((fs.take (j + 1)).map fun f => f.init.e)])
      (ke 0 (.cons 3 (.arr 0 0 fs.length 5) (.cons 10 (.p (.slice 7 (fs.map Fi.e))) (.cons 11 (.p (.int .i64 fs.length)) (.cons 12 (.p (.int .i64 fs.length)) (.cons 13 (.p (.bool false)) .nil))))) [.arr ((fs.take fs.length).map fun f => f.init.e)])
      (fun j _ => by kernel_rfl)
      (fun j kn hj => by
        have hv := vOk_len (scOk_init hs j hj)
        have hlen : (fs.take j).length = j := by rw [List.length_take]; omega
        rw [← take_snoc (fun f => f.init.e) fs j hj]
        simp -implicitDefEqProofs (maxSteps := 1000000) only [l16_1, go_sem, ↓reduceIte, Nat.reduceEqDiff, Nat.reduceAdd, Nat.reduceSub, Nat.reduceBEq, Int.reduceEq, Int.reduceLT, Int.reduceLE, Int.reduceNeg, Nat.reduceLeDiff, at_map _ fs j hj, wrap_succ j (by omega), Int.ofNat_lt.mpr hj, List.getElem?_eq_getElem hj, Option.getD_some, g_cloneValue, hv.1, hv.2, app_own0, hlen, show j ≤ 1000 by omega])
      (fun kn => by
        simp -implicitDefEqProofs (maxSteps := 1000000) only [l16_1, go_sem, ↓reduceIte, Nat.reduceEqDiff, Nat.reduceAdd, Nat.reduceSub, Nat.reduceBEq, Int.reduceEq, Int.reduceLT, Int.reduceLE, Int.reduceNeg, Nat.reduceLeDiff, Int.lt_irrefl, if_false]) (m + 25)
      (.cons 3 (.arr 1 0 0 5) (.cons 3 (.sl .nil 5 []) (.cons 10 (.p (.slice 7 (fs.map Fi.e))) (.cons 11 (.p (.int .i64 fs.length)) (.cons 12 (.p (.int .i64 0)) .nil))))) [.box [.p (.str ty), .p (.slice 7 (fs.map Fi.e))], .arr []] (by omega) (by kernel_rfl)
    simp -implicitDefEqProofs (maxSteps := 1000000) only [h16, go_sem, ↓reduceIte, Nat.reduceEqDiff, Nat.reduceAdd, Nat.reduceSub, Nat.reduceBEq, Int.reduceEq, Int.reduceLT, Int.reduceLE, Int.reduceNeg, Nat.reduceLeDiff, L, g_schemaValid, hl, hs, List.take_length, finK_arr0]
    simp only [initOf, hs, if_true, List.map_map]
    rfl
  · simp -implicitDefEqProofs (maxSteps := 1000000) only [h16, go_sem, ↓reduceIte, Nat.reduceEqDiff, Nat.reduceAdd, Nat.reduceSub, Nat.reduceBEq, Int.reduceEq, Int.reduceLT, Int.reduceLE, Int.reduceNeg, Nat.reduceLeDiff, g_schemaValid, hl, hs]
    simp only [initOf, hs]
    rfl
theorem q_initial (m : Nat) (ty : List Nat) (fs : List Fi) (hl : fs.length ≤ 20) : evH tabS (m + 26) 16 [.p (.agg [.str ty, .slice 7 (fs.map Fi.e)])] [] = some (.p (.slice 5 ((initOf ⟨ty, fs⟩).map V.e)), []) := (evH_code (show tabS 16 = some (.code h16 [.t 2] true) by kernel_rfl) (m + 25) _ _).trans (r_initial m ty fs hl)
theorem g_initial (m : Nat) (ty : List Nat) (fs : List Fi) (hl : fs.length ≤ 20) (raw : Bool) (hp : List Ob) (K : KV) : callG (evH tabS (m + 26)) 16 raw [.p (.agg [.str ty, .slice 7 (fs.map Fi.e)])] hp K = K (.p (.slice 5 ((initOf ⟨ty, fs⟩).map V.e))) hp := call_known rfl (q_initial m ty fs hl) rfl
theorem gF_initial (m : Nat) (ty : List Nat) (fs : List Fi) (hl : fs.length ≤ 20) (raw : Bool) (hp : List Ob) (K : KF) : callF (evH tabS (m + 26)) 16 raw [.p (.agg [.str ty, .slice 7 (fs.map Fi.e)])] hp K = K (.p (.slice 5 ((initOf ⟨ty, fs⟩).map V.e))) hp (footE hp) := callF_known rfl (q_initial m ty fs hl) rfl


theorem r_refInitial (m : Nat) (ty : List Nat) (fs : List Fi) (hl : fs.length ≤ 20) : runH h17 (evH tabS (m + 25)) (m + 25) [.t 2] true [.p (.agg [.str ty, .slice 7 (fs.map Fi.e)])] [] = some (.p (.slice 5 ((initOf ⟨ty, fs⟩).map V.e)), []) := by
  by_cases hs : scOk ⟨ty, fs⟩ = true
  · have L := fun (ke : Nat → K) (kr : K) => loop_map (m := 0) (live := [1, 3, 4]) (body := fun tm hp k => l17_1 (evH tabS (m + 25)) (m + 25) 0 tm hp k ke kr) fs.length
      (fun j => .cons 1 (.box 0 0) (.cons 3 (.arr 1 0 j 5) (.cons 4 (.p (.int .i64 (j : Nat))) .nil))) (fun j => [.box [.p (.str ty), .p (.slice 7 (fs.map Fi.e))], .arr ((fs.take j).map fun f => f.init.e)])
      (fun j => .cons 1 (.box 0 0) (.cons 3 (.arr 2 0 (j + 1) 5) (.cons 4 (.p (.int .i64 (j + 1 : Nat))) .nil))) (fun j => [.box [.p (.str ty), .p (.slice 7 (fs.map Fi.e))], .dead, .arr ((fs.take (j + 1)).map fun f => f.init.e)])
      (ke 0 (.cons 1 (.box 0 0) (.cons 3 (.arr 1 0 fs.length 5) (.cons 4 (.p (.int .i64 fs.length)) (.cons 12 (.p (.bool false)) .nil)))) [.box [.p (.str ty), .p (.slice 7 (fs.map Fi.e))], .arr ((fs.take fs.length).map fun f => f.init.e)])
      (fun j _ => by kernel_rfl)
      (fun j kn hj => by
        have hv := vOk_len (scOk_init hs j hj)
        have hlen : (fs.take j).length = j := by rw [List.length_take]; omega
        rw [← take_snoc (fun f => f.init.e) fs j hj]
        simp -implicitDefEqProofs (maxSteps := 1000000) only [l17_1, go_sem, ↓reduceIte, Nat.reduceEqDiff, Nat.reduceAdd, Nat.reduceSub, Nat.reduceBEq, Int.reduceEq, Int.reduceLT, Int.reduceLE, Int.reduceNeg, Nat.reduceLeDiff, at_map _ fs j hj, wrap_succ j (by omega), Int.ofNat_lt.mpr hj, List.getElem?_eq_getElem hj, Option.getD_some, g_CopyValue, hv.1, hv.2, app_own1, hlen, show j ≤ 1000 by omega])
      (fun kn => by
        simp -implicitDefEqProofs (maxSteps := 1000000) only [l17_1, go_sem, ↓reduceIte, Nat.reduceEqDiff, Nat.reduceAdd, Nat.reduceSub, Nat.reduceBEq, Int.reduceEq, Int.reduceLT, Int.reduceLE, Int.reduceNeg, Nat.reduceLeDiff, Int.lt_irrefl, if_false]) (m + 25)
      (.cons 3 (.arr 1 0 0 5) (.cons 1 (.box 0 0) (.cons 3 (.sl .nil 5 []) (.cons 4 (.p (.int .i64 0)) .nil)))) [.box [.p (.str ty), .p (.slice 7 (fs.map Fi.e))], .arr []] (by omega) (by kernel_rfl)
    simp -implicitDefEqProofs (maxSteps := 1000000) only [h17, go_sem, ↓reduceIte, Nat.reduceEqDiff, Nat.reduceAdd, Nat.reduceSub, Nat.reduceBEq, Int.reduceEq, Int.reduceLT, Int.reduceLE, Int.reduceNeg, Nat.reduceLeDiff, L, g_refSchemaValid, hl, hs, List.take_length, finK_arr1]
    simp only [initOf, hs, if_true, List.map_map]
    rfl
  · simp -implicitDefEqProofs (maxSteps := 1000000) only [h17, go_sem, ↓reduceIte, Nat.reduceEqDiff, Nat.reduceAdd, Nat.reduceSub, Nat.reduceBEq, Int.reduceEq, Int.reduceLT, Int.reduceLE, Int.reduceNeg, Nat.reduceLeDiff, g_refSchemaValid, hl, hs]
    simp only [initOf, hs]
    rfl
theorem q_refInitial (m : Nat) (ty : List Nat) (fs : List Fi) (hl : fs.length ≤ 20) : evH tabS (m + 26) 17 [.p (.agg [.str ty, .slice 7 (fs.map Fi.e)])] [] = some (.p (.slice 5 ((initOf ⟨ty, fs⟩).map V.e)), []) := (evH_code (show tabS 17 = some (.code h17 [.t 2] true) by kernel_rfl) (m + 25) _ _).trans (r_refInitial m ty fs hl)
theorem g_refInitial (m : Nat) (ty : List Nat) (fs : List Fi) (hl : fs.length ≤ 20) (raw : Bool) (hp : List Ob) (K : KV) : callG (evH tabS (m + 26)) 17 raw [.p (.agg [.str ty, .slice 7 (fs.map Fi.e)])] hp K = K (.p (.slice 5 ((initOf ⟨ty, fs⟩).map V.e))) hp := call_known rfl (q_refInitial m ty fs hl) rfl
theorem gF_refInitial (m : Nat) (ty : List Nat) (fs : List Fi) (hl : fs.length ≤ 20) (raw : Bool) (hp : List Ob) (K : KF) : callF (evH tabS (m + 26)) 17 raw [.p (.agg [.str ty, .slice 7 (fs.map Fi.e)])] hp K = K (.p (.slice 5 ((initOf ⟨ty, fs⟩).map V.e))) hp (footE hp) := callF_known rfl (q_refInitial m ty fs hl) rfl


theorem initOf_len {s : Sc} (h : s.fields.length ≤ 20) : (initOf s).length ≤ 20 := by
  unfold initOf; split <;> simp <;> omega
theorem initOf_small {s : Sc} : ∀ v ∈ initOf s, v.is.length ≤ 16 ∧ v.ls.length ≤ 16 := by
  intro v hv
  unfold initOf at hv
  split at hv
  · rename_i hs
    obtain ⟨f, hf, rfl⟩ := List.mem_map.1 hv
    obtain ⟨j, hj, rfl⟩ := List.mem_iff_getElem.1 hf
    have h := scOk_init hs j hj
    unfold vOk at h
    simp only [Bool.and_eq_true, decide_eq_true_eq] at h
    omega
  · simp at hv

theorem g_awake (m : Nat) (raw : Bool) (hp : List Ob) (K : KV) : callG (evH tabS (m + 1)) 9 raw [] hp K = K (.p (.bool true)) hp :=
  call_known rfl ((evH_prim (xs := []) (show tabS 9 = some (.prim (memo [([], some (.p (.bool true), []))])) by kernel_rfl) m).trans (by kernel_rfl)) rfl

theorem r_SchemaStates (m : Nat) (ty : List Nat) (fs : List Fi) (vs : List V) : runH h3 (evH tabS (m + 30)) (m + 30) [.t 4] true [.p (.agg [.str ty, .slice 7 (fs.map Fi.e)]), .p (.slice 5 (vs.map V.e))] [] = some (.p (.bool true), []) := by
  by_cases hl : fs.length ≤ 20
  · by_cases hv : vs.length ≤ 20
    · have u1 : ¬ (20 : Int) < vs.length := by omega
      have u2 := initOf_len (s := ⟨ty, fs⟩) hl
      have u3 := initOf_small (s := ⟨ty, fs⟩)
      have u4 := fun (raw : Bool) (hp : List Ob) (K : KF) => gF_SameValues (m + 7) _ u2 u3 raw hp K
      simp only [Nat.add_assoc, Nat.reduceAdd] at u4
      cases q1 : scOk ⟨ty, fs⟩ <;> cases q2 : stateOk ⟨ty, fs⟩ vs <;> simp -implicitDefEqProofs (maxSteps := 1000000) only [h3, go_sem, ↓reduceIte, Nat.reduceEqDiff, Nat.reduceAdd, Nat.reduceSub, Nat.reduceBEq, Int.reduceEq, Int.reduceLT, Int.reduceLE, Int.reduceNeg, Nat.reduceLeDiff, g_awake, g_small, hl, hv, u1, gF_schemaValid, gF_refSchemaValid, gF_validState, gF_refValidState, gF_initial, gF_refInitial, u4, q1, q2]
    · have u1 : (20 : Int) < vs.length := by omega
      simp -implicitDefEqProofs (maxSteps := 1000000) only [h3, go_sem, ↓reduceIte, Nat.reduceEqDiff, Nat.reduceAdd, Nat.reduceSub, Nat.reduceBEq, Int.reduceEq, Int.reduceLT, Int.reduceLE, Int.reduceNeg, Nat.reduceLeDiff, g_awake, g_small, hl, hv, u1]
  · simp -implicitDefEqProofs (maxSteps := 1000000) only [h3, go_sem, ↓reduceIte, Nat.reduceEqDiff, Nat.reduceAdd, Nat.reduceSub, Nat.reduceBEq, Int.reduceEq, Int.reduceLT, Int.reduceLE, Int.reduceNeg, Nat.reduceLeDiff, g_awake, g_small, hl]
theorem q_SchemaStates (m : Nat) (ty : List Nat) (fs : List Fi) (vs : List V) : evH tabS (m + 31) 3 [.p (.agg [.str ty, .slice 7 (fs.map Fi.e)]), .p (.slice 5 (vs.map V.e))] [] = some (.p (.bool true), []) := (evH_code (show tabS 3 = some (.code h3 [.t 4] true) by kernel_rfl) (m + 30) _ _).trans (r_SchemaStates m ty fs vs)
theorem g_SchemaStates (m : Nat) (ty : List Nat) (fs : List Fi) (vs : List V) (raw : Bool) (hp : List Ob) (K : KV) : callG (evH tabS (m + 31)) 3 raw [.p (.agg [.str ty, .slice 7 (fs.map Fi.e)]), .p (.slice 5 (vs.map V.e))] hp K = if true = true then K (.p (.bool true)) hp else K (.p (.bool false)) hp := call_bool rfl (q_SchemaStates m ty fs vs)
theorem gF_SchemaStates (m : Nat) (ty : List Nat) (fs : List Fi) (vs : List V) (raw : Bool) (hp : List Ob) (K : KF) : callF (evH tabS (m + 31)) 3 raw [.p (.agg [.str ty, .slice 7 (fs.map Fi.e)]), .p (.slice 5 (vs.map V.e))] hp K = if true = true then K (.p (.bool true)) hp (footE hp) else K (.p (.bool false)) hp (footE hp) := callF_bool rfl (q_SchemaStates m ty fs vs)

end Go.Ab
end
