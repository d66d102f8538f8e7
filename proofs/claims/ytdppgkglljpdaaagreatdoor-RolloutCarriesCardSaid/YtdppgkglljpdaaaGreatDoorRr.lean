/- The evaluator and its laws, part Rr: R1 R2 R3 R4 R5 R11 R12 R13 R14 R15 -/
import Derived.Test.YtdppgkglljpdaaaGreatDoorAbZ
import Derived.Lib.ItoaLen
set_option linter.all false
/- Runs with letters: small functions of layer 36. -/
section
namespace Go.Ab
open Go
theorem r_validName (m : Nat) (s : List Nat) : runH h74 (evH tabS (m + 0)) (m + 0) [.t 2] true [.p (.str s)] [] = some (.p (.bool (nameOk s)), []) := by
  simp -implicitDefEqProofs (maxSteps := 1000000) only [h74, p74, go_sem, ite_ans]
  apply ans
  unfold nameOk
  grind
theorem q_validName (m : Nat) (s : List Nat) : evH tabS (m + 1) 74 [.p (.str s)] [] = some (.p (.bool (nameOk s)), []) := (evH_code (show tabS 74 = some (.code h74 [.t 2] true) by kernel_rfl) (m + 0) _ _).trans (r_validName m s)
theorem g_validName (m : Nat) (s : List Nat) (raw : Bool) (hp : List Ob) (K : KV) : callG (evH tabS (m + 1)) 74 raw [.p (.str s)] hp K = if (nameOk s) = true then K (.p (.bool true)) hp else K (.p (.bool false)) hp := call_bool rfl (q_validName m s)
theorem r_ValidName (m : Nat) (s : List Nat) : runH h98 (evH tabS (m + 0)) (m + 0) [.t 2] true [.p (.str s)] [] = some (.p (.bool (nameOk s)), []) := by
  simp -implicitDefEqProofs (maxSteps := 1000000) only [h98, p98, go_sem, ite_ans]
  apply ans
  unfold nameOk
  grind
theorem q_ValidName (m : Nat) (s : List Nat) : evH tabS (m + 1) 98 [.p (.str s)] [] = some (.p (.bool (nameOk s)), []) := (evH_code (show tabS 98 = some (.code h98 [.t 2] true) by kernel_rfl) (m + 0) _ _).trans (r_ValidName m s)
theorem g_ValidName (m : Nat) (s : List Nat) (raw : Bool) (hp : List Ob) (K : KV) : callG (evH tabS (m + 1)) 98 raw [.p (.str s)] hp K = if (nameOk s) = true then K (.p (.bool true)) hp else K (.p (.bool false)) hp := call_bool rfl (q_ValidName m s)
theorem L39 (call : CallF) (N : Nat) (ls : List (List Nat)) (hl : ls.length ≤ 16) (hN : 20 ≤ N) (ke : Nat → K) (kr : K) (cs : List D) :
    loopK 0 [76, 77, 78] (fun tm hp k => l50_1 call N 0 tm hp k ke kr) N (.cons 76 (.p (.slice 1 (ls.map .str))) (.cons 77 (.p (.int .i64 ls.length)) (.cons 78 (.p (.int .i64 0)) .nil))) [.box cs] =
      if (ls.all fun t => decide (t.length ≤ 64)) = true then ke 1 (.cons 76 (.p (.slice 1 (ls.map .str))) (.cons 77 (.p (.int .i64 ls.length)) (.cons 78 (.p (.int .i64 ls.length)) (.cons 79 (.p (.bool false)) .nil)))) [] else kr (.cons 2 (.p (.bool false)) .nil) [] := by
  refine (loop_all (m := 0) (live := [76, 77, 78]) (body := fun tm hp k => l50_1 call N 0 tm hp k ke kr) ls.length
    (fun j => .cons 76 (.p (.slice 1 (ls.map .str))) (.cons 77 (.p (.int .i64 ls.length)) (.cons 78 (.p (.int .i64 (j : Nat))) .nil))) (fun _ => [])
    (fun j => .cons 76 (.p (.slice 1 (ls.map .str))) (.cons 77 (.p (.int .i64 ls.length)) (.cons 78 (.p (.int .i64 (j + 1 : Nat))) .nil))) (fun _ => [])
    (fun j => !decide ((64 : Int) < (ls[j]?.getD []).length)) (kr (.cons 2 (.p (.bool false)) .nil) []) (ke 1 (.cons 76 (.p (.slice 1 (ls.map .str))) (.cons 77 (.p (.int .i64 ls.length)) (.cons 78 (.p (.int .i64 ls.length)) (.cons 79 (.p (.bool false)) .nil)))) [])
    (fun j _ => by kernel_rfl)
    (fun j kn hj => by
      simp -implicitDefEqProofs (maxSteps := 1000000) only [l50_1, p50_1, go_sem, at_map _ ls j hj, wrap_succ j (by omega), Int.ofNat_lt.mpr hj, if_true, List.getElem?_eq_getElem hj, Option.getD_some])
    (fun kn => by
      simp -implicitDefEqProofs (maxSteps := 1000000) only [l50_1, p50_1, go_sem, Int.lt_irrefl, if_false]) N _ _ (by omega) (by kernel_rfl)).trans ?_
  have e : (∀ j, j < ls.length → (!decide ((64 : Int) < (ls[j]?.getD []).length)) = true) ↔ (ls.all fun t => decide (t.length ≤ 64)) = true := by
    rw [List.all_eq_true, ← all_idx ls [] fun t => decide (t.length ≤ 64) = true]
    simp
    grind
  simp only [e]
set_option maxHeartbeats 1000000
theorem r_wireValid (m : Nat) (k : Int) (n : Int) (s : List Nat) (is : List Int) (ls : List (List Nat)) : runH h50 (evH tabS (m + 20)) (m + 20) [.t 2] true [.p (.agg [.int .i64 k, .int .i64 n, .str s, .slice 1 (is.map (.int .i64)), .slice 1 (ls.map .str)])] [] = some (.p (.bool (vOk ⟨k, n, s, is, ls⟩)), []) := by
  by_cases hl : ls.length ≤ 16
  · simp -implicitDefEqProofs (maxSteps := 1000000) only [h50, p50, go_sem, L39 _ _ ls hl (Nat.le_add_left _ _)]
    simp only [ite_ans]
    apply ans
    unfold vOk
    generalize (ls.all fun t => decide (t.length ≤ 64)) = q
    grind (splits := 40)
  · have hl' : (16 : Int) < ls.length := by omega
    simp -implicitDefEqProofs (maxSteps := 1000000) only [h50, p50, go_sem, hl', if_true]
    simp only [ite_ans, ite_self]
    apply ans
    unfold vOk
    generalize (ls.all fun t => decide (t.length ≤ 64)) = q
    grind (splits := 40)
theorem q_wireValid (m : Nat) (k : Int) (n : Int) (s : List Nat) (is : List Int) (ls : List (List Nat)) : evH tabS (m + 21) 50 [.p (.agg [.int .i64 k, .int .i64 n, .str s, .slice 1 (is.map (.int .i64)), .slice 1 (ls.map .str)])] [] = some (.p (.bool (vOk ⟨k, n, s, is, ls⟩)), []) := (evH_code (show tabS 50 = some (.code h50 [.t 2] true) by kernel_rfl) (m + 20) _ _).trans (r_wireValid m k n s is ls)
theorem g_wireValid (m : Nat) (k : Int) (n : Int) (s : List Nat) (is : List Int) (ls : List (List Nat)) (raw : Bool) (hp : List Ob) (K : KV) : callG (evH tabS (m + 21)) 50 raw [.p (.agg [.int .i64 k, .int .i64 n, .str s, .slice 1 (is.map (.int .i64)), .slice 1 (ls.map .str)])] hp K = if (vOk ⟨k, n, s, is, ls⟩) = true then K (.p (.bool true)) hp else K (.p (.bool false)) hp := call_bool rfl (q_wireValid m k n s is ls)
theorem gF_wireValid (m : Nat) (k : Int) (n : Int) (s : List Nat) (is : List Int) (ls : List (List Nat)) (raw : Bool) (hp : List Ob) (K : KF) : callF (evH tabS (m + 21)) 50 raw [.p (.agg [.int .i64 k, .int .i64 n, .str s, .slice 1 (is.map (.int .i64)), .slice 1 (ls.map .str)])] hp K = if (vOk ⟨k, n, s, is, ls⟩) = true then K (.p (.bool true)) hp (footE hp) else K (.p (.bool false)) hp (footE hp) := callF_bool rfl (q_wireValid m k n s is ls)
end Go.Ab
end
/- Runs with letters: the references' equalities and valid values. -/
section
namespace Go.Ab
open Go
set_option maxHeartbeats 1000000
theorem L30 (call : CallF) (N : Nat) (c0 c1 c2 c3 : Da) (ls : List (List Nat)) (hl : ls.length ≤ 16) (hN : 20 ≤ N) (ke : Nat → K) (kr : K) :
    loopK 0 [1, 3] (fun tm hp k => l64_1 call N 0 tm hp k ke kr) N (.cons 1 (.box 0 0) (.cons 3 (.p (.int .i64 0)) .nil)) [.box [.p c0, .p c1, .p c2, .p c3, .p (.slice 1 (ls.map .str))]] =
      if (ls.all fun t => decide (t.length ≤ 64)) = true then ke 0 (.cons 1 (.box 0 0) (.cons 3 (.p (.int .i64 ls.length)) (.cons 94 (.p (.bool false)) .nil))) [.box [.p c0, .p c1, .p c2, .p c3, .p (.slice 1 (ls.map .str))]] else kr (.cons 2 (.p (.bool false)) .nil) [.box [.p c0, .p c1, .p c2, .p c3, .p (.slice 1 (ls.map .str))]] := by
  refine (loop_all (m := 0) (live := [1, 3]) (body := fun tm hp k => l64_1 call N 0 tm hp k ke kr) ls.length
    (fun j => .cons 1 (.box 0 0) (.cons 3 (.p (.int .i64 (j : Nat))) .nil)) (fun _ => [.box [.p c0, .p c1, .p c2, .p c3, .p (.slice 1 (ls.map .str))]])
    (fun j => .cons 1 (.box 0 0) (.cons 3 (.p (.int .i64 (j + 1 : Nat))) .nil)) (fun _ => [.box [.p c0, .p c1, .p c2, .p c3, .p (.slice 1 (ls.map .str))]])
    (fun j => !decide ((64 : Int) < (ls[j]?.getD []).length)) (kr (.cons 2 (.p (.bool false)) .nil) [.box [.p c0, .p c1, .p c2, .p c3, .p (.slice 1 (ls.map .str))]]) (ke 0 (.cons 1 (.box 0 0) (.cons 3 (.p (.int .i64 ls.length)) (.cons 94 (.p (.bool false)) .nil))) [.box [.p c0, .p c1, .p c2, .p c3, .p (.slice 1 (ls.map .str))]])
    (fun j _ => by kernel_rfl)
    (fun j kn hj => by
      simp -implicitDefEqProofs (maxSteps := 1000000) only [l64_1, p64_1, go_sem, at_map _ ls j hj, wrap_succ j (by omega), Int.ofNat_lt.mpr hj, if_true, List.getElem?_eq_getElem hj, Option.getD_some])
    (fun kn => by
      simp -implicitDefEqProofs (maxSteps := 1000000) only [l64_1, p64_1, go_sem, Int.lt_irrefl, if_false]) N _ _ (by omega) (by kernel_rfl)).trans ?_
  have e : (∀ j, j < ls.length → (!decide ((64 : Int) < (ls[j]?.getD []).length)) = true) ↔ (ls.all fun t => decide (t.length ≤ 64)) = true := by
    rw [List.all_eq_true, ← all_idx ls [] fun t => decide (t.length ≤ 64) = true]
    simp
    grind
  simp only [e]
set_option maxHeartbeats 1000000
theorem r_refValid (m : Nat) (k : Int) (n : Int) (s : List Nat) (is : List Int) (ls : List (List Nat)) : runH h64 (evH tabS (m + 20)) (m + 20) [.t 2] true [.p (.agg [.int .i64 k, .int .i64 n, .str s, .slice 1 (is.map (.int .i64)), .slice 1 (ls.map .str)])] [] = some (.p (.bool (vOk ⟨k, n, s, is, ls⟩)), []) := by
  by_cases hl : ls.length ≤ 16
  · simp -implicitDefEqProofs (maxSteps := 1000000) only [h64, p64, go_sem, L30 _ _ _ _ _ _ ls hl (Nat.le_add_left _ _)]
    simp only [ite_ans]
    apply ans
    unfold vOk
    generalize (ls.all fun t => decide (t.length ≤ 64)) = q
    grind (splits := 40)
  · have hl' : (16 : Int) < ls.length := by omega
    simp -implicitDefEqProofs (maxSteps := 1000000) only [h64, p64, go_sem, hl', if_true]
    simp only [ite_ans, ite_self]
    apply ans
    unfold vOk
    generalize (ls.all fun t => decide (t.length ≤ 64)) = q
    grind (splits := 40)
theorem q_refValid (m : Nat) (k : Int) (n : Int) (s : List Nat) (is : List Int) (ls : List (List Nat)) : evH tabS (m + 21) 64 [.p (.agg [.int .i64 k, .int .i64 n, .str s, .slice 1 (is.map (.int .i64)), .slice 1 (ls.map .str)])] [] = some (.p (.bool (vOk ⟨k, n, s, is, ls⟩)), []) := (evH_code (show tabS 64 = some (.code h64 [.t 2] true) by kernel_rfl) (m + 20) _ _).trans (r_refValid m k n s is ls)
theorem g_refValid (m : Nat) (k : Int) (n : Int) (s : List Nat) (is : List Int) (ls : List (List Nat)) (raw : Bool) (hp : List Ob) (K : KV) : callG (evH tabS (m + 21)) 64 raw [.p (.agg [.int .i64 k, .int .i64 n, .str s, .slice 1 (is.map (.int .i64)), .slice 1 (ls.map .str)])] hp K = if (vOk ⟨k, n, s, is, ls⟩) = true then K (.p (.bool true)) hp else K (.p (.bool false)) hp := call_bool rfl (q_refValid m k n s is ls)
theorem gF_refValid (m : Nat) (k : Int) (n : Int) (s : List Nat) (is : List Int) (ls : List (List Nat)) (raw : Bool) (hp : List Ob) (K : KF) : callF (evH tabS (m + 21)) 64 raw [.p (.agg [.int .i64 k, .int .i64 n, .str s, .slice 1 (is.map (.int .i64)), .slice 1 (ls.map .str)])] hp K = if (vOk ⟨k, n, s, is, ls⟩) = true then K (.p (.bool true)) hp (footE hp) else K (.p (.bool false)) hp (footE hp) := callF_bool rfl (q_refValid m k n s is ls)
theorem same_idx {α : Type} (a b : List α) (h : a.length = b.length) : (∀ j, j < a.length → a[j]? = b[j]?) ↔ a = b := by
  constructor
  · intro h2
    apply List.ext_getElem? fun i => ?_
    by_cases hi : i < a.length
    · exact h2 i hi
    · rw [List.getElem?_eq_none (by omega), List.getElem?_eq_none (by omega)]
  · rintro rfl _ _; rfl
theorem r_SameInts (m : Nat) (a : List Int) (b : List Int) (ha : a.length ≤ 16) : runH h69 (evH tabS (m + 20)) (m + 20) [.t 4] true [.p (.slice 1 (a.map (.int .i64))), .p (.slice 1 (b.map (.int .i64)))] [] = some (.p (.bool (decide (a = b))), []) := by
  have L := fun (hab : a.length = b.length) (ke : Nat → K) (kr : K) => loop_all (m := 0) (live := [0, 1, 5]) (body := fun tm hp k => l69_1 (evH tabS (m + 20)) (m + 20) 0 tm hp k ke kr) a.length
    (fun j => .cons 0 (.p (.slice 1 (a.map (.int .i64)))) (.cons 1 (.p (.slice 1 (b.map (.int .i64)))) (.cons 5 (.p (.int .i64 (j : Nat))) .nil))) (fun _ => [])
    (fun j => .cons 0 (.p (.slice 1 (a.map (.int .i64)))) (.cons 1 (.p (.slice 1 (b.map (.int .i64)))) (.cons 5 (.p (.int .i64 (j + 1 : Nat))) .nil))) (fun _ => [])
    (fun j => decide (a[j]? = b[j]?)) (kr (.cons 4 (.p (.bool false)) .nil) []) (ke 0 (.cons 0 (.p (.slice 1 (a.map (.int .i64)))) (.cons 1 (.p (.slice 1 (b.map (.int .i64)))) (.cons 5 (.p (.int .i64 a.length)) (.cons 14 (.p (.bool false)) .nil)))) [])
    (fun j _ => by kernel_rfl)
    (fun j kn hj => by
      simp -implicitDefEqProofs (maxSteps := 1000000) only [l69_1, p69_1, go_sem, at_map _ a j hj, at_map _ b j (hab ▸ hj), wrap_succ j (by omega), Int.ofNat_lt.mpr hj, if_true, List.getElem?_eq_getElem hj, List.getElem?_eq_getElem (hab ▸ hj), Option.some.injEq])
    (fun kn => by
      simp -implicitDefEqProofs (maxSteps := 1000000) only [l69_1, p69_1, go_sem, Int.lt_irrefl, if_false]) (m + 20)
    (.cons 0 (.p (.slice 1 (a.map (.int .i64)))) (.cons 1 (.p (.slice 1 (b.map (.int .i64)))) (.cons 5 (.p (.int .i64 0)) .nil))) [] (by omega) (by kernel_rfl)
  by_cases hab : a.length = b.length
  · simp -implicitDefEqProofs (maxSteps := 1000000) only [h69, p69, go_sem, hab, if_true]
    have L := L hab
    simp only [hab] at L
    simp -implicitDefEqProofs (maxSteps := 1000000) only [go_sem, L]
    simp only [ite_ans]
    apply ans
    have := same_idx a b hab
    simp only [hab] at this
    grind
  · have hab' : ¬ (a.length : Int) = b.length := by omega
    simp -implicitDefEqProofs (maxSteps := 1000000) only [h69, p69, go_sem, hab', if_false]
    apply ans
    grind
theorem q_SameInts (m : Nat) (a : List Int) (b : List Int) (ha : a.length ≤ 16) : evH tabS (m + 21) 69 [.p (.slice 1 (a.map (.int .i64))), .p (.slice 1 (b.map (.int .i64)))] [] = some (.p (.bool (decide (a = b))), []) := (evH_code (show tabS 69 = some (.code h69 [.t 4] true) by kernel_rfl) (m + 20) _ _).trans (r_SameInts m a b ha)
theorem g_SameInts (m : Nat) (a : List Int) (b : List Int) (ha : a.length ≤ 16) (raw : Bool) (hp : List Ob) (K : KV) : callG (evH tabS (m + 21)) 69 raw [.p (.slice 1 (a.map (.int .i64))), .p (.slice 1 (b.map (.int .i64)))] hp K = if (decide (a = b)) = true then K (.p (.bool true)) hp else K (.p (.bool false)) hp := call_bool rfl (q_SameInts m a b ha)
theorem r_SameStrings (m : Nat) (a : List (List Nat)) (b : List (List Nat)) (ha : a.length ≤ 16) : runH h70 (evH tabS (m + 20)) (m + 20) [.t 4] true [.p (.slice 1 (a.map .str)), .p (.slice 1 (b.map .str))] [] = some (.p (.bool (decide (a = b))), []) := by
  have L := fun (hab : a.length = b.length) (ke : Nat → K) (kr : K) => loop_all (m := 0) (live := [0, 1, 5]) (body := fun tm hp k => l70_1 (evH tabS (m + 20)) (m + 20) 0 tm hp k ke kr) a.length
    (fun j => .cons 0 (.p (.slice 1 (a.map .str))) (.cons 1 (.p (.slice 1 (b.map .str))) (.cons 5 (.p (.int .i64 (j : Nat))) .nil))) (fun _ => [])
    (fun j => .cons 0 (.p (.slice 1 (a.map .str))) (.cons 1 (.p (.slice 1 (b.map .str))) (.cons 5 (.p (.int .i64 (j + 1 : Nat))) .nil))) (fun _ => [])
    (fun j => decide (a[j]? = b[j]?)) (kr (.cons 4 (.p (.bool false)) .nil) []) (ke 0 (.cons 0 (.p (.slice 1 (a.map .str))) (.cons 1 (.p (.slice 1 (b.map .str))) (.cons 5 (.p (.int .i64 a.length)) (.cons 14 (.p (.bool false)) .nil)))) [])
    (fun j _ => by kernel_rfl)
    (fun j kn hj => by
      simp -implicitDefEqProofs (maxSteps := 1000000) only [l70_1, p70_1, go_sem, at_map _ a j hj, at_map _ b j (hab ▸ hj), wrap_succ j (by omega), Int.ofNat_lt.mpr hj, if_true, List.getElem?_eq_getElem hj, List.getElem?_eq_getElem (hab ▸ hj), Option.some.injEq])
    (fun kn => by
      simp -implicitDefEqProofs (maxSteps := 1000000) only [l70_1, p70_1, go_sem, Int.lt_irrefl, if_false]) (m + 20)
    (.cons 0 (.p (.slice 1 (a.map .str))) (.cons 1 (.p (.slice 1 (b.map .str))) (.cons 5 (.p (.int .i64 0)) .nil))) [] (by omega) (by kernel_rfl)
  by_cases hab : a.length = b.length
  · simp -implicitDefEqProofs (maxSteps := 1000000) only [h70, p70, go_sem, hab, if_true]
    have L := L hab
    simp only [hab] at L
    simp -implicitDefEqProofs (maxSteps := 1000000) only [go_sem, L]
    simp only [ite_ans]
    apply ans
    have := same_idx a b hab
    simp only [hab] at this
    grind
  · have hab' : ¬ (a.length : Int) = b.length := by omega
    simp -implicitDefEqProofs (maxSteps := 1000000) only [h70, p70, go_sem, hab', if_false]
    apply ans
    grind
theorem q_SameStrings (m : Nat) (a : List (List Nat)) (b : List (List Nat)) (ha : a.length ≤ 16) : evH tabS (m + 21) 70 [.p (.slice 1 (a.map .str)), .p (.slice 1 (b.map .str))] [] = some (.p (.bool (decide (a = b))), []) := (evH_code (show tabS 70 = some (.code h70 [.t 4] true) by kernel_rfl) (m + 20) _ _).trans (r_SameStrings m a b ha)
theorem g_SameStrings (m : Nat) (a : List (List Nat)) (b : List (List Nat)) (ha : a.length ≤ 16) (raw : Bool) (hp : List Ob) (K : KV) : callG (evH tabS (m + 21)) 70 raw [.p (.slice 1 (a.map .str)), .p (.slice 1 (b.map .str))] hp K = if (decide (a = b)) = true then K (.p (.bool true)) hp else K (.p (.bool false)) hp := call_bool rfl (q_SameStrings m a b ha)
end Go.Ab
end
/- Runs with letters: equal values, copies of values, the place of a field. -/
section
namespace Go.Ab
open Go
set_option maxHeartbeats 1000000
theorem r_SameValue (m : Nat) (k : Int) (n : Int) (s : List Nat) (is : List Int) (ls : List (List Nat)) (hi : is.length ≤ 16) (hl : ls.length ≤ 16) : runH h45 (evH tabS (m + 21)) (m + 21) [.t 4] true [.p (.agg [.int .i64 k, .int .i64 n, .str s, .slice 1 (is.map (.int .i64)), .slice 1 (ls.map .str)]), .p (.agg [.int .i64 k, .int .i64 n, .str s, .slice 1 (is.map (.int .i64)), .slice 1 (ls.map .str)])] [] = some (.p (.bool true), []) := by
  simp -implicitDefEqProofs (maxSteps := 1000000) only [h45, p45, go_sem, g_SameInts, g_SameStrings, hi, hl]
theorem q_SameValue (m : Nat) (k : Int) (n : Int) (s : List Nat) (is : List Int) (ls : List (List Nat)) (hi : is.length ≤ 16) (hl : ls.length ≤ 16) : evH tabS (m + 22) 45 [.p (.agg [.int .i64 k, .int .i64 n, .str s, .slice 1 (is.map (.int .i64)), .slice 1 (ls.map .str)]), .p (.agg [.int .i64 k, .int .i64 n, .str s, .slice 1 (is.map (.int .i64)), .slice 1 (ls.map .str)])] [] = some (.p (.bool true), []) := (evH_code (show tabS 45 = some (.code h45 [.t 4] true) by kernel_rfl) (m + 21) _ _).trans (r_SameValue m k n s is ls hi hl)
theorem gF_SameValue (m : Nat) (k : Int) (n : Int) (s : List Nat) (is : List Int) (ls : List (List Nat)) (hi : is.length ≤ 16) (hl : ls.length ≤ 16) (raw : Bool) (hp : List Ob) (K : KF) : callF (evH tabS (m + 22)) 45 raw [.p (.agg [.int .i64 k, .int .i64 n, .str s, .slice 1 (is.map (.int .i64)), .slice 1 (ls.map .str)]), .p (.agg [.int .i64 k, .int .i64 n, .str s, .slice 1 (is.map (.int .i64)), .slice 1 (ls.map .str)])] hp K = if true = true then K (.p (.bool true)) hp (footE hp) else K (.p (.bool false)) hp (footE hp) := callF_bool rfl (q_SameValue m k n s is ls hi hl)
theorem r_SameValues (m : Nat) (a : List V) (ha : a.length ≤ 20) (hs : ∀ v ∈ a, v.is.length ≤ 16 ∧ v.ls.length ≤ 16) : runH h13 (evH tabS (m + 22)) (m + 22) [.t 4] true [.p (.slice 5 (a.map V.e)), .p (.slice 5 (a.map V.e))] [] = some (.p (.bool true), []) := by
  have L := fun (ke : Nat → K) (kr : K) => loop_map (m := 0) (live := [0, 1, 5]) (body := fun tm hp k => l13_1 (evH tabS (m + 22)) (m + 22) 0 tm hp k ke kr) a.length
    (fun j => .cons 0 (.p (.slice 5 (a.map V.e))) (.cons 1 (.p (.slice 5 (a.map V.e))) (.cons 5 (.p (.int .i64 (j : Nat))) .nil))) (fun _ => [])
    (fun j => .cons 0 (.p (.slice 5 (a.map V.e))) (.cons 1 (.p (.slice 5 (a.map V.e))) (.cons 5 (.p (.int .i64 (j + 1 : Nat))) .nil))) (fun _ => [])
    (ke 0 (.cons 0 (.p (.slice 5 (a.map V.e))) (.cons 1 (.p (.slice 5 (a.map V.e))) (.cons 5 (.p (.int .i64 a.length)) (.cons 14 (.p (.bool false)) .nil)))) [])
    (fun j _ => by kernel_rfl)
    (fun j kn hj => by
      have hv := hs a[j] (List.getElem_mem hj)
      simp -implicitDefEqProofs (maxSteps := 1000000) only [l13_1, p13_1, go_sem, at_map _ a j hj, wrap_succ j (by omega), Int.ofNat_lt.mpr hj, gF_SameValue, hv.1, hv.2])
    (fun kn => by
      simp -implicitDefEqProofs (maxSteps := 1000000) only [l13_1, p13_1, go_sem, Int.lt_irrefl, if_false]) (m + 22)
    (.cons 0 (.p (.slice 5 (a.map V.e))) (.cons 1 (.p (.slice 5 (a.map V.e))) (.cons 5 (.p (.int .i64 0)) .nil))) [] (by omega) (by kernel_rfl)
  simp -implicitDefEqProofs (maxSteps := 1000000) only [h13, p13, go_sem, L]
theorem q_SameValues (m : Nat) (a : List V) (ha : a.length ≤ 20) (hs : ∀ v ∈ a, v.is.length ≤ 16 ∧ v.ls.length ≤ 16) : evH tabS (m + 23) 13 [.p (.slice 5 (a.map V.e)), .p (.slice 5 (a.map V.e))] [] = some (.p (.bool true), []) := (evH_code (show tabS 13 = some (.code h13 [.t 4] true) by kernel_rfl) (m + 22) _ _).trans (r_SameValues m a ha hs)
theorem q_cloneInts (m : Nat) (es : List Da) (h : es.length ≤ 1000) : evH tabS (m + 1) 72 [.p (.slice 1 es)] [] = some (.p (.slice 1 es), []) := by
  refine (evH_prim (xs := [.slice 1 es]) (show tabS 72 = some (.prim (primClone 1 8)) by kernel_rfl) m).trans ?_
  have : roomy es.length 8 = true := by
    unfold roomy
    rw [Bool.and_eq_true, Nat.ble_eq, Nat.ble_eq]
    constructor <;> omega
  simp only [primClone, this, nbeq_dec, decide_true, Bool.and_self, cond_true]
theorem q_cloneStrs (m : Nat) (es : List Da) (h : es.length ≤ 1000) : evH tabS (m + 1) 73 [.p (.slice 1 es)] [] = some (.p (.slice 1 es), []) := by
  refine (evH_prim (xs := [.slice 1 es]) (show tabS 73 = some (.prim (primClone 1 16)) by kernel_rfl) m).trans ?_
  have : roomy es.length 16 = true := by
    unfold roomy
    rw [Bool.and_eq_true, Nat.ble_eq, Nat.ble_eq]
    constructor <;> omega
  simp only [primClone, this, nbeq_dec, decide_true, Bool.and_self, cond_true]
theorem gF_cloneInts (m : Nat) (es : List Da) (h : es.length ≤ 1000) (raw : Bool) (hp : List Ob) (K : KF) : callF (evH tabS (m + 1)) 72 raw [.p (.slice 1 es)] hp K = K (.p (.slice 1 es)) hp (footE hp) := callF_known rfl (q_cloneInts m es h) rfl
theorem gF_cloneStrs (m : Nat) (es : List Da) (h : es.length ≤ 1000) (raw : Bool) (hp : List Ob) (K : KF) : callF (evH tabS (m + 1)) 73 raw [.p (.slice 1 es)] hp K = K (.p (.slice 1 es)) hp (footE hp) := callF_known rfl (q_cloneStrs m es h) rfl
theorem r_cloneValue (m : Nat) (k : Int) (n : Int) (s : List Nat) (is : List Int) (ls : List (List Nat)) (hi : is.length ≤ 1000) (hl : ls.length ≤ 1000) : runH h48 (evH tabS (m + 1)) (m + 1) [.cell 2 5 true] true [.p (.agg [.int .i64 k, .int .i64 n, .str s, .slice 1 (is.map (.int .i64)), .slice 1 (ls.map .str)])] [] = some (.p (.agg [.int .i64 k, .int .i64 n, .str s, .slice 1 (is.map (.int .i64)), .slice 1 (ls.map .str)]), []) := by
  simp -implicitDefEqProofs (maxSteps := 1000000) only [h48, p48, go_sem, gF_cloneInts, gF_cloneStrs, hi, hl]
theorem q_cloneValue (m : Nat) (k : Int) (n : Int) (s : List Nat) (is : List Int) (ls : List (List Nat)) (hi : is.length ≤ 1000) (hl : ls.length ≤ 1000) : evH tabS (m + 2) 48 [.p (.agg [.int .i64 k, .int .i64 n, .str s, .slice 1 (is.map (.int .i64)), .slice 1 (ls.map .str)])] [] = some (.p (.agg [.int .i64 k, .int .i64 n, .str s, .slice 1 (is.map (.int .i64)), .slice 1 (ls.map .str)]), []) := (evH_code (show tabS 48 = some (.code h48 [.cell 2 5 true] true) by kernel_rfl) (m + 1) _ _).trans (r_cloneValue m k n s is ls hi hl)
theorem g_cloneValue (m : Nat) (k : Int) (n : Int) (s : List Nat) (is : List Int) (ls : List (List Nat)) (hi : is.length ≤ 1000) (hl : ls.length ≤ 1000) (raw : Bool) (hp : List Ob) (K : KV) : callG (evH tabS (m + 2)) 48 raw [.p (.agg [.int .i64 k, .int .i64 n, .str s, .slice 1 (is.map (.int .i64)), .slice 1 (ls.map .str)])] hp K = K (.p (.agg [.int .i64 k, .int .i64 n, .str s, .slice 1 (is.map (.int .i64)), .slice 1 (ls.map .str)])) hp := call_known rfl (q_cloneValue m k n s is ls hi hl) rfl
theorem r_CopyValue (m : Nat) (k : Int) (n : Int) (s : List Nat) (is : List Int) (ls : List (List Nat)) (hi : is.length ≤ 1000) (hl : ls.length ≤ 1000) : runH h65 (evH tabS (m + 1)) (m + 1) [.cell 2 5 true] true [.p (.agg [.int .i64 k, .int .i64 n, .str s, .slice 1 (is.map (.int .i64)), .slice 1 (ls.map .str)])] [] = some (.p (.agg [.int .i64 k, .int .i64 n, .str s, .slice 1 (is.map (.int .i64)), .slice 1 (ls.map .str)]), []) := by
  have a1 : ∀ (base kk : Nat) (hp : List Ob) (k : KV), isUnborn (obF hp (base + kk)) = true → appG (evH tabS (m + 1)) base 1 8 kk (.sl .nil 1 []) (.p (.slice 1 (is.map (.int .i64)))) hp k = k (.arr (base + kk) 0 is.length 1) (setOb hp (base + kk) (.arr (is.map (.int .i64)))) := by
    intro base kk hp k hu
    have := app_nil (call := evH tabS (m + 1)) (base := base) (esz := 1) (bytes := 8) (kk := kk) (z := 1) (hp := hp) (ys := is.map (.int .i64)) (k := k) (by rw [List.length_map]; omega) (by rw [List.length_map]; omega) hu
    rwa [List.length_map] at this
  have a2 : ∀ (base kk : Nat) (hp : List Ob) (k : KV), isUnborn (obF hp (base + kk)) = true → appG (evH tabS (m + 1)) base 1 16 kk (.sl .nil 1 []) (.p (.slice 1 (ls.map .str))) hp k = k (.arr (base + kk) 0 ls.length 1) (setOb hp (base + kk) (.arr (ls.map .str))) := by
    intro base kk hp k hu
    have := app_nil (call := evH tabS (m + 1)) (base := base) (esz := 1) (bytes := 16) (kk := kk) (z := 1) (hp := hp) (ys := ls.map .str) (k := k) (by rw [List.length_map]; omega) (by rw [List.length_map]; omega) hu
    rwa [List.length_map] at this
  simp -implicitDefEqProofs (maxSteps := 1000000) only [h65, p65, go_sem, a1, a2, finK_V]
theorem q_CopyValue (m : Nat) (k : Int) (n : Int) (s : List Nat) (is : List Int) (ls : List (List Nat)) (hi : is.length ≤ 1000) (hl : ls.length ≤ 1000) : evH tabS (m + 2) 65 [.p (.agg [.int .i64 k, .int .i64 n, .str s, .slice 1 (is.map (.int .i64)), .slice 1 (ls.map .str)])] [] = some (.p (.agg [.int .i64 k, .int .i64 n, .str s, .slice 1 (is.map (.int .i64)), .slice 1 (ls.map .str)]), []) := (evH_code (show tabS 65 = some (.code h65 [.cell 2 5 true] true) by kernel_rfl) (m + 1) _ _).trans (r_CopyValue m k n s is ls hi hl)
theorem g_CopyValue (m : Nat) (k : Int) (n : Int) (s : List Nat) (is : List Int) (ls : List (List Nat)) (hi : is.length ≤ 1000) (hl : ls.length ≤ 1000) (raw : Bool) (hp : List Ob) (K : KV) : callG (evH tabS (m + 2)) 65 raw [.p (.agg [.int .i64 k, .int .i64 n, .str s, .slice 1 (is.map (.int .i64)), .slice 1 (ls.map .str)])] hp K = K (.p (.agg [.int .i64 k, .int .i64 n, .str s, .slice 1 (is.map (.int .i64)), .slice 1 (ls.map .str)])) hp := call_known rfl (q_CopyValue m k n s is ls hi hl) rfl
theorem q_fieldIndex1 (m : Nat) (a : List Nat) (kd : Int) (k : Int) (n : Int) (s : List Nat) (is : List Int) (ls : List (List Nat)) (nm : List Nat) : evH tabS (m + 1) 89 [.p (.agg [.str a, .int .i64 kd, .int .i64 k, .int .i64 n, .str s, .slice 1 (is.map (.int .i64)), .slice 1 (ls.map .str)]), .box 0 0] [.box [.p (.str nm)]] = some (.p (.bool (decide (a = nm))), [.box [.p (.str nm)]]) := by
  refine (evH_code (show tabS 89 = some (.code h89 [.t 3] true) by kernel_rfl) m _ _).trans ?_
  simp -implicitDefEqProofs (maxSteps := 1000000) only [h89, p89, go_sem, finK_one]
  split <;> simp_all
def fieldIx (fs : List Fi) (nm : List Nat) : Int := match firstF (fun j => !decide ((fs[j]?.map Fi.name) = some nm)) fs.length 0 with
  | none => -1
  | some i => i
theorem q_indexFields (m : Nat) (fs : List Fi) (nm : List Nat) (hl : fs.length ≤ 20) : evH tabS (m + 23) 88 [.p (.slice 7 (fs.map Fi.e)), .fn 89 [.box 0 0]] [.box [.p (.str nm)]] = some (.p (.int .i64 (fieldIx fs nm)), [.box [.p (.str nm)]]) := by
  refine (evH_code (show tabS 88 = some (.code h88 [.t 4] true) by kernel_rfl) (m + 22) _ _).trans ?_
  have L := fun (ke : Nat → K) (kr : K) => loop_find (m := 1) (live := [0, 1, 7, 8]) (body := fun tm hp k => l88_1 (evH tabS (m + 22)) (m + 22) 1 tm hp k ke kr) fs.length
    (fun j => .cons 0 (.p (.slice 7 (fs.map Fi.e))) (.cons 1 (.fn 89 [.box 0 0]) (.cons 7 (.p (.int .i64 fs.length)) (.cons 8 (.p (.int .i64 (j : Nat))) .nil)))) (fun _ => [.box [.p (.str nm)]])
    (fun j => .cons 0 (.p (.slice 7 (fs.map Fi.e))) (.cons 1 (.fn 89 [.box 0 0]) (.cons 7 (.p (.int .i64 fs.length)) (.cons 8 (.p (.int .i64 (j + 1 : Nat))) .nil)))) (fun _ => [.box [.p (.str nm)]])
    (fun j => !decide ((fs[j]?.map Fi.name) = some nm)) (fun j => kr (.cons 4 (.p (.int .i64 j)) .nil) [.box [.p (.str nm)]]) (ke 0 (.cons 0 (.p (.slice 7 (fs.map Fi.e))) (.cons 1 (.fn 89 [.box 0 0]) (.cons 7 (.p (.int .i64 fs.length)) (.cons 8 (.p (.int .i64 fs.length)) (.cons 9 (.p (.bool false)) .nil))))) [.box [.p (.str nm)]])
    (fun j _ => by kernel_rfl)
    (fun j kn hj => by
      have hc := fun (k : KV) => callv_ref1 (base := 1) (kk := 0) (rest := []) (k := k) (q_fieldIndex1 (m + 21) fs[j].name fs[j].kind fs[j].init.k fs[j].init.n fs[j].init.s fs[j].init.is fs[j].init.ls nm)
      simp only [Nat.add_assoc, Nat.reduceAdd] at hc
      simp -implicitDefEqProofs (maxSteps := 1000000) only [l88_1, p88_1, go_sem, at_map _ fs j hj, wrap_succ j (by omega), Int.ofNat_lt.mpr hj, List.getElem?_eq_getElem hj, hc]
      by_cases h : fs[j].name = nm
      · simp [h, condK_t, getF_cons]
      · simp [h, condK_f, getF_cons])
    (fun kn => by
      simp -implicitDefEqProofs (maxSteps := 1000000) only [l88_1, p88_1, go_sem, Int.lt_irrefl, if_false]) (m + 22)
    (.cons 0 (.p (.slice 7 (fs.map Fi.e))) (.cons 1 (.fn 89 [.box 0 0]) (.cons 7 (.p (.int .i64 fs.length)) (.cons 8 (.p (.int .i64 0)) .nil)))) [.box [.p (.str nm)]] (by omega) (by kernel_rfl)
  simp -implicitDefEqProofs (maxSteps := 1000000) only [h88, p88, go_sem, L]
  unfold fieldIx findR
  split <;> simp_all [finK_one]
theorem r_fieldIndex (m : Nat) (fs : List Fi) (nm : List Nat) (hl : fs.length ≤ 20) : runH h58 (evH tabS (m + 23)) (m + 23) [.t 4] true [.p (.slice 7 (fs.map Fi.e)), .p (.str nm)] [] = some (.p (.int .i64 (fieldIx fs nm)), []) := by
  have hc := fun (raw : Bool) (k : KV) => call_ref1 (raw := raw) (rest := []) (k := k) (q_indexFields m fs nm hl)
  simp -implicitDefEqProofs (maxSteps := 1000000) only [h58, p58, go_sem, hc]
theorem q_fieldIndex (m : Nat) (fs : List Fi) (nm : List Nat) (hl : fs.length ≤ 20) : evH tabS (m + 24) 58 [.p (.slice 7 (fs.map Fi.e)), .p (.str nm)] [] = some (.p (.int .i64 (fieldIx fs nm)), []) := (evH_code (show tabS 58 = some (.code h58 [.t 4] true) by kernel_rfl) (m + 23) _ _).trans (r_fieldIndex m fs nm hl)
theorem g_fieldIndex (m : Nat) (fs : List Fi) (nm : List Nat) (hl : fs.length ≤ 20) (raw : Bool) (hp : List Ob) (K : KV) : callG (evH tabS (m + 24)) 58 raw [.p (.slice 7 (fs.map Fi.e)), .p (.str nm)] hp K = K (.p (.int .i64 (fieldIx fs nm))) hp := call_known rfl (q_fieldIndex m fs nm hl) rfl
end Go.Ab
end
/- Runs with letters: valid schemas. -/
section
namespace Go.Ab
open Go
set_option maxHeartbeats 1000000
def sameName (fs : List Fi) (nm : List Nat) (j : Nat) : Bool := !decide ((fs[j]?.map Fi.name) = some nm)
def okField (fs : List Fi) (j : Nat) : Bool :=
  match fs[j]? with
  | none => false
  | some f => nameOk f.name && decide (1 ≤ f.kind ∧ f.kind ≤ 5 ∧ f.init.k = f.kind) && vOk f.init && (firstF (sameName fs f.name) j 0).isNone
def scOk (s : Sc) : Bool := nameOk s.type && decide (s.fields.length ≤ 8) && (firstF (okField s.fields) s.fields.length 0).isNone
theorem firstF_stop (t : Nat → Bool) (n j : Nat) (hj : j < n) (h : t j = false) : ∃ i, i ≤ j ∧ firstF t n 0 = some i := by
  cases hf : firstF t n 0 with
  | none =>
    have := (firstF_none t n 0).1 hf j hj
    rw [Nat.zero_add, h] at this; cases this
  | some i =>
    obtain ⟨_, h2, h3, h4⟩ := firstF_some t n 0 i hf
    refine ⟨i, ?_, rfl⟩
    rcases Nat.lt_or_ge j i with h5 | h5
    · rw [h4 j (Nat.zero_le _) h5] at h; cases h
    · exact h5
theorem fieldIx_lt (fs : List Fi) (j : Nat) (hj : j < fs.length) : fieldIx fs fs[j].name < (j : Int) ↔ (firstF (sameName fs fs[j].name) j 0).isNone = false := by
  have hs : sameName fs fs[j].name j = false := by simp [sameName, List.getElem?_eq_getElem hj]
  obtain ⟨i, hi, he⟩ := firstF_stop (sameName fs fs[j].name) fs.length j hj hs
  have hx : fieldIx fs fs[j].name = (i : Int) := by
    unfold fieldIx
    show (match firstF (sameName fs fs[j].name) fs.length 0 with | none => _ | some i => _) = _
    rw [he]
  obtain ⟨_, h2, h3, h4⟩ := firstF_some _ _ _ _ he
  rw [hx]
  constructor
  · intro h
    cases hf : firstF (sameName fs fs[j].name) j 0 with
    | some _ => rfl
    | none =>
      have := (firstF_none _ j 0).1 hf i (by omega)
      rw [Nat.zero_add, h3] at this; cases this
  · intro h
    cases hf : firstF (sameName fs fs[j].name) j 0 with
    | none => rw [hf] at h; cases h
    | some l =>
      obtain ⟨_, g2, g3, _⟩ := firstF_some _ _ _ _ hf
      rcases Nat.lt_or_ge i j with h5 | h5
      · omega
      · rw [h4 l (Nat.zero_le _) (by omega)] at g3; cases g3
theorem r_schemaValid (m : Nat) (ty : List Nat) (fs : List Fi) (hl : fs.length ≤ 20) : runH h49 (evH tabS (m + 24)) (m + 24) [.t 2] true [.p (.agg [.str ty, .slice 7 (fs.map Fi.e)])] [] = some (.p (.bool (scOk ⟨ty, fs⟩)), []) := by
  have L := fun (ke : Nat → K) (kr : K) => loop_find (m := 0) (live := [1, 16, 17, 18]) (body := fun tm hp k => l49_1 (evH tabS (m + 24)) (m + 24) 0 tm hp k ke kr) fs.length
    (fun j => .cons 1 (.box 0 0) (.cons 16 (.p (.slice 7 (fs.map Fi.e))) (.cons 17 (.p (.int .i64 fs.length)) (.cons 18 (.p (.int .i64 (j : Nat))) .nil)))) (fun _ => [.box [.p (.str ty), .p (.slice 7 (fs.map Fi.e))]])
    (fun j => .cons 1 (.box 0 0) (.cons 16 (.p (.slice 7 (fs.map Fi.e))) (.cons 17 (.p (.int .i64 fs.length)) (.cons 18 (.p (.int .i64 (j + 1 : Nat))) .nil)))) (fun j => [.box [.p (.str ty), .p (.slice 7 (fs.map Fi.e))], .box (mapP (cells ((fs[j]?.getD ⟨[], 0, ⟨0, 0, [], [], []⟩⟩).e)))])
    (okField fs) (fun j => kr (.cons 2 (.p (.bool false)) .nil) [.box [.p (.str ty), .p (.slice 7 (fs.map Fi.e))], .box (mapP (cells ((fs[j]?.getD ⟨[], 0, ⟨0, 0, [], [], []⟩⟩).e)))]) (ke 0 (.cons 1 (.box 0 0) (.cons 16 (.p (.slice 7 (fs.map Fi.e))) (.cons 17 (.p (.int .i64 fs.length)) (.cons 18 (.p (.int .i64 fs.length)) (.cons 19 (.p (.bool false)) .nil))))) [.box [.p (.str ty), .p (.slice 7 (fs.map Fi.e))]])
    (fun j _ => by kernel_rfl)
    (fun j kn hj => by
      simp -implicitDefEqProofs (maxSteps := 1000000) only [l49_1, p49_1, go_sem, at_map _ fs j hj, wrap_succ j (by omega), Int.ofNat_lt.mpr hj, List.getElem?_eq_getElem hj, Option.getD_some, g_validName, g_wireValid, g_fieldIndex, hl, fieldIx_lt fs j hj, v_eta, okField]
      generalize kn _ _ = A
      generalize kr _ _ = B
      grind)
    (fun kn => by
      simp -implicitDefEqProofs (maxSteps := 1000000) only [l49_1, p49_1, go_sem, Int.lt_irrefl, if_false]) (m + 24)
    (.cons 1 (.box 0 0) (.cons 16 (.p (.slice 7 (fs.map Fi.e))) (.cons 17 (.p (.int .i64 fs.length)) (.cons 18 (.p (.int .i64 0)) .nil)))) [.box [.p (.str ty), .p (.slice 7 (fs.map Fi.e))]] (by omega) (by kernel_rfl)
  simp -implicitDefEqProofs (maxSteps := 1000000) only [h49, p49, go_sem, L, findR_const, g_validName]
  simp only [ite_ans]
  apply ans
  unfold scOk
  grind
theorem q_schemaValid (m : Nat) (ty : List Nat) (fs : List Fi) (hl : fs.length ≤ 20) : evH tabS (m + 25) 49 [.p (.agg [.str ty, .slice 7 (fs.map Fi.e)])] [] = some (.p (.bool (scOk ⟨ty, fs⟩)), []) := (evH_code (show tabS 49 = some (.code h49 [.t 2] true) by kernel_rfl) (m + 24) _ _).trans (r_schemaValid m ty fs hl)
theorem g_schemaValid (m : Nat) (ty : List Nat) (fs : List Fi) (hl : fs.length ≤ 20) (raw : Bool) (hp : List Ob) (K : KV) : callG (evH tabS (m + 25)) 49 raw [.p (.agg [.str ty, .slice 7 (fs.map Fi.e)])] hp K = if (scOk ⟨ty, fs⟩) = true then K (.p (.bool true)) hp else K (.p (.bool false)) hp := call_bool rfl (q_schemaValid m ty fs hl)
theorem r_refSchemaValid (m : Nat) (ty : List Nat) (fs : List Fi) (hl : fs.length ≤ 20) : runH h63 (evH tabS (m + 24)) (m + 24) [.t 2] true [.p (.agg [.str ty, .slice 7 (fs.map Fi.e)])] [] = some (.p (.bool (scOk ⟨ty, fs⟩)), []) := by
  have L1 := fun (i : Nat) (f : Fi) (hi : i < fs.length) (ke : Nat → K) (kr : K) => loop_find (m := 0) (live := [1, 3, 4, 5]) (body := fun tm hp k => l63_1 (evH tabS (m + 24)) (m + 24) 0 tm hp k ke kr) i
    (fun j => .cons 1 (.box 0 0) (.cons 3 (.p (.int .i64 i)) (.cons 4 (.box 1 0) (.cons 5 (.p (.int .i64 (j : Nat))) .nil)))) (fun _ => [.box [.p (.str ty), .p (.slice 7 (fs.map Fi.e))], .box (mapP (cells f.e))])
    (fun j => .cons 1 (.box 0 0) (.cons 3 (.p (.int .i64 i)) (.cons 4 (.box 1 0) (.cons 5 (.p (.int .i64 (j + 1 : Nat))) .nil)))) (fun _ => [.box [.p (.str ty), .p (.slice 7 (fs.map Fi.e))], .box (mapP (cells f.e))])
    (sameName fs f.name) (fun _ => kr (.cons 2 (.p (.bool false)) .nil) [.box [.p (.str ty), .p (.slice 7 (fs.map Fi.e))], .box (mapP (cells f.e))]) (ke 2 (.cons 1 (.box 0 0) (.cons 3 (.p (.int .i64 i)) (.cons 4 (.box 1 0) (.cons 5 (.p (.int .i64 i)) (.cons 58 (.p (.bool false)) .nil))))) [.box [.p (.str ty), .p (.slice 7 (fs.map Fi.e))], .box (mapP (cells f.e))])
    (fun j _ => by kernel_rfl)
    (fun j kn hj => by
      simp -implicitDefEqProofs (maxSteps := 1000000) only [l63_1, p63_1, go_sem, at_map _ fs j (Nat.lt_trans hj hi), wrap_succ j (by omega), Int.ofNat_lt.mpr hj, List.getElem?_eq_getElem (Nat.lt_trans hj hi), sameName, Option.map_some, Option.some.injEq])
    (fun kn => by
      simp -implicitDefEqProofs (maxSteps := 1000000) only [l63_1, p63_1, go_sem, Int.lt_irrefl, if_false]) (m + 24)
    (.cons 1 (.box 0 0) (.cons 3 (.p (.int .i64 i)) (.cons 4 (.box 1 0) (.cons 5 (.p (.int .i64 0)) .nil)))) [.box [.p (.str ty), .p (.slice 7 (fs.map Fi.e))], .box (mapP (cells f.e))] (by omega) (by kernel_rfl)
  have L := fun (ke : Nat → K) (kr : K) => loop_find (m := 0) (live := [1, 3]) (body := fun tm hp k => l63_2 (evH tabS (m + 24)) (m + 24) 0 tm hp k ke kr) fs.length
    (fun j => .cons 1 (.box 0 0) (.cons 3 (.p (.int .i64 (j : Nat))) .nil)) (fun _ => [.box [.p (.str ty), .p (.slice 7 (fs.map Fi.e))]])
    (fun j => .cons 1 (.box 0 0) (.cons 3 (.p (.int .i64 (j + 1 : Nat))) .nil)) (fun j => [.box [.p (.str ty), .p (.slice 7 (fs.map Fi.e))], .box (mapP (cells ((fs[j]?.getD ⟨[], 0, ⟨0, 0, [], [], []⟩⟩).e)))])
    (okField fs) (fun j => kr (.cons 2 (.p (.bool false)) .nil) [.box [.p (.str ty), .p (.slice 7 (fs.map Fi.e))], .box (mapP (cells ((fs[j]?.getD ⟨[], 0, ⟨0, 0, [], [], []⟩⟩).e)))]) (ke 0 (.cons 1 (.box 0 0) (.cons 3 (.p (.int .i64 fs.length)) (.cons 20 (.p (.bool false)) .nil))) [.box [.p (.str ty), .p (.slice 7 (fs.map Fi.e))]])
    (fun j _ => by kernel_rfl)
    (fun j kn hj => by
      have L1 := L1 j fs[j] hj
      simp -implicitDefEqProofs (maxSteps := 1000000) only [go_sem] at L1
      simp -implicitDefEqProofs (maxSteps := 1000000) only [l63_2, p63_2, go_sem, at_map _ fs j hj, wrap_succ j (by omega), Int.ofNat_lt.mpr hj, List.getElem?_eq_getElem hj, Option.getD_some, g_ValidName, g_refValid, hl, v_eta, okField, L1, findR_const]
      generalize kn _ _ = A
      generalize kr _ _ = B
      grind)
    (fun kn => by
      simp -implicitDefEqProofs (maxSteps := 1000000) only [l63_2, p63_2, go_sem, Int.lt_irrefl, if_false]) (m + 24)
    (.cons 1 (.box 0 0) (.cons 3 (.p (.int .i64 0)) .nil)) [.box [.p (.str ty), .p (.slice 7 (fs.map Fi.e))]] (by omega) (by kernel_rfl)
  simp -implicitDefEqProofs (maxSteps := 1000000) only [h63, p63, go_sem, L, findR_const, g_ValidName]
  simp only [ite_ans]
  apply ans
  unfold scOk
  grind
theorem q_refSchemaValid (m : Nat) (ty : List Nat) (fs : List Fi) (hl : fs.length ≤ 20) : evH tabS (m + 25) 63 [.p (.agg [.str ty, .slice 7 (fs.map Fi.e)])] [] = some (.p (.bool (scOk ⟨ty, fs⟩)), []) := (evH_code (show tabS 63 = some (.code h63 [.t 2] true) by kernel_rfl) (m + 24) _ _).trans (r_refSchemaValid m ty fs hl)
theorem g_refSchemaValid (m : Nat) (ty : List Nat) (fs : List Fi) (hl : fs.length ≤ 20) (raw : Bool) (hp : List Ob) (K : KV) : callG (evH tabS (m + 25)) 63 raw [.p (.agg [.str ty, .slice 7 (fs.map Fi.e)])] hp K = if (scOk ⟨ty, fs⟩) = true then K (.p (.bool true)) hp else K (.p (.bool false)) hp := call_bool rfl (q_refSchemaValid m ty fs hl)
end Go.Ab
end
/- Runs with letters: valid states, initial states, the law SchemaStates. -/
section
namespace Go.Ab
open Go
set_option maxHeartbeats 1000000
def okValue (fs : List Fi) (vs : List V) (j : Nat) : Bool :=
  match vs[j]?, fs[j]? with
  | some v, some f => decide (v.k = f.kind) && vOk v
  | _, _ => false
def stateOk (s : Sc) (vs : List V) : Bool := scOk s && decide (vs.length = s.fields.length) && (firstF (okValue s.fields vs) vs.length 0).isNone
theorem r_validState (m : Nat) (ty : List Nat) (fs : List Fi) (vs : List V) (hl : fs.length ≤ 20) (hv : vs.length ≤ 20) : runH h16 (evH tabS (m + 25)) (m + 25) [.t 4] true [.p (.agg [.str ty, .slice 7 (fs.map Fi.e)]), .p (.slice 5 (vs.map V.e))] [] = some (.p (.bool (stateOk ⟨ty, fs⟩ vs)), []) := by
  by_cases he : vs.length = fs.length
  · have L := fun (ke : Nat → K) (kr : K) => loop_find (m := 0) (live := [2, 18, 19, 20]) (body := fun tm hp k => l16_1 (evH tabS (m + 25)) (m + 25) 0 tm hp k ke kr) vs.length
      (fun j => .cons 2 (.box 0 0) (.cons 18 (.p (.slice 5 (vs.map V.e))) (.cons 19 (.p (.int .i64 vs.length)) (.cons 20 (.p (.int .i64 (j : Nat))) .nil)))) (fun _ => [.box [.p (.str ty), .p (.slice 7 (fs.map Fi.e))]])
      (fun j => .cons 2 (.box 0 0) (.cons 18 (.p (.slice 5 (vs.map V.e))) (.cons 19 (.p (.int .i64 vs.length)) (.cons 20 (.p (.int .i64 (j + 1 : Nat))) .nil)))) (fun j => [.box [.p (.str ty), .p (.slice 7 (fs.map Fi.e))], .box (mapP (cells ((vs[j]?.getD ⟨0, 0, [], [], []⟩).e)))])
      (okValue fs vs) (fun j => kr (.cons 4 (.p (.bool false)) .nil) [.box [.p (.str ty), .p (.slice 7 (fs.map Fi.e))], .box (mapP (cells ((vs[j]?.getD ⟨0, 0, [], [], []⟩).e)))]) (ke 0 (.cons 2 (.box 0 0) (.cons 18 (.p (.slice 5 (vs.map V.e))) (.cons 19 (.p (.int .i64 vs.length)) (.cons 20 (.p (.int .i64 vs.length)) (.cons 21 (.p (.bool false)) .nil))))) [.box [.p (.str ty), .p (.slice 7 (fs.map Fi.e))]])
      (fun j _ => by kernel_rfl)
      (fun j kn hj => by
        simp -implicitDefEqProofs (maxSteps := 1000000) only [l16_1, p16_1, go_sem, at_map _ vs j hj, at_map _ fs j (he ▸ hj), wrap_succ j (by omega), Int.ofNat_lt.mpr hj, List.getElem?_eq_getElem hj, List.getElem?_eq_getElem (show j < fs.length from he ▸ hj), Option.getD_some, gF_wireValid, v_eta, okValue]
        generalize kn _ _ = A
        generalize kr _ _ = B
        grind)
      (fun kn => by
        simp -implicitDefEqProofs (maxSteps := 1000000) only [l16_1, p16_1, go_sem, Int.lt_irrefl, if_false]) (m + 25)
      (.cons 2 (.box 0 0) (.cons 18 (.p (.slice 5 (vs.map V.e))) (.cons 19 (.p (.int .i64 vs.length)) (.cons 20 (.p (.int .i64 0)) .nil)))) [.box [.p (.str ty), .p (.slice 7 (fs.map Fi.e))]] (by omega) (by kernel_rfl)
    have heT : ((vs.length : Int) = fs.length) = True := eq_true (by omega)
    simp -implicitDefEqProofs (maxSteps := 1000000) only [h16, p16, go_sem, L, findR_const, g_schemaValid, hl, heT]
    simp only [ite_ans]
    apply ans
    unfold stateOk
    simp only [he]
    grind
  · have he' : ¬ ((vs.length : Int) = fs.length) := by omega
    simp -implicitDefEqProofs (maxSteps := 1000000) only [h16, p16, go_sem, findR_const, g_schemaValid, hl, he', ite_self]
    apply ans
    unfold stateOk
    grind
theorem q_validState (m : Nat) (ty : List Nat) (fs : List Fi) (vs : List V) (hl : fs.length ≤ 20) (hv : vs.length ≤ 20) : evH tabS (m + 26) 16 [.p (.agg [.str ty, .slice 7 (fs.map Fi.e)]), .p (.slice 5 (vs.map V.e))] [] = some (.p (.bool (stateOk ⟨ty, fs⟩ vs)), []) := (evH_code (show tabS 16 = some (.code h16 [.t 4] true) by kernel_rfl) (m + 25) _ _).trans (r_validState m ty fs vs hl hv)
theorem g_validState (m : Nat) (ty : List Nat) (fs : List Fi) (vs : List V) (hl : fs.length ≤ 20) (hv : vs.length ≤ 20) (raw : Bool) (hp : List Ob) (K : KV) : callG (evH tabS (m + 26)) 16 raw [.p (.agg [.str ty, .slice 7 (fs.map Fi.e)]), .p (.slice 5 (vs.map V.e))] hp K = if (stateOk ⟨ty, fs⟩ vs) = true then K (.p (.bool true)) hp else K (.p (.bool false)) hp := call_bool rfl (q_validState m ty fs vs hl hv)
theorem r_refValidState (m : Nat) (ty : List Nat) (fs : List Fi) (vs : List V) (hl : fs.length ≤ 20) (hv : vs.length ≤ 20) : runH h41 (evH tabS (m + 25)) (m + 25) [.t 4] true [.p (.agg [.str ty, .slice 7 (fs.map Fi.e)]), .p (.slice 5 (vs.map V.e))] [] = some (.p (.bool (stateOk ⟨ty, fs⟩ vs)), []) := by
  by_cases he : vs.length = fs.length
  · have L := fun (ke : Nat → K) (kr : K) => loop_find (m := 0) (live := [1, 2, 5]) (body := fun tm hp k => l41_1 (evH tabS (m + 25)) (m + 25) 0 tm hp k ke kr) vs.length
      (fun j => .cons 1 (.p (.slice 5 (vs.map V.e))) (.cons 2 (.box 0 0) (.cons 5 (.p (.int .i64 (j : Nat))) .nil))) (fun _ => [.box [.p (.str ty), .p (.slice 7 (fs.map Fi.e))]])
      (fun j => .cons 1 (.p (.slice 5 (vs.map V.e))) (.cons 2 (.box 0 0) (.cons 5 (.p (.int .i64 (j + 1 : Nat))) .nil))) (fun _ => [.box [.p (.str ty), .p (.slice 7 (fs.map Fi.e))]])
      (okValue fs vs) (fun _ => kr (.cons 4 (.p (.bool false)) .nil) [.box [.p (.str ty), .p (.slice 7 (fs.map Fi.e))]]) (ke 0 (.cons 1 (.p (.slice 5 (vs.map V.e))) (.cons 2 (.box 0 0) (.cons 5 (.p (.int .i64 vs.length)) (.cons 20 (.p (.bool false)) .nil)))) [.box [.p (.str ty), .p (.slice 7 (fs.map Fi.e))]])
      (fun j _ => by kernel_rfl)
      (fun j kn hj => by
        simp -implicitDefEqProofs (maxSteps := 1000000) only [l41_1, p41_1, go_sem, at_map _ vs j hj, at_map _ fs j (he ▸ hj), wrap_succ j (by omega), Int.ofNat_lt.mpr hj, List.getElem?_eq_getElem hj, List.getElem?_eq_getElem (show j < fs.length from he ▸ hj), Option.getD_some, gF_refValid, v_eta, okValue]
        generalize kn _ _ = A
        generalize kr _ _ = B
        grind)
      (fun kn => by
        simp -implicitDefEqProofs (maxSteps := 1000000) only [l41_1, p41_1, go_sem, Int.lt_irrefl, if_false]) (m + 25)
      (.cons 1 (.p (.slice 5 (vs.map V.e))) (.cons 2 (.box 0 0) (.cons 5 (.p (.int .i64 0)) .nil))) [.box [.p (.str ty), .p (.slice 7 (fs.map Fi.e))]] (by omega) (by kernel_rfl)
    have heT : ((vs.length : Int) = fs.length) = True := eq_true (by omega)
    simp -implicitDefEqProofs (maxSteps := 1000000) only [h41, p41, go_sem, L, findR_const, g_refSchemaValid, hl, heT]
    simp only [ite_ans]
    apply ans
    unfold stateOk
    simp only [he]
    grind
  · have he' : ¬ ((vs.length : Int) = fs.length) := by omega
    simp -implicitDefEqProofs (maxSteps := 1000000) only [h41, p41, go_sem, findR_const, g_refSchemaValid, hl, he', ite_self]
    apply ans
    unfold stateOk
    grind
theorem q_refValidState (m : Nat) (ty : List Nat) (fs : List Fi) (vs : List V) (hl : fs.length ≤ 20) (hv : vs.length ≤ 20) : evH tabS (m + 26) 41 [.p (.agg [.str ty, .slice 7 (fs.map Fi.e)]), .p (.slice 5 (vs.map V.e))] [] = some (.p (.bool (stateOk ⟨ty, fs⟩ vs)), []) := (evH_code (show tabS 41 = some (.code h41 [.t 4] true) by kernel_rfl) (m + 25) _ _).trans (r_refValidState m ty fs vs hl hv)
theorem g_refValidState (m : Nat) (ty : List Nat) (fs : List Fi) (vs : List V) (hl : fs.length ≤ 20) (hv : vs.length ≤ 20) (raw : Bool) (hp : List Ob) (K : KV) : callG (evH tabS (m + 26)) 41 raw [.p (.agg [.str ty, .slice 7 (fs.map Fi.e)]), .p (.slice 5 (vs.map V.e))] hp K = if (stateOk ⟨ty, fs⟩ vs) = true then K (.p (.bool true)) hp else K (.p (.bool false)) hp := call_bool rfl (q_refValidState m ty fs vs hl hv)
end Go.Ab
end
/- Runs with letters: which kind an operation has as its result. -/
section
namespace Go.Ab
open Go
set_option maxHeartbeats 2000000
set_option maxRecDepth 20000
def listOf (k : Int) : Int := if k = 1 then 4 else if k = 3 then 5 else 0
theorem r_listOf (m : Nat) (k : Int) : runH h118 (evH tabS (m + 0)) (m + 0) [.t 2] true [.p (.int .i64 k)] [] = some (.p (.int .i64 (listOf k)), []) := by
  simp -implicitDefEqProofs (maxSteps := 1000000) only [h118, p118, go_sem]
  unfold listOf
  split
  · rfl
  · split <;> rfl
theorem q_listOf (m : Nat) (k : Int) : evH tabS (m + 1) 118 [.p (.int .i64 k)] [] = some (.p (.int .i64 (listOf k)), []) := (evH_code (show tabS 118 = some (.code h118 [.t 2] true) by kernel_rfl) (m + 0) _ _).trans (r_listOf m k)
theorem g_listOf (m : Nat) (k : Int) (raw : Bool) (hp : List Ob) (K : KV) : callG (evH tabS (m + 1)) 118 raw [.p (.int .i64 k)] hp K = K (.p (.int .i64 (listOf k))) hp := call_known rfl (q_listOf m k) rfl
theorem gF_listOf (m : Nat) (k : Int) (raw : Bool) (hp : List Ob) (K : KF) : callF (evH tabS (m + 1)) 118 raw [.p (.int .i64 k)] hp K = K (.p (.int .i64 (listOf k))) hp (footE hp) := callF_known rfl (q_listOf m k) rfl
theorem q_result (m : Nat) (k : Int) (b : Bool) : evH tabS (m + 1) 117 [.p (.int .i64 k), .p (.bool b)] [] = some (.tup [.p (.int .i64 (if b = true then k else 0)), .p (.bool b)], []) := by
  refine (evH_code (show tabS 117 = some (.code h117 [.t 4, .t 5] true) by kernel_rfl) m _ _).trans ?_
  cases b <;> simp -implicitDefEqProofs (maxSteps := 1000000) only [h117, p117, go_sem]
theorem g_result (m : Nat) (k : Int) (b : Bool) (raw : Bool) (hp : List Ob) (K : KV) : callG (evH tabS (m + 1)) 117 raw [.p (.int .i64 k), .p (.bool b)] hp K = K (.tup [.p (.int .i64 (if b = true then k else 0)), .p (.bool b)]) hp := call_known rfl (q_result m k b) rfl
theorem gF_result (m : Nat) (k : Int) (b : Bool) (raw : Bool) (hp : List Ob) (K : KF) : callF (evH tabS (m + 1)) 117 raw [.p (.int .i64 k), .p (.bool b)] hp K = K (.tup [.p (.int .i64 (if b = true then k else 0)), .p (.bool b)]) hp (footE hp) := callF_known rfl (q_result m k b) rfl
def resB (o : Op) (kind : Int) : Option Int :=
  if vOk o.arg = true then
    if o.kind = 1 ∧ o.arg.k = 0 ∧ (kind = 1 ∨ kind = 2) then some 3
    else if o.kind = 2 ∧ o.arg.k = 0 ∧ kind = 2 then some 1
    else if o.kind = 3 ∧ o.arg.k = 0 ∧ kind = 1 then some 2
    else if o.kind = 4 ∧ o.arg.k = 0 ∧ (kind = 3 ∨ kind = 4 ∨ kind = 5) then some 1
    else if o.kind = 5 ∧ o.arg.k = 0 ∧ kind = 1 then some 4
    else if o.kind = 5 ∧ o.arg.k = 0 ∧ kind = 3 then some 5
    else if o.kind = 6 ∧ kind = 4 ∧ o.arg.k = 1 then some 1
    else if o.kind = 6 ∧ kind = 5 ∧ o.arg.k = 3 then some 3
    else if o.kind = 7 ∧ kind = 1 ∧ o.arg.k = 1 then some 1
    else if o.kind = 8 ∧ kind = 3 ∧ o.arg.k = 3 then some 3
    else none
  else none
theorem r_refResult (m : Nat) (kd : Int) (k : Int) (n : Int) (s : List Nat) (is : List Int) (ls : List (List Nat)) (kind : Int) : runH h101 (evH tabS (m + 22)) (m + 22) [.t 4, .t 5] true [.p (.agg [.int .i64 kd, .int .i64 k, .int .i64 n, .str s, .slice 1 (is.map (.int .i64)), .slice 1 (ls.map .str)]), .p (.int .i64 kind)] [] = some (.tup [.p (.int .i64 ((resB ⟨kd, ⟨k, n, s, is, ls⟩⟩ kind).getD 0)), .p (.bool (resB ⟨kd, ⟨k, n, s, is, ls⟩⟩ kind).isSome)], []) := by
  cases hv : vOk ⟨k, n, s, is, ls⟩ with
  | false =>
    simp -implicitDefEqProofs (maxSteps := 1000000) only [h101, p101, go_sem, g_refValid, hv, resB, Option.getD_none, Option.isSome_none]
  | true =>
    by_cases k1 : kd = 1
    · subst k1; simp -implicitDefEqProofs (maxSteps := 1000000) only [h101, p101, go_sem, g_refValid, hv, resB]; grind
    by_cases k2 : kd = 2
    · subst k2; simp -implicitDefEqProofs (maxSteps := 1000000) only [h101, p101, go_sem, g_refValid, hv, resB]; grind
    by_cases k3 : kd = 3
    · subst k3; simp -implicitDefEqProofs (maxSteps := 1000000) only [h101, p101, go_sem, g_refValid, hv, resB]; grind
    by_cases k4 : kd = 4
    · subst k4; simp -implicitDefEqProofs (maxSteps := 1000000) only [h101, p101, go_sem, g_refValid, hv, resB]; grind
    by_cases k5 : kd = 5
    · subst k5; simp -implicitDefEqProofs (maxSteps := 1000000) only [h101, p101, go_sem, g_refValid, hv, resB]; grind
    by_cases k6 : kd = 6
    · subst k6; simp -implicitDefEqProofs (maxSteps := 1000000) only [h101, p101, go_sem, g_refValid, hv, resB]; grind
    by_cases k7 : kd = 7
    · subst k7; simp -implicitDefEqProofs (maxSteps := 1000000) only [h101, p101, go_sem, g_refValid, hv, resB]; grind
    by_cases k8 : kd = 8
    · subst k8; simp -implicitDefEqProofs (maxSteps := 1000000) only [h101, p101, go_sem, g_refValid, hv, resB]; grind
    simp -implicitDefEqProofs (maxSteps := 1000000) only [h101, p101, go_sem, g_refValid, hv, resB, k1, k2, k3, k4, k5, k6, k7, k8, false_and, ite_self, Option.getD_none, Option.isSome_none]
theorem q_refResult (m : Nat) (kd : Int) (k : Int) (n : Int) (s : List Nat) (is : List Int) (ls : List (List Nat)) (kind : Int) : evH tabS (m + 23) 101 [.p (.agg [.int .i64 kd, .int .i64 k, .int .i64 n, .str s, .slice 1 (is.map (.int .i64)), .slice 1 (ls.map .str)]), .p (.int .i64 kind)] [] = some (.tup [.p (.int .i64 ((resB ⟨kd, ⟨k, n, s, is, ls⟩⟩ kind).getD 0)), .p (.bool (resB ⟨kd, ⟨k, n, s, is, ls⟩⟩ kind).isSome)], []) := (evH_code (show tabS 101 = some (.code h101 [.t 4, .t 5] true) by kernel_rfl) (m + 22) _ _).trans (r_refResult m kd k n s is ls kind)
theorem g_refResult (m : Nat) (kd : Int) (k : Int) (n : Int) (s : List Nat) (is : List Int) (ls : List (List Nat)) (kind : Int) (raw : Bool) (hp : List Ob) (K : KV) : callG (evH tabS (m + 23)) 101 raw [.p (.agg [.int .i64 kd, .int .i64 k, .int .i64 n, .str s, .slice 1 (is.map (.int .i64)), .slice 1 (ls.map .str)]), .p (.int .i64 kind)] hp K = K (.tup [.p (.int .i64 ((resB ⟨kd, ⟨k, n, s, is, ls⟩⟩ kind).getD 0)), .p (.bool (resB ⟨kd, ⟨k, n, s, is, ls⟩⟩ kind).isSome)]) hp := call_known rfl (q_refResult m kd k n s is ls kind) rfl
theorem r_resultP (m : Nat) (kd : Int) (k : Int) (n : Int) (s : List Nat) (is : List Int) (ls : List (List Nat)) (kind : Int) : runH h90 (evH tabS (m + 25)) (m + 25) [.t 4, .t 5] true [.p (.agg [.int .i64 kd, .int .i64 k, .int .i64 n, .str s, .slice 1 (is.map (.int .i64)), .slice 1 (ls.map .str)]), .p (.int .i64 kind)] [] = some (.tup [.p (.int .i64 ((resB ⟨kd, ⟨k, n, s, is, ls⟩⟩ kind).getD 0)), .p (.bool (resB ⟨kd, ⟨k, n, s, is, ls⟩⟩ kind).isSome)], []) := by
  cases hv : vOk ⟨k, n, s, is, ls⟩ with
  | false =>
    simp -implicitDefEqProofs (maxSteps := 1000000) only [h90, p90, go_sem, g_wireValid, hv, resB, Option.getD_none, Option.isSome_none]
  | true =>
    by_cases k1 : kd = 1
    · subst k1; simp -implicitDefEqProofs (maxSteps := 1000000) only [h90, p90, go_sem, g_wireValid, g_result, gF_result, g_listOf, gF_listOf, hv, resB, ext_tup]; (try unfold listOf); grind
    by_cases k2 : kd = 2
    · subst k2; simp -implicitDefEqProofs (maxSteps := 1000000) only [h90, p90, go_sem, g_wireValid, g_result, gF_result, g_listOf, gF_listOf, hv, resB, ext_tup]; (try unfold listOf); grind
    by_cases k3 : kd = 3
    · subst k3; simp -implicitDefEqProofs (maxSteps := 1000000) only [h90, p90, go_sem, g_wireValid, g_result, gF_result, g_listOf, gF_listOf, hv, resB, ext_tup]; (try unfold listOf); grind
    by_cases k4 : kd = 4
    · subst k4; simp -implicitDefEqProofs (maxSteps := 1000000) only [h90, p90, go_sem, g_wireValid, g_result, gF_result, g_listOf, gF_listOf, hv, resB, ext_tup]; (try unfold listOf); grind
    by_cases k5 : kd = 5
    · subst k5; simp -implicitDefEqProofs (maxSteps := 1000000) only [h90, p90, go_sem, g_wireValid, g_result, gF_result, g_listOf, gF_listOf, hv, resB, ext_tup]; (try unfold listOf); grind
    by_cases k6 : kd = 6
    · subst k6; simp -implicitDefEqProofs (maxSteps := 1000000) only [h90, p90, go_sem, g_wireValid, g_result, gF_result, g_listOf, gF_listOf, hv, resB, ext_tup]; (try unfold listOf); grind
    by_cases k7 : kd = 7
    · subst k7; simp -implicitDefEqProofs (maxSteps := 1000000) only [h90, p90, go_sem, g_wireValid, g_result, gF_result, g_listOf, gF_listOf, hv, resB, ext_tup]; (try unfold listOf); grind
    by_cases k8 : kd = 8
    · subst k8; simp -implicitDefEqProofs (maxSteps := 1000000) only [h90, p90, go_sem, g_wireValid, g_result, gF_result, g_listOf, gF_listOf, hv, resB, ext_tup]; (try unfold listOf); grind
    simp -implicitDefEqProofs (maxSteps := 1000000) only [h90, p90, go_sem, g_wireValid, g_result, gF_result, g_listOf, gF_listOf, hv, resB, k1, k2, k3, k4, k5, k6, k7, k8, false_and, ite_self, Option.getD_none, Option.isSome_none]
theorem q_resultP (m : Nat) (kd : Int) (k : Int) (n : Int) (s : List Nat) (is : List Int) (ls : List (List Nat)) (kind : Int) : evH tabS (m + 26) 90 [.p (.agg [.int .i64 kd, .int .i64 k, .int .i64 n, .str s, .slice 1 (is.map (.int .i64)), .slice 1 (ls.map .str)]), .p (.int .i64 kind)] [] = some (.tup [.p (.int .i64 ((resB ⟨kd, ⟨k, n, s, is, ls⟩⟩ kind).getD 0)), .p (.bool (resB ⟨kd, ⟨k, n, s, is, ls⟩⟩ kind).isSome)], []) := (evH_code (show tabS 90 = some (.code h90 [.t 4, .t 5] true) by kernel_rfl) (m + 25) _ _).trans (r_resultP m kd k n s is ls kind)
theorem g_resultP (m : Nat) (kd : Int) (k : Int) (n : Int) (s : List Nat) (is : List Int) (ls : List (List Nat)) (kind : Int) (raw : Bool) (hp : List Ob) (K : KV) : callG (evH tabS (m + 26)) 90 raw [.p (.agg [.int .i64 kd, .int .i64 k, .int .i64 n, .str s, .slice 1 (is.map (.int .i64)), .slice 1 (ls.map .str)]), .p (.int .i64 kind)] hp K = K (.tup [.p (.int .i64 ((resB ⟨kd, ⟨k, n, s, is, ls⟩⟩ kind).getD 0)), .p (.bool (resB ⟨kd, ⟨k, n, s, is, ls⟩⟩ kind).isSome)]) hp := call_known rfl (q_resultP m kd k n s is ls kind) rfl
end Go.Ab
end
/- Runs with letters: what an operation makes of a value. -/
section
namespace Go.Ab
open Go
set_option maxHeartbeats 2000000
set_option maxRecDepth 20000
theorem r_number (m : Nat) (n : Int) : runH h94 (evH tabS (m + 1)) (m + 1) [.cell 2 5 true] true [.p (.int .i64 n)] [] = some (.p (.agg [.int .i64 1, .int .i64 n, .str [], .slice 1 [], .slice 1 []]), []) := by
  simp -implicitDefEqProofs (maxSteps := 1000000) only [h94, p94, go_sem, finK_v1]
theorem q_number (m : Nat) (n : Int) : evH tabS (m + 2) 94 [.p (.int .i64 n)] [] = some (.p (.agg [.int .i64 1, .int .i64 n, .str [], .slice 1 [], .slice 1 []]), []) := (evH_code (show tabS 94 = some (.code h94 [.cell 2 5 true] true) by kernel_rfl) (m + 1) _ _).trans (r_number m n)
theorem g_number (m : Nat) (n : Int) (raw : Bool) (hp : List Ob) (K : KV) : callG (evH tabS (m + 2)) 94 raw [.p (.int .i64 n)] hp K = K (.p (.agg [.int .i64 1, .int .i64 n, .str [], .slice 1 [], .slice 1 []])) hp := call_known rfl (q_number m n) rfl
theorem r_text (m : Nat) (s : List Nat) : runH h91 (evH tabS (m + 1)) (m + 1) [.cell 2 5 true] true [.p (.str s)] [] = some (.p (.agg [.int .i64 3, .int .i64 0, .str s, .slice 1 [], .slice 1 []]), []) := by
  simp -implicitDefEqProofs (maxSteps := 1000000) only [h91, p91, go_sem, finK_v1]
theorem q_text (m : Nat) (s : List Nat) : evH tabS (m + 2) 91 [.p (.str s)] [] = some (.p (.agg [.int .i64 3, .int .i64 0, .str s, .slice 1 [], .slice 1 []]), []) := (evH_code (show tabS 91 = some (.code h91 [.cell 2 5 true] true) by kernel_rfl) (m + 1) _ _).trans (r_text m s)
theorem g_text (m : Nat) (s : List Nat) (raw : Bool) (hp : List Ob) (K : KV) : callG (evH tabS (m + 2)) 91 raw [.p (.str s)] hp K = K (.p (.agg [.int .i64 3, .int .i64 0, .str s, .slice 1 [], .slice 1 []])) hp := call_known rfl (q_text m s) rfl
def strTrue : List Nat := [116, 114, 117, 101]
def strFalse : List Nat := [102, 97, 108, 115, 101]
theorem q_FormatBool1 (m : Nat) (b : Bool) : evH tabS (m + 2) 120 [.p (.bool b)] [] = some (.p (.str (if b = true then strTrue else strFalse)), []) := by
  refine (evH_code (show tabS 120 = some (.code h120 [.t 2] true) by kernel_rfl) (m + 1) _ _).trans ?_
  cases b <;> simp -implicitDefEqProofs (maxSteps := 1000000) only [h120, p120, go_sem, strTrue, strFalse]
theorem g_FormatBool1 (m : Nat) (b : Bool) (raw : Bool) (hp : List Ob) (K : KV) : callG (evH tabS (m + 2)) 120 raw [.p (.bool b)] hp K = K (.p (.str (if b = true then strTrue else strFalse))) hp := call_known rfl (q_FormatBool1 m b) rfl
theorem q_FormatBool (m : Nat) (b : Bool) : evH tabS (m + 4) 93 [.p (.bool b)] [] = some (.p (.str (if b = true then strTrue else strFalse)), []) := by
  refine (evH_code (show tabS 93 = some (.code h93 [.t 2] true) by kernel_rfl) (m + 3) _ _).trans ?_
  simp -implicitDefEqProofs (maxSteps := 1000000) only [h93, p93, go_sem, g_FormatBool1]
theorem g_FormatBool (m : Nat) (b : Bool) (raw : Bool) (hp : List Ob) (K : KV) : callG (evH tabS (m + 4)) 93 raw [.p (.bool b)] hp K = K (.p (.str (if b = true then strTrue else strFalse))) hp := call_known rfl (q_FormatBool m b) rfl
def inI (n : Int) : Prop := -9223372036854775808 ≤ n ∧ n ≤ 9223372036854775807
theorem q_Itoa (m : Nat) (n : Int) (h : inI n) : evH tabS (m + 1) 92 [.p (.int .i64 n)] [] = some (.p (.str (itoaS n)), []) := by
  refine (evH_prim (xs := [.int .i64 n]) (show tabS 92 = some (.prim primItoa) by kernel_rfl) m).trans ?_
  simp only [primItoa, leI_dec, h.1, h.2, decide_true, Bool.and_self, cond_true]
theorem g_Itoa (m : Nat) (n : Int) (h : inI n) (raw : Bool) (hp : List Ob) (K : KV) : callG (evH tabS (m + 1)) 92 raw [.p (.int .i64 n)] hp K = K (.p (.str (itoaS n))) hp := call_known rfl (q_Itoa m n h) rfl
def addS (a b : Int) : Int := if 0 < b ∧ 9223372036854775807 - b < a then 9223372036854775807 else if b < 0 ∧ a < -9223372036854775808 - b then -9223372036854775808 else a + b
theorem wrap_in (n : Int) (h : inI n) : wrapF .i64 n = n := by
  obtain ⟨h1, h2⟩ := h
  cases n with
  | ofNat m =>
    have h2' : ((m : Nat) : Int) ≤ 9223372036854775807 := h2
    exact wrap_nat m (by omega)
  | negSucc m =>
    have h1' : -9223372036854775808 ≤ -((m : Int) + 1) := by rw [← Int.negSucc_eq]; exact h1
    have : Nat.blt m 9223372036854775808 = true := Nat.ble_eq.mpr (by omega)
    simp only [wrapF, this, cond_true]
theorem r_add (m : Nat) (a : Int) (b : Int) (ha : inI a) (hb : inI b) : runH h95 (evH tabS (m + 1)) (m + 1) [.t 4] true [.p (.int .i64 a), .p (.int .i64 b)] [] = some (.p (.int .i64 (addS a b)), []) := by
  obtain ⟨a1, a2⟩ := ha
  obtain ⟨b1, b2⟩ := hb
  simp -implicitDefEqProofs (maxSteps := 1000000) only [h95, p95, go_sem]
  unfold addS
  by_cases p : 0 < b
  · rw [if_pos p, wrap_in (9223372036854775807 - b) ⟨by omega, by omega⟩]
    by_cases q : 9223372036854775807 - b < a
    · rw [if_pos q, if_pos ⟨p, q⟩]
    · have p' : ¬ b < 0 := by omega
      rw [if_neg q, if_neg p', wrap_in (a + b) ⟨by omega, by omega⟩]
      simp only [q, p', and_false, false_and, if_false]
  · rw [if_neg p]
    simp only [p, false_and, if_false]
    by_cases p' : b < 0
    · rw [if_pos p', wrap_in (-9223372036854775808 - b) ⟨by omega, by omega⟩]
      by_cases q : a < -9223372036854775808 - b
      · rw [if_pos q, if_pos ⟨p', q⟩]
      · rw [if_neg q, wrap_in (a + b) ⟨by omega, by omega⟩]
        simp only [q, and_false, if_false]
    · rw [if_neg p', wrap_in (a + b) ⟨by omega, by omega⟩]
      simp only [p', false_and, if_false]
theorem q_add (m : Nat) (a : Int) (b : Int) (ha : inI a) (hb : inI b) : evH tabS (m + 2) 95 [.p (.int .i64 a), .p (.int .i64 b)] [] = some (.p (.int .i64 (addS a b)), []) := (evH_code (show tabS 95 = some (.code h95 [.t 4] true) by kernel_rfl) (m + 1) _ _).trans (r_add m a b ha hb)
theorem g_add (m : Nat) (a : Int) (b : Int) (ha : inI a) (hb : inI b) (raw : Bool) (hp : List Ob) (K : KV) : callG (evH tabS (m + 2)) 95 raw [.p (.int .i64 a), .p (.int .i64 b)] hp K = K (.p (.int .i64 (addS a b))) hp := call_known rfl (q_add m a b ha hb) rfl
def convV (o : Op) (v : V) : V :=
  if o.kind = 1 then (if v.k = 1 then ⟨3, 0, itoaS v.n, [], []⟩ else ⟨3, 0, if v.n = 1 then strTrue else strFalse, [], []⟩)
  else if o.kind = 2 then ⟨1, v.n, [], [], []⟩
  else if o.kind = 3 then ⟨2, if v.n = 0 then 0 else 1, [], [], []⟩
  else if o.kind = 4 then ⟨1, v.s.length + v.is.length + v.ls.length, [], [], []⟩
  else if o.kind = 5 then (if v.k = 1 then ⟨4, 0, [], [v.n], []⟩ else ⟨5, 0, [], [], [v.s]⟩)
  else if o.kind = 7 then ⟨1, addS v.n o.arg.n, [], [], []⟩
  else if o.kind = 8 then ⟨3, 0, (o.arg.s ++ v.s).take 64, [], []⟩
  else if 0 < v.is.length then ⟨1, v.is.headD 0, [], [], []⟩
  else if 0 < v.ls.length then ⟨3, 0, v.ls.headD [], [], []⟩
  else o.arg
def convB (o : Op) (v : V) : V × Bool := if (resB o v.k).isSome = true ∧ vOk v = true then (convV o v, true) else (⟨0, 0, [], [], []⟩, false)
theorem vOk_16' {v : V} (h : vOk v = true) : v.is.length ≤ 16 ∧ v.ls.length ≤ 16 := by
  unfold vOk at h
  simp only [Bool.and_eq_true, decide_eq_true_eq] at h
  omega
theorem q_Convert (m : Nat) (kd : Int) (a v : V) (hn : inI v.n) (ha : inI a.n) : evH tabS (m + 31) 59 [.p (.agg [.int .i64 kd, .int .i64 a.k, .int .i64 a.n, .str a.s, .slice 1 (a.is.map (.int .i64)), .slice 1 (a.ls.map .str)]), .p (.agg [.int .i64 v.k, .int .i64 v.n, .str v.s, .slice 1 (v.is.map (.int .i64)), .slice 1 (v.ls.map .str)])] [] =
    some (.tup [.p (convB ⟨kd, a⟩ v).1.e, .p (.bool (convB ⟨kd, a⟩ v).2)], []) := by
  refine (evH_code (show tabS 59 = some (.code h59 [.cell 4 5 true, .t 5] true) by kernel_rfl) (m + 30) _ _).trans ?_
  cases q1 : (resB ⟨kd, a⟩ v.k).isSome with
  | true =>
    cases q2 : vOk v with
    | true =>
      rw [show convB ⟨kd, a⟩ v = (convV ⟨kd, a⟩ v, true) by simp [convB, q1, q2]]
      have q3 : vOk a = true := by
        unfold resB at q1
        split at q1
        · assumption
        · simp at q1
      have q4 := vOk_16' q2
      have q6 := vOk_16' q3
      have q5 : v.s.length ≤ 64 ∧ a.s.length ≤ 64 := by
        unfold vOk at q2 q3
        simp only [Bool.and_eq_true, decide_eq_true_eq] at q2 q3
        omega
      by_cases k1 : kd = 1
      · subst k1
        by_cases c : v.k = 1
        · simp -implicitDefEqProofs (maxSteps := 1000000) only [h59, p59, go_sem, g_resultP, v_eta, op_eta, g_wireValid, ext_tup, finK_v2, q1, q2, eq_true c, g_Itoa, hn, g_text, convV]
        · by_cases d : v.n = 1
          · simp -implicitDefEqProofs (maxSteps := 1000000) only [h59, p59, go_sem, g_resultP, v_eta, op_eta, g_wireValid, ext_tup, finK_v2, q1, q2, c, eq_true d, g_FormatBool, g_text, convV]
          · simp -implicitDefEqProofs (maxSteps := 1000000) only [h59, p59, go_sem, g_resultP, v_eta, op_eta, g_wireValid, ext_tup, finK_v2, q1, q2, c, d, g_FormatBool, g_text, convV]
      by_cases k2 : kd = 2
      · subst k2
        simp -implicitDefEqProofs (maxSteps := 1000000) only [h59, p59, go_sem, g_resultP, v_eta, op_eta, g_wireValid, ext_tup, finK_v2, q1, q2, g_number, convV]
      by_cases k3 : kd = 3
      · subst k3
        by_cases d : v.n = 0
        · simp -implicitDefEqProofs (maxSteps := 1000000) only [h59, p59, go_sem, g_resultP, v_eta, op_eta, g_wireValid, ext_tup, finK_v2, q1, q2, eq_true d, convV, List.map_nil]
        · simp -implicitDefEqProofs (maxSteps := 1000000) only [h59, p59, go_sem, g_resultP, v_eta, op_eta, g_wireValid, ext_tup, finK_v2, q1, q2, d, convV, List.map_nil]
      by_cases k4 : kd = 4
      · subst k4
        have w1 : wrapF .i64 ((v.s.length : Int) + v.is.length) = (v.s.length : Int) + v.is.length := wrap_in _ ⟨by omega, by omega⟩
        have w2 : wrapF .i64 ((v.s.length : Int) + v.is.length + v.ls.length) = (v.s.length : Int) + v.is.length + v.ls.length := wrap_in _ ⟨by omega, by omega⟩
        simp -implicitDefEqProofs (maxSteps := 1000000) only [h59, p59, go_sem, g_resultP, v_eta, op_eta, g_wireValid, ext_tup, finK_v2, q1, q2, w1, w2, g_number, convV]
      by_cases k5 : kd = 5
      · subst k5
        by_cases c : v.k = 1
        · simp -implicitDefEqProofs (maxSteps := 1000000) only [h59, p59, go_sem, g_resultP, v_eta, op_eta, g_wireValid, ext_tup, finK_v2, q1, q2, eq_true c, convV, List.map_nil, List.map_cons]
        · simp -implicitDefEqProofs (maxSteps := 1000000) only [h59, p59, go_sem, g_resultP, v_eta, op_eta, g_wireValid, ext_tup, finK_v2, q1, q2, c, convV, List.map_nil, List.map_cons]
      by_cases k7 : kd = 7
      · subst k7
        simp -implicitDefEqProofs (maxSteps := 1000000) only [h59, p59, go_sem, g_resultP, v_eta, op_eta, g_wireValid, ext_tup, finK_v2, q1, q2, g_add, hn, ha, g_number, convV]
      by_cases k8 : kd = 8
      · subst k8
        have w0 : a.s.length + v.s.length ≤ 100000 := by omega
        by_cases c : (64 : Int) < ((a.s ++ v.s).length : Int)
        · have st := fun (k : D → R) => slStr_hi (a.s ++ v.s) .i64 64 k (by omega)
          simp only [show ((64 : Nat) : Int) = 64 from rfl] at st
          simp -implicitDefEqProofs (maxSteps := 1000000) only [h59, p59, go_sem, g_resultP, v_eta, op_eta, g_wireValid, ext_tup, finK_v2, q1, q2, s_add, w0, min_int, eq_true c, st, g_text, convV]
        · have st := fun (k : D → R) => slStr_hi (a.s ++ v.s) .i64 (a.s ++ v.s).length k (Nat.le_refl _)
          have ht : (a.s ++ v.s).take 64 = a.s ++ v.s := List.take_of_length_le (by omega)
          simp only [List.take_length] at st
          simp -implicitDefEqProofs (maxSteps := 1000000) only [h59, p59, go_sem, g_resultP, v_eta, op_eta, g_wireValid, ext_tup, finK_v2, q1, q2, s_add, w0, min_int, c, st, g_text, convV, ht]
      have k6 : kd = 6 := by
        unfold resB at q1
        grind
      subst k6
      by_cases c : (0 : Int) < (v.is.length : Int)
      · have hh : at? (v.is.map (.int .i64)) 0 = some (.int .i64 (v.is.headD 0)) := by
          cases hv : v.is with
          | nil => rw [hv] at c; simp at c
          | cons x r => rfl
        have c' : 0 < v.is.length := by omega
        simp -implicitDefEqProofs (maxSteps := 1000000) only [h59, p59, go_sem, g_resultP, v_eta, op_eta, g_wireValid, ext_tup, finK_v2, q1, q2, eq_true c, hh, g_number, convV, c']
      · have c' : ¬ 0 < v.is.length := by omega
        by_cases d : (0 : Int) < (v.ls.length : Int)
        · have hh : at? (v.ls.map .str) 0 = some (.str (v.ls.headD [])) := by
            cases hv : v.ls with
            | nil => rw [hv] at d; simp at d
            | cons x r => rfl
          have d' : 0 < v.ls.length := by omega
          simp -implicitDefEqProofs (maxSteps := 1000000) only [h59, p59, go_sem, g_resultP, v_eta, op_eta, g_wireValid, ext_tup, finK_v2, q1, q2, c, eq_true d, hh, g_text, convV, c', d']
        · have d' : ¬ 0 < v.ls.length := by omega
          simp -implicitDefEqProofs (maxSteps := 1000000) only [h59, p59, go_sem, g_resultP, v_eta, op_eta, g_wireValid, ext_tup, finK_v2, q1, q2, c, d, g_cloneValue, show a.is.length ≤ 1000 by omega, show a.ls.length ≤ 1000 by omega, convV, c', d']
    | false =>
      rw [show convB ⟨kd, a⟩ v = (⟨0, 0, [], [], []⟩, false) by simp [convB, q2]]
      simp -implicitDefEqProofs (maxSteps := 1000000) only [h59, p59, go_sem, g_resultP, v_eta, op_eta, g_wireValid, ext_tup, finK_v2, q1, q2, List.map_nil]
  | false =>
    rw [show convB ⟨kd, a⟩ v = (⟨0, 0, [], [], []⟩, false) by simp [convB, q1]]
    simp -implicitDefEqProofs (maxSteps := 1000000) only [h59, p59, go_sem, g_resultP, v_eta, op_eta, g_wireValid, ext_tup, finK_v2, q1, List.map_nil]
end Go.Ab
end
/- Every operation that accepts a kind converts every valid value of it to a valid value: the plain law and the law's run. -/
section
namespace Go.Ab
open Go
set_option maxHeartbeats 2000000
set_option maxRecDepth 20000
theorem itoaS_len (n : Int) (h : inI n) : (itoaS n).length ≤ 64 := by
  have := Lib.itoa_length_le n h.1 h.2
  simp only [itoaS, List.length_map]
  omega
theorem ok_num (n : Int) : vOk ⟨1, n, [], [], []⟩ = true := by simp [vOk]
theorem ok_text (s : List Nat) (h : s.length ≤ 64) : vOk ⟨3, 0, s, [], []⟩ = true := by simp [vOk, h]
theorem convV_ok {kd w : Int} {a v : V} (hr : resB ⟨kd, a⟩ v.k = some w) (hv : vOk v = true) (hn : inI v.n) : (convV ⟨kd, a⟩ v).k = w ∧ vOk (convV ⟨kd, a⟩ v) = true := by
  have q3 : vOk a = true := by
    unfold resB at hr
    split at hr
    · assumption
    · simp at hr
  have hs : v.s.length ≤ 64 ∧ ∀ t ∈ v.ls, t.length ≤ 64 := by
    unfold vOk at hv
    simp only [Bool.and_eq_true, decide_eq_true_eq, List.all_eq_true] at hv
    exact ⟨hv.1.2.2.2.2.2.2.1, fun t ht => by simpa using hv.2 t ht⟩
  have hk : v.k = 4 ∨ v.is.length = 0 := by
    unfold vOk at hv
    simp only [Bool.and_eq_true, decide_eq_true_eq] at hv
    omega
  have hl : v.k = 5 ∨ v.ls.length = 0 := by
    unfold vOk at hv
    simp only [Bool.and_eq_true, decide_eq_true_eq] at hv
    omega
  unfold resB at hr
  rw [if_pos q3] at hr
  simp only at hr
  by_cases k1 : kd = 1
  · subst k1
    have : (v.k = 1 ∨ v.k = 2) ∧ w = 3 := by grind
    obtain ⟨_, rfl⟩ := this
    simp only [convV, if_true]
    split
    · exact ⟨rfl, ok_text _ (itoaS_len _ hn)⟩
    · split
      · exact ⟨rfl, ok_text _ (by decide)⟩
      · exact ⟨rfl, ok_text _ (by decide)⟩
  by_cases k2 : kd = 2
  · subst k2
    have : w = 1 := by grind
    subst this
    exact ⟨rfl, ok_num _⟩
  by_cases k3 : kd = 3
  · subst k3
    have : w = 2 := by grind
    subst this
    refine ⟨rfl, ?_⟩
    simp only [convV, show ¬ (3 : Int) = 1 by decide, show ¬ (3 : Int) = 2 by decide, if_false, if_true]
    split <;> decide
  by_cases k4 : kd = 4
  · subst k4
    have : w = 1 := by grind
    subst this
    exact ⟨rfl, ok_num _⟩
  by_cases k5 : kd = 5
  · subst k5
    have : (v.k = 1 ∧ w = 4) ∨ (v.k = 3 ∧ w = 5) := by grind
    rcases this with ⟨h, rfl⟩ | ⟨h, rfl⟩
    · simp [convV, h, vOk]
    · simp [convV, h, vOk, hs.1]
  by_cases k7 : kd = 7
  · subst k7
    have : w = 1 := by grind
    subst this
    exact ⟨rfl, ok_num _⟩
  by_cases k8 : kd = 8
  · subst k8
    have : w = 3 := by grind
    subst this
    refine ⟨rfl, ?_⟩
    have := ok_text ((a.s ++ v.s).take 64) (by rw [List.length_take]; omega)
    simpa [convV] using this
  have k6 : kd = 6 := by grind
  subst k6
  have : (v.k = 4 ∧ a.k = 1 ∧ w = 1) ∨ (v.k = 5 ∧ a.k = 3 ∧ w = 3) := by grind
  simp only [convV, show ¬ (6 : Int) = 1 by decide, show ¬ (6 : Int) = 2 by decide, show ¬ (6 : Int) = 3 by decide, show ¬ (6 : Int) = 4 by decide, show ¬ (6 : Int) = 5 by decide, show ¬ (6 : Int) = 7 by decide, show ¬ (6 : Int) = 8 by decide, if_false]
  by_cases c : 0 < v.is.length
  · rw [if_pos c]
    have : w = 1 := by omega
    subst this
    exact ⟨rfl, ok_num _⟩
  · rw [if_neg c]
    by_cases d : 0 < v.ls.length
    · rw [if_pos d]
      have : w = 3 := by omega
      subst this
      refine ⟨rfl, ok_text _ ?_⟩
      cases hv : v.ls with
      | nil => rw [hv] at d; simp at d
      | cons x r => exact hs.2 x (by rw [hv]; simp)
    · rw [if_neg d]
      exact ⟨by omega, q3⟩
theorem g_Convert (m : Nat) (kd : Int) (a v : V) (hn : inI v.n) (ha : inI a.n) (raw : Bool) (hp : List Ob) (K : KV) : callG (evH tabS (m + 31)) 59 raw [.p (.agg [.int .i64 kd, .int .i64 a.k, .int .i64 a.n, .str a.s, .slice 1 (a.is.map (.int .i64)), .slice 1 (a.ls.map .str)]), .p (.agg [.int .i64 v.k, .int .i64 v.n, .str v.s, .slice 1 (v.is.map (.int .i64)), .slice 1 (v.ls.map .str)])] hp K =
    K (.tup [.p (convB ⟨kd, a⟩ v).1.e, .p (.bool (convB ⟨kd, a⟩ v).2)]) hp := call_known rfl (q_Convert m kd a v hn ha) rfl
end Go.Ab
end
/- Runs with letters: the reference's decimal numeral and sum. -/
section
namespace Go.Ab
open Go
set_option maxHeartbeats 2000000
set_option maxRecDepth 20000
def len10 (u : Nat) : Nat := if h : u < 10 then 0 else len10 (u / 10) + 1
termination_by u
decreasing_by omega
def sfx (u : Nat) : Nat → List Nat
  | 0 => []
  | j + 1 => (48 + u / 10 ^ j % 10) :: sfx u j
theorem sfx_snoc (u : Nat) : ∀ l, sfx u (l + 1) = sfx (u / 10) l ++ [48 + u % 10]
  | 0 => by simp [sfx]
  | l + 1 => by
    have := sfx_snoc u l
    rw [sfx, this]
    simp only [sfx, List.cons_append]
    rw [Nat.pow_succ, Nat.mul_comm, ← Nat.div_div_eq_div_mul]
theorem len10_lt (u : Nat) : ∀ j, j < len10 u → 10 ≤ u / 10 ^ j := by
  induction u using Nat.strongRecOn with
  | _ u ih =>
    intro j hj
    rw [len10] at hj
    split at hj
    · omega
    · rename_i h
      cases j with
      | zero => simp; omega
      | succ j =>
        have := ih (u / 10) (by omega) j (by omega)
        rwa [Nat.div_div_eq_div_mul, Nat.mul_comm, ← Nat.pow_succ] at this
theorem len10_end (u : Nat) : u / 10 ^ len10 u < 10 := by
  induction u using Nat.strongRecOn with
  | _ u ih =>
    rw [len10]
    split
    · simpa
    · have := ih (u / 10) (by omega)
      rwa [Nat.div_div_eq_div_mul, Nat.mul_comm, ← Nat.pow_succ] at this
theorem u8_digit (d : Nat) (h : d < 10) : (UInt8.ofNat (48 + d)).toNat = 48 + d := by
  rw [UInt8.toNat_ofNat']
  omega
theorem dec_sfx (u : Nat) : (Lib.decDigits u).map UInt8.toNat = (48 + u / 10 ^ len10 u) :: sfx u (len10 u) := by
  induction u using Nat.strongRecOn with
  | _ u ih =>
    rw [Lib.decDigits, len10]
    split
    · rename_i h
      simp only [List.map_cons, List.map_nil, u8_digit u h, sfx, Nat.pow_zero, Nat.div_one]
    · rename_i h
      have := ih (u / 10) (by omega)
      rw [List.map_append, this, sfx_snoc]
      simp only [List.map_cons, List.map_nil, List.cons_append, u8_digit (u % 10) (by omega)]
      rw [Nat.div_div_eq_div_mul, Nat.pow_succ, Nat.mul_comm]
theorem digits_at (d : Nat) (h : d < 10) : (([48, 49, 50, 51, 52, 53, 54, 55, 56, 57] : List Nat).drop d).take 1 = [48 + d] := by
  match d, h with
  | 0, _ => rfl
  | 1, _ => rfl
  | 2, _ => rfl
  | 3, _ => rfl
  | 4, _ => rfl
  | 5, _ => rfl
  | 6, _ => rfl
  | 7, _ => rfl
  | 8, _ => rfl
  | 9, _ => rfl
  | n + 10, h => omega
theorem sl_digit (q : IntKind) (d : Nat) (h : d < 10) (k : D → R) : slStrG true true (.p (.str [48, 49, 50, 51, 52, 53, 54, 55, 56, 57])) [.p (.int q (d : Int)), .p (.int q ((d + 1 : Nat) : Int))] k = k (.p (.str [48 + d])) := by
  rw [slStr_both _ q q d (d + 1) k (by omega) (by simp; omega), Nat.add_sub_cancel_left, digits_at d h]
theorem wrap_u (n : Nat) (h : n < 18446744073709551616) : wrapF .u64 (n : Int) = n := by
  show wrapF .u64 (.ofNat n) = .ofNat n
  exact wrap_small .u64 n (Nat.ble_eq.mpr h)
theorem r_sum (m : Nat) (a : Int) (b : Int) (ha : inI a) (hb : inI b) : runH h103 (evH tabS (m + 1)) (m + 1) [.t 4] true [.p (.int .i64 a), .p (.int .i64 b)] [] = some (.p (.int .i64 (addS a b)), []) := by
  obtain ⟨a1, a2⟩ := ha
  obtain ⟨b1, b2⟩ := hb
  simp -implicitDefEqProofs (maxSteps := 1000000) only [h103, p103, go_sem]
  unfold addS
  by_cases p : 0 < b
  · rw [if_pos p, wrap_in (9223372036854775807 - b) ⟨by omega, by omega⟩]
    by_cases q : 9223372036854775807 - b < a
    · rw [if_pos q, if_pos ⟨p, q⟩]
    · have p' : ¬ b < 0 := by omega
      rw [if_neg q, if_neg p', wrap_in (a + b) ⟨by omega, by omega⟩]
      simp only [q, p', and_false, false_and, if_false]
  · rw [if_neg p]
    simp only [p, false_and, if_false]
    by_cases p' : b < 0
    · rw [if_pos p', wrap_in (-9223372036854775808 - b) ⟨by omega, by omega⟩]
      by_cases q : a < -9223372036854775808 - b
      · rw [if_pos q, if_pos ⟨p', q⟩]
      · rw [if_neg q, wrap_in (a + b) ⟨by omega, by omega⟩]
        simp only [q, and_false, if_false]
    · rw [if_neg p', wrap_in (a + b) ⟨by omega, by omega⟩]
      simp only [p', false_and, if_false]
theorem q_sum (m : Nat) (a : Int) (b : Int) (ha : inI a) (hb : inI b) : evH tabS (m + 2) 103 [.p (.int .i64 a), .p (.int .i64 b)] [] = some (.p (.int .i64 (addS a b)), []) := (evH_code (show tabS 103 = some (.code h103 [.t 4] true) by kernel_rfl) (m + 1) _ _).trans (r_sum m a b ha hb)
theorem g_sum (m : Nat) (a : Int) (b : Int) (ha : inI a) (hb : inI b) (raw : Bool) (hp : List Ob) (K : KV) : callG (evH tabS (m + 2)) 103 raw [.p (.int .i64 a), .p (.int .i64 b)] hp K = K (.p (.int .i64 (addS a b))) hp := call_known rfl (q_sum m a b ha hb) rfl
theorem sfx_len (u : Nat) : ∀ j, (sfx u j).length = j
  | 0 => rfl
  | j + 1 => by simp [sfx, sfx_len u j]
theorem tmod10 (w : Nat) : (w : Int).tmod 10 = ((w % 10 : Nat) : Int) := (Int.ofNat_tmod w 10).symm
theorem tdiv10 (w : Nat) : (w : Int).tdiv 10 = ((w / 10 : Nat) : Int) := (Int.ofNat_tdiv w 10).symm
theorem L63 (call : CallF) (N : Nat) (hN : 30 ≤ N) (x : Da) (u : Nat) (hu : u < 18446744073709551616) (h20 : len10 u ≤ 20) (ke : Nat → K) (kr : K) :
    loopK 0 [0, 3, 4] (fun tm hp k => l102_1 call N 0 tm hp k ke kr) N (.cons 0 (.p x) (.cons 3 (.p (.int .u64 (u : Nat))) (.cons 4 (.p (.str [])) .nil))) [] =
      ke 0 (.cons 0 (.p x) (.cons 3 (.p (.int .u64 (u / 10 ^ len10 u : Nat))) (.cons 4 (.p (.str (sfx u (len10 u)))) (.cons 12 (.p (.bool false)) .nil)))) [] := by
  refine loop_map (m := 0) (live := [0, 3, 4]) (body := fun tm hp k => l102_1 call N 0 tm hp k ke kr) (len10 u)
    (fun j => .cons 0 (.p x) (.cons 3 (.p (.int .u64 (u / 10 ^ j : Nat))) (.cons 4 (.p (.str (sfx u j))) .nil))) (fun _ => [])
    (fun j => .cons 0 (.p x) (.cons 3 (.p (.int .u64 (u / 10 ^ (j + 1) : Nat))) (.cons 4 (.p (.str (sfx u (j + 1)))) .nil))) (fun _ => [])
    _ (fun j _ => by kernel_rfl) (fun j kn hj => ?_) (fun kn => ?_) N _ _ (by omega) ?_
  · have hj10 := len10_lt u j hj
    have hs : u / 10 ^ (j + 1) = u / 10 ^ j / 10 := by rw [Nat.div_div_eq_div_mul, Nat.pow_succ]
    have hle : u / 10 ^ j ≤ u := Nat.div_le_self _ _
    have hx : sfx u (j + 1) = (48 + u / 10 ^ j % 10) :: sfx u j := rfl
    rw [hs, hx]
    have hl := sfx_len u j
    generalize u / 10 ^ j = w at *
    have h9 : (9 : Int) < (w : Int) := by omega
    have t2 : wrapF .u64 (((w % 10 : Nat) : Int) + 1) = ((w % 10 + 1 : Nat) : Int) := by
      rw [show (((w % 10 : Nat) : Int) + 1) = ((w % 10 + 1 : Nat) : Int) by omega]; exact wrap_u _ (by omega)
    have t3 : wrapF .u64 ((w / 10 : Nat) : Int) = ((w / 10 : Nat) : Int) := wrap_u _ (by omega)
    have t4 := fun (k : D → R) => sl_digit .u64 (w % 10) (by omega) k
    simp -implicitDefEqProofs (maxSteps := 1000000) only [l102_1, p102_1, go_sem, eq_true h9, b_rem _ _ 10 _ (by decide), b_quo _ _ 10 _ (by decide), tmod10, tdiv10, t2, t3, t4, s_add, hl, show 1 + j ≤ 100000 by omega]
  · have he := len10_end u
    have h9 : ¬ (9 : Int) < ((u / 10 ^ len10 u : Nat) : Int) := by omega
    simp -implicitDefEqProofs (maxSteps := 1000000) only [l102_1, p102_1, go_sem, h9]
  · rw [show u / 10 ^ 0 = u by simp]
    kernel_rfl
theorem wrap_u_neg (w : Nat) : wrapF .u64 (Int.negSucc w) = (Int.negSucc w) % 18446744073709551616 := by
  show IntKind.wrap .u64 (Int.negSucc w) = _
  simp only [IntKind.wrap, show IntKind.u64.signed = false from rfl, Bool.false_and, Bool.false_eq_true, if_false]
  rfl
theorem len10_le (u : Nat) (hu : u < 18446744073709551616) : len10 u ≤ 20 := by
  by_cases h : len10 u ≤ 20
  · exact h
  · have := len10_lt u 20 (by omega)
    have : u / 10 ^ 20 = 0 := Nat.div_eq_of_lt (by omega)
    omega
theorem r_Decimal (m : Nat) (n : Int) (h : inI n) : runH h102 (evH tabS (m + 30)) (m + 30) [.t 2] true [.p (.int .i64 n)] [] = some (.p (.str (itoaS n)), []) := by
  obtain ⟨h1, h2⟩ := h
  by_cases hn : n < 0
  · obtain ⟨u, rfl⟩ : ∃ u : Nat, n = -(u : Int) := ⟨n.natAbs, by omega⟩
    have hu : u < 18446744073709551616 := by omega
    have he := len10_end u
    have c1 : wrapF .u64 (-(u : Int)) = 18446744073709551616 - (u : Int) := by
      obtain ⟨w, rfl⟩ : ∃ w : Nat, u = w + 1 := ⟨u - 1, by omega⟩
      rw [show (-((w + 1 : Nat) : Int)) = Int.negSucc w by omega, wrap_u_neg, Int.negSucc_eq]
      omega
    have c2 : wrapF .u64 (0 - (18446744073709551616 - (u : Int))) = (u : Int) := by
      obtain ⟨w, hw⟩ : ∃ w : Nat, w + u = 18446744073709551615 := ⟨18446744073709551615 - u, by omega⟩
      rw [show (0 - (18446744073709551616 - (u : Int))) = Int.negSucc w by rw [Int.negSucc_eq]; omega, wrap_u_neg, Int.negSucc_eq]
      omega
    have t2 : wrapF .u64 (((u / 10 ^ len10 u : Nat) : Int) + 1) = ((u / 10 ^ len10 u + 1 : Nat) : Int) := by
      rw [show (((u / 10 ^ len10 u : Nat) : Int) + 1) = ((u / 10 ^ len10 u + 1 : Nat) : Int) by omega]; exact wrap_u _ (by omega)
    have hs : itoaS (-(u : Int)) = 45 :: (48 + u / 10 ^ len10 u) :: sfx u (len10 u) := by
      unfold itoaS Lib.itoa
      rw [if_pos hn, List.map_cons, Int.natAbs_neg, Int.natAbs_natCast, dec_sfx]
      rfl
    have hl := sfx_len u (len10 u)
    have h20 := len10_le u hu
    simp -implicitDefEqProofs (maxSteps := 1000000) only [h102, p102, go_sem, conv_int, c1, eq_true hn, un_neg, c2, L63 _ _ _ _ u hu h20, Nat.le_add_left, t2, sl_digit .u64 (u / 10 ^ len10 u) he, s_add, hl, show 1 + len10 u ≤ 100000 by omega, show 1 + (len10 u + 1) ≤ 100000 by omega, hs]
  · obtain ⟨u, rfl⟩ : ∃ u : Nat, n = (u : Int) := ⟨n.toNat, by omega⟩
    have hu : u < 18446744073709551616 := by omega
    have he := len10_end u
    have c1 : wrapF .u64 (u : Int) = (u : Int) := wrap_u u hu
    have t2 : wrapF .u64 (((u / 10 ^ len10 u : Nat) : Int) + 1) = ((u / 10 ^ len10 u + 1 : Nat) : Int) := by
      rw [show (((u / 10 ^ len10 u : Nat) : Int) + 1) = ((u / 10 ^ len10 u + 1 : Nat) : Int) by omega]; exact wrap_u _ (by omega)
    have hs : itoaS (u : Int) = (48 + u / 10 ^ len10 u) :: sfx u (len10 u) := by
      unfold itoaS Lib.itoa
      rw [if_neg hn, Int.toNat_natCast, dec_sfx]
    have hl := sfx_len u (len10 u)
    have h20 := len10_le u hu
    simp -implicitDefEqProofs (maxSteps := 1000000) only [h102, p102, go_sem, conv_int, c1, hn, L63 _ _ _ _ u hu h20, Nat.le_add_left, t2, sl_digit .u64 (u / 10 ^ len10 u) he, s_add, hl, show 1 + len10 u ≤ 100000 by omega, hs]
theorem q_Decimal (m : Nat) (n : Int) (h : inI n) : evH tabS (m + 31) 102 [.p (.int .i64 n)] [] = some (.p (.str (itoaS n)), []) := (evH_code (show tabS 102 = some (.code h102 [.t 2] true) by kernel_rfl) (m + 30) _ _).trans (r_Decimal m n h)
theorem g_Decimal (m : Nat) (n : Int) (h : inI n) (raw : Bool) (hp : List Ob) (K : KV) : callG (evH tabS (m + 31)) 102 raw [.p (.int .i64 n)] hp K = K (.p (.str (itoaS n))) hp := call_known rfl (q_Decimal m n h) rfl
end Go.Ab
end
/- Runs with letters: the reference's conversion; the law SchemaConverts. -/
section
namespace Go.Ab
open Go
set_option maxHeartbeats 2000000
set_option maxRecDepth 20000
theorem q_refConvert (m : Nat) (kd : Int) (a v : V) (hn : inI v.n) (ha : inI a.n) : evH tabS (m + 41) 68 [.p (.agg [.int .i64 kd, .int .i64 a.k, .int .i64 a.n, .str a.s, .slice 1 (a.is.map (.int .i64)), .slice 1 (a.ls.map .str)]), .p (.agg [.int .i64 v.k, .int .i64 v.n, .str v.s, .slice 1 (v.is.map (.int .i64)), .slice 1 (v.ls.map .str)])] [] =
    some (.tup [.p (convB ⟨kd, a⟩ v).1.e, .p (.bool (convB ⟨kd, a⟩ v).2)], []) := by
  refine (evH_code (show tabS 68 = some (.code h68 [.cell 4 5 true, .t 5] true) by kernel_rfl) (m + 40) _ _).trans ?_
  cases q1 : resB ⟨kd, a⟩ v.k with
  | none =>
    rw [show convB ⟨kd, a⟩ v = (⟨0, 0, [], [], []⟩, false) by simp [convB, q1]]
    simp -implicitDefEqProofs (maxSteps := 1000000) only [h68, p68, go_sem, g_refResult, v_eta, op_eta, g_refValid, ext_tup, finK_v2, q1, List.map_nil, Option.isSome_none, Option.getD_none]
  | some w =>
    cases q2 : vOk v with
    | false =>
      rw [show convB ⟨kd, a⟩ v = (⟨0, 0, [], [], []⟩, false) by simp [convB, q2]]
      simp -implicitDefEqProofs (maxSteps := 1000000) only [h68, p68, go_sem, g_refResult, v_eta, op_eta, g_refValid, ext_tup, finK_v2, q1, q2, List.map_nil, Option.isSome_some, Option.getD_some]
    | true =>
      rw [show convB ⟨kd, a⟩ v = (convV ⟨kd, a⟩ v, true) by simp [convB, q1, q2]]
      have q3 : vOk a = true := by
        unfold resB at q1
        split at q1
        · assumption
        · simp at q1
      have q4 := vOk_16' q2
      have q6 := vOk_16' q3
      have q5 : v.s.length ≤ 64 ∧ a.s.length ≤ 64 := by
        unfold vOk at q2 q3
        simp only [Bool.and_eq_true, decide_eq_true_eq] at q2 q3
        omega
      obtain ⟨c1, c2⟩ := convV_ok q1 q2 hn
      have r1 := q1
      unfold resB at r1
      rw [if_pos q3] at r1
      simp only at r1
      by_cases k1 : kd = 1
      · subst k1
        have hw : w = 3 := by grind
        have hk : v.k = 1 ∨ v.k = 2 := by grind
        subst hw
        by_cases c : v.k = 1
        · have c' : ¬ v.k = 2 := by omega
          simp -implicitDefEqProofs (maxSteps := 1000000) only [h68, p68, go_sem, g_refResult, v_eta, op_eta, g_refValid, ext_tup, finK_v2, q1, q2, Option.isSome_some, Option.getD_some, c', eq_true c, g_Decimal, hn, convV, List.map_nil]
        · have c' : v.k = 2 := by omega
          by_cases d : v.n = 1
          · simp -implicitDefEqProofs (maxSteps := 1000000) only [h68, p68, go_sem, g_refResult, v_eta, op_eta, g_refValid, ext_tup, finK_v2, q1, q2, Option.isSome_some, Option.getD_some, eq_true c', c, eq_true d, g_Decimal, hn, convV, List.map_nil, strTrue]
          · simp -implicitDefEqProofs (maxSteps := 1000000) only [h68, p68, go_sem, g_refResult, v_eta, op_eta, g_refValid, ext_tup, finK_v2, q1, q2, Option.isSome_some, Option.getD_some, eq_true c', c, d, g_Decimal, hn, convV, List.map_nil, strFalse]
      by_cases k2 : kd = 2
      · subst k2
        have hw : w = 1 := by grind
        subst hw
        simp -implicitDefEqProofs (maxSteps := 1000000) only [h68, p68, go_sem, g_refResult, v_eta, op_eta, g_refValid, ext_tup, finK_v2, q1, q2, Option.isSome_some, Option.getD_some, convV, List.map_nil]
      by_cases k3 : kd = 3
      · subst k3
        have hw : w = 2 := by grind
        subst hw
        by_cases d : v.n = 0
        · simp -implicitDefEqProofs (maxSteps := 1000000) only [h68, p68, go_sem, g_refResult, v_eta, op_eta, g_refValid, ext_tup, finK_v2, q1, q2, Option.isSome_some, Option.getD_some, eq_true d, convV, List.map_nil]
        · simp -implicitDefEqProofs (maxSteps := 1000000) only [h68, p68, go_sem, g_refResult, v_eta, op_eta, g_refValid, ext_tup, finK_v2, q1, q2, Option.isSome_some, Option.getD_some, d, convV, List.map_nil]
      by_cases k4 : kd = 4
      · subst k4
        have hw : w = 1 := by grind
        subst hw
        have w1 : wrapF .i64 ((v.s.length : Int) + v.is.length) = (v.s.length : Int) + v.is.length := wrap_in _ ⟨by omega, by omega⟩
        have w2 : wrapF .i64 ((v.s.length : Int) + v.is.length + v.ls.length) = (v.s.length : Int) + v.is.length + v.ls.length := wrap_in _ ⟨by omega, by omega⟩
        simp -implicitDefEqProofs (maxSteps := 1000000) only [h68, p68, go_sem, g_refResult, v_eta, op_eta, g_refValid, ext_tup, finK_v2, q1, q2, Option.isSome_some, Option.getD_some, w1, w2, convV, List.map_nil]
      by_cases k5 : kd = 5
      · subst k5
        have hk : (v.k = 1 ∧ w = 4) ∨ (v.k = 3 ∧ w = 5) := by grind
        rcases hk with ⟨c, rfl⟩ | ⟨c, rfl⟩
        · simp -implicitDefEqProofs (maxSteps := 1000000) only [h68, p68, go_sem, g_refResult, v_eta, op_eta, g_refValid, ext_tup, finK_v2, q1, q2, Option.isSome_some, Option.getD_some, eq_true c, convV, List.map_nil, List.map_cons]
        · have c' : ¬ v.k = 1 := by omega
          simp -implicitDefEqProofs (maxSteps := 1000000) only [h68, p68, go_sem, g_refResult, v_eta, op_eta, g_refValid, ext_tup, finK_v2, q1, q2, Option.isSome_some, Option.getD_some, c', convV, List.map_nil, List.map_cons]
      by_cases k7 : kd = 7
      · subst k7
        have hw : w = 1 := by grind
        subst hw
        simp -implicitDefEqProofs (maxSteps := 1000000) only [h68, p68, go_sem, g_refResult, v_eta, op_eta, g_refValid, ext_tup, finK_v2, q1, q2, Option.isSome_some, Option.getD_some, g_sum, hn, ha, convV, List.map_nil]
      by_cases k8 : kd = 8
      · subst k8
        have hw : w = 3 := by grind
        subst hw
        have w0 : a.s.length + v.s.length ≤ 100000 := by omega
        by_cases c : (64 : Int) < ((a.s ++ v.s).length : Int)
        · have st := fun (k : D → R) => slStr_hi (a.s ++ v.s) .i64 64 k (by omega)
          simp only [show ((64 : Nat) : Int) = 64 from rfl] at st
          simp -implicitDefEqProofs (maxSteps := 1000000) only [h68, p68, go_sem, g_refResult, v_eta, op_eta, g_refValid, ext_tup, finK_v2, q1, q2, Option.isSome_some, Option.getD_some, s_add, w0, min_int, eq_true c, st, convV, List.map_nil]
        · have st := fun (k : D → R) => slStr_hi (a.s ++ v.s) .i64 (a.s ++ v.s).length k (Nat.le_refl _)
          have ht : (a.s ++ v.s).take 64 = a.s ++ v.s := List.take_of_length_le (by omega)
          simp only [List.take_length] at st
          simp -implicitDefEqProofs (maxSteps := 1000000) only [h68, p68, go_sem, g_refResult, v_eta, op_eta, g_refValid, ext_tup, finK_v2, q1, q2, Option.isSome_some, Option.getD_some, s_add, w0, min_int, c, st, convV, ht, List.map_nil]
      have k6 : kd = 6 := by grind
      subst k6
      have hk : (v.k = 4 ∧ a.k = 1 ∧ w = 1) ∨ (v.k = 5 ∧ a.k = 3 ∧ w = 3) := by grind
      have b1 : a.is.length ≤ 1000 := by omega
      have b2 : a.ls.length ≤ 1000 := by omega
      have ai : a.is = [] := by
        clear r1 c1 c2 q1 q2
        unfold vOk at q3
        grind
      have al : a.ls = [] := by
        clear r1 c1 c2 q1 q2
        unfold vOk at q3
        grind
      rcases hk with ⟨c, c3, rfl⟩ | ⟨c, c3, rfl⟩
      · have as : a.s = [] := by
          clear r1 c1 c2 q1 q2
          unfold vOk at q3
          grind
        have vl : v.ls = [] := by
          clear r1 c1 c2 q1 q3
          unfold vOk at q2
          grind
        have ea : a = ⟨1, a.n, [], [], []⟩ := by
          cases a
          simp_all
        by_cases d : (0 : Int) < (v.is.length : Int)
        · have hh : at? (v.is.map (.int .i64)) 0 = some (.int .i64 (v.is.headD 0)) := by
            cases hv : v.is with
            | nil => rw [hv] at d; simp at d
            | cons x r => rfl
          have d' : 0 < v.is.length := by omega
          have e0 : convV ⟨6, a⟩ v = ⟨a.k, v.is.headD 0, a.s, a.is, a.ls⟩ := by
            simp [convV, d', c3, as, ai, al]
          have d2 : ¬ (0 : Int) < (v.ls.length : Int) := by rw [vl]; decide
          simp -implicitDefEqProofs (maxSteps := 1000000) only [h68, p68, go_sem, g_refResult, v_eta, op_eta, g_refValid, ext_tup, finK_v2, q1, q2, Option.isSome_some, Option.getD_some, g_CopyValue, b1, b2, eq_true d, d2, hh, e0, List.map_nil]
        · have d' : ¬ 0 < v.is.length := by omega
          have d2 : ¬ (0 : Int) < (v.ls.length : Int) := by rw [vl]; decide
          have d2' : ¬ 0 < v.ls.length := by omega
          have e0 : convV ⟨6, a⟩ v = a := by
            simp [convV, d', d2']
          simp -implicitDefEqProofs (maxSteps := 1000000) only [h68, p68, go_sem, g_refResult, v_eta, op_eta, g_refValid, ext_tup, finK_v2, q1, q2, Option.isSome_some, Option.getD_some, g_CopyValue, b1, b2, d, d2, e0, List.map_nil]
      · have an : a.n = 0 := by
          clear r1 c1 c2 q1 q2
          unfold vOk at q3
          grind
        have vi : v.is = [] := by
          clear r1 c1 c2 q1 q3
          unfold vOk at q2
          grind
        have d : ¬ (0 : Int) < (v.is.length : Int) := by rw [vi]; decide
        have d' : ¬ 0 < v.is.length := by omega
        by_cases d2 : (0 : Int) < (v.ls.length : Int)
        · have hh : at? (v.ls.map .str) 0 = some (.str (v.ls.headD [])) := by
            cases hv : v.ls with
            | nil => rw [hv] at d2; simp at d2
            | cons x r => rfl
          have d2' : 0 < v.ls.length := by omega
          have e0 : convV ⟨6, a⟩ v = ⟨a.k, a.n, v.ls.headD [], a.is, a.ls⟩ := by
            simp [convV, d', d2', c3, an, ai, al]
          simp -implicitDefEqProofs (maxSteps := 1000000) only [h68, p68, go_sem, g_refResult, v_eta, op_eta, g_refValid, ext_tup, finK_v2, q1, q2, Option.isSome_some, Option.getD_some, g_CopyValue, b1, b2, d, eq_true d2, hh, e0, List.map_nil]
        · have d2' : ¬ 0 < v.ls.length := by omega
          have e0 : convV ⟨6, a⟩ v = a := by
            simp [convV, d', d2']
          simp -implicitDefEqProofs (maxSteps := 1000000) only [h68, p68, go_sem, g_refResult, v_eta, op_eta, g_refValid, ext_tup, finK_v2, q1, q2, Option.isSome_some, Option.getD_some, g_CopyValue, b1, b2, d, d2, e0, List.map_nil]
end Go.Ab
end
