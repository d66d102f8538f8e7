/- The law RolloutForward on letters. -/
import Derived.Test.YtdppgkglljpdaaaGreatDoorS6
set_option linter.all false
namespace Go.Ab
open Go
set_option maxHeartbeats 4000000
set_option maxRecDepth 20000
def stR (l : List Ac) (j : Nat) : Ro := (l.take j).foldl (fun r c => playS r (c.k.tmod 6) (c.n.tmod 101)) ⟨1, 0, 0⟩
theorem stR_succ (l : List Ac) (j : Nat) (h : j < l.length) : stR l (j + 1) = playS (stR l j) (l[j].k.tmod 6) (l[j].n.tmod 101) := by
  unfold stR
  rw [← List.take_append_getElem h, List.foldl_append]; rfl
theorem mod101 (n : Int) (h : 0 ≤ n) : 0 ≤ n.tmod 101 ∧ n.tmod 101 ≤ 100 := by
  have a1 := Int.tmod_nonneg 101 h
  have a2 := Int.tmod_lt_of_pos n (show (0 : Int) < 101 by decide)
  omega
theorem stR_ok (l : List Ac) (hl : ∀ a ∈ l, a.wf) : ∀ j, j ≤ l.length → roOk (stR l j) = true
  | 0, _ => rfl
  | j + 1, h => by
    rw [stR_succ l j (by omega)]
    exact (play_ok _ _ _ 0 (stR_ok l hl j (by omega)) (mod101 _ (hl _ (List.getElem_mem (by omega))).2.1) (by decide)).1
theorem max_int (call : CallF) (base kk : Nat) (i : IntKind) (a b : Int) (hp : List Ob) (k : KV) : genV call base .max2 kk [.p (.int i a), .p (.int i b)] hp k = k (.p (.int i (if a < b then b else a))) hp := by
  rw [genV_still rfl]
  show effK (aMax2 [.p (.int i a), .p (.int i b)]) _ = _
  simp only [aMax2, if_true, ltI_dec]
  by_cases h : a < b <;> simp [h] <;> rfl
theorem q_Forward (N : Nat) (l : List Ac) (hw : ∀ a ∈ l, a.wf) (s t : List Nat) (hs : s.length ≤ maxLen) (ht : t.length ≤ maxLen) (hN : 200 + s.length + t.length ≤ N) :
    evH tabS N 7 [.p (.slice 2 (l.map Ac.e)), .p (.agg [.str s, .str t])] [] = some (.p (.bool true), []) := by
  obtain ⟨m, rfl⟩ : ∃ m, N = m + 120 + 1 := ⟨N - 121, by omega⟩
  refine (evH_code (show tabS 7 = some (.code h7 [.t 4] true) by kernel_rfl) (m + 120) _ _).trans ?_
  have w := fun (a n p : Int) (raw : Bool) (hp : List Ob) (K : KF) => gF_Want (m + 120) a n p s t hs ht (by omega) raw hp K
  obtain ⟨b1, b2⟩ := bucket_in s t
  generalize bucketS s t = bk at b1 b2 w
  by_cases hl : l.length ≤ 100
  · have L := fun (ke : Nat → K) (kr : K) => loop_map (m := 0) (live := [0, 3, 5, 6]) (body := fun tm hp k => l7_1 (evH tabS (m + 120)) (m + 120) 0 tm hp k ke kr) l.length
      (fun j => .cons 0 (.p (.slice 2 (l.map Ac.e))) (.cons 3 (.box 0 0) (.cons 5 (.box 1 0) (.cons 6 (.p (.int .i64 (j : Nat))) .nil)))) (fun j => [.box [.p (.str s), .p (.str t)], .box [.p (.int .i64 (stR l j).a), .p (.int .i64 (stR l j).n), .p (.int .i64 (stR l j).p)]])
      (fun j => .cons 0 (.p (.slice 2 (l.map Ac.e))) (.cons 3 (.box 0 0) (.cons 5 (.box 1 0) (.cons 6 (.p (.int .i64 (j + 1 : Nat))) .nil)))) (fun j => [.box [.p (.str s), .p (.str t)], .box [.p (.int .i64 (stR l (j + 1)).a), .p (.int .i64 (stR l (j + 1)).n), .p (.int .i64 (stR l (j + 1)).p)], .box [.p (.int .i64 (stR l (j + 1)).a), .p (.int .i64 (stR l (j + 1)).n), .p (.int .i64 (stR l (j + 1)).p)]])
      (ke 0 (.cons 0 (.p (.slice 2 (l.map Ac.e))) (.cons 3 (.box 0 0) (.cons 5 (.box 1 0) (.cons 6 (.p (.int .i64 l.length)) (.cons 17 (.p (.bool false)) .nil))))) [.box [.p (.str s), .p (.str t)], .box [.p (.int .i64 (stR l l.length).a), .p (.int .i64 (stR l l.length).n), .p (.int .i64 (stR l l.length).p)]])
      (fun j _ => by kernel_rfl)
      (fun j kn hj => by
        have hr := stR_ok l hw j (by omega)
        have hwj := hw l[j] (List.getElem_mem hj)
        have ra := roOk_a hr
        obtain ⟨x1, x2, x3, x4⟩ := play_ok (stR l j) (l[j].k.tmod 6) (l[j].n.tmod 101) bk hr (mod101 _ hwj.2.1) ⟨b1, b2⟩
        have gp := fun (raw : Bool) (hp : List Ob) (K : KF) => callF_known (raw := raw) (hp := hp) (k := K) rfl (q_play (m + 112) (stR l j).a (stR l j).n (stR l j).p l[j].k l[j].n ⟨ra.1, ra.2.1⟩ hwj.1 hwj.2) rfl
        simp only [ro_eta] at gp
        rw [stR_succ l j hj]
        generalize stR l j = R at *
        generalize playS R (l[j].k.tmod 6) (l[j].n.tmod 101) = X at *
        have y2 : ¬ wantS X bk < wantS R bk := by omega
        have y3 : ¬ wantS X bk < X.a := by omega
        have y4 : ¬ (if X.a < X.n then X.n else X.a) < wantS X bk := by split <;> omega
        simp -implicitDefEqProofs (maxSteps := 1000000) only [l7_1, go_sem, ↓reduceIte, Nat.reduceEqDiff, Nat.reduceAdd, Nat.reduceSub, Nat.reduceBEq, Int.reduceEq, Int.reduceLT, Int.reduceLE, Int.reduceNeg, Nat.reduceLeDiff, at_map _ l j hj, wrap_succ j (by omega), Int.ofNat_lt.mpr hj, gp, w, ro_eta, gF_Valid, x1, y2, y3, y4, max_int, alloc_F, store_boxF]
        exact rfl)
      (fun kn => by
        simp -implicitDefEqProofs (maxSteps := 1000000) only [l7_1, go_sem, ↓reduceIte, Nat.reduceEqDiff, Nat.reduceAdd, Nat.reduceSub, Nat.reduceBEq, Int.reduceEq, Int.reduceLT, Int.reduceLE, Int.reduceNeg, Nat.reduceLeDiff, Int.lt_irrefl, if_false]) (m + 120)
      (.cons 0 (.p (.slice 2 (l.map Ac.e))) (.cons 3 (.box 0 0) (.cons 5 (.box 1 0) (.cons 6 (.p (.int .i64 0)) .nil)))) [.box [.p (.str s), .p (.str t)], .box [.p (.int .i64 1), .p (.int .i64 0), .p (.int .i64 0)]] (by omega) (by kernel_rfl)
    have hl' : ¬ (100 : Int) < l.length := by omega
    simp -implicitDefEqProofs (maxSteps := 1000000) only [h7, go_sem, ↓reduceIte, Nat.reduceEqDiff, Nat.reduceAdd, Nat.reduceSub, Nat.reduceBEq, Int.reduceEq, Int.reduceLT, Int.reduceLE, Int.reduceNeg, Nat.reduceLeDiff, g_awk, g_Start, hl', L]
  · have hl' : (100 : Int) < l.length := by omega
    simp -implicitDefEqProofs (maxSteps := 1000000) only [h7, go_sem, ↓reduceIte, Nat.reduceEqDiff, Nat.reduceAdd, Nat.reduceSub, Nat.reduceBEq, Int.reduceEq, Int.reduceLT, Int.reduceLE, Int.reduceNeg, Nat.reduceLeDiff, g_awk, eq_true hl']
end Go.Ab
