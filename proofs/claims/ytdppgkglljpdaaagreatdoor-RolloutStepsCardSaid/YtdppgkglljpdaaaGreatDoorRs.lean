/- The evaluator and its laws, part Rs: S8 S11 S12 S13 S14 S15 S16 -/
import Derived.Test.YtdppgkglljpdaaaGreatDoorRr
import Derived.Test.YtdppgkglljpdaaaGreatDoorAbZ
set_option linter.all false
/- Runs with letters: a migrator that Check accepts, applied to a valid state. -/
section
namespace Go.Ab
open Go
set_option maxHeartbeats 4000000
set_option maxRecDepth 20000
def opsV (os : List Op) (v : V) : V := os.foldl (fun v o => (convB o v).1) v
def srcV (fs : List Fi) (vs : List V) (r : Ru) : V := if r.source = [] then r.init else vs[(fieldIx fs r.source).toNat]?.getD v0
def ruV (fs : List Fi) (vs : List V) (r : Ru) : V := opsV r.ops (srcV fs vs r)
def ruE (fs : List Fi) (vs : List V) (r : Ru) : Da := (ruV fs vs r).e
def vGood (v : V) : Prop := inI v.n ∧ v.is.length ≤ 1000 ∧ v.ls.length ≤ 1000
def ruGood (fs : List Fi) (vs : List V) (r : Ru) : Prop :=
  (r.source = [] ∨ (0 ≤ fieldIx fs r.source ∧ (fieldIx fs r.source).toNat < vs.length)) ∧ r.ops.length ≤ 8 ∧ (∀ i, i ≤ r.ops.length → vGood (opsV (r.ops.take i) (srcV fs vs r))) ∧ ∀ o ∈ r.ops, inI o.arg.n
theorem opsV_succ (os : List Op) (v : V) (i : Nat) (h : i < os.length) : opsV (os.take (i + 1)) v = (convB os[i] (opsV (os.take i) v)).1 := by
  unfold opsV
  rw [← List.take_append_getElem h, List.foldl_append]; rfl
theorem finK_arrP (o : Ob) (es : List Da) (len z : Nat) (x : Da) (rest : List Ob) (h : es.length = len) : finK 0 true [.arr 1 0 len z, .p x] (o :: .arr es :: rest) = some (.tup [.p (.slice z es), .p x], []) := by
  subst h
  have : finK 0 true [.arr 1 0 es.length z, .p x] (o :: .arr es :: rest) = some (.tup [.p (.slice z (es.take es.length)), .p x], []) := by
    rw [finK_eq]; rfl
  rw [this, List.take_length]
theorem g_ConvertV (m : Nat) (o : Op) (v : V) (hn : inI v.n) (ha : inI o.arg.n) (raw : Bool) (hp : List Ob) (K : KV) : callG (evH tabS (m + 31)) 59 raw [.p (.agg [.int .i64 o.kind, .int .i64 o.arg.k, .int .i64 o.arg.n, .str o.arg.s, .slice 1 (o.arg.is.map (.int .i64)), .slice 1 (o.arg.ls.map .str)]), .p (.agg [.int .i64 v.k, .int .i64 v.n, .str v.s, .slice 1 (v.is.map (.int .i64)), .slice 1 (v.ls.map .str)])] hp K =
    K (.tup [.p (convB o v).1.e, .p (.bool (convB o v).2)]) hp := g_Convert m o.kind o.arg v hn ha raw hp K
def V.bx (v : V) : Ob := .box [.p (.int .i64 v.k), .p (.int .i64 v.n), .p (.str v.s), .p (.slice 1 (v.is.map (.int .i64))), .p (.slice 1 (v.ls.map .str))]
def Op.bx (o : Op) : Ob := .box [.p (.int .i64 o.kind), .p (.int .i64 o.arg.k), .p (.int .i64 o.arg.n), .p (.str o.arg.s), .p (.slice 1 (o.arg.is.map (.int .i64))), .p (.slice 1 (o.arg.ls.map .str))]
def Ru.bx (r : Ru) : Ob := .box [.p (.str r.field), .p (.str r.source), .p (.int .i64 r.init.k), .p (.int .i64 r.init.n), .p (.str r.init.s), .p (.slice 1 (r.init.is.map (.int .i64))), .p (.slice 1 (r.init.ls.map .str)), .p (.slice 6 (r.ops.map Op.e))]
attribute [go_sem] V.bx Op.bx Ru.bx
theorem apply_inner (m : Nat) (vs : List V) (ty : List Nat) (fs : List Fi) (out : List Da) (j : Nat) (rs : List Ru) (os : List Op) (v : V) (hos : os.length ≤ 8) (hg : ∀ i, i ≤ os.length → vGood (opsV (os.take i) v)) (ha : ∀ o ∈ os, inI o.arg.n) (rb : Ob) (ke : Nat → K) (kr : K) :
    loopK 0 [3, 5, 11, 14, 29, 30, 31, 51, 52, 53] (fun tm hp k => l35_1 (evH tabS (m + 40)) (m + 40) 0 tm hp k ke kr) (m + 40)
      (.cons 3 (.p (.slice 5 (vs.map V.e))) (.cons 5 (.box 0 0) (.cons 11 (.arr 1 0 j 5) (.cons 14 (.box 3 0) (.cons 29 (.p (.slice 8 (rs.map Ru.e))) (.cons 30 (.p (.int .i64 rs.length)) (.cons 31 (.p (.int .i64 j)) (.cons 51 (.p (.slice 6 (os.map Op.e))) (.cons 52 (.p (.int .i64 os.length)) (.cons 53 (.p (.int .i64 0)) .nil))))))))))
      [.box [.p (.str ty), .p (.slice 7 (fs.map Fi.e))], .arr out, rb, v.bx] =
    ke 2 (.cons 3 (.p (.slice 5 (vs.map V.e))) (.cons 5 (.box 0 0) (.cons 11 (.arr 1 0 j 5) (.cons 14 (.box 2 0) (.cons 29 (.p (.slice 8 (rs.map Ru.e))) (.cons 30 (.p (.int .i64 rs.length)) (.cons 31 (.p (.int .i64 j)) (.cons 51 (.p (.slice 6 (os.map Op.e))) (.cons 52 (.p (.int .i64 os.length)) (.cons 53 (.p (.int .i64 os.length)) (.cons 54 (.p (.bool false)) .nil)))))))))))
      [.box [.p (.str ty), .p (.slice 7 (fs.map Fi.e))], .arr out, (opsV os v).bx] := by
  have e : os.take os.length = os := List.take_length
  refine loop_map (m := 0) (live := [3, 5, 11, 14, 29, 30, 31, 51, 52, 53]) (body := fun tm hp k => l35_1 (evH tabS (m + 40)) (m + 40) 0 tm hp k ke kr) os.length
    (fun i => .cons 3 (.p (.slice 5 (vs.map V.e))) (.cons 5 (.box 0 0) (.cons 11 (.arr 1 0 j 5) (.cons 14 (.box 2 0) (.cons 29 (.p (.slice 8 (rs.map Ru.e))) (.cons 30 (.p (.int .i64 rs.length)) (.cons 31 (.p (.int .i64 j)) (.cons 51 (.p (.slice 6 (os.map Op.e))) (.cons 52 (.p (.int .i64 os.length)) (.cons 53 (.p (.int .i64 (i : Nat))) .nil))))))))))
    (fun i => [.box [.p (.str ty), .p (.slice 7 (fs.map Fi.e))], .arr out, (opsV (os.take i) v).bx])
    (fun i => .cons 3 (.p (.slice 5 (vs.map V.e))) (.cons 5 (.box 0 0) (.cons 11 (.arr 1 0 j 5) (.cons 14 (.box 2 0) (.cons 29 (.p (.slice 8 (rs.map Ru.e))) (.cons 30 (.p (.int .i64 rs.length)) (.cons 31 (.p (.int .i64 j)) (.cons 51 (.p (.slice 6 (os.map Op.e))) (.cons 52 (.p (.int .i64 os.length)) (.cons 53 (.p (.int .i64 (i + 1 : Nat))) .nil))))))))))
    (fun i => [.box [.p (.str ty), .p (.slice 7 (fs.map Fi.e))], .arr out, (opsV (os.take (i + 1)) v).bx, (os[i]?.getD ⟨0, v0⟩).bx])
    _ (fun i _ => by kernel_rfl)
    (fun i kn hi => by
      have hv := hg i (by omega)
      rw [opsV_succ os v i hi]
      have hgc := fun (raw : Bool) (hp : List Ob) (K : KV) => g_ConvertV (m + 9) os[i] (opsV (os.take i) v) hv.1 (ha _ (List.getElem_mem hi)) raw hp K
      generalize opsV (os.take i) v = w at *
      generalize convB os[i] w = q at *
      simp -implicitDefEqProofs (maxSteps := 1000000) only [l35_1, go_sem, ↓reduceIte, Nat.reduceEqDiff, Nat.reduceAdd, Nat.reduceSub, Nat.reduceBEq, Int.reduceEq, Int.reduceLT, Int.reduceLE, Int.reduceNeg, Nat.reduceLeDiff, at_map _ os i hi, wrap_succ i (by omega), Int.ofNat_lt.mpr hi, List.getElem?_eq_getElem hi, Option.getD_some, hgc, ext_tup])
    (fun kn => by
      rw [e]
      simp -implicitDefEqProofs (maxSteps := 1000000) only [l35_1, go_sem, ↓reduceIte, Nat.reduceEqDiff, Nat.reduceAdd, Nat.reduceSub, Nat.reduceBEq, Int.reduceEq, Int.reduceLT, Int.reduceLE, Int.reduceNeg, Nat.reduceLeDiff, Int.lt_irrefl, if_false]) (m + 40) _ _ (by omega) (by kernel_rfl)
theorem q_Apply (m : Nat) (mt : List Nat) (rs : List Ru) (at' bt : List Nat) (fs gs : List Fi) (vs : List V) (hr : rs.length ≤ 8) (hf : fs.length ≤ 8) (hv : vs.length ≤ 8)
    (hchk : evH tabS (m + 40) 57 [.p (.agg [.str mt, .slice 8 (rs.map Ru.e)]), .p (.agg [.str at', .slice 7 (fs.map Fi.e)]), .p (.agg [.str bt, .slice 7 (gs.map Fi.e)])] [] = some (.p (.int .i64 0), []))
    (hst : stateOk ⟨at', fs⟩ vs = true) (hb : ∀ r ∈ rs, ruGood fs vs r) :
    evH tabS (m + 41) 35 [.p (.agg [.str mt, .slice 8 (rs.map Ru.e)]), .p (.agg [.str at', .slice 7 (fs.map Fi.e)]), .p (.agg [.str bt, .slice 7 (gs.map Fi.e)]), .p (.slice 5 (vs.map V.e))] [] =
      some (.tup [.p (.slice 5 ((rs.map (ruV fs vs)).map V.e)), .p (.int .i64 0)], []) := by
  refine (evH_code (show tabS 35 = some (.code h35 [.t 8, .t 9] true) by kernel_rfl) (m + 40) _ _).trans ?_
  have gc := fun (raw : Bool) (hp : List Ob) (K : KV) => call_known (raw := raw) (hp := hp) (k := K) rfl hchk rfl
  have L := fun (ke : Nat → K) (kr : K) => loop_map (m := 0) (live := [3, 5, 11, 29, 30, 31]) (body := fun tm hp k => l35_2 (evH tabS (m + 40)) (m + 40) 0 tm hp k ke kr) rs.length
    (fun j => .cons 3 (.p (.slice 5 (vs.map V.e))) (.cons 5 (.box 0 0) (.cons 11 (.arr 1 0 j 5) (.cons 29 (.p (.slice 8 (rs.map Ru.e))) (.cons 30 (.p (.int .i64 rs.length)) (.cons 31 (.p (.int .i64 (j : Nat))) .nil))))))
    (fun j => [.box [.p (.str at'), .p (.slice 7 (fs.map Fi.e))], .arr ((rs.take j).map (ruE fs vs))])
    (fun j => .cons 3 (.p (.slice 5 (vs.map V.e))) (.cons 5 (.box 0 0) (.cons 11 (.arr 3 0 (j + 1) 5) (.cons 29 (.p (.slice 8 (rs.map Ru.e))) (.cons 30 (.p (.int .i64 rs.length)) (.cons 31 (.p (.int .i64 (j + 1 : Nat))) .nil))))))
    (fun j => [.box [.p (.str at'), .p (.slice 7 (fs.map Fi.e))], .dead, (ruV fs vs (rs[j]?.getD ⟨[], [], v0, []⟩)).bx, .arr ((rs.take (j + 1)).map (ruE fs vs))])
    (ke 0 (.cons 3 (.p (.slice 5 (vs.map V.e))) (.cons 5 (.box 0 0) (.cons 11 (.arr 1 0 rs.length 5) (.cons 29 (.p (.slice 8 (rs.map Ru.e))) (.cons 30 (.p (.int .i64 rs.length)) (.cons 31 (.p (.int .i64 rs.length)) (.cons 32 (.p (.bool false)) .nil))))))) [.box [.p (.str at'), .p (.slice 7 (fs.map Fi.e))], .arr ((rs.take rs.length).map (ruE fs vs))])
    (fun j _ => by kernel_rfl)
    (fun j kn hj => by
      obtain ⟨h1, h2, h3, h4⟩ := hb rs[j] (List.getElem_mem hj)
      have hlen : (rs.take j).length = j := by rw [List.length_take]; omega
      have h30 := h3 0 (Nat.zero_le _)
      have L1 := fun (v : V) (hg : ∀ i, i ≤ rs[j].ops.length → vGood (opsV (rs[j].ops.take i) v)) => apply_inner m vs at' fs ((rs.take j).map (ruE fs vs)) j rs rs[j].ops v h2 hg h4
      rw [← take_snoc (ruE fs vs) rs j hj]
      by_cases hs : rs[j].source = []
      · have e0 : srcV fs vs rs[j] = rs[j].init := by unfold srcV; rw [if_pos hs]
        rw [e0] at h3 h30
        have eR : ruV fs vs rs[j] = opsV rs[j].ops rs[j].init := by unfold ruV; rw [e0]
        have eE : ruE fs vs rs[j] = (opsV rs[j].ops rs[j].init).e := by unfold ruE; rw [eR]
        have L1 := L1 rs[j].init h3
        simp only [V.bx] at L1
        simp only [opsV, List.take_zero, List.foldl_nil] at h30
        simp -implicitDefEqProofs (maxSteps := 1000000) only [l35_2, go_sem, ↓reduceIte, Nat.reduceEqDiff, Nat.reduceAdd, Nat.reduceSub, Nat.reduceBEq, Int.reduceEq, Int.reduceLT, Int.reduceLE, Int.reduceNeg, Nat.reduceLeDiff, at_map _ rs j hj, wrap_succ j (by omega), Int.ofNat_lt.mpr hj, List.getElem?_eq_getElem hj, Option.getD_some, eq_true hs, g_cloneValue, h30.2.1, h30.2.2, L1, eR, eE, app_own1, List.length_map, hlen, show j ≤ 1000 by omega]
      · obtain ⟨p1, p2⟩ := h1.resolve_left hs
        have e0 : srcV fs vs rs[j] = vs[(fieldIx fs rs[j].source).toNat] := by unfold srcV; rw [if_neg hs, List.getElem?_eq_getElem p2]; rfl
        rw [e0] at h3 h30
        have eR : ruV fs vs rs[j] = opsV rs[j].ops vs[(fieldIx fs rs[j].source).toNat] := by unfold ruV; rw [e0]
        have eE : ruE fs vs rs[j] = (opsV rs[j].ops vs[(fieldIx fs rs[j].source).toNat]).e := by unfold ruE; rw [eR]
        have ha := at_map V.e vs _ p2
        rw [Int.toNat_of_nonneg p1] at ha
        generalize vs[(fieldIx fs rs[j].source).toNat] = w at *
        have L1 := L1 w h3
        simp only [V.bx] at L1
        simp only [opsV, List.take_zero, List.foldl_nil] at h30
        simp -implicitDefEqProofs (maxSteps := 1000000) only [l35_2, go_sem, ↓reduceIte, Nat.reduceEqDiff, Nat.reduceAdd, Nat.reduceSub, Nat.reduceBEq, Int.reduceEq, Int.reduceLT, Int.reduceLE, Int.reduceNeg, Nat.reduceLeDiff, at_map _ rs j hj, wrap_succ j (by omega), Int.ofNat_lt.mpr hj, List.getElem?_eq_getElem hj, Option.getD_some, hs, g_fieldIndex, show fs.length ≤ 20 by omega, ha, g_cloneValue, h30.2.1, h30.2.2, L1, eR, eE, app_own1, List.length_map, hlen, show j ≤ 1000 by omega])
    (fun kn => by
      simp -implicitDefEqProofs (maxSteps := 1000000) only [l35_2, go_sem, ↓reduceIte, Nat.reduceEqDiff, Nat.reduceAdd, Nat.reduceSub, Nat.reduceBEq, Int.reduceEq, Int.reduceLT, Int.reduceLE, Int.reduceNeg, Nat.reduceLeDiff, Int.lt_irrefl, if_false]) (m + 40)
    (.cons 11 (.arr 3 0 0 5) (.cons 3 (.p (.slice 5 (vs.map V.e))) (.cons 5 (.box 1 0) (.cons 11 (.sl .nil 5 []) (.cons 29 (.p (.slice 8 (rs.map Ru.e))) (.cons 30 (.p (.int .i64 rs.length)) (.cons 31 (.p (.int .i64 0)) .nil))))))) [.box [.p (.str mt), .p (.slice 8 (rs.map Ru.e))], .box [.p (.str at'), .p (.slice 7 (fs.map Fi.e))], .box [.p (.str bt), .p (.slice 7 (gs.map Fi.e))], .arr []] (by omega) (by kernel_rfl)
  simp -implicitDefEqProofs (maxSteps := 1000000) only [h35, go_sem, ↓reduceIte, Nat.reduceEqDiff, Nat.reduceAdd, Nat.reduceSub, Nat.reduceBEq, Int.reduceEq, Int.reduceLT, Int.reduceLE, Int.reduceNeg, Nat.reduceLeDiff, gc, g_validState, show fs.length ≤ 20 by omega, show vs.length ≤ 20 by omega, hst, L, List.take_length, finK_arrP, List.length_map]
  simp only [List.map_map]
  rfl
end Go.Ab
end
/- Closed runs, at any fuel. -/
section
namespace Go.Ab
open Go
set_option maxRecDepth 100000
def noSc : Da := .agg [.str [], .slice 7 []]
theorem q_Of11 (m : Nat) : evH tabS (m + 60) 15 [.p (.agg [prog1]), .p (.str sAcc)] [] = some (.tup [.p sc1.e, .p (.bool true)], []) := by kernel_rfl
theorem q_Of12 (m : Nat) : evH tabS (m + 60) 15 [.p (.agg [prog1]), .p (.str sCnt)] [] = some (.tup [.p noSc, .p (.bool false)], []) := by kernel_rfl
theorem q_Of21 (m : Nat) : evH tabS (m + 60) 15 [.p (.agg [prog2]), .p (.str sAcc)] [] = some (.tup [.p sc2.e, .p (.bool true)], []) := by kernel_rfl
theorem q_Of22 (m : Nat) : evH tabS (m + 60) 15 [.p (.agg [prog2]), .p (.str sCnt)] [] = some (.tup [.p sc3.e, .p (.bool true)], []) := by kernel_rfl
theorem q_Id1 (m : Nat) : evH tabS (m + 60) 36 [.p sc1.e] [] = some (.p (idM sc1).e, []) := by kernel_rfl
theorem q_Id2 (m : Nat) : evH tabS (m + 60) 36 [.p sc2.e] [] = some (.p (idM sc2).e, []) := by kernel_rfl
theorem q_Id3 (m : Nat) : evH tabS (m + 60) 36 [.p sc3.e] [] = some (.p (idM sc3).e, []) := by kernel_rfl
theorem q_Ch1 (m : Nat) : evH tabS (m + 40) 57 [.p (idM sc1).e, .p sc1.e, .p sc1.e] [] = some (.p (.int .i64 0), []) := by kernel_rfl
theorem q_Ch2 (m : Nat) : evH tabS (m + 40) 57 [.p (idM sc2).e, .p sc2.e, .p sc2.e] [] = some (.p (.int .i64 0), []) := by kernel_rfl
theorem q_Ch3 (m : Nat) : evH tabS (m + 40) 57 [.p (idM sc3).e, .p sc3.e, .p sc3.e] [] = some (.p (.int .i64 0), []) := by kernel_rfl
theorem q_Ch12 (m : Nat) : evH tabS (m + 40) 57 [.p migA.e, .p sc1.e, .p sc2.e] [] = some (.p (.int .i64 0), []) := by kernel_rfl
theorem q_Ix2 (m : Nat) : evH tabS (m + 40) 37 [.p (.sliceE 2 [migA.e]), .fn 38 [.box 0 0]] [.box [.p (.str sAcc)]] = some (.p (.int .i64 0), [.box [.p (.str sAcc)]]) := by kernel_rfl
theorem q_Ix31 (m : Nat) : evH tabS (m + 40) 37 [.p (.slice 2 [(idM sc2).e, (idM sc3).e]), .fn 38 [.box 0 0]] [.box [.p (.str sAcc)]] = some (.p (.int .i64 0), [.box [.p (.str sAcc)]]) := by kernel_rfl
theorem q_Ix32 (m : Nat) : evH tabS (m + 40) 37 [.p (.slice 2 [(idM sc2).e, (idM sc3).e]), .fn 38 [.box 0 0]] [.box [.p (.str sCnt)]] = some (.p (.int .i64 1), [.box [.p (.str sCnt)]]) := by kernel_rfl
theorem q_VR00 (m : Nat) : evH tabS (m + 1) 33 [.p (.slice 2 (verS 0 0))] [] = ansR (badS 0) (goodS 0) := by kernel_rfl
theorem q_VR10 (m : Nat) : evH tabS (m + 1) 33 [.p (.slice 2 (verS 1 0))] [] = ansR (badS 1) (goodS 1) := by kernel_rfl
theorem q_VR20 (m : Nat) : evH tabS (m + 1) 33 [.p (.slice 2 (verS 2 0))] [] = ansR (badS 2) (goodS 2) := by kernel_rfl
theorem q_VR30 (m : Nat) : evH tabS (m + 1) 33 [.p (.slice 2 (verS 3 0))] [] = ansR (badS 3) (goodS 3) := by kernel_rfl
theorem q_VR40 (m : Nat) : evH tabS (m + 1) 33 [.p (.slice 2 (verS 4 0))] [] = ansR (badS 4) (goodS 4) := by kernel_rfl
theorem q_VR50 (m : Nat) : evH tabS (m + 1) 33 [.p (.slice 2 (verS 5 0))] [] = ansR (badS 5) (goodS 5) := by kernel_rfl
theorem q_VR51 (m : Nat) : evH tabS (m + 1) 33 [.p (.slice 2 (verS 5 1))] [] = ansR (badS 5) (goodS 5) := by kernel_rfl
theorem q_VR52 (m : Nat) : evH tabS (m + 1) 33 [.p (.slice 2 (verS 5 2))] [] = ansR (badS 5) (goodS 5) := by kernel_rfl
theorem q_VR60 (m : Nat) : evH tabS (m + 1) 33 [.p (.slice 2 (verS 6 0))] [] = ansR (badS 6) (goodS 6) := by kernel_rfl
theorem q_VR70 (m : Nat) : evH tabS (m + 1) 33 [.p (.slice 2 (verS 7 0))] [] = ansR (badS 7) (goodS 7) := by kernel_rfl
theorem q_VR80 (m : Nat) : evH tabS (m + 1) 33 [.p (.slice 2 (verS 8 0))] [] = ansR (badS 8) (goodS 8) := by kernel_rfl
end Go.Ab
end
/- The versions that change makes. -/
section
namespace Go.Ab
open Go
set_option maxHeartbeats 4000000
set_option maxRecDepth 100000
theorem q_Vers (m : Nat) : evH tabS (m + 1) 32 [] [] = some (.arr 0 0 2 2, [.arr [ver1, ver2]]) := by kernel_rfl
theorem call_noargs {call : CallF} {f n w : Nat} {os : List Da} {K : KV} {raw : Bool} (hc : call f [] [] = some (.arr 0 0 n w, [.arr os])) : callG call f raw [] [] K = K (.arr 0 0 n w) [.arr os] := by
  rw [← callG_eq (base := 0) (kk := 0)]
  have hn : need (.call f raw) [] [] = [] := close_nil _ _ _
  have hd : doCall call f [] [] [] 0 = some (.arr 0 0 n w, [], [.arr os]) := by
    have : doCall call f [] [] [] 0 = match call f [] [] with
      | none => none
      | some (r, out) => bif Nat.ble 0 out.length then some (mapD (back 0 0 [] out.length) r, [].zip (out.map (mapOb (back 0 0 [] out.length))), (out.map (mapOb (back 0 0 [] out.length))).drop 0) else none := rfl
    rw [this, hc]
    rfl
  cases raw <;> (simp only [genV, makes, Bool.not_false, Bool.true_or, cond_true, cond_false, hn, act, List.map_nil, List.length_nil]; rw [hd]; rfl)
theorem q_chg (m k : Nat) (a : Nat) (how at' : Int) (K : Int) (hk : how.tmod 9 = K)
    (hrest : ∀ m, evH tabS (m + 31) 10 [.p (.int .u8 K), .p (.int .u8 at')] [] = some (.p (.slice 2 (verS k a)), [])) (hK : K.tmod 9 = K) :
    evH tabS (m + 31) 10 [.p (.int .u8 how), .p (.int .u8 at')] [] = some (.p (.slice 2 (verS k a)), []) := by
  refine Eq.trans ?_ (hrest m)
  have gV := fun (raw : Bool) (K : KV) => call_noargs (raw := raw) (K := K) (q_Vers (m + 29))
  have r1 := fun (f : D → R) => b_rem .u8 how 9 f (by decide)
  have r2 := fun (f : D → R) => b_rem .u8 K 9 f (by decide)
  rw [hk] at r1
  rw [hK] at r2
  refine (evH_code (show tabS 10 = some (.code h10 [.t 4] true) by kernel_rfl) (m + 30) _ _).trans (Eq.trans ?_ (evH_code (show tabS 10 = some (.code h10 [.t 4] true) by kernel_rfl) (m + 30) _ _).symm)
  simp -implicitDefEqProofs only [h10, s_run, s_seq, s_reg, getF_cons, growN_zero, numbered_cons, numbered_nil, ↓reduceIte, Nat.reduceEqDiff, Nat.reduceAdd, List.length_nil, gV, r1, r2]
theorem q_ch0 (a : Int) (m : Nat) : evH tabS (m + 31) 10 [.p (.int .u8 0), .p (.int .u8 a)] [] = some (.p (.slice 2 (verS 0 0)), []) := by kernel_rfl
theorem q_ch1 (a : Int) (m : Nat) : evH tabS (m + 31) 10 [.p (.int .u8 1), .p (.int .u8 a)] [] = some (.p (.slice 2 (verS 1 0)), []) := by kernel_rfl
theorem q_ch2 (a : Int) (m : Nat) : evH tabS (m + 31) 10 [.p (.int .u8 2), .p (.int .u8 a)] [] = some (.p (.slice 2 (verS 2 0)), []) := by kernel_rfl
theorem q_ch3 (a : Int) (m : Nat) : evH tabS (m + 31) 10 [.p (.int .u8 3), .p (.int .u8 a)] [] = some (.p (.slice 2 (verS 3 0)), []) := by kernel_rfl
theorem q_ch4 (a : Int) (m : Nat) : evH tabS (m + 31) 10 [.p (.int .u8 4), .p (.int .u8 a)] [] = some (.p (.slice 2 (verS 4 0)), []) := by kernel_rfl
theorem q_ch6 (a : Int) (m : Nat) : evH tabS (m + 31) 10 [.p (.int .u8 6), .p (.int .u8 a)] [] = some (.p (.slice 2 (verS 6 0)), []) := by kernel_rfl
theorem q_ch7 (a : Int) (m : Nat) : evH tabS (m + 31) 10 [.p (.int .u8 7), .p (.int .u8 a)] [] = some (.p (.slice 2 (verS 7 0)), []) := by kernel_rfl
theorem q_ch8 (a : Int) (m : Nat) : evH tabS (m + 31) 10 [.p (.int .u8 8), .p (.int .u8 a)] [] = some (.p (.slice 2 (verS 8 0)), []) := by kernel_rfl
def allN : Nat → (Nat → Bool) → Bool
  | 0, _ => true
  | n + 1, f => bif f n then allN n f else false
theorem allN_at {f : Nat → Bool} : ∀ {n : Nat}, allN n f = true → ∀ i, i < n → f i = true
  | 0, _, i, h => absurd h (Nat.not_lt_zero i)
  | n + 1, h, i, hi => by
    simp only [allN] at h
    cases hf : f n with
    | false => rw [hf] at h; cases h
    | true =>
      rw [hf, cond_true] at h
      rcases Nat.lt_or_eq_of_le (Nat.le_of_lt_succ hi) with h1 | rfl
      · exact allN_at h i h1
      · exact hf
noncomputable def isR (r : R) (x : Da) : Bool :=
  match r with
  | some (.p y, []) => eqDa y x
  | _ => false
theorem isR_eq {r : R} {x : Da} (h : isR r x = true) : r = some (.p x, []) := by
  unfold isR at h
  split at h
  · rw [eqDa_eq _ _ h]
  · cases h
theorem ch5_all (m : Nat) : allN 256 (fun a => isR (evH tabS (m + 31) 10 [.p (.int .u8 5), .p (.int .u8 (Int.ofNat a))] []) (.slice 2 (verS 5 (a % 3)))) = true := by kernel_rfl
theorem q_ch5 (a : Int) (h1 : 0 ≤ a) (h2 : a < 256) (m : Nat) : evH tabS (m + 31) 10 [.p (.int .u8 5), .p (.int .u8 a)] [] = some (.p (.slice 2 (verS 5 (a.toNat % 3))), []) := by
  have := isR_eq (allN_at (ch5_all m) a.toNat (by omega))
  rwa [show Int.ofNat a.toNat = a from Int.toNat_of_nonneg h1] at this
def chPair (k a : Nat) : Prop := (k = 5 ∧ a < 3) ∨ (k ≠ 5 ∧ k < 9 ∧ a = 0)
theorem q_change (m : Nat) (how a : Int) (h1 : 0 ≤ how) (h3 : 0 ≤ a) (h4 : a < 256) : ∃ k b, chPair k b ∧ evH tabS (m + 31) 10 [.p (.int .u8 how), .p (.int .u8 a)] [] = some (.p (.slice 2 (verS k b)), []) := by
  have a1 := Int.tmod_nonneg 9 h1
  have a2 := Int.tmod_lt_of_pos how (show (0 : Int) < 9 by decide)
  have : how.tmod 9 = 0 ∨ how.tmod 9 = 1 ∨ how.tmod 9 = 2 ∨ how.tmod 9 = 3 ∨ how.tmod 9 = 4 ∨ how.tmod 9 = 5 ∨ how.tmod 9 = 6 ∨ how.tmod 9 = 7 ∨ how.tmod 9 = 8 := by omega
  rcases this with e | e | e | e | e | e | e | e | e
  · exact ⟨0, 0, .inr ⟨by decide, by decide, rfl⟩, q_chg m 0 0 how a 0 e (q_ch0 a) rfl⟩
  · exact ⟨1, 0, .inr ⟨by decide, by decide, rfl⟩, q_chg m 1 0 how a 1 e (q_ch1 a) rfl⟩
  · exact ⟨2, 0, .inr ⟨by decide, by decide, rfl⟩, q_chg m 2 0 how a 2 e (q_ch2 a) rfl⟩
  · exact ⟨3, 0, .inr ⟨by decide, by decide, rfl⟩, q_chg m 3 0 how a 3 e (q_ch3 a) rfl⟩
  · exact ⟨4, 0, .inr ⟨by decide, by decide, rfl⟩, q_chg m 4 0 how a 4 e (q_ch4 a) rfl⟩
  · exact ⟨5, a.toNat % 3, .inl ⟨rfl, Nat.mod_lt _ (by decide)⟩, q_chg m 5 _ how a 5 e (q_ch5 a h3 h4) rfl⟩
  · exact ⟨6, 0, .inr ⟨by decide, by decide, rfl⟩, q_chg m 6 0 how a 6 e (q_ch6 a) rfl⟩
  · exact ⟨7, 0, .inr ⟨by decide, by decide, rfl⟩, q_chg m 7 0 how a 7 e (q_ch7 a) rfl⟩
  · exact ⟨8, 0, .inr ⟨by decide, by decide, rfl⟩, q_chg m 8 0 how a 8 e (q_ch8 a) rfl⟩
end Go.Ab
end
/- Runs with letters: Carry over versions of which the steps are known. -/
section
namespace Go.Ab
open Go
set_option maxHeartbeats 4000000
set_option maxRecDepth 20000
theorem finK_slP (g : Tag) (z : Nat) (es : List Da) (x : Da) (hp : List Ob) : finK 0 true [.sl g z es, .p x] hp = some (.tup [.p (.slice z es), .p x], []) := by
  rw [finK_eq]; rfl
structure Way where
  p : Nat → Da
  g : Nat → Da
  sch : Nat → Sc
  mg : Nat → Mi
  ix : Nat → Int
  st : Nat → List V
def Way.ok (w : Way) (vs : List Da) (typ : List Nat) (F n : Nat) : Prop :=
  F + n < vs.length ∧ vs.length ≤ 10 ∧ (∀ i, i ≤ F + n → vs[i]? = some (.agg [w.p i, w.g i])) ∧ (∀ i (K : D → R), F < i → i ≤ F + n → iaG 2 (.p (w.g i)) (.p (.int .i64 (w.ix i))) K = K (.ip (w.mg i).e 0))
theorem q_Carry (m : Nat) (w : Way) (vs : List Da) (typ : List Nat) (F n : Nat) (ws : List V) (hw : w.ok vs typ F n) (hl : ws.length ≤ 20) (hf : (w.sch F).fields.length ≤ 8)
    (hVR : evH tabS (m + 100) 33 [.p (.slice 2 vs)] [] = some (.tup [.p (.int .i64 0), .p (.bool true)], []))
    (hOf : ∀ i, F ≤ i → i ≤ F + n → evH tabS (m + 100) 15 [.p (.agg [w.p i]), .p (.str typ)] [] = some (.tup [.p (w.sch i).e, .p (.bool true)], []))
    (hst : stateOk (w.sch F) ws = true)
    (hId : evH tabS (m + 100) 36 [.p (w.sch F).e] [] = some (.p (idM (w.sch F)).e, []))
    (hA0 : evH tabS (m + 100) 35 [.p (idM (w.sch F)).e, .p (w.sch F).e, .p (w.sch F).e, .p (.slice 5 (ws.map V.e))] [] = some (.tup [.p (.slice 5 ((w.st F).map V.e)), .p (.int .i64 0)], []))
    (hIx : ∀ i, F < i → i ≤ F + n → evH tabS (m + 100) 37 [.p (w.g i), .fn 38 [.box 0 0]] [.box [.p (.str typ)]] = some (.p (.int .i64 (w.ix i)), [.box [.p (.str typ)]]))
    (hA : ∀ i, F ≤ i → i < F + n → evH tabS (m + 100) 35 [.p (w.mg (i + 1)).e, .p (w.sch i).e, .p (w.sch (i + 1)).e, .p (.slice 5 ((w.st i).map V.e))] [] = some (.tup [.p (.slice 5 ((w.st (i + 1)).map V.e)), .p (.int .i64 0)], [])) :
    evH tabS (m + 101) 11 [.p (.slice 2 vs), .p (.str typ), .p (.int .i64 ((F + 1 : Nat) : Int)), .p (.int .i64 ((F + 1 + n : Nat) : Int)), .p (.slice 5 (ws.map V.e))] [] = some (.tup [.p (.slice 5 ((w.st (F + n)).map V.e)), .p (.int .i64 0)], []) := by
  obtain ⟨w1, w2, w3, w4⟩ := hw
  refine (evH_code (show tabS 11 = some (.code h11 [.t 10, .t 11] true) by kernel_rfl) (m + 100) _ _).trans ?_
  have L := fun (ke : Nat → K) (kr : K) => loop_map (m := 0) (live := [0, 3, 6, 14, 16, 17, 18]) (body := fun tm hp k => l11_1 (evH tabS (m + 100)) (m + 100) 0 tm hp k ke kr) n
    (fun j => .cons 0 (.p (.slice 2 vs)) (.cons 3 (.p (.int .i64 ((F + 1 + n : Nat) : Int))) (.cons 6 (.box 0 0) (.cons 14 (.box 1 0) (.cons 16 (.p (.slice 5 ((w.st (F + j)).map V.e))) (.cons 17 (.p (.int .i64 0)) (.cons 18 (.p (.int .i64 ((F + 1 + j : Nat) : Int))) .nil)))))))
    (fun j => [.box [.p (.str typ)], .box [.p (.str (w.sch (F + j)).type), .p (.slice 7 ((w.sch (F + j)).fields.map Fi.e))]])
    (fun j => .cons 0 (.p (.slice 2 vs)) (.cons 3 (.p (.int .i64 ((F + 1 + n : Nat) : Int))) (.cons 6 (.box 0 0) (.cons 14 (.box 1 0) (.cons 16 (.p (.slice 5 ((w.st (F + j + 1)).map V.e))) (.cons 17 (.p (.int .i64 0)) (.cons 18 (.p (.int .i64 ((F + 1 + j + 1 : Nat) : Int))) .nil)))))))
    (fun j => [.box [.p (.str typ)], .box [.p (.str (w.sch (F + j + 1)).type), .p (.slice 7 ((w.sch (F + j + 1)).fields.map Fi.e))], .box [.p (.str (w.sch (F + j + 1)).type), .p (.slice 7 ((w.sch (F + j + 1)).fields.map Fi.e))]])
    (ke 0 (.cons 0 (.p (.slice 2 vs)) (.cons 3 (.p (.int .i64 ((F + 1 + n : Nat) : Int))) (.cons 6 (.box 0 0) (.cons 14 (.box 1 0) (.cons 16 (.p (.slice 5 ((w.st (F + n)).map V.e))) (.cons 17 (.p (.int .i64 0)) (.cons 18 (.p (.int .i64 ((F + 1 + n : Nat) : Int))) (.cons 77 (.p (.bool false)) .nil)))))))) [.box [.p (.str typ)], .box [.p (.str (w.sch (F + n)).type), .p (.slice 7 ((w.sch (F + n)).fields.map Fi.e))]])
    (fun j _ => by kernel_rfl)
    (fun j kn hj => by
      have hat : at? vs ((F + 1 + j : Nat) : Int) = some (.agg [w.p (F + j + 1), w.g (F + j + 1)]) := by rw [at_nat, show F + 1 + j = F + j + 1 by omega]; exact w3 _ (by omega)
      have e1 := fun (raw : Bool) (hp : List Ob) (K : KF) => callF_known (raw := raw) (hp := hp) (k := K) rfl (hOf (F + j + 1) (by omega) (by omega)) rfl
      have e2 := fun (rest : List Ob) (raw : Bool) (K : KV) => call_ref1 (raw := raw) (rest := rest) (k := K) (hIx (F + j + 1) (by omega) (by omega))
      have e3 := fun (raw : Bool) (hp : List Ob) (K : KF) => callF_known (raw := raw) (hp := hp) (k := K) rfl (hA (F + j) (by omega) (by omega)) rfl
      have e4 := fun (K : D → R) => w4 (F + j + 1) K (by omega) (by omega)
      have wr := wrap_succ (F + 1 + j) (by omega)
      have lt : ((F + 1 + j : Nat) : Int) < ((F + 1 + n : Nat) : Int) := by omega
      simp only [Sc.e, Mi.e] at e1 e3 e4
      simp -implicitDefEqProofs (maxSteps := 1000000) only [l11_1, go_sem, ↓reduceIte, Nat.reduceEqDiff, Nat.reduceAdd, Nat.reduceSub, Nat.reduceBEq, Int.reduceEq, Int.reduceLT, Int.reduceLE, Int.reduceNeg, Nat.reduceLeDiff, hat, wr, lt, e1, e2, e3, e4, ext_tup, alloc_F, store_boxF]
      exact rfl)
    (fun kn => by
      simp -implicitDefEqProofs (maxSteps := 1000000) only [l11_1, go_sem, ↓reduceIte, Nat.reduceEqDiff, Nat.reduceAdd, Nat.reduceSub, Nat.reduceBEq, Int.reduceEq, Int.reduceLT, Int.reduceLE, Int.reduceNeg, Nat.reduceLeDiff, Int.lt_irrefl, if_false]) (m + 100)
    (.cons 0 (.p (.slice 2 vs)) (.cons 3 (.p (.int .i64 ((F + 1 + n : Nat) : Int))) (.cons 6 (.box 0 0) (.cons 14 (.box 1 0) (.cons 16 (.p (.slice 5 ((w.st F).map V.e))) (.cons 17 (.p (.int .i64 0)) (.cons 18 (.p (.int .i64 ((F + 1 : Nat) : Int))) .nil))))))) [.box [.p (.str typ)], .box [.p (.str (w.sch F).type), .p (.slice 7 ((w.sch F).fields.map Fi.e))]] (by omega) (by kernel_rfl)
  have f1 := fun (raw : Bool) (hp : List Ob) (K : KV) => call_known (raw := raw) (hp := hp) (k := K) rfl hVR rfl
  have f2 := fun (raw : Bool) (hp : List Ob) (K : KF) => callF_known (raw := raw) (hp := hp) (k := K) rfl (hOf F (by omega) (by omega)) rfl
  have f3 := fun (raw : Bool) (hp : List Ob) (K : KF) => callF_known (raw := raw) (hp := hp) (k := K) rfl hId rfl
  have f4 := fun (raw : Bool) (hp : List Ob) (K : KF) => callF_known (raw := raw) (hp := hp) (k := K) rfl hA0 rfl
  have hat : at? vs ((F : Nat) : Int) = some (.agg [w.p F, w.g F]) := by rw [at_nat]; exact w3 _ (by omega)
  have wr : wrapF .i64 (((F + 1 : Nat) : Int) - 1) = ((F : Nat) : Int) := by
    rw [show ((F + 1 : Nat) : Int) - 1 = ((F : Nat) : Int) by omega]; exact wrap_few F (by omega)
  have c1 : ¬ ((F + 1 : Nat) : Int) < 1 := by omega
  have c2 : ¬ (vs.length : Int) < ((F + 1 + n : Nat) : Int) := by omega
  have c3 : ¬ ((F + 1 + n : Nat) : Int) < ((F + 1 : Nat) : Int) := by omega
  simp only [Sc.e, Mi.e] at f2 f3 f4
  simp -implicitDefEqProofs (maxSteps := 1000000) only [h11, go_sem, ↓reduceIte, Nat.reduceEqDiff, Nat.reduceAdd, Nat.reduceSub, Nat.reduceBEq, Int.reduceEq, Int.reduceLT, Int.reduceLE, Int.reduceNeg, Nat.reduceLeDiff, f1, f2, f3, f4, hat, wr, c1, c2, c3, ext_tup, alloc_F, store_boxF, g_validState, show (w.sch F).fields.length ≤ 20 by omega, hl, hst, L]
  exact rfl
end Go.Ab
end
/- The steps of Carry at the program's versions. -/
section
namespace Go.Ab
open Go
set_option maxHeartbeats 4000000
set_option maxRecDepth 100000
theorem q_goes (m k a : Nat) (h : evH tabS (m + 1) 33 [.p (.slice 2 (verS k a))] [] = ansR (badS k) (goodS k)) (hg : goodS k = true) (hb : badS k = 0) : evH tabS (m + 1) 33 [.p (.slice 2 (verS k a))] [] = some (.tup [.p (.int .i64 0), .p (.bool true)], []) := by
  rw [h, hg, hb]; rfl
def vI (n : Int) : V := ⟨1, n, [], [], []⟩
def vL (l : List Int) : V := ⟨4, 0, [], l, []⟩
def opL : Op := ⟨4, v0⟩
def cntV (l : List Int) : V := (convB opL (vL l)).1
theorem vOk_I (n : Int) : vOk (vI n) = true := by simp [vOk, vI]
theorem vOk_L (l : List Int) (h : l.length ≤ 16) : vOk (vL l) = true := by simp [vOk, vL, h]
theorem cnt_eq (l : List Int) (h : l.length ≤ 16) : cntV l = vI (((0 : Nat) : Int) + l.length + ((0 : Nat) : Int)) := by
  have h1 : resB opL (vL l).k = some 1 := rfl
  have h2 := vOk_L l h
  simp only [cntV, convB, h1, h2, Option.isSome_some, and_self, if_true]
  rfl
theorem inI_0 : inI 0 := ⟨by decide, by decide⟩
theorem good_I (n : Int) (h : inI n) : vGood (vI n) := ⟨h, Nat.zero_le _, Nat.zero_le _⟩
theorem good_L (l : List Int) (h : l.length ≤ 16) : vGood (vL l) := ⟨inI_0, by show l.length ≤ 1000; omega, Nat.zero_le _⟩
theorem good_C (l : List Int) (h : l.length ≤ 16) : vGood (cntV l) := by
  rw [cnt_eq l h]; exact good_I _ ⟨by omega, by omega⟩
def w1 (b : Int) (l : List Int) : List V := [vI b, vL l]
def w2 (b : Int) (l : List Int) (c : Int) : List V := [vI b, vL l, vI c]
def w3 (c : Int) : List V := [vI c]
theorem sc1_ok : scOk sc1 = true := by kernel_rfl
theorem sc2_ok : scOk sc2 = true := by kernel_rfl
theorem sc3_ok : scOk sc3 = true := by kernel_rfl
theorem st1 (b : Int) (l : List Int) (h : l.length ≤ 16) : stateOk sc1 (w1 b l) = true := by
  have e1 := vOk_I b
  have e2 := vOk_L l h
  simp only [stateOk, sc1_ok, w1, sc1, fInt, firstF, okValue, List.length_cons, List.length_nil, List.getElem?_cons_zero, List.getElem?_cons_succ, e1, e2, Bool.and_true, Bool.true_and, vI, vL]
  simp [vOk, h]
  exact sc1_ok
theorem st2 (b : Int) (l : List Int) (c : Int) (h : l.length ≤ 16) : stateOk sc2 (w2 b l c) = true := by
  simp only [stateOk, sc2_ok, w2, sc2, fInt, firstF, okValue, List.length_cons, List.length_nil, List.getElem?_cons_zero, List.getElem?_cons_succ, Bool.and_true, Bool.true_and, vI, vL]
  simp [vOk, h]
  exact sc2_ok
theorem st3 (c : Int) : stateOk sc3 (w3 c) = true := by
  simp only [stateOk, sc3_ok, w3, sc3, fInt, firstF, okValue, List.length_cons, List.length_nil, List.getElem?_cons_zero, List.getElem?_cons_succ, Bool.and_true, Bool.true_and, vI]
  simp [vOk]
  exact sc3_ok
theorem rg (fs : List Fi) (vs : List V) (f s : List Nat) (n : Nat) (v : V) (hix : fieldIx fs s = (n : Int)) (hs : s ≠ []) (hn : vs[n]? = some v) (hv : vGood v) : ruGood fs vs ⟨f, s, v0, []⟩ := by
  have hl : n < vs.length := by
    rcases Nat.lt_or_ge n vs.length with h | h
    · exact h
    · rw [List.getElem?_eq_none h] at hn; cases hn
  refine ⟨.inr ⟨by rw [hix]; omega, by rw [hix]; simpa using hl⟩, Nat.zero_le _, fun i _ => ?_, by simp⟩
  have : srcV fs vs ⟨f, s, v0, []⟩ = v := by
    unfold srcV
    rw [if_neg hs, hix, Int.toNat_natCast, hn]; rfl
  rw [this]
  simpa [opsV] using hv
theorem rgC (fs : List Fi) (vs : List V) (f s : List Nat) (n : Nat) (l : List Int) (hix : fieldIx fs s = (n : Int)) (hs : s ≠ []) (hn : vs[n]? = some (vL l)) (hl : l.length ≤ 16) : ruGood fs vs ⟨f, s, v0, [opL]⟩ := by
  have hlt : n < vs.length := by
    rcases Nat.lt_or_ge n vs.length with h | h
    · exact h
    · rw [List.getElem?_eq_none h] at hn; cases hn
  refine ⟨.inr ⟨by rw [hix]; omega, by rw [hix]; simpa using hlt⟩, (show 1 ≤ 8 by decide), fun i hi => ?_, fun o ho => ?_⟩
  · have : srcV fs vs ⟨f, s, v0, [opL]⟩ = vL l := by
      unfold srcV
      rw [if_neg hs, hix, Int.toNat_natCast, hn]; rfl
    rw [this]
    match i, hi with
    | 0, _ => exact good_L l hl
    | 1, _ => exact good_C l hl
  · simp only [List.mem_singleton] at ho
    subst ho
    exact inI_0
theorem ix11 : fieldIx sc1.fields sBal = ((0 : Nat) : Int) := by kernel_rfl
theorem ix12 : fieldIx sc1.fields sLog = ((1 : Nat) : Int) := by kernel_rfl
theorem ix21 : fieldIx sc2.fields sBal = ((0 : Nat) : Int) := by kernel_rfl
theorem ix22 : fieldIx sc2.fields sLog = ((1 : Nat) : Int) := by kernel_rfl
theorem ix23 : fieldIx sc2.fields sCou = ((2 : Nat) : Int) := by kernel_rfl
theorem ix31 : fieldIx sc3.fields [110] = ((0 : Nat) : Int) := by kernel_rfl
theorem good1 (b : Int) (l : List Int) (hb : inI b) (h : l.length ≤ 16) : ∀ r ∈ (idM sc1).rules, ruGood sc1.fields (w1 b l) r := by
  intro r hr
  simp only [idM, sc1, fInt, List.map_cons, List.map_nil, List.mem_cons, List.not_mem_nil, or_false] at hr
  rcases hr with rfl | rfl
  · exact rg _ _ _ _ 0 _ ix11 (by decide) rfl (good_I b hb)
  · exact rg _ _ _ _ 1 _ ix12 (by decide) rfl (good_L l h)
theorem good2 (b : Int) (l : List Int) (c : Int) (hb : inI b) (hc : inI c) (h : l.length ≤ 16) : ∀ r ∈ (idM sc2).rules, ruGood sc2.fields (w2 b l c) r := by
  intro r hr
  simp only [idM, sc2, fInt, List.map_cons, List.map_nil, List.mem_cons, List.not_mem_nil, or_false] at hr
  rcases hr with rfl | rfl | rfl
  · exact rg _ _ _ _ 0 _ ix21 (by decide) rfl (good_I b hb)
  · exact rg _ _ _ _ 1 _ ix22 (by decide) rfl (good_L l h)
  · exact rg _ _ _ _ 2 _ ix23 (by decide) rfl (good_I c hc)
theorem good3 (c : Int) (hc : inI c) : ∀ r ∈ (idM sc3).rules, ruGood sc3.fields (w3 c) r := by
  intro r hr
  simp only [idM, sc3, fInt, List.map_cons, List.map_nil, List.mem_cons, List.not_mem_nil, or_false] at hr
  subst hr
  exact rg _ _ _ _ 0 _ ix31 (by decide) rfl (good_I c hc)
theorem goodM (b : Int) (l : List Int) (hb : inI b) (h : l.length ≤ 16) : ∀ r ∈ migA.rules, ruGood sc1.fields (w1 b l) r := by
  intro r hr
  simp only [migA, migX, List.mem_cons, List.not_mem_nil, or_false] at hr
  rcases hr with rfl | rfl | rfl
  · exact rg _ _ _ _ 0 _ ix11 (by decide) rfl (good_I b hb)
  · exact rg _ _ _ _ 1 _ ix12 (by decide) rfl (good_L l h)
  · exact rgC _ _ _ _ 1 _ ix12 (by decide) rfl h
theorem mk1 (b : Int) (l : List Int) : (idM sc1).rules.map (ruV sc1.fields (w1 b l)) = w1 b l := by rfl
theorem mk2 (b : Int) (l : List Int) (c : Int) : (idM sc2).rules.map (ruV sc2.fields (w2 b l c)) = w2 b l c := by rfl
theorem mk3 (c : Int) : (idM sc3).rules.map (ruV sc3.fields (w3 c)) = w3 c := by rfl
theorem mkM (b : Int) (l : List Int) (h : l.length ≤ 16) : migA.rules.map (ruV sc1.fields (w1 b l)) = w2 b l (((0 : Nat) : Int) + l.length + ((0 : Nat) : Int)) := by
  have : migA.rules.map (ruV sc1.fields (w1 b l)) = [vI b, vL l, cntV l] := by rfl
  rw [this, cnt_eq l h]; rfl
theorem ap1 (m : Nat) (b : Int) (l : List Int) (hb : inI b) (h : l.length ≤ 16) : evH tabS (m + 41) 35 [.p (idM sc1).e, .p sc1.e, .p sc1.e, .p (.slice 5 ((w1 b l).map V.e))] [] = some (.tup [.p (.slice 5 ((w1 b l).map V.e)), .p (.int .i64 0)], []) := by
  have := q_Apply m (idM sc1).type (idM sc1).rules sc1.type sc1.type sc1.fields sc1.fields (w1 b l) (by decide) (by decide) (by show 2 ≤ 8; decide) (q_Ch1 m) (st1 b l h) (good1 b l hb h)
  rwa [mk1] at this
theorem ap2 (m : Nat) (b : Int) (l : List Int) (c : Int) (hb : inI b) (hc : inI c) (h : l.length ≤ 16) : evH tabS (m + 41) 35 [.p (idM sc2).e, .p sc2.e, .p sc2.e, .p (.slice 5 ((w2 b l c).map V.e))] [] = some (.tup [.p (.slice 5 ((w2 b l c).map V.e)), .p (.int .i64 0)], []) := by
  have := q_Apply m (idM sc2).type (idM sc2).rules sc2.type sc2.type sc2.fields sc2.fields (w2 b l c) (by decide) (by decide) (by show 3 ≤ 8; decide) (q_Ch2 m) (st2 b l c h) (good2 b l c hb hc h)
  rwa [mk2] at this
theorem ap3 (m : Nat) (c : Int) (hc : inI c) : evH tabS (m + 41) 35 [.p (idM sc3).e, .p sc3.e, .p sc3.e, .p (.slice 5 ((w3 c).map V.e))] [] = some (.tup [.p (.slice 5 ((w3 c).map V.e)), .p (.int .i64 0)], []) := by
  have := q_Apply m (idM sc3).type (idM sc3).rules sc3.type sc3.type sc3.fields sc3.fields (w3 c) (by decide) (by decide) (by show 1 ≤ 8; decide) (q_Ch3 m) (st3 c) (good3 c hc)
  rwa [mk3] at this
theorem apM (m : Nat) (b : Int) (l : List Int) (hb : inI b) (h : l.length ≤ 16) : evH tabS (m + 41) 35 [.p migA.e, .p sc1.e, .p sc2.e, .p (.slice 5 ((w1 b l).map V.e))] [] = some (.tup [.p (.slice 5 ((w2 b l (((0 : Nat) : Int) + l.length + ((0 : Nat) : Int))).map V.e)), .p (.int .i64 0)], []) := by
  have := q_Apply m migA.type migA.rules sc1.type sc2.type sc1.fields sc2.fields (w1 b l) (by decide) (by decide) (by show 2 ≤ 8; decide) (q_Ch12 m) (st1 b l h) (goodM b l hb h)
  rwa [mkM b l h] at this
end Go.Ab
end
/- Carry at the program's versions; the law RolloutSteps. -/
section
namespace Go.Ab
open Go
set_option maxHeartbeats 4000000
set_option maxRecDepth 100000
def pAt : Nat → Da
  | 0 => prog1
  | _ => prog2
def gAt : Nat → Da
  | 0 => .slice 2 []
  | 1 => .sliceE 2 [migA.e]
  | _ => .slice 2 [(idM sc2).e, (idM sc3).e]
def sAt : Nat → Sc
  | 0 => sc1
  | _ => sc2
def mAt : Nat → Mi
  | 1 => migA
  | _ => idM sc2
def lenI (l : List Int) : Int := ((0 : Nat) : Int) + l.length + ((0 : Nat) : Int)
def stAt (b : Int) (l : List Int) : Nat → List V
  | 0 => w1 b l
  | _ => w2 b l (lenI l)
def wayA (b : Int) (l : List Int) : Way := ⟨pAt, gAt, sAt, mAt, fun _ => 0, stAt b l⟩
def wayB (b : Int) (l : List Int) (c : Int) : Way := ⟨pAt, gAt, sAt, mAt, fun _ => 0, fun _ => w2 b l c⟩
def wayC (c : Int) : Way := ⟨pAt, gAt, fun _ => sc3, fun _ => idM sc3, fun _ => 1, fun _ => w3 c⟩
theorem inI_len (l : List Int) (h : l.length ≤ 16) : inI (lenI l) := ⟨by unfold lenI; omega, by unfold lenI; omega⟩
def isVer (vs : List Da) : Prop := vs.length ≤ 3 ∧ ∀ i, i < vs.length → vs[i]? = some (.agg [pAt i, gAt i])
theorem isVer0 : isVer (verS 0 0) := ⟨by decide, fun i hi => by
  match i, hi with
  | 0, _ => rfl
  | 1, _ => rfl⟩
theorem isVer1 : isVer (verS 1 0) := ⟨by decide, fun i hi => by
  match i, hi with
  | 0, _ => rfl⟩
theorem isVer6 : isVer (verS 6 0) := ⟨by decide, fun i hi => by
  match i, hi with
  | 0, _ => rfl
  | 1, _ => rfl
  | 2, _ => rfl⟩
theorem iaA (i : Nat) (h : 0 < i) (h3 : i < 3) (K : D → R) : iaG 2 (.p (gAt i)) (.p (.int .i64 0)) K = K (.ip (mAt i).e 0) := by
  match i, h, h3 with
  | 1, _, _ => rfl
  | 2, _, _ => rfl
theorem iaC (i : Nat) (h : 1 < i) (h3 : i < 3) (K : D → R) : iaG 2 (.p (gAt i)) (.p (.int .i64 1)) K = K (.ip (idM sc3).e 0) := by
  match i, h, h3 with
  | 2, _, _ => rfl
theorem carryA (m : Nat) (vs : List Da) (hvs : isVer vs) (hVR : evH tabS (m + 100) 33 [.p (.slice 2 vs)] [] = some (.tup [.p (.int .i64 0), .p (.bool true)], [])) (n : Nat) (hn : n < vs.length) (b : Int) (l : List Int) (hb : inI b) (h : l.length ≤ 16) :
    evH tabS (m + 101) 11 [.p (.slice 2 vs), .p (.str sAcc), .p (.int .i64 ((0 + 1 : Nat) : Int)), .p (.int .i64 ((0 + 1 + n : Nat) : Int)), .p (.slice 5 ((w1 b l).map V.e))] [] = some (.tup [.p (.slice 5 ((stAt b l (0 + n)).map V.e)), .p (.int .i64 0)], []) := by
  have hl := hvs.1
  refine q_Carry m (wayA b l) vs sAcc 0 n (w1 b l) ⟨by omega, by omega, fun i hi => hvs.2 i (by omega), fun i K h0 hi => iaA i h0 (by omega) K⟩ (by show 2 ≤ 20; decide) (by show 2 ≤ 8; decide) hVR ?_ (st1 b l h) (q_Id1 (m + 40)) (ap1 (m + 59) b l hb h) ?_ ?_
  · intro i _ hi
    match i, (show i < 3 by omega) with
    | 0, _ => exact q_Of11 (m + 40)
    | 1, _ => exact q_Of21 (m + 40)
    | 2, _ => exact q_Of21 (m + 40)
  · intro i h0 hi
    match i, h0, (show i < 3 by omega) with
    | 1, _, _ => exact q_Ix2 (m + 60)
    | 2, _, _ => exact q_Ix31 (m + 60)
  · intro i _ hi
    match i, (show i < 2 by omega) with
    | 0, _ => exact apM (m + 59) b l hb h
    | 1, _ => exact ap2 (m + 59) b l (lenI l) hb (inI_len l h) h
theorem carryB (m : Nat) (vs : List Da) (hvs : isVer vs) (hVR : evH tabS (m + 100) 33 [.p (.slice 2 vs)] [] = some (.tup [.p (.int .i64 0), .p (.bool true)], [])) (F n : Nat) (hF : 0 < F) (hn : F + n < vs.length) (b : Int) (l : List Int) (c : Int) (hb : inI b) (hc : inI c) (h : l.length ≤ 16) :
    evH tabS (m + 101) 11 [.p (.slice 2 vs), .p (.str sAcc), .p (.int .i64 ((F + 1 : Nat) : Int)), .p (.int .i64 ((F + 1 + n : Nat) : Int)), .p (.slice 5 ((w2 b l c).map V.e))] [] = some (.tup [.p (.slice 5 ((w2 b l c).map V.e)), .p (.int .i64 0)], []) := by
  have hl := hvs.1
  have es : (wayB b l c).sch F = sc2 := by
    match F, hF with
    | F + 1, _ => rfl
  refine q_Carry m (wayB b l c) vs sAcc F n (w2 b l c) ⟨hn, by omega, fun i hi => hvs.2 i (by omega), fun i K h0 hi => iaA i (by omega) (by omega) K⟩ (by show 3 ≤ 20; decide) (by rw [es]; decide) hVR ?_ (by rw [es]; exact st2 b l c h) (by rw [es]; exact q_Id2 (m + 40)) (by rw [es]; exact ap2 (m + 59) b l c hb hc h) ?_ ?_
  · intro i h0 hi
    match i, (show 0 < i by omega), (show i < 3 by omega) with
    | 1, _, _ => exact q_Of21 (m + 40)
    | 2, _, _ => exact q_Of21 (m + 40)
  · intro i h0 hi
    match i, (show 1 < i by omega), (show i < 3 by omega) with
    | 2, _, _ => exact q_Ix31 (m + 60)
  · intro i h0 hi
    match i, (show 0 < i by omega), (show i < 2 by omega) with
    | 1, _, _ => exact ap2 (m + 59) b l c hb hc h
theorem carryC (m : Nat) (vs : List Da) (hvs : isVer vs) (hVR : evH tabS (m + 100) 33 [.p (.slice 2 vs)] [] = some (.tup [.p (.int .i64 0), .p (.bool true)], [])) (F n : Nat) (hF : 0 < F) (hn : F + n < vs.length) (c : Int) (hc : inI c) :
    evH tabS (m + 101) 11 [.p (.slice 2 vs), .p (.str sCnt), .p (.int .i64 ((F + 1 : Nat) : Int)), .p (.int .i64 ((F + 1 + n : Nat) : Int)), .p (.slice 5 ((w3 c).map V.e))] [] = some (.tup [.p (.slice 5 ((w3 c).map V.e)), .p (.int .i64 0)], []) := by
  have hl := hvs.1
  refine q_Carry m (wayC c) vs sCnt F n (w3 c) ⟨hn, by omega, fun i hi => hvs.2 i (by omega), fun i K h0 hi => iaC i (by omega) (by omega) K⟩ (by show 1 ≤ 20; decide) (by show 1 ≤ 8; decide) hVR ?_ (st3 c) (q_Id3 (m + 40)) (ap3 (m + 59) c hc) ?_ ?_
  · intro i h0 hi
    match i, (show 0 < i by omega), (show i < 3 by omega) with
    | 1, _, _ => exact q_Of22 (m + 40)
    | 2, _, _ => exact q_Of22 (m + 40)
  · intro i h0 hi
    match i, (show 1 < i by omega), (show i < 3 by omega) with
    | 2, _, _ => exact q_Ix32 (m + 60)
  · intro i h0 hi
    exact ap3 (m + 59) c hc
end Go.Ab
end
/- The law RolloutSteps on letters. -/
section
namespace Go.Ab
open Go
set_option maxHeartbeats 4000000
set_option maxRecDepth 100000
theorem g_awk (m : Nat) (raw : Bool) (hp : List Ob) (K : KV) : callG (evH tabS (m + 1)) 8 raw [] hp K = K (.p (.bool true)) hp :=
  call_known rfl ((evH_prim (xs := []) (show tabS 8 = some (.prim kW) by kernel_rfl) m).trans (by kernel_rfl)) rfl
theorem r_IntV (m : Nat) (n : Int) : runH h14 (evH tabS (m + 1)) (m + 1) [.cell 2 5 true] true [.p (.int .i64 n)] [] = some (.p (.agg [.int .i64 1, .int .i64 n, .str [], .slice 1 [], .slice 1 []]), []) := by
  simp -implicitDefEqProofs (maxSteps := 1000000) only [h14, go_sem, ↓reduceIte, Nat.reduceEqDiff, Nat.reduceAdd, Nat.reduceSub, Nat.reduceBEq, Int.reduceEq, Int.reduceLT, Int.reduceLE, Int.reduceNeg, Nat.reduceLeDiff, finK_v1]
theorem q_IntV (m : Nat) (n : Int) : evH tabS (m + 2) 14 [.p (.int .i64 n)] [] = some (.p (.agg [.int .i64 1, .int .i64 n, .str [], .slice 1 [], .slice 1 []]), []) := (evH_code (show tabS 14 = some (.code h14 [.cell 2 5 true] true) by kernel_rfl) (m + 1) _ _).trans (r_IntV m n)
theorem g_IntV (m : Nat) (n : Int) (raw : Bool) (hp : List Ob) (K : KV) : callG (evH tabS (m + 2)) 14 raw [.p (.int .i64 n)] hp K = K (.p (.agg [.int .i64 1, .int .i64 n, .str [], .slice 1 [], .slice 1 []])) hp := call_known rfl (q_IntV m n) rfl
theorem gF_IntV (m : Nat) (n : Int) (raw : Bool) (hp : List Ob) (K : KF) : callF (evH tabS (m + 2)) 14 raw [.p (.int .i64 n)] hp K = K (.p (.agg [.int .i64 1, .int .i64 n, .str [], .slice 1 [], .slice 1 []])) hp (footE hp) := callF_known rfl (q_IntV m n) rfl
theorem bslV (call : CallF) (base kk : Nat) (z x a b c d : Da) (g : Tag) (w : Nat) (es : List Da) (hp : List Ob) (k : KV) (hx : (cells x).length = 5) : genW call base (.bsl 5 z 2 [0, 1]) kk [.p x, .agg [.p a, .p b, .p c, .p d, .sl g w es]] hp k = k (.sl .exact 5 [x, .agg [a, b, c, d, .slice w es]]) hp := by
  rw [genW_eq]
  have : aBsl 5 z 2 [0, 1] [.p x, .agg [.p a, .p b, .p c, .p d, .sl g w es]] [] [] = some (.sl .exact 5 [x, .agg [a, b, c, d, .slice w es]], [], []) := by
    have hp : pur.purL [] [.p x, .agg [.p a, .p b, .p c, .p d, .sl g w es]] = some [x, .agg [a, b, c, d, .slice w es]] := rfl
    have h2 : ([x, .agg [a, b, c, d, .slice w es]] : List Da).all (fun e => Nat.beq (cells e).length 5) = true := by
      simp only [List.all_cons, hx]
      rfl
    unfold aBsl
    rw [show ([] : List Nat).zip ([] : List Ob) = [] from rfl, hp]
    simp only [h2, cond_true]
    rfl
  have hn : need (.bsl 5 z 2 [0, 1]) [.p x, .agg [.p a, .p b, .p c, .p d, .sl g w es]] hp = [] := rfl
  simp only [genV, makes, Bool.not_false, Bool.true_or, cond_true, hn, act, List.map_nil, this]
  rfl
theorem call_norm {call : CallF} {f : Nat} {vs : List D} {hp : List Ob} {k : KV} {r : D} (h1 : dids.didsL vs = []) (h2 : (vs.map norm).all isP = true) (hc : call f (vs.map norm) [] = some (r, [])) (hr : pureD r = true) : callG call f false vs hp k = k r hp := by
  rw [← callG_eq (base := 0) (kk := 0)]
  have hn : need (.call f false) vs hp = [] := by
    show close hp closeFuel (dids.didsL vs) [] = []
    rw [h1, close_nil]
  simp only [genV, makes, Bool.not_false, Bool.true_or, cond_true, cond_false, hn, List.map_nil, act]
  rw [doCall_pure h2, hc]
  simp only [List.map_nil, List.length_nil, mapD_pure _ hr]
  rfl
theorem vr6 (m : Nat) : evH tabS (m + 100) 33 [.p (.slice 2 (verS 6 0))] [] = some (.tup [.p (.int .i64 0), .p (.bool true)], []) := q_goes (m + 99) 6 0 (q_VR60 (m + 99)) rfl rfl
theorem q_Steps (m : Nat) (b : Int) (l : List Int) (hb : inI b) : evH tabS (m + 110) 5 [.p (.int .i64 b), .p (.slice 1 (l.map (.int .i64)))] [] = some (.p (.bool true), []) := by
  refine (evH_code (show tabS 5 = some (.code h5 [.t 4] true) by kernel_rfl) (m + 109) _ _).trans ?_
  by_cases h : l.length ≤ 16
  · have h16 : ¬ (16 : Int) < l.length := by omega
    have gch := fun (raw : Bool) (hp : List Ob) (K : KV) => call_known (raw := raw) (hp := hp) (k := K) rfl (q_ch6 0 (m + 78)) rfl
    have f13 : evH tabS (m + 109) 11 [.p (.slice 2 (verS 6 0)), .p (.str sAcc), .p (.int .i64 1), .p (.int .i64 3), .p (.slice 5 ((w1 b l).map V.e))] [] = some (.tup [.p (.slice 5 ((w2 b l (lenI l)).map V.e)), .p (.int .i64 0)], []) := carryA (m + 8) _ isVer6 (vr6 (m + 8)) 2 (by decide) b l hb h
    have f12 : evH tabS (m + 109) 11 [.p (.slice 2 (verS 6 0)), .p (.str sAcc), .p (.int .i64 1), .p (.int .i64 2), .p (.slice 5 ((w1 b l).map V.e))] [] = some (.tup [.p (.slice 5 ((w2 b l (lenI l)).map V.e)), .p (.int .i64 0)], []) := carryA (m + 8) _ isVer6 (vr6 (m + 8)) 1 (by decide) b l hb h
    have f11 : evH tabS (m + 109) 11 [.p (.slice 2 (verS 6 0)), .p (.str sAcc), .p (.int .i64 1), .p (.int .i64 1), .p (.slice 5 ((w1 b l).map V.e))] [] = some (.tup [.p (.slice 5 ((w1 b l).map V.e)), .p (.int .i64 0)], []) := carryA (m + 8) _ isVer6 (vr6 (m + 8)) 0 (by decide) b l hb h
    have f23 : evH tabS (m + 109) 11 [.p (.slice 2 (verS 6 0)), .p (.str sAcc), .p (.int .i64 2), .p (.int .i64 3), .p (.slice 5 ((w2 b l (lenI l)).map V.e))] [] = some (.tup [.p (.slice 5 ((w2 b l (lenI l)).map V.e)), .p (.int .i64 0)], []) := carryB (m + 8) _ isVer6 (vr6 (m + 8)) 1 1 (by decide) (by decide) b l (lenI l) hb (inI_len l h) h
    have s1 := q_SameValues (m + 86) (w1 b l) (by show 2 ≤ 20; decide) (by
      intro v hv
      simp only [w1, List.mem_cons, List.not_mem_nil, or_false] at hv
      rcases hv with rfl | rfl
      · exact ⟨Nat.zero_le _, Nat.zero_le _⟩
      · exact ⟨h, Nat.zero_le _⟩)
    have s2 := q_SameValues (m + 86) (w2 b l (lenI l)) (by show 3 ≤ 20; decide) (by
      intro v hv
      simp only [w2, List.mem_cons, List.not_mem_nil, or_false] at hv
      rcases hv with rfl | rfl | rfl
      · exact ⟨Nat.zero_le _, Nat.zero_le _⟩
      · exact ⟨h, Nat.zero_le _⟩
      · exact ⟨Nat.zero_le _, Nat.zero_le _⟩)
    have sv := q_validState (m + 83) sc2.type sc2.fields (w2 b l (lenI l)) (by decide) (by show 3 ≤ 20; decide)
    rw [st2 b l (lenI l) h] at sv
    have hof := fun (raw : Bool) (hp : List Ob) (K : KV) => call_known (raw := raw) (hp := hp) (k := K) rfl (q_Of21 (m + 49)) rfl
    have hat : at? (verS 6 0) 2 = some (.agg [prog2, gAt 2]) := rfl
    have c13 := fun (g : Tag) (hp : List Ob) (K : KV) => call_norm (vs := [.p (.slice 2 (verS 6 0)), .p (.str sAcc), .p (.int .i64 1), .p (.int .i64 3), .sl g 5 ((w1 b l).map V.e)]) (hp := hp) (k := K) rfl rfl f13 rfl
    have c12 := fun (g : Tag) (hp : List Ob) (K : KV) => call_norm (vs := [.p (.slice 2 (verS 6 0)), .p (.str sAcc), .p (.int .i64 1), .p (.int .i64 2), .sl g 5 ((w1 b l).map V.e)]) (hp := hp) (k := K) rfl rfl f12 rfl
    have c11 := fun (g : Tag) (hp : List Ob) (K : KV) => call_norm (vs := [.p (.slice 2 (verS 6 0)), .p (.str sAcc), .p (.int .i64 1), .p (.int .i64 1), .sl g 5 ((w1 b l).map V.e)]) (hp := hp) (k := K) rfl rfl f11 rfl
    have c23 := fun (raw : Bool) (hp : List Ob) (K : KV) => call_known (raw := raw) (hp := hp) (k := K) rfl f23 rfl
    have cs1 := fun (g : Tag) (hp : List Ob) (K : KV) => call_norm (vs := [.p (.slice 5 ((w1 b l).map V.e)), .sl g 5 ((w1 b l).map V.e)]) (hp := hp) (k := K) rfl rfl s1 rfl
    have cs2 := fun (raw : Bool) (hp : List Ob) (K : KV) => call_known (raw := raw) (hp := hp) (k := K) rfl s2 rfl
    have csv := fun (raw : Bool) (hp : List Ob) (K : KV) => call_known (raw := raw) (hp := hp) (k := K) rfl sv rfl
    simp only [w1, w2, vI, vL, V.e, List.map_cons, List.map_nil, sAcc, sc2, Sc.e, Fi.e, fInt] at c13 c12 c11 c23 cs1 cs2 csv hof
    simp -implicitDefEqProofs (maxSteps := 1000000) only [h5, go_sem, ↓reduceIte, Nat.reduceEqDiff, Nat.reduceAdd, Nat.reduceSub, Nat.reduceBEq, Int.reduceEq, Int.reduceLT, Int.reduceLE, Int.reduceNeg, Nat.reduceLeDiff, g_awk, h16, gch, g_IntV, bslV, c13, c12, c11, c23, cs1, cs2, csv, hof, hat, ext_tup]
  · have h16 : (16 : Int) < l.length := by omega
    simp -implicitDefEqProofs (maxSteps := 1000000) only [h5, go_sem, ↓reduceIte, Nat.reduceEqDiff, Nat.reduceAdd, Nat.reduceSub, Nat.reduceBEq, Int.reduceEq, Int.reduceLT, Int.reduceLE, Int.reduceNeg, Nat.reduceLeDiff, g_awk, eq_true h16]
end Go.Ab
end
