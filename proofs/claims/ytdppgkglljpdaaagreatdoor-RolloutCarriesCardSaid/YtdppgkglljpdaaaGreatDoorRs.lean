/- The evaluator and its laws, part Rs: S8 S9 S10 S11 S12 S13 S14 S15 S17 S18 S19 S20 S21 S22 -/
import Derived.Test.YtdppgkglljpdaaaGreatDoorRr
import Derived.Test.YtdppgkglljpdaaaGreatDoorAbZ
set_option linter.all false
/- Runs with letters: a migrator that Check accepts, applied to a valid state. -/
section
namespace Go.Ab
open Go
set_option maxHeartbeats 4000000
set_option maxRecDepth 20000
def opsV (os : List Op) (v : V) : V := os.foldl (fun v o => (convB o v).1) v
def srcV (fs : List Fi) (vs : List V) (r : Ru) : V := if r.source = [] then r.init else vs[(fieldIx fs r.source).toNat]?.getD v0
def ruV (fs : List Fi) (vs : List V) (r : Ru) : V := opsV r.ops (srcV fs vs r)
def ruE (fs : List Fi) (vs : List V) (r : Ru) : Da := (ruV fs vs r).e
def vGood (v : V) : Prop := inI v.n ∧ v.is.length ≤ 1000 ∧ v.ls.length ≤ 1000
def ruGood (fs : List Fi) (vs : List V) (r : Ru) : Prop :=
  (r.source = [] ∨ (0 ≤ fieldIx fs r.source ∧ (fieldIx fs r.source).toNat < vs.length)) ∧ r.ops.length ≤ 8 ∧ (∀ i, i ≤ r.ops.length → vGood (opsV (r.ops.take i) (srcV fs vs r))) ∧ ∀ o ∈ r.ops, inI o.arg.n
theorem opsV_succ (os : List Op) (v : V) (i : Nat) (h : i < os.length) : opsV (os.take (i + 1)) v = (convB os[i] (opsV (os.take i) v)).1 := by
  unfold opsV
  rw [← List.take_append_getElem h, List.foldl_append]; rfl
theorem finK_arrP (o : Ob) (es : List Da) (len z : Nat) (x : Da) (rest : List Ob) (h : es.length = len) : finK 0 true [.arr 1 0 len z, .p x] (o :: .arr es :: rest) = some (.tup [.p (.slice z es), .p x], []) := by
  subst h
  have : finK 0 true [.arr 1 0 es.length z, .p x] (o :: .arr es :: rest) = some (.tup [.p (.slice z (es.take es.length)), .p x], []) := by
    rw [finK_eq]; rfl
  rw [this, List.take_length]
theorem g_ConvertV (m : Nat) (o : Op) (v : V) (hn : inI v.n) (ha : inI o.arg.n) (raw : Bool) (hp : List Ob) (K : KV) : callG (evH tabS (m + 31)) 59 raw [.p (.agg [.int .i64 o.kind, .int .i64 o.arg.k, .int .i64 o.arg.n, .str o.arg.s, .slice 1 (o.arg.is.map (.int .i64)), .slice 1 (o.arg.ls.map .str)]), .p (.agg [.int .i64 v.k, .int .i64 v.n, .str v.s, .slice 1 (v.is.map (.int .i64)), .slice 1 (v.ls.map .str)])] hp K =
    K (.tup [.p (convB o v).1.e, .p (.bool (convB o v).2)]) hp := g_Convert m o.kind o.arg v hn ha raw hp K
def V.bx (v : V) : Ob := .box [.p (.int .i64 v.k), .p (.int .i64 v.n), .p (.str v.s), .p (.slice 1 (v.is.map (.int .i64))), .p (.slice 1 (v.ls.map .str))]
def Op.bx (o : Op) : Ob := .box [.p (.int .i64 o.kind), .p (.int .i64 o.arg.k), .p (.int .i64 o.arg.n), .p (.str o.arg.s), .p (.slice 1 (o.arg.is.map (.int .i64))), .p (.slice 1 (o.arg.ls.map .str))]
def Ru.bx (r : Ru) : Ob := .box [.p (.str r.field), .p (.str r.source), .p (.int .i64 r.init.k), .p (.int .i64 r.init.n), .p (.str r.init.s), .p (.slice 1 (r.init.is.map (.int .i64))), .p (.slice 1 (r.init.ls.map .str)), .p (.slice 6 (r.ops.map Op.e))]
attribute [go_sem] V.bx Op.bx Ru.bx
theorem apply_inner (m : Nat) (vs : List V) (ty : List Nat) (fs : List Fi) (out : List Da) (j : Nat) (rs : List Ru) (os : List Op) (v : V) (hos : os.length ≤ 8) (hg : ∀ i, i ≤ os.length → vGood (opsV (os.take i) v)) (ha : ∀ o ∈ os, inI o.arg.n) (rb : Ob) (ke : Nat → K) (kr : K) :
    loopK 0 [3, 5, 11, 14, 29, 30, 31, 51, 52, 53] (fun tm hp k => l35_1 (evH tabS (m + 40)) (m + 40) 0 tm hp k ke kr) (m + 40)
      (.cons 3 (.p (.slice 5 (vs.map V.e))) (.cons 5 (.box 0 0) (.cons 11 (.arr 1 0 j 5) (.cons 14 (.box 3 0) (.cons 29 (.p (.slice 8 (rs.map Ru.e))) (.cons 30 (.p (.int .i64 rs.length)) (.cons 31 (.p (.int .i64 j)) (.cons 51 (.p (.slice 6 (os.map Op.e))) (.cons 52 (.p (.int .i64 os.length)) (.cons 53 (.p (.int .i64 0)) .nil))))))))))
      [.box [.p (.str ty), .p (.slice 7 (fs.map Fi.e))], .arr out, rb, v.bx] =
    ke 2 (.cons 3 (.p (.slice 5 (vs.map V.e))) (.cons 5 (.box 0 0) (.cons 11 (.arr 1 0 j 5) (.cons 14 (.box 2 0) (.cons 29 (.p (.slice 8 (rs.map Ru.e))) (.cons 30 (.p (.int .i64 rs.length)) (.cons 31 (.p (.int .i64 j)) (.cons 51 (.p (.slice 6 (os.map Op.e))) (.cons 52 (.p (.int .i64 os.length)) (.cons 53 (.p (.int .i64 os.length)) (.cons 54 (.p (.bool false)) .nil)))))))))))
      [.box [.p (.str ty), .p (.slice 7 (fs.map Fi.e))], .arr out, (opsV os v).bx] := by
  have e : os.take os.length = os := List.take_length
  refine loop_map (m := 0) (live := [3, 5, 11, 14, 29, 30, 31, 51, 52, 53]) (body := fun tm hp k => l35_1 (evH tabS (m + 40)) (m + 40) 0 tm hp k ke kr) os.length
    (fun i => .cons 3 (.p (.slice 5 (vs.map V.e))) (.cons 5 (.box 0 0) (.cons 11 (.arr 1 0 j 5) (.cons 14 (.box 2 0) (.cons 29 (.p (.slice 8 (rs.map Ru.e))) (.cons 30 (.p (.int .i64 rs.length)) (.cons 31 (.p (.int .i64 j)) (.cons 51 (.p (.slice 6 (os.map Op.e))) (.cons 52 (.p (.int .i64 os.length)) (.cons 53 (.p (.int .i64 (i : Nat))) .nil))))))))))
    (fun i => [.box [.p (.str ty), .p (.slice 7 (fs.map Fi.e))], .arr out, (opsV (os.take i) v).bx])
    (fun i => .cons 3 (.p (.slice 5 (vs.map V.e))) (.cons 5 (.box 0 0) (.cons 11 (.arr 1 0 j 5) (.cons 14 (.box 2 0) (.cons 29 (.p (.slice 8 (rs.map Ru.e))) (.cons 30 (.p (.int .i64 rs.length)) (.cons 31 (.p (.int .i64 j)) (.cons 51 (.p (.slice 6 (os.map Op.e))) (.cons 52 (.p (.int .i64 os.length)) (.cons 53 (.p (.int .i64 (i + 1 : Nat))) .nil))))))))))
    (fun i => [.box [.p (.str ty), .p (.slice 7 (fs.map Fi.e))], .arr out, (opsV (os.take (i + 1)) v).bx, (os[i]?.getD ⟨0, v0⟩).bx])
    _ (fun i _ => by kernel_rfl)
    (fun i kn hi => by
      have hv := hg i (by omega)
      rw [opsV_succ os v i hi]
      have hgc := fun (raw : Bool) (hp : List Ob) (K : KV) => g_ConvertV (m + 9) os[i] (opsV (os.take i) v) hv.1 (ha _ (List.getElem_mem hi)) raw hp K
      generalize opsV (os.take i) v = w at *
      generalize convB os[i] w = q at *
      simp -implicitDefEqProofs (maxSteps := 1000000) only [l35_1, p35_1, go_sem, at_map _ os i hi, wrap_succ i (by omega), Int.ofNat_lt.mpr hi, List.getElem?_eq_getElem hi, Option.getD_some, hgc, ext_tup])
    (fun kn => by
      rw [e]
      simp -implicitDefEqProofs (maxSteps := 1000000) only [l35_1, p35_1, go_sem, Int.lt_irrefl, if_false]) (m + 40) _ _ (by omega) (by kernel_rfl)
theorem q_Apply (m : Nat) (mt : List Nat) (rs : List Ru) (at' bt : List Nat) (fs gs : List Fi) (vs : List V) (hr : rs.length ≤ 8) (hf : fs.length ≤ 8) (hv : vs.length ≤ 8)
    (hchk : evH tabS (m + 40) 57 [.p (.agg [.str mt, .slice 8 (rs.map Ru.e)]), .p (.agg [.str at', .slice 7 (fs.map Fi.e)]), .p (.agg [.str bt, .slice 7 (gs.map Fi.e)])] [] = some (.p (.int .i64 0), []))
    (hst : stateOk ⟨at', fs⟩ vs = true) (hb : ∀ r ∈ rs, ruGood fs vs r) :
    evH tabS (m + 41) 35 [.p (.agg [.str mt, .slice 8 (rs.map Ru.e)]), .p (.agg [.str at', .slice 7 (fs.map Fi.e)]), .p (.agg [.str bt, .slice 7 (gs.map Fi.e)]), .p (.slice 5 (vs.map V.e))] [] =
      some (.tup [.p (.slice 5 ((rs.map (ruV fs vs)).map V.e)), .p (.int .i64 0)], []) := by
  refine (evH_code (show tabS 35 = some (.code h35 [.t 8, .t 9] true) by kernel_rfl) (m + 40) _ _).trans ?_
  have gc := fun (raw : Bool) (hp : List Ob) (K : KV) => call_known (raw := raw) (hp := hp) (k := K) rfl hchk rfl
  have L := fun (ke : Nat → K) (kr : K) => loop_map (m := 0) (live := [3, 5, 11, 29, 30, 31]) (body := fun tm hp k => l35_2 (evH tabS (m + 40)) (m + 40) 0 tm hp k ke kr) rs.length
    (fun j => .cons 3 (.p (.slice 5 (vs.map V.e))) (.cons 5 (.box 0 0) (.cons 11 (.arr 1 0 j 5) (.cons 29 (.p (.slice 8 (rs.map Ru.e))) (.cons 30 (.p (.int .i64 rs.length)) (.cons 31 (.p (.int .i64 (j : Nat))) .nil))))))
    (fun j => [.box [.p (.str at'), .p (.slice 7 (fs.map Fi.e))], .arr ((rs.take j).map (ruE fs vs))])
    (fun j => .cons 3 (.p (.slice 5 (vs.map V.e))) (.cons 5 (.box 0 0) (.cons 11 (.arr 3 0 (j + 1) 5) (.cons 29 (.p (.slice 8 (rs.map Ru.e))) (.cons 30 (.p (.int .i64 rs.length)) (.cons 31 (.p (.int .i64 (j + 1 : Nat))) .nil))))))
    (fun j => [.box [.p (.str at'), .p (.slice 7 (fs.map Fi.e))], .dead, (ruV fs vs (rs[j]?.getD ⟨[], [], v0, []⟩)).bx, .arr ((rs.take (j + 1)).map (ruE fs vs))])
    (ke 0 (.cons 3 (.p (.slice 5 (vs.map V.e))) (.cons 5 (.box 0 0) (.cons 11 (.arr 1 0 rs.length 5) (.cons 29 (.p (.slice 8 (rs.map Ru.e))) (.cons 30 (.p (.int .i64 rs.length)) (.cons 31 (.p (.int .i64 rs.length)) (.cons 32 (.p (.bool false)) .nil))))))) [.box [.p (.str at'), .p (.slice 7 (fs.map Fi.e))], .arr ((rs.take rs.length).map (ruE fs vs))])
    (fun j _ => by kernel_rfl)
    (fun j kn hj => by
      obtain ⟨h1, h2, h3, h4⟩ := hb rs[j] (List.getElem_mem hj)
      have hlen : (rs.take j).length = j := by rw [List.length_take]; omega
      have h30 := h3 0 (Nat.zero_le _)
      have L1 := fun (v : V) (hg : ∀ i, i ≤ rs[j].ops.length → vGood (opsV (rs[j].ops.take i) v)) => apply_inner m vs at' fs ((rs.take j).map (ruE fs vs)) j rs rs[j].ops v h2 hg h4
      rw [← take_snoc (ruE fs vs) rs j hj]
      by_cases hs : rs[j].source = []
      · have e0 : srcV fs vs rs[j] = rs[j].init := by unfold srcV; rw [if_pos hs]
        rw [e0] at h3 h30
        have eR : ruV fs vs rs[j] = opsV rs[j].ops rs[j].init := by unfold ruV; rw [e0]
        have eE : ruE fs vs rs[j] = (opsV rs[j].ops rs[j].init).e := by unfold ruE; rw [eR]
        have L1 := L1 rs[j].init h3
        simp only [V.bx] at L1
        simp only [opsV, List.take_zero, List.foldl_nil] at h30
        simp -implicitDefEqProofs (maxSteps := 1000000) only [l35_2, p35_2, go_sem, at_map _ rs j hj, wrap_succ j (by omega), Int.ofNat_lt.mpr hj, List.getElem?_eq_getElem hj, Option.getD_some, eq_true hs, g_cloneValue, h30.2.1, h30.2.2, L1, eR, eE, app_own1, List.length_map, hlen, show j ≤ 1000 by omega]
      · obtain ⟨p1, p2⟩ := h1.resolve_left hs
        have e0 : srcV fs vs rs[j] = vs[(fieldIx fs rs[j].source).toNat] := by unfold srcV; rw [if_neg hs, List.getElem?_eq_getElem p2]; rfl
        rw [e0] at h3 h30
        have eR : ruV fs vs rs[j] = opsV rs[j].ops vs[(fieldIx fs rs[j].source).toNat] := by unfold ruV; rw [e0]
        have eE : ruE fs vs rs[j] = (opsV rs[j].ops vs[(fieldIx fs rs[j].source).toNat]).e := by unfold ruE; rw [eR]
        have ha := at_map V.e vs _ p2
        rw [Int.toNat_of_nonneg p1] at ha
        generalize vs[(fieldIx fs rs[j].source).toNat] = w at *
        have L1 := L1 w h3
        simp only [V.bx] at L1
        simp only [opsV, List.take_zero, List.foldl_nil] at h30
        simp -implicitDefEqProofs (maxSteps := 1000000) only [l35_2, p35_2, go_sem, at_map _ rs j hj, wrap_succ j (by omega), Int.ofNat_lt.mpr hj, List.getElem?_eq_getElem hj, Option.getD_some, hs, g_fieldIndex, show fs.length ≤ 20 by omega, ha, g_cloneValue, h30.2.1, h30.2.2, L1, eR, eE, app_own1, List.length_map, hlen, show j ≤ 1000 by omega])
    (fun kn => by
      simp -implicitDefEqProofs (maxSteps := 1000000) only [l35_2, p35_2, go_sem, Int.lt_irrefl, if_false]) (m + 40)
    (.cons 11 (.arr 3 0 0 5) (.cons 3 (.p (.slice 5 (vs.map V.e))) (.cons 5 (.box 1 0) (.cons 11 (.sl .nil 5 []) (.cons 29 (.p (.slice 8 (rs.map Ru.e))) (.cons 30 (.p (.int .i64 rs.length)) (.cons 31 (.p (.int .i64 0)) .nil))))))) [.box [.p (.str mt), .p (.slice 8 (rs.map Ru.e))], .box [.p (.str at'), .p (.slice 7 (fs.map Fi.e))], .box [.p (.str bt), .p (.slice 7 (gs.map Fi.e))], .arr []] (by omega) (by kernel_rfl)
  simp -implicitDefEqProofs (maxSteps := 1000000) only [h35, p35, go_sem, gc, g_validState, show fs.length ≤ 20 by omega, show vs.length ≤ 20 by omega, hst, L, List.take_length, finK_arrP, List.length_map]
  simp only [List.map_map]
  rfl
end Go.Ab
end
/- Runs with letters: the reference's Apply. -/
section
namespace Go.Ab
open Go
set_option maxHeartbeats 4000000
set_option maxRecDepth 20000
theorem r_fieldOf (m : Nat) (ty : List Nat) (fs : List Fi) (nm : List Nat) (hl : fs.length ≤ 20) : runH h67 (evH tabS (m + 23)) (m + 23) [.t 4] true [.p (.agg [.str ty, .slice 7 (fs.map Fi.e)]), .p (.str nm)] [] = some (.p (.int .i64 (fieldIx fs nm)), []) := by
  have L := fun (ke : Nat → K) (kr : K) => loop_find (m := 0) (live := [1, 2, 5]) (body := fun tm hp k => l67_1 (evH tabS (m + 23)) (m + 23) 0 tm hp k ke kr) fs.length
    (fun j => .cons 1 (.p (.str nm)) (.cons 2 (.box 0 0) (.cons 5 (.p (.int .i64 (j : Nat))) .nil))) (fun _ => [.box [.p (.str ty), .p (.slice 7 (fs.map Fi.e))]])
    (fun j => .cons 1 (.p (.str nm)) (.cons 2 (.box 0 0) (.cons 5 (.p (.int .i64 (j + 1 : Nat))) .nil))) (fun _ => [.box [.p (.str ty), .p (.slice 7 (fs.map Fi.e))]])
    (fun j => !decide ((fs[j]?.map Fi.name) = some nm)) (fun j => kr (.cons 4 (.p (.int .i64 (j : Nat))) .nil) [.box [.p (.str ty), .p (.slice 7 (fs.map Fi.e))]]) (ke 0 (.cons 1 (.p (.str nm)) (.cons 2 (.box 0 0) (.cons 5 (.p (.int .i64 fs.length)) (.cons 10 (.p (.bool false)) .nil)))) [.box [.p (.str ty), .p (.slice 7 (fs.map Fi.e))]])
    (fun j _ => by kernel_rfl)
    (fun j kn hj => by
      by_cases h : fs[j].name = nm
      · simp -implicitDefEqProofs (maxSteps := 1000000) only [l67_1, p67_1, go_sem, at_map _ fs j hj, wrap_succ j (by omega), Int.ofNat_lt.mpr hj, List.getElem?_eq_getElem hj, Option.map_some, Option.some.injEq, eq_true h]
      · simp -implicitDefEqProofs (maxSteps := 1000000) only [l67_1, p67_1, go_sem, at_map _ fs j hj, wrap_succ j (by omega), Int.ofNat_lt.mpr hj, List.getElem?_eq_getElem hj, Option.map_some, Option.some.injEq, h])
    (fun kn => by
      simp -implicitDefEqProofs (maxSteps := 1000000) only [l67_1, p67_1, go_sem, Int.lt_irrefl, if_false]) (m + 23)
    (.cons 1 (.p (.str nm)) (.cons 2 (.box 0 0) (.cons 5 (.p (.int .i64 0)) .nil))) [.box [.p (.str ty), .p (.slice 7 (fs.map Fi.e))]] (by omega) (by kernel_rfl)
  simp -implicitDefEqProofs (maxSteps := 1000000) only [h67, p67, go_sem, L]
  unfold fieldIx findR
  split <;> simp_all
theorem q_fieldOf (m : Nat) (ty : List Nat) (fs : List Fi) (nm : List Nat) (hl : fs.length ≤ 20) : evH tabS (m + 24) 67 [.p (.agg [.str ty, .slice 7 (fs.map Fi.e)]), .p (.str nm)] [] = some (.p (.int .i64 (fieldIx fs nm)), []) := (evH_code (show tabS 67 = some (.code h67 [.t 4] true) by kernel_rfl) (m + 23) _ _).trans (r_fieldOf m ty fs nm hl)
theorem g_fieldOf (m : Nat) (ty : List Nat) (fs : List Fi) (nm : List Nat) (hl : fs.length ≤ 20) (raw : Bool) (hp : List Ob) (K : KV) : callG (evH tabS (m + 24)) 67 raw [.p (.agg [.str ty, .slice 7 (fs.map Fi.e)]), .p (.str nm)] hp K = K (.p (.int .i64 (fieldIx fs nm))) hp := call_known rfl (q_fieldOf m ty fs nm hl) rfl
theorem app_own2 {call : CallF} {base esz bytes kk len : Nat} {o o' : Ob} {rest : List Ob} {es : List Da} {x : Da} {g : Tag} {k : KV} (hl : es.length = len) (h1 : len ≤ 1000) (hb : bytes ≤ 1000) (hu : isUnborn (obF (o :: o' :: .arr es :: rest) (base + kk)) = true) :
    appG call base esz bytes kk (.arr 2 0 len esz) (.sl g esz [x]) (o :: o' :: .arr es :: rest) k = k (.arr (base + kk) 0 (len + 1) esz) (setOb (o :: o' :: .dead :: rest) (base + kk) (.arr (es ++ [x]))) :=
  app_own (es := es) (ys := [x]) rfl hl (by
    have : (2 * (len + [x].length) + 192) * bytes ≤ 2194 * 1000 := Nat.mul_le_mul (by simp; omega) hb
    omega) (by simp; omega) hu
theorem finK_arrP2 (o o' : Ob) (es : List Da) (len z : Nat) (x : Da) (rest : List Ob) (h : es.length = len) : finK 0 true [.arr 2 0 len z, .p x] (o :: o' :: .arr es :: rest) = some (.tup [.p (.slice z es), .p x], []) := by
  subst h
  have : finK 0 true [.arr 2 0 es.length z, .p x] (o :: o' :: .arr es :: rest) = some (.tup [.p (.slice z (es.take es.length)), .p x], []) := by
    rw [finK_eq]; rfl
  rw [this, List.take_length]
theorem gF_refConvertV (m : Nat) (o : Op) (v : V) (hn : inI v.n) (ha : inI o.arg.n) (raw : Bool) (hp : List Ob) (K : KF) : callF (evH tabS (m + 41)) 68 raw [.p (.agg [.int .i64 o.kind, .int .i64 o.arg.k, .int .i64 o.arg.n, .str o.arg.s, .slice 1 (o.arg.is.map (.int .i64)), .slice 1 (o.arg.ls.map .str)]), .p (.agg [.int .i64 v.k, .int .i64 v.n, .str v.s, .slice 1 (v.is.map (.int .i64)), .slice 1 (v.ls.map .str)])] hp K =
    K (.tup [.p (convB o v).1.e, .p (.bool (convB o v).2)]) hp (footE hp) := callF_known rfl (q_refConvert m o.kind o.arg v hn ha) rfl
theorem applyR_inner (m : Nat) (vs : List V) (mt ty : List Nat) (fs : List Fi) (out : List Da) (j : Nat) (rs : List Ru) (r : Ru) (v : V) (hos : r.ops.length ≤ 8) (hg : ∀ i, i ≤ r.ops.length → vGood (opsV (r.ops.take i) v)) (ha : ∀ o ∈ r.ops, inI o.arg.n) (ke : Nat → K) (kr : K) :
    loopK 0 [3, 4, 5, 11, 12, 13, 14, 15] (fun tm hp k => l44_1 (evH tabS (m + 50)) (m + 50) 0 tm hp k ke kr) (m + 50)
      (.cons 3 (.p (.slice 5 (vs.map V.e))) (.cons 4 (.box 0 0) (.cons 5 (.box 1 0) (.cons 11 (.arr 2 0 j 5) (.cons 12 (.p (.int .i64 j)) (.cons 13 (.box 3 0) (.cons 14 (.box 4 0) (.cons 15 (.p (.int .i64 0)) .nil))))))))
      [.box [.p (.str mt), .p (.slice 8 (rs.map Ru.e))], .box [.p (.str ty), .p (.slice 7 (fs.map Fi.e))], .arr out, r.bx, v.bx] =
    ke 2 (.cons 3 (.p (.slice 5 (vs.map V.e))) (.cons 4 (.box 0 0) (.cons 5 (.box 1 0) (.cons 11 (.arr 2 0 j 5) (.cons 12 (.p (.int .i64 j)) (.cons 13 (.box 3 0) (.cons 14 (.box 4 0) (.cons 15 (.p (.int .i64 r.ops.length)) (.cons 57 (.p (.bool false)) .nil)))))))))
      [.box [.p (.str mt), .p (.slice 8 (rs.map Ru.e))], .box [.p (.str ty), .p (.slice 7 (fs.map Fi.e))], .arr out, r.bx, (opsV r.ops v).bx] := by
  have e : r.ops.take r.ops.length = r.ops := List.take_length
  refine loop_map (m := 0) (live := [3, 4, 5, 11, 12, 13, 14, 15]) (body := fun tm hp k => l44_1 (evH tabS (m + 50)) (m + 50) 0 tm hp k ke kr) r.ops.length
    (fun i => .cons 3 (.p (.slice 5 (vs.map V.e))) (.cons 4 (.box 0 0) (.cons 5 (.box 1 0) (.cons 11 (.arr 2 0 j 5) (.cons 12 (.p (.int .i64 j)) (.cons 13 (.box 3 0) (.cons 14 (.box 4 0) (.cons 15 (.p (.int .i64 (i : Nat))) .nil))))))))
    (fun i => [.box [.p (.str mt), .p (.slice 8 (rs.map Ru.e))], .box [.p (.str ty), .p (.slice 7 (fs.map Fi.e))], .arr out, r.bx, (opsV (r.ops.take i) v).bx])
    (fun i => .cons 3 (.p (.slice 5 (vs.map V.e))) (.cons 4 (.box 0 0) (.cons 5 (.box 1 0) (.cons 11 (.arr 2 0 j 5) (.cons 12 (.p (.int .i64 j)) (.cons 13 (.box 3 0) (.cons 14 (.box 4 0) (.cons 15 (.p (.int .i64 (i + 1 : Nat))) .nil))))))))
    (fun i => [.box [.p (.str mt), .p (.slice 8 (rs.map Ru.e))], .box [.p (.str ty), .p (.slice 7 (fs.map Fi.e))], .arr out, r.bx, (opsV (r.ops.take (i + 1)) v).bx])
    _ (fun i _ => by kernel_rfl)
    (fun i kn hi => by
      have hv := hg i (by omega)
      rw [opsV_succ r.ops v i hi]
      have hgc := fun (raw : Bool) (hp : List Ob) (K : KF) => gF_refConvertV (m + 9) r.ops[i] (opsV (r.ops.take i) v) hv.1 (ha _ (List.getElem_mem hi)) raw hp K
      generalize opsV (r.ops.take i) v = w at *
      generalize convB r.ops[i] w = q at *
      simp -implicitDefEqProofs (maxSteps := 1000000) only [l44_1, p44_1, go_sem, at_map _ r.ops i hi, wrap_succ i (by omega), Int.ofNat_lt.mpr hi, hgc, ext_tup, store_boxF])
    (fun kn => by
      rw [e]
      simp -implicitDefEqProofs (maxSteps := 1000000) only [l44_1, p44_1, go_sem, Int.lt_irrefl, if_false]) (m + 50) _ _ (by omega) (by kernel_rfl)
end Go.Ab
end
/- Runs with letters: the reference's Apply, CopyValues. -/
section
namespace Go.Ab
open Go
set_option maxHeartbeats 4000000
set_option maxRecDepth 20000
theorem q_ApplyR (m : Nat) (mt : List Nat) (rs : List Ru) (at' bt : List Nat) (fs gs : List Fi) (vs : List V) (hr : rs.length ≤ 8) (hf : fs.length ≤ 8) (hv : vs.length ≤ 8) (hvg : ∀ v ∈ vs, v.is.length ≤ 1000 ∧ v.ls.length ≤ 1000)
    (hchk : evH tabS (m + 50) 66 [.p (.agg [.str mt, .slice 8 (rs.map Ru.e)]), .p (.agg [.str at', .slice 7 (fs.map Fi.e)]), .p (.agg [.str bt, .slice 7 (gs.map Fi.e)])] [] = some (.p (.int .i64 0), []))
    (hst : stateOk ⟨at', fs⟩ vs = true) (hb : ∀ r ∈ rs, ruGood fs vs r) (hi : ∀ r ∈ rs, r.init.is.length ≤ 1000 ∧ r.init.ls.length ≤ 1000) :
    evH tabS (m + 51) 44 [.p (.agg [.str mt, .slice 8 (rs.map Ru.e)]), .p (.agg [.str at', .slice 7 (fs.map Fi.e)]), .p (.agg [.str bt, .slice 7 (gs.map Fi.e)]), .p (.slice 5 (vs.map V.e))] [] =
      some (.tup [.p (.slice 5 ((rs.map (ruV fs vs)).map V.e)), .p (.int .i64 0)], []) := by
  refine (evH_code (show tabS 44 = some (.code h44 [.t 8, .t 9] true) by kernel_rfl) (m + 50) _ _).trans ?_
  have gc := fun (raw : Bool) (hp : List Ob) (K : KV) => call_known (raw := raw) (hp := hp) (k := K) rfl hchk rfl
  have L := fun (ke : Nat → K) (kr : K) => loop_map (m := 0) (live := [3, 4, 5, 11, 12]) (body := fun tm hp k => l44_2 (evH tabS (m + 50)) (m + 50) 0 tm hp k ke kr) rs.length
    (fun j => .cons 3 (.p (.slice 5 (vs.map V.e))) (.cons 4 (.box 0 0) (.cons 5 (.box 1 0) (.cons 11 (.arr 2 0 j 5) (.cons 12 (.p (.int .i64 (j : Nat))) .nil)))))
    (fun j => [.box [.p (.str mt), .p (.slice 8 (rs.map Ru.e))], .box [.p (.str at'), .p (.slice 7 (fs.map Fi.e))], .arr ((rs.take j).map (ruE fs vs))])
    (fun j => .cons 3 (.p (.slice 5 (vs.map V.e))) (.cons 4 (.box 0 0) (.cons 5 (.box 1 0) (.cons 11 (.arr 5 0 (j + 1) 5) (.cons 12 (.p (.int .i64 (j + 1 : Nat))) .nil)))))
    (fun j => [.box [.p (.str mt), .p (.slice 8 (rs.map Ru.e))], .box [.p (.str at'), .p (.slice 7 (fs.map Fi.e))], .dead, (rs[j]?.getD ⟨[], [], v0, []⟩).bx, (ruV fs vs (rs[j]?.getD ⟨[], [], v0, []⟩)).bx, .arr ((rs.take (j + 1)).map (ruE fs vs))])
    (ke 0 (.cons 3 (.p (.slice 5 (vs.map V.e))) (.cons 4 (.box 0 0) (.cons 5 (.box 1 0) (.cons 11 (.arr 2 0 rs.length 5) (.cons 12 (.p (.int .i64 rs.length)) (.cons 31 (.p (.bool false)) .nil)))))) [.box [.p (.str mt), .p (.slice 8 (rs.map Ru.e))], .box [.p (.str at'), .p (.slice 7 (fs.map Fi.e))], .arr ((rs.take rs.length).map (ruE fs vs))])
    (fun j _ => by kernel_rfl)
    (fun j kn hj => by
      obtain ⟨h1, h2, h3, h4⟩ := hb rs[j] (List.getElem_mem hj)
      have hij := hi rs[j] (List.getElem_mem hj)
      have hlen : (rs.take j).length = j := by rw [List.length_take]; omega
      have L1 := fun (v : V) (hg : ∀ i, i ≤ rs[j].ops.length → vGood (opsV (rs[j].ops.take i) v)) => applyR_inner m vs mt at' fs ((rs.take j).map (ruE fs vs)) j rs rs[j] v h2 hg h4
      rw [← take_snoc (ruE fs vs) rs j hj]
      by_cases hs : rs[j].source = []
      · have e0 : srcV fs vs rs[j] = rs[j].init := by unfold srcV; rw [if_pos hs]
        rw [e0] at h3
        have eR : ruV fs vs rs[j] = opsV rs[j].ops rs[j].init := by unfold ruV; rw [e0]
        have eE : ruE fs vs rs[j] = (opsV rs[j].ops rs[j].init).e := by unfold ruE; rw [eR]
        have L1 := L1 rs[j].init h3
        simp only [V.bx, Ru.bx] at L1
        simp -implicitDefEqProofs (maxSteps := 1000000) only [l44_2, p44_2, go_sem, at_map _ rs j hj, wrap_succ j (by omega), Int.ofNat_lt.mpr hj, List.getElem?_eq_getElem hj, Option.getD_some, eq_true hs, g_CopyValue, hij.1, hij.2, L1, eR, eE, app_own2, List.length_map, hlen, show j ≤ 1000 by omega]
      · obtain ⟨p1, p2⟩ := h1.resolve_left hs
        have e0 : srcV fs vs rs[j] = vs[(fieldIx fs rs[j].source).toNat] := by unfold srcV; rw [if_neg hs, List.getElem?_eq_getElem p2]; rfl
        rw [e0] at h3
        have eR : ruV fs vs rs[j] = opsV rs[j].ops vs[(fieldIx fs rs[j].source).toNat] := by unfold ruV; rw [e0]
        have eE : ruE fs vs rs[j] = (opsV rs[j].ops vs[(fieldIx fs rs[j].source).toNat]).e := by unfold ruE; rw [eR]
        have ha := at_map V.e vs _ p2
        have hw := hvg _ (List.getElem_mem p2)
        rw [Int.toNat_of_nonneg p1] at ha
        generalize vs[(fieldIx fs rs[j].source).toNat] = w at *
        have L1 := L1 w h3
        simp only [V.bx, Ru.bx] at L1
        simp -implicitDefEqProofs (maxSteps := 1000000) only [l44_2, p44_2, go_sem, at_map _ rs j hj, wrap_succ j (by omega), Int.ofNat_lt.mpr hj, List.getElem?_eq_getElem hj, Option.getD_some, hs, g_fieldOf, show fs.length ≤ 20 by omega, ha, g_CopyValue, hij.1, hij.2, hw.1, hw.2, L1, eR, eE, app_own2, List.length_map, hlen, show j ≤ 1000 by omega])
    (fun kn => by
      simp -implicitDefEqProofs (maxSteps := 1000000) only [l44_2, p44_2, go_sem, Int.lt_irrefl, if_false]) (m + 50)
    (.cons 11 (.arr 3 0 0 5) (.cons 3 (.p (.slice 5 (vs.map V.e))) (.cons 4 (.box 0 0) (.cons 5 (.box 1 0) (.cons 11 (.sl .nil 5 []) (.cons 12 (.p (.int .i64 0)) .nil)))))) [.box [.p (.str mt), .p (.slice 8 (rs.map Ru.e))], .box [.p (.str at'), .p (.slice 7 (fs.map Fi.e))], .box [.p (.str bt), .p (.slice 7 (gs.map Fi.e))], .arr []] (by omega) (by kernel_rfl)
  simp -implicitDefEqProofs (maxSteps := 1000000) only [h44, p44, go_sem, gc, g_refValidState, show fs.length ≤ 20 by omega, show vs.length ≤ 20 by omega, hst, L, List.take_length, finK_arrP2, List.length_map]
  simp only [List.map_map]
  rfl
theorem r_CopyValues (m : Nat) (vs : List V) (hv : vs.length ≤ 20) (hvg : ∀ v ∈ vs, v.is.length ≤ 1000 ∧ v.ls.length ≤ 1000) : runH h42 (evH tabS (m + 30)) (m + 30) [.t 2] true [.p (.slice 5 (vs.map V.e))] [] = some (.p (.slice 5 (vs.map V.e)), []) := by
  have L := fun (ke : Nat → K) (kr : K) => loop_map (m := 0) (live := [0, 3, 4]) (body := fun tm hp k => l42_1 (evH tabS (m + 30)) (m + 30) 0 tm hp k ke kr) vs.length
    (fun j => .cons 0 (.p (.slice 5 (vs.map V.e))) (.cons 3 (.arr 0 0 j 5) (.cons 4 (.p (.int .i64 (j : Nat))) .nil))) (fun j => [.arr ((vs.take j).map V.e)])
    (fun j => .cons 0 (.p (.slice 5 (vs.map V.e))) (.cons 3 (.arr 1 0 (j + 1) 5) (.cons 4 (.p (.int .i64 (j + 1 : Nat))) .nil))) (fun j => [.dead, .arr ((vs.take (j + 1)).map V.e)])
    (ke 0 (.cons 0 (.p (.slice 5 (vs.map V.e))) (.cons 3 (.arr 0 0 vs.length 5) (.cons 4 (.p (.int .i64 vs.length)) (.cons 8 (.p (.bool false)) .nil)))) [.arr ((vs.take vs.length).map V.e)])
    (fun j _ => by kernel_rfl)
    (fun j kn hj => by
      have hlen : (vs.take j).length = j := by rw [List.length_take]; omega
      have hw := hvg _ (List.getElem_mem hj)
      rw [← take_snoc V.e vs j hj]
      simp -implicitDefEqProofs (maxSteps := 1000000) only [l42_1, p42_1, go_sem, at_map _ vs j hj, wrap_succ j (by omega), Int.ofNat_lt.mpr hj, g_CopyValue, hw.1, hw.2, app_own0, List.length_map, hlen, show j ≤ 1000 by omega])
    (fun kn => by
      simp -implicitDefEqProofs (maxSteps := 1000000) only [l42_1, p42_1, go_sem, Int.lt_irrefl, if_false]) (m + 30)
    (.cons 3 (.arr 0 0 0 5) (.cons 0 (.p (.slice 5 (vs.map V.e))) (.cons 3 (.sl .nil 5 []) (.cons 4 (.p (.int .i64 0)) .nil)))) [.arr []] (by omega) (by kernel_rfl)
  simp -implicitDefEqProofs (maxSteps := 1000000) only [h42, p42, go_sem, L, List.take_length, finK_arr0, List.length_map]
theorem q_CopyValues (m : Nat) (vs : List V) (hv : vs.length ≤ 20) (hvg : ∀ v ∈ vs, v.is.length ≤ 1000 ∧ v.ls.length ≤ 1000) : evH tabS (m + 31) 42 [.p (.slice 5 (vs.map V.e))] [] = some (.p (.slice 5 (vs.map V.e)), []) := (evH_code (show tabS 42 = some (.code h42 [.t 2] true) by kernel_rfl) (m + 30) _ _).trans (r_CopyValues m vs hv hvg)
end Go.Ab
end
/- Closed runs, at any fuel. -/
section
namespace Go.Ab
open Go
set_option maxRecDepth 100000
def noSc : Da := .agg [.str [], .slice 7 []]
theorem q_Of11 (m : Nat) : evH tabS (m + 60) 15 [.p (.agg [prog1]), .p (.str sAcc)] [] = some (.tup [.p sc1.e, .p (.bool true)], []) := by kernel_rfl
theorem q_Of21 (m : Nat) : evH tabS (m + 60) 15 [.p (.agg [prog2]), .p (.str sAcc)] [] = some (.tup [.p sc2.e, .p (.bool true)], []) := by kernel_rfl
theorem q_Of22 (m : Nat) : evH tabS (m + 60) 15 [.p (.agg [prog2]), .p (.str sCnt)] [] = some (.tup [.p sc3.e, .p (.bool true)], []) := by kernel_rfl
theorem q_OfR11 (m : Nat) : evH tabS (m + 60) 40 [.p (.agg [prog1]), .p (.str sAcc)] [] = some (.tup [.p sc1.e, .p (.bool true)], []) := by kernel_rfl
theorem q_OfR21 (m : Nat) : evH tabS (m + 60) 40 [.p (.agg [prog2]), .p (.str sAcc)] [] = some (.tup [.p sc2.e, .p (.bool true)], []) := by kernel_rfl
theorem q_OfR22 (m : Nat) : evH tabS (m + 60) 40 [.p (.agg [prog2]), .p (.str sCnt)] [] = some (.tup [.p sc3.e, .p (.bool true)], []) := by kernel_rfl
theorem q_Id1 (m : Nat) : evH tabS (m + 60) 36 [.p sc1.e] [] = some (.p (idM sc1).e, []) := by kernel_rfl
theorem q_Id2 (m : Nat) : evH tabS (m + 60) 36 [.p sc2.e] [] = some (.p (idM sc2).e, []) := by kernel_rfl
theorem q_Id3 (m : Nat) : evH tabS (m + 60) 36 [.p sc3.e] [] = some (.p (idM sc3).e, []) := by kernel_rfl
theorem q_Ch1 (m : Nat) : evH tabS (m + 40) 57 [.p (idM sc1).e, .p sc1.e, .p sc1.e] [] = some (.p (.int .i64 0), []) := by kernel_rfl
theorem q_Ch2 (m : Nat) : evH tabS (m + 40) 57 [.p (idM sc2).e, .p sc2.e, .p sc2.e] [] = some (.p (.int .i64 0), []) := by kernel_rfl
theorem q_Ch3 (m : Nat) : evH tabS (m + 40) 57 [.p (idM sc3).e, .p sc3.e, .p sc3.e] [] = some (.p (.int .i64 0), []) := by kernel_rfl
theorem q_Ch12 (m : Nat) : evH tabS (m + 40) 57 [.p migA.e, .p sc1.e, .p sc2.e] [] = some (.p (.int .i64 0), []) := by kernel_rfl
theorem q_ChR2 (m : Nat) : evH tabS (m + 40) 66 [.p (idM sc2).e, .p sc2.e, .p sc2.e] [] = some (.p (.int .i64 0), []) := by kernel_rfl
theorem q_ChR3 (m : Nat) : evH tabS (m + 40) 66 [.p (idM sc3).e, .p sc3.e, .p sc3.e] [] = some (.p (.int .i64 0), []) := by kernel_rfl
theorem q_ChR12 (m : Nat) : evH tabS (m + 40) 66 [.p migA.e, .p sc1.e, .p sc2.e] [] = some (.p (.int .i64 0), []) := by kernel_rfl
theorem q_Ix2 (m : Nat) : evH tabS (m + 40) 37 [.p (.sliceE 2 [migA.e]), .fn 38 [.box 0 0]] [.box [.p (.str sAcc)]] = some (.p (.int .i64 0), [.box [.p (.str sAcc)]]) := by kernel_rfl
theorem q_Ix31 (m : Nat) : evH tabS (m + 40) 37 [.p (.slice 2 [(idM sc2).e, (idM sc3).e]), .fn 38 [.box 0 0]] [.box [.p (.str sAcc)]] = some (.p (.int .i64 0), [.box [.p (.str sAcc)]]) := by kernel_rfl
theorem q_Ix32 (m : Nat) : evH tabS (m + 40) 37 [.p (.slice 2 [(idM sc2).e, (idM sc3).e]), .fn 38 [.box 0 0]] [.box [.p (.str sCnt)]] = some (.p (.int .i64 1), [.box [.p (.str sCnt)]]) := by kernel_rfl
theorem q_Ty11 (m : Nat) : evH tabS (m + 40) 43 [.p (.agg [prog1]), .p (.str sAcc)] [] = some (.p (.int .i64 0), []) := by kernel_rfl
theorem q_Ty21 (m : Nat) : evH tabS (m + 40) 43 [.p (.agg [prog2]), .p (.str sAcc)] [] = some (.p (.int .i64 0), []) := by kernel_rfl
theorem q_Ty22 (m : Nat) : evH tabS (m + 40) 43 [.p (.agg [prog2]), .p (.str sCnt)] [] = some (.p (.int .i64 1), []) := by kernel_rfl
theorem q_VR00 (m : Nat) : evH tabS (m + 1) 33 [.p (.slice 2 (verS 0 0))] [] = ansR (badS 0) (goodS 0) := by kernel_rfl
theorem q_VRR00 (m : Nat) : evH tabS (m + 1) 39 [.p (.slice 2 (verS 0 0))] [] = ansR (badS 0) (goodS 0) := by kernel_rfl
theorem q_VR10 (m : Nat) : evH tabS (m + 1) 33 [.p (.slice 2 (verS 1 0))] [] = ansR (badS 1) (goodS 1) := by kernel_rfl
theorem q_VRR10 (m : Nat) : evH tabS (m + 1) 39 [.p (.slice 2 (verS 1 0))] [] = ansR (badS 1) (goodS 1) := by kernel_rfl
theorem q_VR20 (m : Nat) : evH tabS (m + 1) 33 [.p (.slice 2 (verS 2 0))] [] = ansR (badS 2) (goodS 2) := by kernel_rfl
theorem q_VRR20 (m : Nat) : evH tabS (m + 1) 39 [.p (.slice 2 (verS 2 0))] [] = ansR (badS 2) (goodS 2) := by kernel_rfl
theorem q_VR30 (m : Nat) : evH tabS (m + 1) 33 [.p (.slice 2 (verS 3 0))] [] = ansR (badS 3) (goodS 3) := by kernel_rfl
theorem q_VRR30 (m : Nat) : evH tabS (m + 1) 39 [.p (.slice 2 (verS 3 0))] [] = ansR (badS 3) (goodS 3) := by kernel_rfl
theorem q_VR40 (m : Nat) : evH tabS (m + 1) 33 [.p (.slice 2 (verS 4 0))] [] = ansR (badS 4) (goodS 4) := by kernel_rfl
theorem q_VRR40 (m : Nat) : evH tabS (m + 1) 39 [.p (.slice 2 (verS 4 0))] [] = ansR (badS 4) (goodS 4) := by kernel_rfl
theorem q_VR50 (m : Nat) : evH tabS (m + 1) 33 [.p (.slice 2 (verS 5 0))] [] = ansR (badS 5) (goodS 5) := by kernel_rfl
theorem q_VRR50 (m : Nat) : evH tabS (m + 1) 39 [.p (.slice 2 (verS 5 0))] [] = ansR (badS 5) (goodS 5) := by kernel_rfl
theorem q_VR51 (m : Nat) : evH tabS (m + 1) 33 [.p (.slice 2 (verS 5 1))] [] = ansR (badS 5) (goodS 5) := by kernel_rfl
theorem q_VRR51 (m : Nat) : evH tabS (m + 1) 39 [.p (.slice 2 (verS 5 1))] [] = ansR (badS 5) (goodS 5) := by kernel_rfl
theorem q_VR52 (m : Nat) : evH tabS (m + 1) 33 [.p (.slice 2 (verS 5 2))] [] = ansR (badS 5) (goodS 5) := by kernel_rfl
theorem q_VRR52 (m : Nat) : evH tabS (m + 1) 39 [.p (.slice 2 (verS 5 2))] [] = ansR (badS 5) (goodS 5) := by kernel_rfl
theorem q_VR60 (m : Nat) : evH tabS (m + 1) 33 [.p (.slice 2 (verS 6 0))] [] = ansR (badS 6) (goodS 6) := by kernel_rfl
theorem q_VRR60 (m : Nat) : evH tabS (m + 1) 39 [.p (.slice 2 (verS 6 0))] [] = ansR (badS 6) (goodS 6) := by kernel_rfl
theorem q_VR70 (m : Nat) : evH tabS (m + 1) 33 [.p (.slice 2 (verS 7 0))] [] = ansR (badS 7) (goodS 7) := by kernel_rfl
theorem q_VRR70 (m : Nat) : evH tabS (m + 1) 39 [.p (.slice 2 (verS 7 0))] [] = ansR (badS 7) (goodS 7) := by kernel_rfl
theorem q_VR80 (m : Nat) : evH tabS (m + 1) 33 [.p (.slice 2 (verS 8 0))] [] = ansR (badS 8) (goodS 8) := by kernel_rfl
theorem q_VRR80 (m : Nat) : evH tabS (m + 1) 39 [.p (.slice 2 (verS 8 0))] [] = ansR (badS 8) (goodS 8) := by kernel_rfl
end Go.Ab
end
/- The versions that change makes. -/
section
namespace Go.Ab
open Go
set_option maxHeartbeats 4000000
set_option maxRecDepth 100000
theorem q_Vers (m : Nat) : evH tabS (m + 1) 32 [] [] = some (.arr 0 0 2 2, [.arr [ver1, ver2]]) := by kernel_rfl
theorem call_noargs {call : CallF} {f n w : Nat} {os : List Da} {K : KV} {raw : Bool} (hc : call f [] [] = some (.arr 0 0 n w, [.arr os])) : callG call f raw [] [] K = K (.arr 0 0 n w) [.arr os] := by
  rw [← callG_eq (base := 0) (kk := 0)]
  have hn : need (.call f raw) [] [] = [] := close_nil _ _ _
  have hd : doCall call f [] [] [] 0 = some (.arr 0 0 n w, [], [.arr os]) := by
    have : doCall call f [] [] [] 0 = match call f [] [] with
      | none => none
      | some (r, out) => bif Nat.ble 0 out.length then some (mapD (back 0 0 [] out.length) r, [].zip (out.map (mapOb (back 0 0 [] out.length))), (out.map (mapOb (back 0 0 [] out.length))).drop 0) else none := rfl
    rw [this, hc]
    rfl
  cases raw <;> (simp only [genV, makes, Bool.not_false, Bool.true_or, cond_true, cond_false, hn, act, List.map_nil, List.length_nil]; rw [hd]; rfl)
theorem q_chg (m k : Nat) (a : Nat) (how at' : Int) (K : Int) (hk : how.tmod 9 = K)
    (hrest : ∀ m, evH tabS (m + 31) 10 [.p (.int .u8 K), .p (.int .u8 at')] [] = some (.p (.slice 2 (verS k a)), [])) (hK : K.tmod 9 = K) :
    evH tabS (m + 31) 10 [.p (.int .u8 how), .p (.int .u8 at')] [] = some (.p (.slice 2 (verS k a)), []) := by
  refine Eq.trans ?_ (hrest m)
  have gV := fun (raw : Bool) (K : KV) => call_noargs (raw := raw) (K := K) (q_Vers (m + 29))
  have r1 := fun (f : D → R) => b_rem .u8 how 9 f (by decide)
  have r2 := fun (f : D → R) => b_rem .u8 K 9 f (by decide)
  rw [hk] at r1
  rw [hK] at r2
  refine (evH_code (show tabS 10 = some (.code h10 [.t 4] true) by kernel_rfl) (m + 30) _ _).trans (Eq.trans ?_ (evH_code (show tabS 10 = some (.code h10 [.t 4] true) by kernel_rfl) (m + 30) _ _).symm)
  simp -implicitDefEqProofs only [h10, p10, s_run, s_seq, s_reg, getF_cons, growN_zero, numbered_cons, numbered_nil, ↓reduceIte, Nat.reduceEqDiff, Nat.reduceAdd, List.length_nil, gV, r1, r2]
theorem q_ch0 (a : Int) (m : Nat) : evH tabS (m + 31) 10 [.p (.int .u8 0), .p (.int .u8 a)] [] = some (.p (.slice 2 (verS 0 0)), []) := by kernel_rfl
theorem q_ch1 (a : Int) (m : Nat) : evH tabS (m + 31) 10 [.p (.int .u8 1), .p (.int .u8 a)] [] = some (.p (.slice 2 (verS 1 0)), []) := by kernel_rfl
theorem q_ch2 (a : Int) (m : Nat) : evH tabS (m + 31) 10 [.p (.int .u8 2), .p (.int .u8 a)] [] = some (.p (.slice 2 (verS 2 0)), []) := by kernel_rfl
theorem q_ch3 (a : Int) (m : Nat) : evH tabS (m + 31) 10 [.p (.int .u8 3), .p (.int .u8 a)] [] = some (.p (.slice 2 (verS 3 0)), []) := by kernel_rfl
theorem q_ch4 (a : Int) (m : Nat) : evH tabS (m + 31) 10 [.p (.int .u8 4), .p (.int .u8 a)] [] = some (.p (.slice 2 (verS 4 0)), []) := by kernel_rfl
theorem q_ch6 (a : Int) (m : Nat) : evH tabS (m + 31) 10 [.p (.int .u8 6), .p (.int .u8 a)] [] = some (.p (.slice 2 (verS 6 0)), []) := by kernel_rfl
theorem q_ch7 (a : Int) (m : Nat) : evH tabS (m + 31) 10 [.p (.int .u8 7), .p (.int .u8 a)] [] = some (.p (.slice 2 (verS 7 0)), []) := by kernel_rfl
theorem q_ch8 (a : Int) (m : Nat) : evH tabS (m + 31) 10 [.p (.int .u8 8), .p (.int .u8 a)] [] = some (.p (.slice 2 (verS 8 0)), []) := by kernel_rfl
def allN : Nat → (Nat → Bool) → Bool
  | 0, _ => true
  | n + 1, f => bif f n then allN n f else false
theorem allN_at {f : Nat → Bool} : ∀ {n : Nat}, allN n f = true → ∀ i, i < n → f i = true
  | 0, _, i, h => absurd h (Nat.not_lt_zero i)
  | n + 1, h, i, hi => by
    simp only [allN] at h
    cases hf : f n with
    | false => rw [hf] at h; cases h
    | true =>
      rw [hf, cond_true] at h
      rcases Nat.lt_or_eq_of_le (Nat.le_of_lt_succ hi) with h1 | rfl
      · exact allN_at h i h1
      · exact hf
noncomputable def isR (r : R) (x : Da) : Bool :=
  match r with
  | some (.p y, []) => eqDa y x
  | _ => false
theorem isR_eq {r : R} {x : Da} (h : isR r x = true) : r = some (.p x, []) := by
  unfold isR at h
  split at h
  · rw [eqDa_eq _ _ h]
  · cases h
theorem ch5_all (m : Nat) : allN 256 (fun a => isR (evH tabS (m + 31) 10 [.p (.int .u8 5), .p (.int .u8 (Int.ofNat a))] []) (.slice 2 (verS 5 (a % 3)))) = true := by kernel_rfl
theorem q_ch5 (a : Int) (h1 : 0 ≤ a) (h2 : a < 256) (m : Nat) : evH tabS (m + 31) 10 [.p (.int .u8 5), .p (.int .u8 a)] [] = some (.p (.slice 2 (verS 5 (a.toNat % 3))), []) := by
  have := isR_eq (allN_at (ch5_all m) a.toNat (by omega))
  rwa [show Int.ofNat a.toNat = a from Int.toNat_of_nonneg h1] at this
def chPair (k a : Nat) : Prop := (k = 5 ∧ a < 3) ∨ (k ≠ 5 ∧ k < 9 ∧ a = 0)
theorem q_change (m : Nat) (how a : Int) (h1 : 0 ≤ how) (h3 : 0 ≤ a) (h4 : a < 256) : ∃ k b, chPair k b ∧ evH tabS (m + 31) 10 [.p (.int .u8 how), .p (.int .u8 a)] [] = some (.p (.slice 2 (verS k b)), []) := by
  have a1 := Int.tmod_nonneg 9 h1
  have a2 := Int.tmod_lt_of_pos how (show (0 : Int) < 9 by decide)
  have : how.tmod 9 = 0 ∨ how.tmod 9 = 1 ∨ how.tmod 9 = 2 ∨ how.tmod 9 = 3 ∨ how.tmod 9 = 4 ∨ how.tmod 9 = 5 ∨ how.tmod 9 = 6 ∨ how.tmod 9 = 7 ∨ how.tmod 9 = 8 := by omega
  rcases this with e | e | e | e | e | e | e | e | e
  · exact ⟨0, 0, .inr ⟨by decide, by decide, rfl⟩, q_chg m 0 0 how a 0 e (q_ch0 a) rfl⟩
  · exact ⟨1, 0, .inr ⟨by decide, by decide, rfl⟩, q_chg m 1 0 how a 1 e (q_ch1 a) rfl⟩
  · exact ⟨2, 0, .inr ⟨by decide, by decide, rfl⟩, q_chg m 2 0 how a 2 e (q_ch2 a) rfl⟩
  · exact ⟨3, 0, .inr ⟨by decide, by decide, rfl⟩, q_chg m 3 0 how a 3 e (q_ch3 a) rfl⟩
  · exact ⟨4, 0, .inr ⟨by decide, by decide, rfl⟩, q_chg m 4 0 how a 4 e (q_ch4 a) rfl⟩
  · exact ⟨5, a.toNat % 3, .inl ⟨rfl, Nat.mod_lt _ (by decide)⟩, q_chg m 5 _ how a 5 e (q_ch5 a h3 h4) rfl⟩
  · exact ⟨6, 0, .inr ⟨by decide, by decide, rfl⟩, q_chg m 6 0 how a 6 e (q_ch6 a) rfl⟩
  · exact ⟨7, 0, .inr ⟨by decide, by decide, rfl⟩, q_chg m 7 0 how a 7 e (q_ch7 a) rfl⟩
  · exact ⟨8, 0, .inr ⟨by decide, by decide, rfl⟩, q_chg m 8 0 how a 8 e (q_ch8 a) rfl⟩
end Go.Ab
end
/- Runs with letters: Carry over versions of which the steps are known. -/
section
namespace Go.Ab
open Go
set_option maxHeartbeats 4000000
set_option maxRecDepth 20000
structure Way where
  p : Nat → Da
  g : Nat → Da
  sch : Nat → Sc
  mg : Nat → Mi
  ix : Nat → Int
  st : Nat → List V
def Way.ok (w : Way) (vs : List Da) (typ : List Nat) (F n : Nat) : Prop :=
  F + n < vs.length ∧ vs.length ≤ 10 ∧ (∀ i, i ≤ F + n → vs[i]? = some (.agg [w.p i, w.g i])) ∧ (∀ i (K : D → R), F < i → i ≤ F + n → iaG 2 (.p (w.g i)) (.p (.int .i64 (w.ix i))) K = K (.ip (w.mg i).e 0))
theorem q_Carry (m : Nat) (w : Way) (vs : List Da) (typ : List Nat) (F n : Nat) (ws : List V) (hw : w.ok vs typ F n) (hl : ws.length ≤ 20) (hf : (w.sch F).fields.length ≤ 8)
    (hVR : evH tabS (m + 100) 33 [.p (.slice 2 vs)] [] = some (.tup [.p (.int .i64 0), .p (.bool true)], []))
    (hOf : ∀ i, F ≤ i → i ≤ F + n → evH tabS (m + 100) 15 [.p (.agg [w.p i]), .p (.str typ)] [] = some (.tup [.p (w.sch i).e, .p (.bool true)], []))
    (hst : stateOk (w.sch F) ws = true)
    (hId : evH tabS (m + 100) 36 [.p (w.sch F).e] [] = some (.p (idM (w.sch F)).e, []))
    (hA0 : evH tabS (m + 100) 35 [.p (idM (w.sch F)).e, .p (w.sch F).e, .p (w.sch F).e, .p (.slice 5 (ws.map V.e))] [] = some (.tup [.p (.slice 5 ((w.st F).map V.e)), .p (.int .i64 0)], []))
    (hIx : ∀ i, F < i → i ≤ F + n → evH tabS (m + 100) 37 [.p (w.g i), .fn 38 [.box 0 0]] [.box [.p (.str typ)]] = some (.p (.int .i64 (w.ix i)), [.box [.p (.str typ)]]))
    (hA : ∀ i, F ≤ i → i < F + n → evH tabS (m + 100) 35 [.p (w.mg (i + 1)).e, .p (w.sch i).e, .p (w.sch (i + 1)).e, .p (.slice 5 ((w.st i).map V.e))] [] = some (.tup [.p (.slice 5 ((w.st (i + 1)).map V.e)), .p (.int .i64 0)], [])) :
    evH tabS (m + 101) 11 [.p (.slice 2 vs), .p (.str typ), .p (.int .i64 ((F + 1 : Nat) : Int)), .p (.int .i64 ((F + 1 + n : Nat) : Int)), .p (.slice 5 (ws.map V.e))] [] = some (.tup [.p (.slice 5 ((w.st (F + n)).map V.e)), .p (.int .i64 0)], []) := by
  obtain ⟨w1, w2, w3, w4⟩ := hw
  refine (evH_code (show tabS 11 = some (.code h11 [.t 10, .t 11] true) by kernel_rfl) (m + 100) _ _).trans ?_
  have L := fun (ke : Nat → K) (kr : K) => loop_map (m := 0) (live := [0, 3, 6, 14, 16, 17, 18]) (body := fun tm hp k => l11_1 (evH tabS (m + 100)) (m + 100) 0 tm hp k ke kr) n
    (fun j => .cons 0 (.p (.slice 2 vs)) (.cons 3 (.p (.int .i64 ((F + 1 + n : Nat) : Int))) (.cons 6 (.box 0 0) (.cons 14 (.box 1 0) (.cons 16 (.p (.slice 5 ((w.st (F + j)).map V.e))) (.cons 17 (.p (.int .i64 0)) (.cons 18 (.p (.int .i64 ((F + 1 + j : Nat) : Int))) .nil)))))))
    (fun j => [.box [.p (.str typ)], .box [.p (.str (w.sch (F + j)).type), .p (.slice 7 ((w.sch (F + j)).fields.map Fi.e))]])
    (fun j => .cons 0 (.p (.slice 2 vs)) (.cons 3 (.p (.int .i64 ((F + 1 + n : Nat) : Int))) (.cons 6 (.box 0 0) (.cons 14 (.box 1 0) (.cons 16 (.p (.slice 5 ((w.st (F + j + 1)).map V.e))) (.cons 17 (.p (.int .i64 0)) (.cons 18 (.p (.int .i64 ((F + 1 + j + 1 : Nat) : Int))) .nil)))))))
    (fun j => [.box [.p (.str typ)], .box [.p (.str (w.sch (F + j + 1)).type), .p (.slice 7 ((w.sch (F + j + 1)).fields.map Fi.e))], .box [.p (.str (w.sch (F + j + 1)).type), .p (.slice 7 ((w.sch (F + j + 1)).fields.map Fi.e))]])
    (ke 0 (.cons 0 (.p (.slice 2 vs)) (.cons 3 (.p (.int .i64 ((F + 1 + n : Nat) : Int))) (.cons 6 (.box 0 0) (.cons 14 (.box 1 0) (.cons 16 (.p (.slice 5 ((w.st (F + n)).map V.e))) (.cons 17 (.p (.int .i64 0)) (.cons 18 (.p (.int .i64 ((F + 1 + n : Nat) : Int))) (.cons 77 (.p (.bool false)) .nil)))))))) [.box [.p (.str typ)], .box [.p (.str (w.sch (F + n)).type), .p (.slice 7 ((w.sch (F + n)).fields.map Fi.e))]])
    (fun j _ => by kernel_rfl)
    (fun j kn hj => by
      have hat : at? vs ((F + 1 + j : Nat) : Int) = some (.agg [w.p (F + j + 1), w.g (F + j + 1)]) := by rw [at_nat, show F + 1 + j = F + j + 1 by omega]; exact w3 _ (by omega)
      have e1 := fun (raw : Bool) (hp : List Ob) (K : KF) => callF_known (raw := raw) (hp := hp) (k := K) rfl (hOf (F + j + 1) (by omega) (by omega)) rfl
      have e2 := fun (rest : List Ob) (raw : Bool) (K : KV) => call_ref1 (raw := raw) (rest := rest) (k := K) (hIx (F + j + 1) (by omega) (by omega))
      have e3 := fun (raw : Bool) (hp : List Ob) (K : KF) => callF_known (raw := raw) (hp := hp) (k := K) rfl (hA (F + j) (by omega) (by omega)) rfl
      have e4 := fun (K : D → R) => w4 (F + j + 1) K (by omega) (by omega)
      have wr := wrap_succ (F + 1 + j) (by omega)
      have lt : ((F + 1 + j : Nat) : Int) < ((F + 1 + n : Nat) : Int) := by omega
      simp only [Sc.e, Mi.e] at e1 e3 e4
      simp -implicitDefEqProofs (maxSteps := 1000000) only [l11_1, p11_1, go_sem, hat, wr, lt, e1, e2, e3, e4, ext_tup, alloc_F, store_boxF]
      exact rfl)
    (fun kn => by
      simp -implicitDefEqProofs (maxSteps := 1000000) only [l11_1, p11_1, go_sem, Int.lt_irrefl, if_false]) (m + 100)
    (.cons 0 (.p (.slice 2 vs)) (.cons 3 (.p (.int .i64 ((F + 1 + n : Nat) : Int))) (.cons 6 (.box 0 0) (.cons 14 (.box 1 0) (.cons 16 (.p (.slice 5 ((w.st F).map V.e))) (.cons 17 (.p (.int .i64 0)) (.cons 18 (.p (.int .i64 ((F + 1 : Nat) : Int))) .nil))))))) [.box [.p (.str typ)], .box [.p (.str (w.sch F).type), .p (.slice 7 ((w.sch F).fields.map Fi.e))]] (by omega) (by kernel_rfl)
  have f1 := fun (raw : Bool) (hp : List Ob) (K : KV) => call_known (raw := raw) (hp := hp) (k := K) rfl hVR rfl
  have f2 := fun (raw : Bool) (hp : List Ob) (K : KF) => callF_known (raw := raw) (hp := hp) (k := K) rfl (hOf F (by omega) (by omega)) rfl
  have f3 := fun (raw : Bool) (hp : List Ob) (K : KF) => callF_known (raw := raw) (hp := hp) (k := K) rfl hId rfl
  have f4 := fun (raw : Bool) (hp : List Ob) (K : KF) => callF_known (raw := raw) (hp := hp) (k := K) rfl hA0 rfl
  have hat : at? vs ((F : Nat) : Int) = some (.agg [w.p F, w.g F]) := by rw [at_nat]; exact w3 _ (by omega)
  have wr : wrapF .i64 (((F + 1 : Nat) : Int) - 1) = ((F : Nat) : Int) := by
    rw [show ((F + 1 : Nat) : Int) - 1 = ((F : Nat) : Int) by omega]; exact wrap_few F (by omega)
  have c1 : ¬ ((F + 1 : Nat) : Int) < 1 := by omega
  have c2 : ¬ (vs.length : Int) < ((F + 1 + n : Nat) : Int) := by omega
  have c3 : ¬ ((F + 1 + n : Nat) : Int) < ((F + 1 : Nat) : Int) := by omega
  simp only [Sc.e, Mi.e] at f2 f3 f4
  simp -implicitDefEqProofs (maxSteps := 1000000) only [h11, p11, go_sem, f1, f2, f3, f4, hat, wr, c1, c2, c3, ext_tup, alloc_F, store_boxF, g_validState, show (w.sch F).fields.length ≤ 20 by omega, hl, hst, L]
  exact rfl
end Go.Ab
end
/- The steps of Carry at the program's versions. -/
section
namespace Go.Ab
open Go
set_option maxHeartbeats 4000000
set_option maxRecDepth 100000
def vI (n : Int) : V := ⟨1, n, [], [], []⟩
def vL (l : List Int) : V := ⟨4, 0, [], l, []⟩
def opL : Op := ⟨4, v0⟩
def cntV (l : List Int) : V := (convB opL (vL l)).1
theorem vOk_I (n : Int) : vOk (vI n) = true := by simp [vOk, vI]
theorem vOk_L (l : List Int) (h : l.length ≤ 16) : vOk (vL l) = true := by simp [vOk, vL, h]
theorem cnt_eq (l : List Int) (h : l.length ≤ 16) : cntV l = vI (((0 : Nat) : Int) + l.length + ((0 : Nat) : Int)) := by
  have h1 : resB opL (vL l).k = some 1 := rfl
  have h2 := vOk_L l h
  simp only [cntV, convB, h1, h2, Option.isSome_some, and_self, if_true]
  rfl
theorem inI_0 : inI 0 := ⟨by decide, by decide⟩
theorem good_I (n : Int) (h : inI n) : vGood (vI n) := ⟨h, Nat.zero_le _, Nat.zero_le _⟩
theorem good_L (l : List Int) (h : l.length ≤ 16) : vGood (vL l) := ⟨inI_0, by show l.length ≤ 1000; omega, Nat.zero_le _⟩
theorem good_C (l : List Int) (h : l.length ≤ 16) : vGood (cntV l) := by
  rw [cnt_eq l h]; exact good_I _ ⟨by omega, by omega⟩
def w1 (b : Int) (l : List Int) : List V := [vI b, vL l]
def w2 (b : Int) (l : List Int) (c : Int) : List V := [vI b, vL l, vI c]
def w3 (c : Int) : List V := [vI c]
theorem sc1_ok : scOk sc1 = true := by kernel_rfl
theorem sc2_ok : scOk sc2 = true := by kernel_rfl
theorem sc3_ok : scOk sc3 = true := by kernel_rfl
theorem st1 (b : Int) (l : List Int) (h : l.length ≤ 16) : stateOk sc1 (w1 b l) = true := by
  have e1 := vOk_I b
  have e2 := vOk_L l h
  simp only [stateOk, sc1_ok, w1, sc1, fInt, firstF, okValue, List.length_cons, List.length_nil, List.getElem?_cons_zero, List.getElem?_cons_succ, e1, e2, Bool.and_true, Bool.true_and, vI, vL]
  simp [vOk, h]
  exact sc1_ok
theorem st2 (b : Int) (l : List Int) (c : Int) (h : l.length ≤ 16) : stateOk sc2 (w2 b l c) = true := by
  simp only [stateOk, sc2_ok, w2, sc2, fInt, firstF, okValue, List.length_cons, List.length_nil, List.getElem?_cons_zero, List.getElem?_cons_succ, Bool.and_true, Bool.true_and, vI, vL]
  simp [vOk, h]
  exact sc2_ok
theorem st3 (c : Int) : stateOk sc3 (w3 c) = true := by
  simp only [stateOk, sc3_ok, w3, sc3, fInt, firstF, okValue, List.length_cons, List.length_nil, List.getElem?_cons_zero, List.getElem?_cons_succ, Bool.and_true, Bool.true_and, vI]
  simp [vOk]
  exact sc3_ok
theorem rg (fs : List Fi) (vs : List V) (f s : List Nat) (n : Nat) (v : V) (hix : fieldIx fs s = (n : Int)) (hs : s ≠ []) (hn : vs[n]? = some v) (hv : vGood v) : ruGood fs vs ⟨f, s, v0, []⟩ := by
  have hl : n < vs.length := by
    rcases Nat.lt_or_ge n vs.length with h | h
    · exact h
    · rw [List.getElem?_eq_none h] at hn; cases hn
  refine ⟨.inr ⟨by rw [hix]; omega, by rw [hix]; simpa using hl⟩, Nat.zero_le _, fun i _ => ?_, by simp⟩
  have : srcV fs vs ⟨f, s, v0, []⟩ = v := by
    unfold srcV
    rw [if_neg hs, hix, Int.toNat_natCast, hn]; rfl
  rw [this]
  simpa [opsV] using hv
theorem rgC (fs : List Fi) (vs : List V) (f s : List Nat) (n : Nat) (l : List Int) (hix : fieldIx fs s = (n : Int)) (hs : s ≠ []) (hn : vs[n]? = some (vL l)) (hl : l.length ≤ 16) : ruGood fs vs ⟨f, s, v0, [opL]⟩ := by
  have hlt : n < vs.length := by
    rcases Nat.lt_or_ge n vs.length with h | h
    · exact h
    · rw [List.getElem?_eq_none h] at hn; cases hn
  refine ⟨.inr ⟨by rw [hix]; omega, by rw [hix]; simpa using hlt⟩, (show 1 ≤ 8 by decide), fun i hi => ?_, fun o ho => ?_⟩
  · have : srcV fs vs ⟨f, s, v0, [opL]⟩ = vL l := by
      unfold srcV
      rw [if_neg hs, hix, Int.toNat_natCast, hn]; rfl
    rw [this]
    match i, hi with
    | 0, _ => exact good_L l hl
    | 1, _ => exact good_C l hl
  · simp only [List.mem_singleton] at ho
    subst ho
    exact inI_0
theorem ix11 : fieldIx sc1.fields sBal = ((0 : Nat) : Int) := by kernel_rfl
theorem ix12 : fieldIx sc1.fields sLog = ((1 : Nat) : Int) := by kernel_rfl
theorem ix21 : fieldIx sc2.fields sBal = ((0 : Nat) : Int) := by kernel_rfl
theorem ix22 : fieldIx sc2.fields sLog = ((1 : Nat) : Int) := by kernel_rfl
theorem ix23 : fieldIx sc2.fields sCou = ((2 : Nat) : Int) := by kernel_rfl
theorem ix31 : fieldIx sc3.fields [110] = ((0 : Nat) : Int) := by kernel_rfl
theorem good1 (b : Int) (l : List Int) (hb : inI b) (h : l.length ≤ 16) : ∀ r ∈ (idM sc1).rules, ruGood sc1.fields (w1 b l) r := by
  intro r hr
  simp only [idM, sc1, fInt, List.map_cons, List.map_nil, List.mem_cons, List.not_mem_nil, or_false] at hr
  rcases hr with rfl | rfl
  · exact rg _ _ _ _ 0 _ ix11 (by decide) rfl (good_I b hb)
  · exact rg _ _ _ _ 1 _ ix12 (by decide) rfl (good_L l h)
theorem good2 (b : Int) (l : List Int) (c : Int) (hb : inI b) (hc : inI c) (h : l.length ≤ 16) : ∀ r ∈ (idM sc2).rules, ruGood sc2.fields (w2 b l c) r := by
  intro r hr
  simp only [idM, sc2, fInt, List.map_cons, List.map_nil, List.mem_cons, List.not_mem_nil, or_false] at hr
  rcases hr with rfl | rfl | rfl
  · exact rg _ _ _ _ 0 _ ix21 (by decide) rfl (good_I b hb)
  · exact rg _ _ _ _ 1 _ ix22 (by decide) rfl (good_L l h)
  · exact rg _ _ _ _ 2 _ ix23 (by decide) rfl (good_I c hc)
theorem good3 (c : Int) (hc : inI c) : ∀ r ∈ (idM sc3).rules, ruGood sc3.fields (w3 c) r := by
  intro r hr
  simp only [idM, sc3, fInt, List.map_cons, List.map_nil, List.mem_cons, List.not_mem_nil, or_false] at hr
  subst hr
  exact rg _ _ _ _ 0 _ ix31 (by decide) rfl (good_I c hc)
theorem goodM (b : Int) (l : List Int) (hb : inI b) (h : l.length ≤ 16) : ∀ r ∈ migA.rules, ruGood sc1.fields (w1 b l) r := by
  intro r hr
  simp only [migA, migX, List.mem_cons, List.not_mem_nil, or_false] at hr
  rcases hr with rfl | rfl | rfl
  · exact rg _ _ _ _ 0 _ ix11 (by decide) rfl (good_I b hb)
  · exact rg _ _ _ _ 1 _ ix12 (by decide) rfl (good_L l h)
  · exact rgC _ _ _ _ 1 _ ix12 (by decide) rfl h
theorem mk1 (b : Int) (l : List Int) : (idM sc1).rules.map (ruV sc1.fields (w1 b l)) = w1 b l := by rfl
theorem mk2 (b : Int) (l : List Int) (c : Int) : (idM sc2).rules.map (ruV sc2.fields (w2 b l c)) = w2 b l c := by rfl
theorem mk3 (c : Int) : (idM sc3).rules.map (ruV sc3.fields (w3 c)) = w3 c := by rfl
theorem mkM (b : Int) (l : List Int) (h : l.length ≤ 16) : migA.rules.map (ruV sc1.fields (w1 b l)) = w2 b l (((0 : Nat) : Int) + l.length + ((0 : Nat) : Int)) := by
  have : migA.rules.map (ruV sc1.fields (w1 b l)) = [vI b, vL l, cntV l] := by rfl
  rw [this, cnt_eq l h]; rfl
theorem ap1 (m : Nat) (b : Int) (l : List Int) (hb : inI b) (h : l.length ≤ 16) : evH tabS (m + 41) 35 [.p (idM sc1).e, .p sc1.e, .p sc1.e, .p (.slice 5 ((w1 b l).map V.e))] [] = some (.tup [.p (.slice 5 ((w1 b l).map V.e)), .p (.int .i64 0)], []) := by
  have := q_Apply m (idM sc1).type (idM sc1).rules sc1.type sc1.type sc1.fields sc1.fields (w1 b l) (by decide) (by decide) (by show 2 ≤ 8; decide) (q_Ch1 m) (st1 b l h) (good1 b l hb h)
  rwa [mk1] at this
theorem ap2 (m : Nat) (b : Int) (l : List Int) (c : Int) (hb : inI b) (hc : inI c) (h : l.length ≤ 16) : evH tabS (m + 41) 35 [.p (idM sc2).e, .p sc2.e, .p sc2.e, .p (.slice 5 ((w2 b l c).map V.e))] [] = some (.tup [.p (.slice 5 ((w2 b l c).map V.e)), .p (.int .i64 0)], []) := by
  have := q_Apply m (idM sc2).type (idM sc2).rules sc2.type sc2.type sc2.fields sc2.fields (w2 b l c) (by decide) (by decide) (by show 3 ≤ 8; decide) (q_Ch2 m) (st2 b l c h) (good2 b l c hb hc h)
  rwa [mk2] at this
theorem ap3 (m : Nat) (c : Int) (hc : inI c) : evH tabS (m + 41) 35 [.p (idM sc3).e, .p sc3.e, .p sc3.e, .p (.slice 5 ((w3 c).map V.e))] [] = some (.tup [.p (.slice 5 ((w3 c).map V.e)), .p (.int .i64 0)], []) := by
  have := q_Apply m (idM sc3).type (idM sc3).rules sc3.type sc3.type sc3.fields sc3.fields (w3 c) (by decide) (by decide) (by show 1 ≤ 8; decide) (q_Ch3 m) (st3 c) (good3 c hc)
  rwa [mk3] at this
theorem apM (m : Nat) (b : Int) (l : List Int) (hb : inI b) (h : l.length ≤ 16) : evH tabS (m + 41) 35 [.p migA.e, .p sc1.e, .p sc2.e, .p (.slice 5 ((w1 b l).map V.e))] [] = some (.tup [.p (.slice 5 ((w2 b l (((0 : Nat) : Int) + l.length + ((0 : Nat) : Int))).map V.e)), .p (.int .i64 0)], []) := by
  have := q_Apply m migA.type migA.rules sc1.type sc2.type sc1.fields sc2.fields (w1 b l) (by decide) (by decide) (by show 2 ≤ 8; decide) (q_Ch12 m) (st1 b l h) (goodM b l hb h)
  rwa [mkM b l h] at this
end Go.Ab
end
/- Carry at the program's versions; the law RolloutSteps. -/
section
namespace Go.Ab
open Go
set_option maxHeartbeats 4000000
set_option maxRecDepth 100000
def pAt : Nat → Da
  | 0 => prog1
  | _ => prog2
def gAt : Nat → Da
  | 0 => .slice 2 []
  | 1 => .sliceE 2 [migA.e]
  | _ => .slice 2 [(idM sc2).e, (idM sc3).e]
def sAt : Nat → Sc
  | 0 => sc1
  | _ => sc2
def mAt : Nat → Mi
  | 1 => migA
  | _ => idM sc2
def lenI (l : List Int) : Int := ((0 : Nat) : Int) + l.length + ((0 : Nat) : Int)
def stAt (b : Int) (l : List Int) : Nat → List V
  | 0 => w1 b l
  | _ => w2 b l (lenI l)
def wayA (b : Int) (l : List Int) : Way := ⟨pAt, gAt, sAt, mAt, fun _ => 0, stAt b l⟩
def wayB (b : Int) (l : List Int) (c : Int) : Way := ⟨pAt, gAt, sAt, mAt, fun _ => 0, fun _ => w2 b l c⟩
def wayC (c : Int) : Way := ⟨pAt, gAt, fun _ => sc3, fun _ => idM sc3, fun _ => 1, fun _ => w3 c⟩
theorem inI_len (l : List Int) (h : l.length ≤ 16) : inI (lenI l) := ⟨by unfold lenI; omega, by unfold lenI; omega⟩
def isVer (vs : List Da) : Prop := vs.length ≤ 3 ∧ ∀ i, i < vs.length → vs[i]? = some (.agg [pAt i, gAt i])
theorem isVer0 : isVer (verS 0 0) := ⟨by decide, fun i hi => by
  match i, hi with
  | 0, _ => rfl
  | 1, _ => rfl⟩
theorem isVer1 : isVer (verS 1 0) := ⟨by decide, fun i hi => by
  match i, hi with
  | 0, _ => rfl⟩
theorem isVer6 : isVer (verS 6 0) := ⟨by decide, fun i hi => by
  match i, hi with
  | 0, _ => rfl
  | 1, _ => rfl
  | 2, _ => rfl⟩
theorem iaA (i : Nat) (h : 0 < i) (h3 : i < 3) (K : D → R) : iaG 2 (.p (gAt i)) (.p (.int .i64 0)) K = K (.ip (mAt i).e 0) := by
  match i, h, h3 with
  | 1, _, _ => rfl
  | 2, _, _ => rfl
theorem iaC (i : Nat) (h : 1 < i) (h3 : i < 3) (K : D → R) : iaG 2 (.p (gAt i)) (.p (.int .i64 1)) K = K (.ip (idM sc3).e 0) := by
  match i, h, h3 with
  | 2, _, _ => rfl
theorem carryA (m : Nat) (vs : List Da) (hvs : isVer vs) (hVR : evH tabS (m + 100) 33 [.p (.slice 2 vs)] [] = some (.tup [.p (.int .i64 0), .p (.bool true)], [])) (n : Nat) (hn : n < vs.length) (b : Int) (l : List Int) (hb : inI b) (h : l.length ≤ 16) :
    evH tabS (m + 101) 11 [.p (.slice 2 vs), .p (.str sAcc), .p (.int .i64 ((0 + 1 : Nat) : Int)), .p (.int .i64 ((0 + 1 + n : Nat) : Int)), .p (.slice 5 ((w1 b l).map V.e))] [] = some (.tup [.p (.slice 5 ((stAt b l (0 + n)).map V.e)), .p (.int .i64 0)], []) := by
  have hl := hvs.1
  refine q_Carry m (wayA b l) vs sAcc 0 n (w1 b l) ⟨by omega, by omega, fun i hi => hvs.2 i (by omega), fun i K h0 hi => iaA i h0 (by omega) K⟩ (by show 2 ≤ 20; decide) (by show 2 ≤ 8; decide) hVR ?_ (st1 b l h) (q_Id1 (m + 40)) (ap1 (m + 59) b l hb h) ?_ ?_
  · intro i _ hi
    match i, (show i < 3 by omega) with
    | 0, _ => exact q_Of11 (m + 40)
    | 1, _ => exact q_Of21 (m + 40)
    | 2, _ => exact q_Of21 (m + 40)
  · intro i h0 hi
    match i, h0, (show i < 3 by omega) with
    | 1, _, _ => exact q_Ix2 (m + 60)
    | 2, _, _ => exact q_Ix31 (m + 60)
  · intro i _ hi
    match i, (show i < 2 by omega) with
    | 0, _ => exact apM (m + 59) b l hb h
    | 1, _ => exact ap2 (m + 59) b l (lenI l) hb (inI_len l h) h
theorem carryB (m : Nat) (vs : List Da) (hvs : isVer vs) (hVR : evH tabS (m + 100) 33 [.p (.slice 2 vs)] [] = some (.tup [.p (.int .i64 0), .p (.bool true)], [])) (F n : Nat) (hF : 0 < F) (hn : F + n < vs.length) (b : Int) (l : List Int) (c : Int) (hb : inI b) (hc : inI c) (h : l.length ≤ 16) :
    evH tabS (m + 101) 11 [.p (.slice 2 vs), .p (.str sAcc), .p (.int .i64 ((F + 1 : Nat) : Int)), .p (.int .i64 ((F + 1 + n : Nat) : Int)), .p (.slice 5 ((w2 b l c).map V.e))] [] = some (.tup [.p (.slice 5 ((w2 b l c).map V.e)), .p (.int .i64 0)], []) := by
  have hl := hvs.1
  have es : (wayB b l c).sch F = sc2 := by
    match F, hF with
    | F + 1, _ => rfl
  refine q_Carry m (wayB b l c) vs sAcc F n (w2 b l c) ⟨hn, by omega, fun i hi => hvs.2 i (by omega), fun i K h0 hi => iaA i (by omega) (by omega) K⟩ (by show 3 ≤ 20; decide) (by rw [es]; decide) hVR ?_ (by rw [es]; exact st2 b l c h) (by rw [es]; exact q_Id2 (m + 40)) (by rw [es]; exact ap2 (m + 59) b l c hb hc h) ?_ ?_
  · intro i h0 hi
    match i, (show 0 < i by omega), (show i < 3 by omega) with
    | 1, _, _ => exact q_Of21 (m + 40)
    | 2, _, _ => exact q_Of21 (m + 40)
  · intro i h0 hi
    match i, (show 1 < i by omega), (show i < 3 by omega) with
    | 2, _, _ => exact q_Ix31 (m + 60)
  · intro i h0 hi
    match i, (show 0 < i by omega), (show i < 2 by omega) with
    | 1, _, _ => exact ap2 (m + 59) b l c hb hc h
theorem carryC (m : Nat) (vs : List Da) (hvs : isVer vs) (hVR : evH tabS (m + 100) 33 [.p (.slice 2 vs)] [] = some (.tup [.p (.int .i64 0), .p (.bool true)], [])) (F n : Nat) (hF : 0 < F) (hn : F + n < vs.length) (c : Int) (hc : inI c) :
    evH tabS (m + 101) 11 [.p (.slice 2 vs), .p (.str sCnt), .p (.int .i64 ((F + 1 : Nat) : Int)), .p (.int .i64 ((F + 1 + n : Nat) : Int)), .p (.slice 5 ((w3 c).map V.e))] [] = some (.tup [.p (.slice 5 ((w3 c).map V.e)), .p (.int .i64 0)], []) := by
  have hl := hvs.1
  refine q_Carry m (wayC c) vs sCnt F n (w3 c) ⟨hn, by omega, fun i hi => hvs.2 i (by omega), fun i K h0 hi => iaC i (by omega) (by omega) K⟩ (by show 1 ≤ 20; decide) (by show 1 ≤ 8; decide) hVR ?_ (st3 c) (q_Id3 (m + 40)) (ap3 (m + 59) c hc) ?_ ?_
  · intro i h0 hi
    match i, (show 0 < i by omega), (show i < 3 by omega) with
    | 1, _, _ => exact q_Of22 (m + 40)
    | 2, _, _ => exact q_Of22 (m + 40)
  · intro i h0 hi
    match i, (show 1 < i by omega), (show i < 3 by omega) with
    | 2, _, _ => exact q_Ix32 (m + 60)
  · intro i h0 hi
    exact ap3 (m + 59) c hc
end Go.Ab
end
/- Runs with letters: Of at a type that the program does not have. -/
section
namespace Go.Ab
open Go
set_option maxHeartbeats 4000000
set_option maxRecDepth 100000
structure Tp where
  name : List Nat
  fs : List Da
  ms : List Da
def Tp.e (t : Tp) : Da := .agg [.str t.name, .slice 7 t.fs, .slice 4 t.ms]
def tpOf : Da → Tp
  | .agg [.str n, .slice _ f, .slice _ m] => ⟨n, f, m⟩
  | _ => ⟨[], [], []⟩
def tysOf : Da → List Tp
  | .slice _ l => l.map tpOf
  | _ => []
theorem prog1_eq : prog1 = .slice 3 ((tysOf prog1).map Tp.e) := by kernel_rfl
theorem prog2_eq : prog2 = .slice 3 ((tysOf prog2).map Tp.e) := by kernel_rfl
theorem names1 : (tysOf prog1).map Tp.name = [sAcc] := by kernel_rfl
theorem names2 : (tysOf prog2).map Tp.name = [sAcc, sCnt] := by kernel_rfl
theorem q_acc1 (m : Nat) : evH tabS (m + 50) 46 [.p (.agg [prog1])] [] = some (.p (.bool true), []) := by kernel_rfl
theorem q_acc2 (m : Nat) : evH tabS (m + 50) 46 [.p (.agg [prog2])] [] = some (.p (.bool true), []) := by kernel_rfl
theorem q_accR1 (m : Nat) : evH tabS (m + 50) 61 [.p (.agg [prog1])] [] = some (.p (.bool true), []) := by kernel_rfl
theorem q_accR2 (m : Nat) : evH tabS (m + 50) 61 [.p (.agg [prog2])] [] = some (.p (.bool true), []) := by kernel_rfl
attribute [go_sem] Tp.e
theorem q_OfNo (m : Nat) (ts : List Tp) (typ : List Nat) (hl : ts.length ≤ 20) (hno : ∀ t ∈ ts, t.name ≠ typ)
    (hacc : evH tabS (m + 50) 46 [.p (.agg [.slice 3 (ts.map Tp.e)])] [] = some (.p (.bool true), [])) :
    evH tabS (m + 51) 15 [.p (.agg [.slice 3 (ts.map Tp.e)]), .p (.str typ)] [] = some (.tup [.p noSc, .p (.bool false)], []) := by
  refine (evH_code (show tabS 15 = some (.code h15 [.cell 4 2 true, .t 5] true) by kernel_rfl) (m + 50) _ _).trans ?_
  have ga := fun (raw : Bool) (hp : List Ob) (K : KV) => call_known (raw := raw) (hp := hp) (k := K) rfl hacc rfl
  have L := fun (ke : Nat → K) (kr : K) => loop_map (m := 0) (live := [1, 4, 15, 16, 17]) (body := fun tm hp k => l15_2 (evH tabS (m + 50)) (m + 50) 0 tm hp k ke kr) ts.length
    (fun j => .cons 1 (.p (.str typ)) (.cons 4 (.box 0 0) (.cons 15 (.p (.slice 3 (ts.map Tp.e))) (.cons 16 (.p (.int .i64 ts.length)) (.cons 17 (.p (.int .i64 (j : Nat))) .nil)))))
    (fun _ => [.box [.p (.str []), .sl .nil 7 []]])
    (fun j => .cons 1 (.p (.str typ)) (.cons 4 (.box 0 0) (.cons 15 (.p (.slice 3 (ts.map Tp.e))) (.cons 16 (.p (.int .i64 ts.length)) (.cons 17 (.p (.int .i64 (j + 1 : Nat))) .nil)))))
    (fun j => [.box [.p (.str []), .sl .nil 7 []], .box [.p (.str (ts[j]?.getD ⟨[], [], []⟩).name), .p (.slice 7 (ts[j]?.getD ⟨[], [], []⟩).fs), .p (.slice 4 (ts[j]?.getD ⟨[], [], []⟩).ms)]])
    (ke 0 (.cons 1 (.p (.str typ)) (.cons 4 (.box 0 0) (.cons 15 (.p (.slice 3 (ts.map Tp.e))) (.cons 16 (.p (.int .i64 ts.length)) (.cons 17 (.p (.int .i64 ts.length)) (.cons 18 (.p (.bool false)) .nil)))))) [.box [.p (.str []), .sl .nil 7 []]])
    (fun j _ => by kernel_rfl)
    (fun j kn hj => by
      have hn := hno _ (List.getElem_mem hj)
      simp -implicitDefEqProofs (maxSteps := 1000000) only [l15_2, p15_2, go_sem, at_map Tp.e ts j hj, wrap_succ j (by omega), Int.ofNat_lt.mpr hj, List.getElem?_eq_getElem hj, Option.getD_some, hn])
    (fun kn => by
      simp -implicitDefEqProofs (maxSteps := 1000000) only [l15_2, p15_2, go_sem, Int.lt_irrefl, if_false]) (m + 50)
    (.cons 1 (.p (.str typ)) (.cons 4 (.box 1 0) (.cons 15 (.p (.slice 3 (ts.map Tp.e))) (.cons 16 (.p (.int .i64 ts.length)) (.cons 17 (.p (.int .i64 0)) .nil))))) [.box [.p (.slice 3 (ts.map Tp.e))], .box [.p (.str []), .sl .nil 7 []]] (by omega) (by kernel_rfl)
  simp -implicitDefEqProofs (maxSteps := 1000000) only [h15, p15, go_sem, ga, L]
  exact rfl
theorem q_OfRNo (m : Nat) (ts : List Tp) (typ : List Nat) (hl : ts.length ≤ 20) (hno : ∀ t ∈ ts, t.name ≠ typ)
    (hacc : evH tabS (m + 50) 61 [.p (.agg [.slice 3 (ts.map Tp.e)])] [] = some (.p (.bool true), [])) :
    evH tabS (m + 51) 40 [.p (.agg [.slice 3 (ts.map Tp.e)]), .p (.str typ)] [] = some (.tup [.p noSc, .p (.bool false)], []) := by
  refine (evH_code (show tabS 40 = some (.code h40 [.cell 4 2 true, .t 5] true) by kernel_rfl) (m + 50) _ _).trans ?_
  have ga := fun (raw : Bool) (hp : List Ob) (K : KV) => call_known (raw := raw) (hp := hp) (k := K) rfl hacc rfl
  have L := fun (ke : Nat → K) (kr : K) => loop_map (m := 0) (live := [1, 2, 4, 6]) (body := fun tm hp k => l40_1 (evH tabS (m + 50)) (m + 50) 0 tm hp k ke kr) ts.length
    (fun j => .cons 1 (.p (.str typ)) (.cons 2 (.box 0 0) (.cons 4 (.box 1 0) (.cons 6 (.p (.int .i64 (j : Nat))) .nil))))
    (fun _ => [.box [.p (.slice 3 (ts.map Tp.e))], .box [.p (.str []), .sl .nil 7 []]])
    (fun j => .cons 1 (.p (.str typ)) (.cons 2 (.box 0 0) (.cons 4 (.box 1 0) (.cons 6 (.p (.int .i64 (j + 1 : Nat))) .nil))))
    (fun _ => [.box [.p (.slice 3 (ts.map Tp.e))], .box [.p (.str []), .sl .nil 7 []]])
    (ke 0 (.cons 1 (.p (.str typ)) (.cons 2 (.box 0 0) (.cons 4 (.box 1 0) (.cons 6 (.p (.int .i64 ts.length)) (.cons 15 (.p (.bool false)) .nil))))) [.box [.p (.slice 3 (ts.map Tp.e))], .box [.p (.str []), .sl .nil 7 []]])
    (fun j _ => by kernel_rfl)
    (fun j kn hj => by
      have hn := hno _ (List.getElem_mem hj)
      simp -implicitDefEqProofs (maxSteps := 1000000) only [l40_1, p40_1, go_sem, at_map Tp.e ts j hj, wrap_succ j (by omega), Int.ofNat_lt.mpr hj, hn])
    (fun kn => by
      simp -implicitDefEqProofs (maxSteps := 1000000) only [l40_1, p40_1, go_sem, Int.lt_irrefl, if_false]) (m + 50)
    (.cons 1 (.p (.str typ)) (.cons 2 (.box 0 0) (.cons 4 (.box 1 0) (.cons 6 (.p (.int .i64 0)) .nil)))) [.box [.p (.slice 3 (ts.map Tp.e))], .box [.p (.str []), .sl .nil 7 []]] (by omega) (by kernel_rfl)
  simp -implicitDefEqProofs (maxSteps := 1000000) only [h40, p40, go_sem, ga, L]
  exact rfl
end Go.Ab
end
/- Runs with letters: the reference's Carry over versions of which the steps are known. -/
section
namespace Go.Ab
open Go
set_option maxHeartbeats 4000000
set_option maxRecDepth 20000
theorem q_CarryR (m : Nat) (w : Way) (vs : List Da) (typ : List Nat) (F n : Nat) (hw : w.ok vs typ F n) (hl : (w.st F).length ≤ 20) (hg : ∀ v ∈ w.st F, v.is.length ≤ 1000 ∧ v.ls.length ≤ 1000) (hf : (w.sch F).fields.length ≤ 8)
    (hVR : evH tabS (m + 100) 39 [.p (.slice 2 vs)] [] = some (.tup [.p (.int .i64 0), .p (.bool true)], []))
    (hOf : ∀ i, F ≤ i → i ≤ F + n → evH tabS (m + 100) 40 [.p (.agg [w.p i]), .p (.str typ)] [] = some (.tup [.p (w.sch i).e, .p (.bool true)], []))
    (hst : stateOk (w.sch F) (w.st F) = true)
    (hTy : ∀ i, F ≤ i → i < F + n → evH tabS (m + 100) 43 [.p (.agg [w.p i]), .p (.str typ)] [] = some (.p (.int .i64 (w.ix (i + 1))), []))
    (hA : ∀ i, F ≤ i → i < F + n → evH tabS (m + 100) 44 [.p (w.mg (i + 1)).e, .p (w.sch i).e, .p (w.sch (i + 1)).e, .p (.slice 5 ((w.st i).map V.e))] [] = some (.tup [.p (.slice 5 ((w.st (i + 1)).map V.e)), .p (.int .i64 0)], [])) :
    evH tabS (m + 101) 12 [.p (.slice 2 vs), .p (.str typ), .p (.int .i64 ((F + 1 : Nat) : Int)), .p (.int .i64 ((F + 1 + n : Nat) : Int)), .p (.slice 5 ((w.st F).map V.e))] [] = some (.tup [.p (.slice 5 ((w.st (F + n)).map V.e)), .p (.int .i64 0)], []) := by
  obtain ⟨w1, w2, w3, w4⟩ := hw
  refine (evH_code (show tabS 12 = some (.code h12 [.t 10, .t 11] true) by kernel_rfl) (m + 100) _ _).trans ?_
  have L := fun (ke : Nat → K) (kr : K) => loop_map (m := 0) (live := [0, 1, 3, 14, 16, 17]) (body := fun tm hp k => l12_1 (evH tabS (m + 100)) (m + 100) 0 tm hp k ke kr) n
    (fun j => .cons 0 (.p (.slice 2 vs)) (.cons 1 (.p (.str typ)) (.cons 3 (.p (.int .i64 ((F + 1 + n : Nat) : Int))) (.cons 14 (.box 0 0) (.cons 16 (.p (.slice 5 ((w.st (F + j)).map V.e))) (.cons 17 (.p (.int .i64 ((F + 1 + j : Nat) : Int))) .nil))))))
    (fun j => [.box [.p (.str (w.sch (F + j)).type), .p (.slice 7 ((w.sch (F + j)).fields.map Fi.e))]])
    (fun j => .cons 0 (.p (.slice 2 vs)) (.cons 1 (.p (.str typ)) (.cons 3 (.p (.int .i64 ((F + 1 + n : Nat) : Int))) (.cons 14 (.box 0 0) (.cons 16 (.p (.slice 5 ((w.st (F + j + 1)).map V.e))) (.cons 17 (.p (.int .i64 ((F + 1 + j + 1 : Nat) : Int))) .nil))))))
    (fun j => [.box [.p (.str (w.sch (F + j + 1)).type), .p (.slice 7 ((w.sch (F + j + 1)).fields.map Fi.e))], .box [.p (.str (w.sch (F + j + 1)).type), .p (.slice 7 ((w.sch (F + j + 1)).fields.map Fi.e))]])
    (ke 0 (.cons 0 (.p (.slice 2 vs)) (.cons 1 (.p (.str typ)) (.cons 3 (.p (.int .i64 ((F + 1 + n : Nat) : Int))) (.cons 14 (.box 0 0) (.cons 16 (.p (.slice 5 ((w.st (F + n)).map V.e))) (.cons 17 (.p (.int .i64 ((F + 1 + n : Nat) : Int))) (.cons 67 (.p (.bool false)) .nil))))))) [.box [.p (.str (w.sch (F + n)).type), .p (.slice 7 ((w.sch (F + n)).fields.map Fi.e))]])
    (fun j _ => by kernel_rfl)
    (fun j kn hj => by
      have hat : at? vs ((F + 1 + j : Nat) : Int) = some (.agg [w.p (F + j + 1), w.g (F + j + 1)]) := by rw [at_nat, show F + 1 + j = F + j + 1 by omega]; exact w3 _ (by omega)
      have hat2 : at? vs ((F + j : Nat) : Int) = some (.agg [w.p (F + j), w.g (F + j)]) := by rw [at_nat]; exact w3 _ (by omega)
      have wr2 : wrapF .i64 (((F + 1 + j : Nat) : Int) - 1) = ((F + j : Nat) : Int) := by
        rw [show ((F + 1 + j : Nat) : Int) - 1 = ((F + j : Nat) : Int) by omega]; exact wrap_few (F + j) (by omega)
      have e1 := fun (raw : Bool) (hp : List Ob) (K : KV) => call_known (raw := raw) (hp := hp) (k := K) rfl (hOf (F + j + 1) (by omega) (by omega)) rfl
      have e2 := fun (raw : Bool) (hp : List Ob) (K : KV) => call_known (raw := raw) (hp := hp) (k := K) rfl (hTy (F + j) (by omega) (by omega)) rfl
      have e3 := fun (raw : Bool) (hp : List Ob) (K : KF) => callF_known (raw := raw) (hp := hp) (k := K) rfl (hA (F + j) (by omega) (by omega)) rfl
      have e4 := fun (K : D → R) => w4 (F + j + 1) K (by omega) (by omega)
      have wr := wrap_succ (F + 1 + j) (by omega)
      have lt : ((F + 1 + j : Nat) : Int) < ((F + 1 + n : Nat) : Int) := by omega
      simp only [Sc.e, Mi.e] at e1 e3 e4
      simp -implicitDefEqProofs (maxSteps := 1000000) only [l12_1, p12_1, go_sem, hat, hat2, wr, wr2, lt, e1, e2, e3, e4, ext_tup, alloc_F, store_boxF])
    (fun kn => by
      simp -implicitDefEqProofs (maxSteps := 1000000) only [l12_1, p12_1, go_sem, Int.lt_irrefl, if_false]) (m + 100)
    (.cons 0 (.p (.slice 2 vs)) (.cons 1 (.p (.str typ)) (.cons 3 (.p (.int .i64 ((F + 1 + n : Nat) : Int))) (.cons 14 (.box 0 0) (.cons 16 (.p (.slice 5 ((w.st F).map V.e))) (.cons 17 (.p (.int .i64 ((F + 1 : Nat) : Int))) .nil)))))) [.box [.p (.str (w.sch F).type), .p (.slice 7 ((w.sch F).fields.map Fi.e))]] (by omega) (by kernel_rfl)
  have f1 := fun (raw : Bool) (hp : List Ob) (K : KV) => call_known (raw := raw) (hp := hp) (k := K) rfl hVR rfl
  have f2 := fun (raw : Bool) (hp : List Ob) (K : KV) => call_known (raw := raw) (hp := hp) (k := K) rfl (hOf F (by omega) (by omega)) rfl
  have f3 := fun (raw : Bool) (hp : List Ob) (K : KV) => call_known (raw := raw) (hp := hp) (k := K) rfl (q_CopyValues (m + 69) (w.st F) hl hg) rfl
  have hat : at? vs ((F : Nat) : Int) = some (.agg [w.p F, w.g F]) := by rw [at_nat]; exact w3 _ (by omega)
  have wr : wrapF .i64 (((F + 1 : Nat) : Int) - 1) = ((F : Nat) : Int) := by
    rw [show ((F + 1 : Nat) : Int) - 1 = ((F : Nat) : Int) by omega]; exact wrap_few F (by omega)
  have c1 : ¬ ((F + 1 : Nat) : Int) < 1 := by omega
  have c2 : ¬ (vs.length : Int) < ((F + 1 + n : Nat) : Int) := by omega
  have c3 : ¬ ((F + 1 + n : Nat) : Int) < ((F + 1 : Nat) : Int) := by omega
  simp only [Sc.e, Mi.e] at f2
  simp -implicitDefEqProofs (maxSteps := 1000000) only [h12, p12, go_sem, f1, f2, f3, hat, wr, c1, c2, c3, ext_tup, alloc_F, store_boxF, g_refValidState, show (w.sch F).fields.length ≤ 20 by omega, hl, hst, L]
end Go.Ab
end
/- Runs with letters: how Carry and the reference's Carry refuse. -/
section
namespace Go.Ab
open Go
set_option maxHeartbeats 4000000
set_option maxRecDepth 20000
theorem q_CarryBad (m : Nat) (vs : List Da) (typ : List Nat) (a b e : Int) (ws : List V) (hVR : evH tabS (m + 100) 33 [.p (.slice 2 vs)] [] = some (.tup [.p (.int .i64 e), .p (.bool false)], [])) :
    evH tabS (m + 101) 11 [.p (.slice 2 vs), .p (.str typ), .p (.int .i64 a), .p (.int .i64 b), .p (.slice 5 (ws.map V.e))] [] = some (.tup [.p (.slice 5 []), .p (.int .i64 1)], []) := by
  refine (evH_code (show tabS 11 = some (.code h11 [.t 10, .t 11] true) by kernel_rfl) (m + 100) _ _).trans ?_
  have f1 := fun (raw : Bool) (hp : List Ob) (K : KV) => call_known (raw := raw) (hp := hp) (k := K) rfl hVR rfl
  simp -implicitDefEqProofs (maxSteps := 1000000) only [h11, p11, go_sem, f1, ext_tup]
  exact rfl
theorem q_CarryOut (m : Nat) (vs : List Da) (typ : List Nat) (a b : Int) (ws : List V) (hVR : evH tabS (m + 100) 33 [.p (.slice 2 vs)] [] = some (.tup [.p (.int .i64 0), .p (.bool true)], [])) (h : a < 1 ∨ (vs.length : Int) < b ∨ b < a) :
    evH tabS (m + 101) 11 [.p (.slice 2 vs), .p (.str typ), .p (.int .i64 a), .p (.int .i64 b), .p (.slice 5 (ws.map V.e))] [] = some (.tup [.p (.slice 5 []), .p (.int .i64 1)], []) := by
  refine (evH_code (show tabS 11 = some (.code h11 [.t 10, .t 11] true) by kernel_rfl) (m + 100) _ _).trans ?_
  have f1 := fun (raw : Bool) (hp : List Ob) (K : KV) => call_known (raw := raw) (hp := hp) (k := K) rfl hVR rfl
  by_cases h1 : a < 1
  · simp -implicitDefEqProofs (maxSteps := 1000000) only [h11, p11, go_sem, f1, ext_tup, eq_true h1]
    exact rfl
  · by_cases h2 : (vs.length : Int) < b
    · simp -implicitDefEqProofs (maxSteps := 1000000) only [h11, p11, go_sem, f1, ext_tup, h1, eq_true h2]
      exact rfl
    · have h3 : b < a := by omega
      simp -implicitDefEqProofs (maxSteps := 1000000) only [h11, p11, go_sem, f1, ext_tup, h1, h2, eq_true h3]
      exact rfl
theorem q_CarryUndef (m F : Nat) (vs : List Da) (typ : List Nat) (b : Int) (ws : List V) (hb : b ≤ vs.length) (hv : vs.length ≤ 10) (hab : ((F + 1 : Nat) : Int) ≤ b) (p g : Da) (hF : vs[F]? = some (.agg [p, g])) (hVR : evH tabS (m + 100) 33 [.p (.slice 2 vs)] [] = some (.tup [.p (.int .i64 0), .p (.bool true)], [])) (hOf : evH tabS (m + 100) 15 [.p (.agg [p]), .p (.str typ)] [] = some (.tup [.p noSc, .p (.bool false)], [])) :
    evH tabS (m + 101) 11 [.p (.slice 2 vs), .p (.str typ), .p (.int .i64 ((F + 1 : Nat) : Int)), .p (.int .i64 b), .p (.slice 5 (ws.map V.e))] [] = some (.tup [.p (.slice 5 []), .p (.int .i64 14)], []) := by
  refine (evH_code (show tabS 11 = some (.code h11 [.t 10, .t 11] true) by kernel_rfl) (m + 100) _ _).trans ?_
  have f1 := fun (raw : Bool) (hp : List Ob) (K : KV) => call_known (raw := raw) (hp := hp) (k := K) rfl hVR rfl
  have f2 := fun (raw : Bool) (hp : List Ob) (K : KF) => callF_known (raw := raw) (hp := hp) (k := K) rfl hOf rfl
  have hat : at? vs ((F : Nat) : Int) = some (.agg [p, g]) := by rw [at_nat]; exact hF
  have wr : wrapF .i64 (((F + 1 : Nat) : Int) - 1) = ((F : Nat) : Int) := by
    rw [show ((F + 1 : Nat) : Int) - 1 = ((F : Nat) : Int) by omega]; exact wrap_few F (by omega)
  have c1 : ¬ ((F + 1 : Nat) : Int) < 1 := by omega
  have c2 : ¬ (vs.length : Int) < b := by omega
  have c3 : ¬ b < ((F + 1 : Nat) : Int) := by omega
  simp only [noSc] at f2
  simp -implicitDefEqProofs (maxSteps := 1000000) only [h11, p11, go_sem, f1, f2, hat, wr, c1, c2, c3, ext_tup, alloc_F, store_boxF]
  exact rfl
theorem q_CarryType (m F : Nat) (vs : List Da) (typ : List Nat) (b : Int) (ws : List V) (sc : Sc) (hl : ws.length ≤ 20) (hf : sc.fields.length ≤ 8) (hst : stateOk sc ws = false) (hb : b ≤ vs.length) (hv : vs.length ≤ 10) (hab : ((F + 1 : Nat) : Int) ≤ b) (p g : Da) (hF : vs[F]? = some (.agg [p, g])) (hVR : evH tabS (m + 100) 33 [.p (.slice 2 vs)] [] = some (.tup [.p (.int .i64 0), .p (.bool true)], [])) (hOf : evH tabS (m + 100) 15 [.p (.agg [p]), .p (.str typ)] [] = some (.tup [.p sc.e, .p (.bool true)], [])) :
    evH tabS (m + 101) 11 [.p (.slice 2 vs), .p (.str typ), .p (.int .i64 ((F + 1 : Nat) : Int)), .p (.int .i64 b), .p (.slice 5 (ws.map V.e))] [] = some (.tup [.p (.slice 5 []), .p (.int .i64 15)], []) := by
  refine (evH_code (show tabS 11 = some (.code h11 [.t 10, .t 11] true) by kernel_rfl) (m + 100) _ _).trans ?_
  have f1 := fun (raw : Bool) (hp : List Ob) (K : KV) => call_known (raw := raw) (hp := hp) (k := K) rfl hVR rfl
  have f2 := fun (raw : Bool) (hp : List Ob) (K : KF) => callF_known (raw := raw) (hp := hp) (k := K) rfl hOf rfl
  have hat : at? vs ((F : Nat) : Int) = some (.agg [p, g]) := by rw [at_nat]; exact hF
  have wr : wrapF .i64 (((F + 1 : Nat) : Int) - 1) = ((F : Nat) : Int) := by
    rw [show ((F + 1 : Nat) : Int) - 1 = ((F : Nat) : Int) by omega]; exact wrap_few F (by omega)
  have c1 : ¬ ((F + 1 : Nat) : Int) < 1 := by omega
  have c2 : ¬ (vs.length : Int) < b := by omega
  have c3 : ¬ b < ((F + 1 : Nat) : Int) := by omega
  simp only [Sc.e] at f2
  simp -implicitDefEqProofs (maxSteps := 1000000) only [h11, p11, go_sem, f1, f2, hat, wr, c1, c2, c3, ext_tup, alloc_F, store_boxF, g_validState, show sc.fields.length ≤ 20 by omega, hl, hst]
  exact rfl
theorem q_CarryRBad (m : Nat) (vs : List Da) (typ : List Nat) (a b e : Int) (ws : List V) (hVR : evH tabS (m + 100) 39 [.p (.slice 2 vs)] [] = some (.tup [.p (.int .i64 e), .p (.bool false)], [])) :
    evH tabS (m + 101) 12 [.p (.slice 2 vs), .p (.str typ), .p (.int .i64 a), .p (.int .i64 b), .p (.slice 5 (ws.map V.e))] [] = some (.tup [.p (.slice 5 []), .p (.int .i64 1)], []) := by
  refine (evH_code (show tabS 12 = some (.code h12 [.t 10, .t 11] true) by kernel_rfl) (m + 100) _ _).trans ?_
  have f1 := fun (raw : Bool) (hp : List Ob) (K : KV) => call_known (raw := raw) (hp := hp) (k := K) rfl hVR rfl
  simp -implicitDefEqProofs (maxSteps := 1000000) only [h12, p12, go_sem, f1, ext_tup]
  exact rfl
theorem q_CarryROut (m : Nat) (vs : List Da) (typ : List Nat) (a b : Int) (ws : List V) (hVR : evH tabS (m + 100) 39 [.p (.slice 2 vs)] [] = some (.tup [.p (.int .i64 0), .p (.bool true)], [])) (h : a < 1 ∨ (vs.length : Int) < b ∨ b < a) :
    evH tabS (m + 101) 12 [.p (.slice 2 vs), .p (.str typ), .p (.int .i64 a), .p (.int .i64 b), .p (.slice 5 (ws.map V.e))] [] = some (.tup [.p (.slice 5 []), .p (.int .i64 1)], []) := by
  refine (evH_code (show tabS 12 = some (.code h12 [.t 10, .t 11] true) by kernel_rfl) (m + 100) _ _).trans ?_
  have f1 := fun (raw : Bool) (hp : List Ob) (K : KV) => call_known (raw := raw) (hp := hp) (k := K) rfl hVR rfl
  by_cases h1 : a < 1
  · simp -implicitDefEqProofs (maxSteps := 1000000) only [h12, p12, go_sem, f1, ext_tup, eq_true h1]
    exact rfl
  · by_cases h2 : (vs.length : Int) < b
    · simp -implicitDefEqProofs (maxSteps := 1000000) only [h12, p12, go_sem, f1, ext_tup, h1, eq_true h2]
      exact rfl
    · have h3 : b < a := by omega
      simp -implicitDefEqProofs (maxSteps := 1000000) only [h12, p12, go_sem, f1, ext_tup, h1, h2, eq_true h3]
      exact rfl
theorem q_CarryRUndef (m F : Nat) (vs : List Da) (typ : List Nat) (b : Int) (ws : List V) (hb : b ≤ vs.length) (hv : vs.length ≤ 10) (hab : ((F + 1 : Nat) : Int) ≤ b) (p g : Da) (hF : vs[F]? = some (.agg [p, g])) (hVR : evH tabS (m + 100) 39 [.p (.slice 2 vs)] [] = some (.tup [.p (.int .i64 0), .p (.bool true)], [])) (hOf : evH tabS (m + 100) 40 [.p (.agg [p]), .p (.str typ)] [] = some (.tup [.p noSc, .p (.bool false)], [])) :
    evH tabS (m + 101) 12 [.p (.slice 2 vs), .p (.str typ), .p (.int .i64 ((F + 1 : Nat) : Int)), .p (.int .i64 b), .p (.slice 5 (ws.map V.e))] [] = some (.tup [.p (.slice 5 []), .p (.int .i64 14)], []) := by
  refine (evH_code (show tabS 12 = some (.code h12 [.t 10, .t 11] true) by kernel_rfl) (m + 100) _ _).trans ?_
  have f1 := fun (raw : Bool) (hp : List Ob) (K : KV) => call_known (raw := raw) (hp := hp) (k := K) rfl hVR rfl
  have f2 := fun (raw : Bool) (hp : List Ob) (K : KV) => call_known (raw := raw) (hp := hp) (k := K) rfl hOf rfl
  have hat : at? vs ((F : Nat) : Int) = some (.agg [p, g]) := by rw [at_nat]; exact hF
  have wr : wrapF .i64 (((F + 1 : Nat) : Int) - 1) = ((F : Nat) : Int) := by
    rw [show ((F + 1 : Nat) : Int) - 1 = ((F : Nat) : Int) by omega]; exact wrap_few F (by omega)
  have c1 : ¬ ((F + 1 : Nat) : Int) < 1 := by omega
  have c2 : ¬ (vs.length : Int) < b := by omega
  have c3 : ¬ b < ((F + 1 : Nat) : Int) := by omega
  simp only [noSc] at f2
  simp -implicitDefEqProofs (maxSteps := 1000000) only [h12, p12, go_sem, f1, f2, hat, wr, c1, c2, c3, ext_tup, alloc_F, store_boxF]
  exact rfl
theorem q_CarryRType (m F : Nat) (vs : List Da) (typ : List Nat) (b : Int) (ws : List V) (sc : Sc) (hl : ws.length ≤ 20) (hf : sc.fields.length ≤ 8) (hst : stateOk sc ws = false) (hb : b ≤ vs.length) (hv : vs.length ≤ 10) (hab : ((F + 1 : Nat) : Int) ≤ b) (p g : Da) (hF : vs[F]? = some (.agg [p, g])) (hVR : evH tabS (m + 100) 39 [.p (.slice 2 vs)] [] = some (.tup [.p (.int .i64 0), .p (.bool true)], [])) (hOf : evH tabS (m + 100) 40 [.p (.agg [p]), .p (.str typ)] [] = some (.tup [.p sc.e, .p (.bool true)], [])) :
    evH tabS (m + 101) 12 [.p (.slice 2 vs), .p (.str typ), .p (.int .i64 ((F + 1 : Nat) : Int)), .p (.int .i64 b), .p (.slice 5 (ws.map V.e))] [] = some (.tup [.p (.slice 5 []), .p (.int .i64 15)], []) := by
  refine (evH_code (show tabS 12 = some (.code h12 [.t 10, .t 11] true) by kernel_rfl) (m + 100) _ _).trans ?_
  have f1 := fun (raw : Bool) (hp : List Ob) (K : KV) => call_known (raw := raw) (hp := hp) (k := K) rfl hVR rfl
  have f2 := fun (raw : Bool) (hp : List Ob) (K : KV) => call_known (raw := raw) (hp := hp) (k := K) rfl hOf rfl
  have hat : at? vs ((F : Nat) : Int) = some (.agg [p, g]) := by rw [at_nat]; exact hF
  have wr : wrapF .i64 (((F + 1 : Nat) : Int) - 1) = ((F : Nat) : Int) := by
    rw [show ((F + 1 : Nat) : Int) - 1 = ((F : Nat) : Int) by omega]; exact wrap_few F (by omega)
  have c1 : ¬ ((F + 1 : Nat) : Int) < 1 := by omega
  have c2 : ¬ (vs.length : Int) < b := by omega
  have c3 : ¬ b < ((F + 1 : Nat) : Int) := by omega
  simp only [Sc.e] at f2
  simp -implicitDefEqProofs (maxSteps := 1000000) only [h12, p12, go_sem, f1, f2, hat, wr, c1, c2, c3, ext_tup, alloc_F, store_boxF, g_refValidState, show sc.fields.length ≤ 20 by omega, hl, hst]
  exact rfl
end Go.Ab
end
/- The steps of the reference's Carry at the program's versions. -/
section
namespace Go.Ab
open Go
set_option maxHeartbeats 4000000
set_option maxRecDepth 100000
def smallV (v : V) : Prop := v.is.length ≤ 16 ∧ v.ls.length ≤ 16
theorem small1 (b : Int) (l : List Int) (h : l.length ≤ 16) : ∀ v ∈ w1 b l, smallV v := by
  intro v hv
  simp only [w1, List.mem_cons, List.not_mem_nil, or_false] at hv
  rcases hv with rfl | rfl
  · exact ⟨Nat.zero_le _, Nat.zero_le _⟩
  · exact ⟨h, Nat.zero_le _⟩
theorem small2 (b : Int) (l : List Int) (c : Int) (h : l.length ≤ 16) : ∀ v ∈ w2 b l c, smallV v := by
  intro v hv
  simp only [w2, List.mem_cons, List.not_mem_nil, or_false] at hv
  rcases hv with rfl | rfl | rfl
  · exact ⟨Nat.zero_le _, Nat.zero_le _⟩
  · exact ⟨h, Nat.zero_le _⟩
  · exact ⟨Nat.zero_le _, Nat.zero_le _⟩
theorem small3 (c : Int) : ∀ v ∈ w3 c, smallV v := by
  intro v hv
  simp only [w3, List.mem_cons, List.not_mem_nil, or_false] at hv
  subst hv
  exact ⟨Nat.zero_le _, Nat.zero_le _⟩
theorem small_k {vs : List V} (h : ∀ v ∈ vs, smallV v) : ∀ v ∈ vs, v.is.length ≤ 1000 ∧ v.ls.length ≤ 1000 := fun v hv => ⟨by have := (h v hv).1; omega, by have := (h v hv).2; omega⟩
def ruSmall (r : Ru) : Bool := decide (r.init.is.length ≤ 1000 ∧ r.init.ls.length ≤ 1000)
theorem ru_all {rs : List Ru} (h : rs.all ruSmall = true) : ∀ r ∈ rs, r.init.is.length ≤ 1000 ∧ r.init.ls.length ≤ 1000 := fun r hr => of_decide_eq_true (List.all_eq_true.1 h r hr)
theorem ap2R (m : Nat) (b : Int) (l : List Int) (c : Int) (hb : inI b) (hc : inI c) (h : l.length ≤ 16) : evH tabS (m + 61) 44 [.p (idM sc2).e, .p sc2.e, .p sc2.e, .p (.slice 5 ((w2 b l c).map V.e))] [] = some (.tup [.p (.slice 5 ((w2 b l c).map V.e)), .p (.int .i64 0)], []) := by
  have := q_ApplyR (m + 10) (idM sc2).type (idM sc2).rules sc2.type sc2.type sc2.fields sc2.fields (w2 b l c) (by decide) (by decide) (by show 3 ≤ 8; decide) (small_k (small2 b l c h)) (q_ChR2 (m + 20)) (st2 b l c h) (good2 b l c hb hc h) (ru_all (by decide))
  rwa [mk2] at this
theorem ap3R (m : Nat) (c : Int) (hc : inI c) : evH tabS (m + 61) 44 [.p (idM sc3).e, .p sc3.e, .p sc3.e, .p (.slice 5 ((w3 c).map V.e))] [] = some (.tup [.p (.slice 5 ((w3 c).map V.e)), .p (.int .i64 0)], []) := by
  have := q_ApplyR (m + 10) (idM sc3).type (idM sc3).rules sc3.type sc3.type sc3.fields sc3.fields (w3 c) (by decide) (by decide) (by show 1 ≤ 8; decide) (small_k (small3 c)) (q_ChR3 (m + 20)) (st3 c) (good3 c hc) (ru_all (by decide))
  rwa [mk3] at this
theorem apMR (m : Nat) (b : Int) (l : List Int) (hb : inI b) (h : l.length ≤ 16) : evH tabS (m + 61) 44 [.p migA.e, .p sc1.e, .p sc2.e, .p (.slice 5 ((w1 b l).map V.e))] [] = some (.tup [.p (.slice 5 ((w2 b l (((0 : Nat) : Int) + l.length + ((0 : Nat) : Int))).map V.e)), .p (.int .i64 0)], []) := by
  have := q_ApplyR (m + 10) migA.type migA.rules sc1.type sc2.type sc1.fields sc2.fields (w1 b l) (by decide) (by decide) (by show 2 ≤ 8; decide) (small_k (small1 b l h)) (q_ChR12 (m + 20)) (st1 b l h) (goodM b l hb h) (ru_all (by decide))
  rwa [mkM b l h] at this
theorem carryRA (m : Nat) (vs : List Da) (hvs : isVer vs) (hVR : evH tabS (m + 100) 39 [.p (.slice 2 vs)] [] = some (.tup [.p (.int .i64 0), .p (.bool true)], [])) (n : Nat) (hn : n < vs.length) (b : Int) (l : List Int) (hb : inI b) (h : l.length ≤ 16) :
    evH tabS (m + 101) 12 [.p (.slice 2 vs), .p (.str sAcc), .p (.int .i64 ((0 + 1 : Nat) : Int)), .p (.int .i64 ((0 + 1 + n : Nat) : Int)), .p (.slice 5 ((w1 b l).map V.e))] [] = some (.tup [.p (.slice 5 ((stAt b l (0 + n)).map V.e)), .p (.int .i64 0)], []) := by
  have hl := hvs.1
  refine q_CarryR m (wayA b l) vs sAcc 0 n ⟨by omega, by omega, fun i hi => hvs.2 i (by omega), fun i K h0 hi => iaA i h0 (by omega) K⟩ (by show 2 ≤ 20; decide) (small_k (small1 b l h)) (by show 2 ≤ 8; decide) hVR ?_ (st1 b l h) ?_ ?_
  · intro i _ hi
    match i, (show i < 3 by omega) with
    | 0, _ => exact q_OfR11 (m + 40)
    | 1, _ => exact q_OfR21 (m + 40)
    | 2, _ => exact q_OfR21 (m + 40)
  · intro i h0 hi
    match i, (show i < 2 by omega) with
    | 0, _ => exact q_Ty11 (m + 60)
    | 1, _ => exact q_Ty21 (m + 60)
  · intro i _ hi
    match i, (show i < 2 by omega) with
    | 0, _ => exact apMR (m + 39) b l hb h
    | 1, _ => exact ap2R (m + 39) b l (lenI l) hb (inI_len l h) h
theorem carryRB (m : Nat) (vs : List Da) (hvs : isVer vs) (hVR : evH tabS (m + 100) 39 [.p (.slice 2 vs)] [] = some (.tup [.p (.int .i64 0), .p (.bool true)], [])) (F n : Nat) (hF : 0 < F) (hn : F + n < vs.length) (b : Int) (l : List Int) (c : Int) (hb : inI b) (hc : inI c) (h : l.length ≤ 16) :
    evH tabS (m + 101) 12 [.p (.slice 2 vs), .p (.str sAcc), .p (.int .i64 ((F + 1 : Nat) : Int)), .p (.int .i64 ((F + 1 + n : Nat) : Int)), .p (.slice 5 ((w2 b l c).map V.e))] [] = some (.tup [.p (.slice 5 ((w2 b l c).map V.e)), .p (.int .i64 0)], []) := by
  have hl := hvs.1
  have es : (wayB b l c).sch F = sc2 := by
    match F, hF with
    | F + 1, _ => rfl
  refine q_CarryR m (wayB b l c) vs sAcc F n ⟨hn, by omega, fun i hi => hvs.2 i (by omega), fun i K h0 hi => iaA i (by omega) (by omega) K⟩ (by show 3 ≤ 20; decide) (small_k (small2 b l c h)) (by rw [es]; decide) hVR ?_ (by rw [es]; exact st2 b l c h) ?_ ?_
  · intro i h0 hi
    match i, (show 0 < i by omega), (show i < 3 by omega) with
    | 1, _, _ => exact q_OfR21 (m + 40)
    | 2, _, _ => exact q_OfR21 (m + 40)
  · intro i h0 hi
    match i, (show 0 < i by omega), (show i < 2 by omega) with
    | 1, _, _ => exact q_Ty21 (m + 60)
  · intro i h0 hi
    match i, (show 0 < i by omega), (show i < 2 by omega) with
    | 1, _, _ => exact ap2R (m + 39) b l c hb hc h
theorem carryRC (m : Nat) (vs : List Da) (hvs : isVer vs) (hVR : evH tabS (m + 100) 39 [.p (.slice 2 vs)] [] = some (.tup [.p (.int .i64 0), .p (.bool true)], [])) (F n : Nat) (hF : 0 < F) (hn : F + n < vs.length) (c : Int) (hc : inI c) :
    evH tabS (m + 101) 12 [.p (.slice 2 vs), .p (.str sCnt), .p (.int .i64 ((F + 1 : Nat) : Int)), .p (.int .i64 ((F + 1 + n : Nat) : Int)), .p (.slice 5 ((w3 c).map V.e))] [] = some (.tup [.p (.slice 5 ((w3 c).map V.e)), .p (.int .i64 0)], []) := by
  have hl := hvs.1
  refine q_CarryR m (wayC c) vs sCnt F n ⟨hn, by omega, fun i hi => hvs.2 i (by omega), fun i K h0 hi => iaC i (by omega) (by omega) K⟩ (by show 1 ≤ 20; decide) (small_k (small3 c)) (by show 1 ≤ 8; decide) hVR ?_ (st3 c) ?_ ?_
  · intro i h0 hi
    match i, (show 0 < i by omega), (show i < 3 by omega) with
    | 1, _, _ => exact q_OfR22 (m + 40)
    | 2, _, _ => exact q_OfR22 (m + 40)
  · intro i h0 hi
    match i, (show 0 < i by omega), (show i < 2 by omega) with
    | 1, _, _ => exact q_Ty22 (m + 60)
  · intro i h0 hi
    exact ap3R (m + 39) c hc
end Go.Ab
end
/- Both Carries agree, at every input. -/
section
namespace Go.Ab
open Go
set_option maxHeartbeats 4000000
set_option maxRecDepth 100000
theorem st_val {s : Sc} {vs : List V} (h : stateOk s vs = true) : vs.length = s.fields.length ∧ ∀ j, j < vs.length → okValue s.fields vs j = true := by
  unfold stateOk at h
  rw [Bool.and_eq_true, Bool.and_eq_true, decide_eq_true_eq] at h
  refine ⟨h.1.2, fun j hj => ?_⟩
  cases hv : okValue s.fields vs j with
  | true => rfl
  | false =>
    obtain ⟨i, _, hi⟩ := firstF_stop (okValue s.fields vs) vs.length j hj hv
    rw [hi] at h
    exact absurd h.2 (by simp)
theorem vI_of (v : V) (h : vOk v = true) (hk : v.k = 1) : v = vI v.n := by
  obtain ⟨k, n, s, is, ls⟩ := v
  simp only [vOk, Bool.and_eq_true, decide_eq_true_eq, List.length_eq_zero_iff] at h hk
  obtain ⟨⟨_, _, _, h3, h4, h5, _⟩, _⟩ := h
  subst hk
  have h3 : s = [] := h3.resolve_right (by decide)
  have h4 : is = [] := h4.resolve_right (by decide)
  have h5 : ls = [] := h5.resolve_right (by decide)
  subst h3 h4 h5
  rfl
theorem vL_of (v : V) (h : vOk v = true) (hk : v.k = 4) : v = vL v.is ∧ v.is.length ≤ 16 := by
  obtain ⟨k, n, s, is, ls⟩ := v
  simp only [vOk, Bool.and_eq_true, decide_eq_true_eq, List.length_eq_zero_iff] at h hk
  obtain ⟨⟨_, _, h2, h3, _, h5, _, h6, _⟩, _⟩ := h
  subst hk
  have h2 : n = 0 := h2.resolve_right (fun e => e.elim (by decide) fun e => absurd e.1 (by decide))
  have h3 : s = [] := h3.resolve_right (by decide)
  have h5 : ls = [] := h5.resolve_right (by decide)
  subst h2 h3 h5
  exact ⟨rfl, h6⟩
theorem ok_at {fs : List Fi} {vs : List V} {j : Nat} {v : V} {f : Fi} (h : okValue fs vs j = true) (hv : vs[j]? = some v) (hf : fs[j]? = some f) : v.k = f.kind ∧ vOk v = true := by
  unfold okValue at h
  rw [hv, hf, Bool.and_eq_true, decide_eq_true_eq] at h
  exact h
theorem st1_inv {vs : List V} (h : stateOk sc1 vs = true) : ∃ b l, vs = w1 b l ∧ l.length ≤ 16 := by
  obtain ⟨hl, hv⟩ := st_val h
  match vs, hl with
  | [x, y], _ =>
    obtain ⟨x1, x2⟩ := ok_at (hv 0 (by simp)) rfl rfl
    obtain ⟨y1, y2⟩ := ok_at (hv 1 (by simp)) rfl rfl
    have ex := vI_of x x2 x1
    obtain ⟨ey, hy⟩ := vL_of y y2 y1
    exact ⟨x.n, y.is, by rw [w1, ← ex, ← ey], hy⟩
theorem st2_inv {vs : List V} (h : stateOk sc2 vs = true) : ∃ b l c, vs = w2 b l c ∧ l.length ≤ 16 := by
  obtain ⟨hl, hv⟩ := st_val h
  match vs, hl with
  | [x, y, z], _ =>
    obtain ⟨x1, x2⟩ := ok_at (hv 0 (by simp)) rfl rfl
    obtain ⟨y1, y2⟩ := ok_at (hv 1 (by simp)) rfl rfl
    obtain ⟨z1, z2⟩ := ok_at (hv 2 (by simp)) rfl rfl
    have ex := vI_of x x2 x1
    obtain ⟨ey, hy⟩ := vL_of y y2 y1
    have ez := vI_of z z2 z1
    exact ⟨x.n, y.is, z.n, by rw [w2, ← ex, ← ey, ← ez], hy⟩
theorem st3_inv {vs : List V} (h : stateOk sc3 vs = true) : ∃ c, vs = w3 c := by
  obtain ⟨hl, hv⟩ := st_val h
  match vs, hl with
  | [x], _ =>
    obtain ⟨x1, x2⟩ := ok_at (hv 0 (by simp)) rfl rfl
    have ex := vI_of x x2 x1
    exact ⟨x.n, by rw [w3, ← ex]⟩
def XR (us : List V) (e : Int) : R := some (.tup [.p (.slice 5 (us.map V.e)), .p (.int .i64 e)], [])
def Both (m : Nat) (vs : List Da) (typ : List Nat) (f t : Int) (ws : List V) : Prop :=
  ∃ us e, us.length ≤ 20 ∧ (∀ v ∈ us, smallV v) ∧ evH tabS (m + 101) 11 [.p (.slice 2 vs), .p (.str typ), .p (.int .i64 f), .p (.int .i64 t), .p (.slice 5 (ws.map V.e))] [] = XR us e ∧ evH tabS (m + 101) 12 [.p (.slice 2 vs), .p (.str typ), .p (.int .i64 f), .p (.int .i64 t), .p (.slice 5 (ws.map V.e))] [] = XR us e
theorem both_no {m : Nat} {vs : List Da} {typ : List Nat} {f t e : Int} {ws : List V} (h1 : evH tabS (m + 101) 11 [.p (.slice 2 vs), .p (.str typ), .p (.int .i64 f), .p (.int .i64 t), .p (.slice 5 (ws.map V.e))] [] = some (.tup [.p (.slice 5 []), .p (.int .i64 e)], [])) (h2 : evH tabS (m + 101) 12 [.p (.slice 2 vs), .p (.str typ), .p (.int .i64 f), .p (.int .i64 t), .p (.slice 5 (ws.map V.e))] [] = some (.tup [.p (.slice 5 []), .p (.int .i64 e)], [])) : Both m vs typ f t ws :=
  ⟨[], e, Nat.zero_le _, (fun v hv => by cases hv), h1, h2⟩
theorem no1 {typ : List Nat} (h : typ ≠ sAcc) : ∀ t ∈ tysOf prog1, t.name ≠ typ := by
  intro t ht e
  have : t.name ∈ (tysOf prog1).map Tp.name := List.mem_map_of_mem ht
  rw [names1, e] at this
  simp only [List.mem_cons, List.not_mem_nil, or_false] at this
  exact h this
theorem no2 {typ : List Nat} (h : typ ≠ sAcc) (h2 : typ ≠ sCnt) : ∀ t ∈ tysOf prog2, t.name ≠ typ := by
  intro t ht e
  have : t.name ∈ (tysOf prog2).map Tp.name := List.mem_map_of_mem ht
  rw [names2, e] at this
  simp only [List.mem_cons, List.not_mem_nil, or_false] at this
  exact this.elim h h2
theorem len1 : (tysOf prog1).length ≤ 20 := by
  have : ((tysOf prog1).map Tp.name).length = 1 := by rw [names1]; rfl
  rw [List.length_map] at this; omega
theorem len2 : (tysOf prog2).length ≤ 20 := by
  have : ((tysOf prog2).map Tp.name).length = 2 := by rw [names2]; rfl
  rw [List.length_map] at this; omega
theorem of1_no (m : Nat) {typ : List Nat} (h : typ ≠ sAcc) : evH tabS (m + 51) 15 [.p (.agg [prog1]), .p (.str typ)] [] = some (.tup [.p noSc, .p (.bool false)], []) := by
  have := q_OfNo m (tysOf prog1) typ len1 (no1 h) (by rw [← prog1_eq]; exact q_acc1 m)
  rwa [← prog1_eq] at this
theorem of2_no (m : Nat) {typ : List Nat} (h : typ ≠ sAcc) (h2 : typ ≠ sCnt) : evH tabS (m + 51) 15 [.p (.agg [prog2]), .p (.str typ)] [] = some (.tup [.p noSc, .p (.bool false)], []) := by
  have := q_OfNo m (tysOf prog2) typ len2 (no2 h h2) (by rw [← prog2_eq]; exact q_acc2 m)
  rwa [← prog2_eq] at this
theorem ofR1_no (m : Nat) {typ : List Nat} (h : typ ≠ sAcc) : evH tabS (m + 51) 40 [.p (.agg [prog1]), .p (.str typ)] [] = some (.tup [.p noSc, .p (.bool false)], []) := by
  have := q_OfRNo m (tysOf prog1) typ len1 (no1 h) (by rw [← prog1_eq]; exact q_accR1 m)
  rwa [← prog1_eq] at this
theorem ofR2_no (m : Nat) {typ : List Nat} (h : typ ≠ sAcc) (h2 : typ ≠ sCnt) : evH tabS (m + 51) 40 [.p (.agg [prog2]), .p (.str typ)] [] = some (.tup [.p noSc, .p (.bool false)], []) := by
  have := q_OfRNo m (tysOf prog2) typ len2 (no2 h h2) (by rw [← prog2_eq]; exact q_accR2 m)
  rwa [← prog2_eq] at this
theorem both_good (m : Nat) (vs : List Da) (hvs : isVer vs) (typ : List Nat) (f t : Int) (ws : List V) (hl : ws.length ≤ 20) (hw : ∀ v ∈ ws, inI v.n)
    (h1 : evH tabS (m + 100) 33 [.p (.slice 2 vs)] [] = some (.tup [.p (.int .i64 0), .p (.bool true)], []))
    (h2 : evH tabS (m + 100) 39 [.p (.slice 2 vs)] [] = some (.tup [.p (.int .i64 0), .p (.bool true)], [])) : Both m vs typ f t ws := by
  by_cases hr : f < 1 ∨ (vs.length : Int) < t ∨ t < f
  · exact both_no (q_CarryOut m vs typ f t ws h1 hr) (q_CarryROut m vs typ f t ws h2 hr)
  · have hv3 := hvs.1
    obtain ⟨F, n, rfl, rfl, hF⟩ : ∃ F n : Nat, f = ((F + 1 : Nat) : Int) ∧ t = ((F + 1 + n : Nat) : Int) ∧ F + n < vs.length := ⟨(f - 1).toNat, (t - f).toNat, by omega, by omega, by omega⟩
    have hat := hvs.2 F (by omega)
    have hb : ((F + 1 + n : Nat) : Int) ≤ vs.length := by omega
    have hab : ((F + 1 : Nat) : Int) ≤ ((F + 1 + n : Nat) : Int) := by omega
    match F, hF, hat, hb, hab with
    | 0, hF, hat, hb, hab =>
      by_cases ht : typ = sAcc
      · subst ht
        cases hs : stateOk sc1 ws with
        | false => exact both_no (q_CarryType m 0 vs sAcc _ ws sc1 hl (by decide) hs hb (by omega) hab _ _ hat h1 (q_Of11 (m + 40))) (q_CarryRType m 0 vs sAcc _ ws sc1 hl (by decide) hs hb (by omega) hab _ _ hat h2 (q_OfR11 (m + 40)))
        | true =>
          obtain ⟨b, l, rfl, hl16⟩ := st1_inv hs
          have hbi : inI b := hw (vI b) (by simp [w1])
          refine ⟨stAt b l (0 + n), 0, ?_, ?_, carryA m vs hvs h1 n (by omega) b l hbi hl16, carryRA m vs hvs h2 n (by omega) b l hbi hl16⟩
          · match n with
            | 0 => show 2 ≤ 20; decide
            | n + 1 => rw [Nat.zero_add]; show 3 ≤ 20; decide
          · match n with
            | 0 => exact small1 b l hl16
            | n + 1 => rw [Nat.zero_add]; exact small2 b l _ hl16
      · have ho : evH tabS (m + 100) 15 [.p (.agg [prog1]), .p (.str typ)] [] = some (.tup [.p noSc, .p (.bool false)], []) := of1_no (m + 49) ht
        have ho2 : evH tabS (m + 100) 40 [.p (.agg [prog1]), .p (.str typ)] [] = some (.tup [.p noSc, .p (.bool false)], []) := ofR1_no (m + 49) ht
        exact both_no (q_CarryUndef m 0 vs typ _ ws hb (by omega) hab _ _ hat h1 ho) (q_CarryRUndef m 0 vs typ _ ws hb (by omega) hab _ _ hat h2 ho2)
    | F + 1, hF, hat, hb, hab =>
      by_cases ht : typ = sAcc
      · subst ht
        cases hs : stateOk sc2 ws with
        | false => exact both_no (q_CarryType m (F + 1) vs sAcc _ ws sc2 hl (by decide) hs hb (by omega) hab _ _ hat h1 (q_Of21 (m + 40))) (q_CarryRType m (F + 1) vs sAcc _ ws sc2 hl (by decide) hs hb (by omega) hab _ _ hat h2 (q_OfR21 (m + 40)))
        | true =>
          obtain ⟨b, l, c, rfl, hl16⟩ := st2_inv hs
          have hbi : inI b := hw (vI b) (by simp [w2])
          have hci : inI c := hw (vI c) (by simp [w2])
          exact ⟨w2 b l c, 0, by show 3 ≤ 20; decide, small2 b l c hl16, carryB m vs hvs h1 (F + 1) n (by omega) hF b l c hbi hci hl16, carryRB m vs hvs h2 (F + 1) n (by omega) hF b l c hbi hci hl16⟩
      · by_cases ht2 : typ = sCnt
        · subst ht2
          cases hs : stateOk sc3 ws with
          | false => exact both_no (q_CarryType m (F + 1) vs sCnt _ ws sc3 hl (by decide) hs hb (by omega) hab _ _ hat h1 (q_Of22 (m + 40))) (q_CarryRType m (F + 1) vs sCnt _ ws sc3 hl (by decide) hs hb (by omega) hab _ _ hat h2 (q_OfR22 (m + 40)))
          | true =>
            obtain ⟨c, rfl⟩ := st3_inv hs
            have hci : inI c := hw (vI c) (by simp [w3])
            exact ⟨w3 c, 0, by show 1 ≤ 20; decide, small3 c, carryC m vs hvs h1 (F + 1) n (by omega) hF c hci, carryRC m vs hvs h2 (F + 1) n (by omega) hF c hci⟩
        · have ho : evH tabS (m + 100) 15 [.p (.agg [prog2]), .p (.str typ)] [] = some (.tup [.p noSc, .p (.bool false)], []) := of2_no (m + 49) ht ht2
          have ho2 : evH tabS (m + 100) 40 [.p (.agg [prog2]), .p (.str typ)] [] = some (.tup [.p noSc, .p (.bool false)], []) := ofR2_no (m + 49) ht ht2
          exact both_no (q_CarryUndef m (F + 1) vs typ _ ws hb (by omega) hab _ _ hat h1 ho) (q_CarryRUndef m (F + 1) vs typ _ ws hb (by omega) hab _ _ hat h2 ho2)
theorem both_bad (m k a : Nat) (typ : List Nat) (f t : Int) (ws : List V) (hg : goodS k = false) (h1 : evH tabS (m + 100) 33 [.p (.slice 2 (verS k a))] [] = ansR (badS k) (goodS k))
    (h2 : evH tabS (m + 100) 39 [.p (.slice 2 (verS k a))] [] = ansR (badS k) (goodS k)) : Both m (verS k a) typ f t ws := by
  rw [hg] at h1 h2
  exact both_no (q_CarryBad m _ typ f t _ ws h1) (q_CarryRBad m _ typ f t _ ws h2)
theorem both_ok (m k a : Nat) (hv : isVer (verS k a)) (typ : List Nat) (f t : Int) (ws : List V) (hl : ws.length ≤ 20) (hw : ∀ v ∈ ws, inI v.n) (hg : goodS k = true) (hb : badS k = 0) (h1 : evH tabS (m + 100) 33 [.p (.slice 2 (verS k a))] [] = ansR (badS k) (goodS k))
    (h2 : evH tabS (m + 100) 39 [.p (.slice 2 (verS k a))] [] = ansR (badS k) (goodS k)) : Both m (verS k a) typ f t ws := by
  rw [hg, hb] at h1 h2
  exact both_good m _ hv typ f t ws hl hw h1 h2
theorem both (m k a : Nat) (hp : chPair k a) (typ : List Nat) (f t : Int) (ws : List V) (hl : ws.length ≤ 20) (hw : ∀ v ∈ ws, inI v.n) : Both m (verS k a) typ f t ws := by
  rcases hp with ⟨rfl, ha⟩ | ⟨h5, hk, rfl⟩
  · match a, ha with
    | 0, _ => exact both_bad m 5 0 typ f t ws rfl (q_VR50 (m + 99)) (q_VRR50 (m + 99))
    | 1, _ => exact both_bad m 5 1 typ f t ws rfl (q_VR51 (m + 99)) (q_VRR51 (m + 99))
    | 2, _ => exact both_bad m 5 2 typ f t ws rfl (q_VR52 (m + 99)) (q_VRR52 (m + 99))
  · match k, h5, hk with
    | 0, _, _ => exact both_ok m 0 0 isVer0 typ f t ws hl hw rfl rfl (q_VR00 (m + 99)) (q_VRR00 (m + 99))
    | 1, _, _ => exact both_ok m 1 0 isVer1 typ f t ws hl hw rfl rfl (q_VR10 (m + 99)) (q_VRR10 (m + 99))
    | 2, _, _ => exact both_bad m 2 0 typ f t ws rfl (q_VR20 (m + 99)) (q_VRR20 (m + 99))
    | 3, _, _ => exact both_bad m 3 0 typ f t ws rfl (q_VR30 (m + 99)) (q_VRR30 (m + 99))
    | 4, _, _ => exact both_bad m 4 0 typ f t ws rfl (q_VR40 (m + 99)) (q_VRR40 (m + 99))
    | 6, _, _ => exact both_ok m 6 0 isVer6 typ f t ws hl hw rfl rfl (q_VR60 (m + 99)) (q_VRR60 (m + 99))
    | 7, _, _ => exact both_bad m 7 0 typ f t ws rfl (q_VR70 (m + 99)) (q_VRR70 (m + 99))
    | 8, _, _ => exact both_bad m 8 0 typ f t ws rfl (q_VR80 (m + 99)) (q_VRR80 (m + 99))
end Go.Ab
end
/- The law RolloutCarries on letters. -/
section
namespace Go.Ab
open Go
set_option maxHeartbeats 4000000
set_option maxRecDepth 100000
theorem g_awk (m : Nat) (raw : Bool) (hp : List Ob) (K : KV) : callG (evH tabS (m + 1)) 8 raw [] hp K = K (.p (.bool true)) hp :=
  call_known rfl ((evH_prim (xs := []) (show tabS 8 = some (.prim kW) by kernel_rfl) m).trans (by kernel_rfl)) rfl
theorem bsl2 (call : CallF) (base kk : Nat) (x y : List Nat) (hp : List Ob) (k : KV) : genW call base (.bsl 1 (.str []) 2 [0, 1]) kk [.p (.str x), .p (.str y)] hp k = k (.sl .exact 1 [.str x, .str y]) hp := by
  rw [genW_eq]
  have : aBsl 1 (.str []) 2 [0, 1] [.p (.str x), .p (.str y)] [] [] = some (.sl .exact 1 [.str x, .str y], [], []) := by rfl
  have hn : need (.bsl 1 (.str []) 2 [0, 1]) [.p (.str x), .p (.str y)] hp = [] := rfl
  simp only [genV, makes, Bool.not_false, Bool.true_or, cond_true, hn, act, List.map_nil, this]
  rfl
theorem ia_e0 (x y : List Nat) (K : D → R) : iaG 1 (.sl .exact 1 [.str x, .str y]) (.p (.int .u8 0)) K = K (.ip (.str x) 0) := by rfl
theorem ia_e1 (x y : List Nat) (K : D → R) : iaG 1 (.sl .exact 1 [.str x, .str y]) (.p (.int .u8 1)) K = K (.ip (.str y) 0) := by rfl
theorem q_CarriesF (m : Nat) (how at' : Int) (typ : List Nat) (f t : Int) (ws : List V) (u1 : 0 ≤ how) (u3 : 0 ≤ at') (u4 : at' < 256) (hw : ∀ v ∈ ws, inI v.n) :
    evH tabS (m + 110) 4 [.p (.int .u8 how), .p (.int .u8 at'), .p (.str typ), .p (.int .i64 f), .p (.int .i64 t), .p (.slice 5 (ws.map V.e)), .p (.bool false)] [] = some (.p (.bool true), []) := by
  refine (evH_code (show tabS 4 = some (.code h4 [.t 14] true) by kernel_rfl) (m + 109) _ _).trans ?_
  by_cases h : ws.length ≤ 20
  · have h20 : ¬ (20 : Int) < ws.length := by omega
    obtain ⟨k, a, hp, hc⟩ := q_change (m + 78) how at' u1 u3 u4
    obtain ⟨us, e, hu, hs, c1, c2⟩ := both (m + 8) k a hp typ f t ws h hw
    have gch := fun (raw : Bool) (hp : List Ob) (K : KV) => call_known (raw := raw) (hp := hp) (k := K) rfl hc rfl
    have g1 := fun (raw : Bool) (hp : List Ob) (K : KV) => call_known (raw := raw) (hp := hp) (k := K) rfl c1 rfl
    have g2 := fun (raw : Bool) (hp : List Ob) (K : KV) => call_known (raw := raw) (hp := hp) (k := K) rfl c2 rfl
    have g3 := fun (raw : Bool) (hp : List Ob) (K : KV) => call_known (raw := raw) (hp := hp) (k := K) rfl (q_SameValues (m + 86) us hu hs) rfl
    simp -implicitDefEqProofs (maxSteps := 1000000) only [h4, p4, go_sem, g_awk, h20, gch, g1, g2, g3, ext_tup]
  · have h20 : (20 : Int) < ws.length := by omega
    simp -implicitDefEqProofs (maxSteps := 1000000) only [h4, p4, go_sem, g_awk, eq_true h20]
theorem q_CarriesT (m : Nat) (how at' : Int) (typ : List Nat) (f t : Int) (ws : List V) (u1 : 0 ≤ how) (u3 : 0 ≤ at') (u4 : at' < 256) (hw : ∀ v ∈ ws, inI v.n) :
    evH tabS (m + 110) 4 [.p (.int .u8 how), .p (.int .u8 at'), .p (.str typ), .p (.int .i64 f), .p (.int .i64 t), .p (.slice 5 (ws.map V.e)), .p (.bool true)] [] = some (.p (.bool true), []) := by
  refine (evH_code (show tabS 4 = some (.code h4 [.t 14] true) by kernel_rfl) (m + 109) _ _).trans ?_
  by_cases h : ws.length ≤ 20
  · have h20 : ¬ (20 : Int) < ws.length := by omega
    obtain ⟨k, a, hp, hc⟩ := q_change (m + 78) how at' u1 u3 u4
    have gch := fun (raw : Bool) (hp : List Ob) (K : KV) => call_known (raw := raw) (hp := hp) (k := K) rfl hc rfl
    have r := fun (f : D → R) => b_rem .u8 at' 2 f (by decide)
    have a1 := Int.tmod_nonneg 2 u3
    have a2 := Int.tmod_lt_of_pos at' (show (0 : Int) < 2 by decide)
    have : at'.tmod 2 = 0 ∨ at'.tmod 2 = 1 := by omega
    rcases this with e2 | e2
    · obtain ⟨us, e, hu, hs, c1, c2⟩ := both (m + 8) k a hp sAcc f t ws h hw
      have g1 := fun (raw : Bool) (hp : List Ob) (K : KV) => call_known (raw := raw) (hp := hp) (k := K) rfl c1 rfl
      have g2 := fun (raw : Bool) (hp : List Ob) (K : KV) => call_known (raw := raw) (hp := hp) (k := K) rfl c2 rfl
      have g3 := fun (raw : Bool) (hp : List Ob) (K : KV) => call_known (raw := raw) (hp := hp) (k := K) rfl (q_SameValues (m + 86) us hu hs) rfl
      rw [e2] at r
      simp only [sAcc] at g1 g2
      simp -implicitDefEqProofs (maxSteps := 1000000) only [h4, p4, go_sem, g_awk, h20, gch, g1, g2, g3, r, bsl2, ia_e0, ia_e1, ext_tup]
    · obtain ⟨us, e, hu, hs, c1, c2⟩ := both (m + 8) k a hp sCnt f t ws h hw
      have g1 := fun (raw : Bool) (hp : List Ob) (K : KV) => call_known (raw := raw) (hp := hp) (k := K) rfl c1 rfl
      have g2 := fun (raw : Bool) (hp : List Ob) (K : KV) => call_known (raw := raw) (hp := hp) (k := K) rfl c2 rfl
      have g3 := fun (raw : Bool) (hp : List Ob) (K : KV) => call_known (raw := raw) (hp := hp) (k := K) rfl (q_SameValues (m + 86) us hu hs) rfl
      rw [e2] at r
      simp only [sCnt] at g1 g2
      simp -implicitDefEqProofs (maxSteps := 1000000) only [h4, p4, go_sem, g_awk, h20, gch, g1, g2, g3, r, bsl2, ia_e0, ia_e1, ext_tup]
  · have h20 : (20 : Int) < ws.length := by omega
    simp -implicitDefEqProofs (maxSteps := 1000000) only [h4, p4, go_sem, g_awk, eq_true h20]
end Go.Ab
end
