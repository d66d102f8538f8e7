/- The evaluator and its laws, part Kg1: Kg La Ib Ic -/
import Derived.Test.YtlfhmmbmjkadiaaGreatDoorKg0
import Derived.Test.YtlfhmmbmjkadiaaGreatDoorOg1
import Derived.Test.YtlfhmmbmjkadiaaGreatDoorOg2
set_option linter.all false
/- The walk over a tree and a method: all of it. -/
section
namespace Go.Ab
open Go
set_option maxRecDepth 100000
noncomputable section
theorem kids_len {v : CS → Int → Option (Int × CS)} : ∀ (l : List Int) (c : CS) {ks : List Int} {c' : CS}, kidsM v c l = some (ks, c') → ks.length = l.length
 | [], c, ks, c', h => by simp only [kidsM, Option.some.injEq, Prod.mk.injEq] at h; rw [← h.1]
 | k :: l, c, ks, c', h => by
  simp only [kidsM] at h
  split at h
  ·cases h
  ·split at h
   ·cases h
   ·rename_i xs c2 h2
    simp only [Option.some.injEq, Prod.mk.injEq] at h
    rw [← h.1]
    have := kids_len l _ h2
    simp [this]
theorem vis_tail {m : Nat} (c : CS) (i k : Int) (d : Bool) (x : No) : (evC lay0.tab (m + 2) 184 [.box 0 0, .p (.int .i64 i), .p (.bool (!d))] c.k.hp fun d1 o => dTup d1 fun r => dNil r <| d_Ckr o fun u =>
  iL (leI x.r.Op 7)
   (cL (findK (TypeDesc.int .i64) (Da.int .i64 i) u.kk 0) fun y => optN y
    (some ((.p (.int .i64 k)), ({u with kk := (u.kk ++ [Da.int .i64 i]), kv := (u.kv ++ [Da.int .i64 k])} : Ckr).hp)) fun n =>
    some ((.p (.int .i64 k)), ({u with kv := (List.set u.kv n (Da.int .i64 k))} : Ckr).hp))
   (some ((.p (.int .i64 k)), u.hp))) = some (.p (.int .i64 k), (noteT (wantS c i (!d)) i x k).k.hp) := by
 simp only [evC_known (E_cwant (n := m) c i (!d)), dTup_k, dNil_k, dCS, leI_d, iL_dec]
 unfold noteT
 have hop : x.r.Op = x.op := rfl
 rw [hop]
 by_cases h : x.op ≤ 7
 ·rw [if_pos h, if_pos h]
  generalize wantS c i (!d) = c1
  exact upI c1.ki i (fun k => Da.int .i64 k) k fun a b => some (.p (.int .i64 k), Ckr.hp {c1.k with kk := a, kv := b})
 ·rw [if_neg h, if_neg h]
theorem vis_ok : ∀ (f n : Nat), VisOk (visT f) (n + 3 * f + 3000)
 | 0, n, c, i, d, k, c', h, hz => by simp only [visT] at h; cases h
 | f + 1, n, c, i, d, k, c', h, hz => by
  rw [show n + 3 * (f + 1) + 3000 = (n + 3 * f + 3002) + 1 by omega]
  apply T_cvisit _ c.k i d
  unfold F_cvisit
  simp only [visT] at h
  split at h
  ·cases h
  ·rename_i x hx
   obtain ⟨j, hj, rfl, hxj⟩ := atT_some hx
   have hxb : x.kids.length < 1000 := hz.ks x (hxj ▸ List.getElem_mem hj)
   have hat : at? c.k.ns (j : Int) = some x.e := by
    show at? (c.ns.map No.e) (j : Int) = _
    rw [at_mapT, hx]; rfl
   rw [hat]
   have hop : x.r.Op = x.op := rfl
   simp only [cL_s, dNo, hop, eqI_d, iL_dec]
   split at h
   ·rename_i h18
    rw [if_pos h18]
    split at h
    ·cases h
    ·rename_i c1 h1
     simp only [Option.some.injEq, Prod.mk.injEq] at h
     obtain ⟨rfl, rfl⟩ := h
     have hv := vis_ok f (n + 1)
     rw [show n + 1 + 3 * f + 3000 = n + 3 * f + 3001 by omega] at hv
     have hb := E_cblock (vis_stat f) hv (by omega) c c1 (j : Int) x hxb h1 hz (by have := hz.ns; omega)
     simp only [No.e] at hb
     simp only [evC_known hb, dTup_k, dNil_k, dCS]
   ·rename_i h18
    rw [if_neg h18]
    split at h
    ·cases h
    ·rename_i ks c1 h1
     have hv := vis_ok f (n + 2)
     rw [show n + 2 + 3 * f + 3000 = n + 3 * f + 3002 by omega] at hv
     have hl := fun k0 => kids_loop (vis_stat f) hv k0 (j : Int) d x.kids x.r hxb x.kids.length (n + 3 * f + 3002) 0 c [] ks c1 (by omega) (by omega) rfl (by rw [List.drop_zero]; exact h1) hz
     have hlk : (List.length x.r.Kids : Int) = x.kids.length := by show ((x.kids.map iE).length : Int) = _; rw [List.length_map]
     simp only [List.length_nil, List.nil_append, List.map_nil, show ((0 : Nat) : Int) = 0 from rfl] at hl
     rw [hlk]
     have hl' : ∀ k0, L_cvisit_1 (evC lay0.tab (n + 3 * f + 3002)) (n + 3 * f + 3002) k0 (n + 3 * f + 3002) ((j : Int), d, 0, x.r.Kids, (x.kids.length : Int), 0, c.k, x.r, []) = _ := hl
     rw [hl']
     have hkl : ks.length < 1000 := by rw [kids_len _ _ h1]; exact hxb
     have hz1 : Sz c1 := hz.of (kids_stat (fun c k r => vis_stat f c k false r) _ _ h1)
     have htk : List.take ks.length (List.drop 0 (ks.map iE)) = ks.map iE := by
      rw [List.drop_zero]
      have := List.take_length (l := ks.map iE)
      rwa [List.length_map] at this
     have her : c1.k.er = c1.er := rfl
     simp only [htk, hop, her]
     split at h
     ·rename_i h0
      split at h
      ·cases h
      ·rename_i k1 c2 h2
       simp only [Option.some.injEq, Prod.mk.injEq] at h
       obtain ⟨rfl, rfl⟩ := h
       rw [iL_ndec, if_pos h0]
       have tail := fun k => vis_tail (m := n + 3 * f + 3000) c2 (j : Int) k d x
       simp only [hop] at tail
       unfold opT at h2
       by_cases h7 : x.op = 7
       ·rw [if_pos h7] at h2 ⊢
        obtain ⟨m0, hm0⟩ : ∃ m0, n + 3 * f + 3002 = m0 + 1004 := ⟨n + 3 * f + 1998, by omega⟩
        have e := E_ccall (n := m0) c1 c2 (j : Int) k1 x ks h2 hkl hz1.pr hz1.me
        rw [← hm0] at e
        simp only [No.e] at e
        rw [evC_known e]
        simp only [dP_k, dInt_k, dCS]
        exact tail k1
       ·rw [if_neg h7] at h2 ⊢
        rw [leI_d, iL_dec]
        by_cases h6 : x.op ≤ 6
        ·rw [if_pos h6] at h2 ⊢
         obtain ⟨m0, hm0⟩ : ∃ m0, n + 3 * f + 3002 = m0 + 1004 := ⟨n + 3 * f + 1998, by omega⟩
         have e := E_cexpression (n := m0) c1 c2 (j : Int) k1 x ks h2 hkl
         rw [← hm0] at e
         simp only [No.e] at e
         rw [evC_known e]
         simp only [dP_k, dInt_k, dCS]
         exact tail k1
        ·rw [if_neg h6] at h2 ⊢
         split at h2
         ·rename_i c3 h3
          simp only [Option.some.injEq, Prod.mk.injEq] at h2
          obtain ⟨rfl, rfl⟩ := h2
          obtain ⟨m0, hm0⟩ : ∃ m0, n + 3 * f + 3002 = m0 + 1004 := ⟨n + 3 * f + 1998, by omega⟩
          have e := E_cstatement (n := m0) c1 c3 (j : Int) x ks h3 hkl
          rw [← hm0] at e
          simp only [No.e] at e
          rw [evC_known e]
          simp only [dTup_k, dNil_k, dCS]
          exact tail 0
         ·cases h2
     ·rename_i h0
      simp only [Option.some.injEq, Prod.mk.injEq] at h
      obtain ⟨rfl, rfl⟩ := h
      rw [iL_ndec, if_neg h0]
def parT : CS → List Pa → Option (Option CS)
 | c, [] => some (some c)
 | c, p :: r => if dupS c p.name = true then some none else match declS c p.name p.kind with
  | none => none
  | some c1 => parT c1 r
def CS.init (pr : List Ac) (fs : List (List Nat × Vr)) (m : Me) : CS := ⟨pr, fs, m.nodes, m.result, -1, 0, [], [], [], [], []⟩
def checkT (f : Nat) (pr : List Ac) (fs : List (List Nat × Vr)) (m : Me) : Option (Option CS) := match parT (CS.init pr fs m) m.params with
 | none => none
 | some none => some none
 | some (some c1) => match visT f c1 ((m.nodes.length : Int) - 1) false with
  | none => none
  | some (_, c2) => some (some c2)
def bodyE (c : CS) : Da := .agg [.slice 2 (c.lo.map Pa.e), .map (c.ki.map fun p => .int .i64 p.1) (c.ki.map fun p => .int .i64 p.2), .map (c.va.map fun p => .int .i64 p.1) (c.va.map fun p => p.2.e)]
def chkD : Option CS → D
 | none => .tup [.p (.agg [.slice 2 [], .nilmap, .nilmap]), .p (.int .i64 (-1)), .p (.int .i64 7)]
 | some c => .tup [.p (bodyE c), .p (.int .i64 c.nd), .p (.int .i64 c.er)]
theorem par_stat : ∀ (l : List Pa) (c : CS) {r : CS}, parT c l = some (some r) → Stat c r
 | [], c, r, h => by simp only [parT, Option.some.injEq] at h; rw [← h]; exact Stat.refl _
 | p :: l, c, r, h => by
  simp only [parT] at h
  split at h
  ·cases h
  ·split at h
   ·cases h
   ·rename_i c1 h1
    exact (decl_stat h1).trans (par_stat l c1 h)
theorem par_loop {m : Nat} (k0 : api_Method × Ckr × api_Param × types_variable → R) (k1 : LD × LD × LD × Int × Int × api_Method × Ckr → R) (ps : List Pa) (mm : api_Method) (hk0 : ∀ x, k0 x = some (chkD none, [])) (hl : ps.length < 1000) : ∀ (e q j : Nat) (c : CS) (o : Option CS), j + e = ps.length → e < q → parT c (ps.drop j) = some o →
  L_check_1 (evC lay0.tab (m + 1)) (m + 1) k0 k1 q (c.fs.map (fun p => .str p.1), c.fs.map (fun p => p.2.e), ps.map Pa.e, (ps.length : Int), (j : Int), mm, c.k) = match o with
   | none => some (chkD none, [])
   | some c' => k1 (c.fs.map (fun p => .str p.1), c.fs.map (fun p => p.2.e), ps.map Pa.e, (ps.length : Int), (ps.length : Int), mm, c'.k)
 | 0, q + 1, j, c, o, h, _, hp => by
  obtain rfl : j = ps.length := by omega
  rw [List.drop_length] at hp
  simp only [parT, Option.some.injEq] at hp
  subst hp
  rw [Ls_check_1]
  simp only [S_check_1, ltII, iL_f]
 | e + 1, q + 1, j, c, o, h, hq, hp => by
  have hj : j < ps.length := by omega
  rw [List.drop_eq_getElem_cons hj] at hp
  simp only [parT] at hp
  rw [Ls_check_1]
  simp only [S_check_1, ltT (show ((j : Int) < (ps.length : Int)) by omega), iL_t, at_mapT, cL_map, atT_lt hj, cL_s, dPa, wS (show j < big by unfold big; omega)]
  have hn : ps[j].r.Name = ps[j].name := rfl
  have hkd : ps[j].r.Kind = ps[j].kind := rfl
  have hle : ∀ (E : R) (K : Da → R), (cL (findK TypeDesc.string (Da.str ps[j].name) c.k.lk 0) fun y => optN y E fun n => cL c.k.lv[n]? K) = mO (getS c.le ps[j].name) E fun v => K (.bool v) := fun E K => lkS c.le ps[j].name Da.bool E K
  simp only [hn, hkd]
  rw [hle, lkS]
  unfold dupS at hp
  have step : ∀ (hd : dupS c ps[j].name = false), (evC lay0.tab (m + 1) 127 [.box 0 0, .p (.str ps[j].name), .p (.int .i64 ps[j].kind)] c.k.hp fun d o => dTup d fun r => dNil r <| d_Ckr o fun u => L_check_1 (evC lay0.tab (m + 1)) (m + 1) k0 k1 q (c.fs.map (fun p => .str p.1), c.fs.map (fun p => p.2.e), ps.map Pa.e, (ps.length : Int), ((j + 1 : Nat) : Int), mm, u)) = match o with
   | none => some (chkD none, [])
   | some c' => k1 (c.fs.map (fun p => .str p.1), c.fs.map (fun p => p.2.e), ps.map Pa.e, (ps.length : Int), (ps.length : Int), mm, c'.k) := by
   intro hd
   unfold dupS at hd
   rw [hd] at hp
   simp only [Bool.false_eq_true, if_false] at hp
   split at hp
   ·cases hp
   ·rename_i c1 h1
    have e1 := E_cdeclare (n := m) c c1 ps[j].name ps[j].kind h1
    rw [evC_known e1]
    simp only [dTup_k, dNil_k, dCS]
    have hfs : c1.fs = c.fs := (decl_stat h1).fs
    have := par_loop (m := m) k0 k1 ps mm hk0 hl e q (j + 1) c1 o (by omega) (by omega) hp
    rw [hfs] at this
    exact this
  unfold dupS at step
  cases hg : getS c.fs ps[j].name with
  | some v =>
   simp only [hg, if_true, Option.some.injEq] at hp
   subst hp
   simp only [mO_s, dVr, hk0]
  | none =>
   simp only [hg] at hp step
   simp only [mO_n]
   cases hh : getS c.le ps[j].name with
   | some b =>
    simp only [hh] at hp step
    simp only [mO_s, dBool_k]
    cases b
    ·rw [iL_f]; exact step rfl
    ·simp only [if_true, Option.some.injEq] at hp
     subst hp
     rw [iL_t, hk0]
   | none =>
    simp only [hh] at step
    simp only [mO_n]
    exact step trivial
theorem E_check {f n : Nat} (pr : List Ac) (fs : List (List Nat × Vr)) (m : Me) (o : Option CS) (h : checkT f pr fs m = some o) (h1 : pr.length < 1000) (h2 : ∀ a ∈ pr, a.methods.length < 1000) (h3 : m.nodes.length < 1000) (h4 : ∀ x ∈ m.nodes, x.kids.length < 1000) (h5 : m.params.length < 1000) :
  evFn lay0.tab (n + 3 * f + 3001) 88 [.p (.agg [.slice 3 (pr.map Ac.e)]), .p (.map (fs.map fun p => .str p.1) (fs.map fun p => p.2.e)), .p m.e] [] = some (chkD o, []) := by
 apply T_check (n + 3 * f + 3000) (pr.map Ac.e) (fs.map fun p => .str p.1) (fs.map fun p => p.2.e) m.r
 unfold F_check
 unfold checkT at h
 have hz : Sz (CS.init pr fs m) := ⟨h1, h2, h3, h4⟩
 cases hp : parT (CS.init pr fs m) m.params with
 | none => rw [hp] at h; cases h
 | some o1 =>
  rw [hp] at h
  have hl := fun k0 k1 (hk : ∀ x, k0 x = some (chkD none, [])) => par_loop (m := n + 3 * f + 2999) k0 k1 m.params m.r hk h5 m.params.length (n + 3 * f + 3000) 0 (CS.init pr fs m) o1 (by omega) (by omega) (by rw [List.drop_zero]; exact hp)
  have hlk : (List.length m.r.Params : Int) = m.params.length := by show ((m.params.map Pa.e).length : Int) = _; rw [List.length_map]
  rw [hlk]
  refine Eq.trans (hl _ _ fun x => rfl) ?_
  cases o1 with
  | none => simp only [Option.some.injEq] at h; rw [← h]
  | some c1 =>
   simp only at h
   split at h
   ·cases h
   ·rename_i k c2 h2'
    simp only [Option.some.injEq] at h
    rw [← h]
    have hz1 : Sz c1 := hz.of (par_stat _ _ hp)
    have e := vis_ok f n c1 ((m.nodes.length : Int) - 1) false k c2 h2' hz1
    have hln : wrapF .i64 (↑(List.length m.r.Nodes) - 1) = (m.nodes.length : Int) - 1 := by
     have : (List.length m.r.Nodes : Int) = m.nodes.length := by show ((m.nodes.map No.e).length : Int) = _; rw [List.length_map]
     rw [this]
     exact wrapI (by omega) (by omega)
    simp only [hln]
    rw [evC_known e]
    have htk : List.take c2.k.ln (List.drop 0 c2.k.lo) = c2.lo.map Pa.e := by
     rw [List.drop_zero]
     show List.take c2.lo.length (c2.lo.map Pa.e) = _
     have := List.take_length (l := c2.lo.map Pa.e)
     rwa [List.length_map] at this
    simp only [dP_k, dInt_k, dCS, htk]
    rfl
end
end Go.Ab
end
/- Trees in post-order: the walk over a tree ends. -/
section
namespace Go.Ab
open Go
noncomputable section
mutual
inductive Sub (ns : List No) : Nat → Nat → Prop
 | mk {lo i : Nat} {x : No} : ns[i]? = some x → Ch ns lo x.kids i → Sub ns lo i
inductive Ch (ns : List No) : Nat → List Int → Nat → Prop
 | nil {lo : Nat} : Ch ns lo [] lo
 | cons {lo k hi : Nat} {r : List Int} : Sub ns lo k → Ch ns (k + 1) r hi → Ch ns lo ((k : Int) :: r) hi
end
mutual
theorem Sub.le {ns : List No} {lo i : Nat} : Sub ns lo i → lo ≤ i
 | .mk _ h => h.le
theorem Ch.le {ns : List No} {lo hi : Nat} {l : List Int} : Ch ns lo l hi → lo ≤ hi
 | .nil => Nat.le_refl _
 | .cons h g => by have := h.le; have := g.le; omega
end
theorem Sub.lt {ns : List No} {lo i : Nat} (h : Sub ns lo i) : i < ns.length := by
 cases h with
 | mk hx _ =>
  rcases Nat.lt_or_ge i ns.length with h1 | h1
  ·exact h1
  ·rw [List.getElem?_eq_none h1] at hx; cases hx
theorem ch_split {ns : List No} : ∀ (a b : List Int) {lo hi : Nat}, Ch ns lo (a ++ b) hi → ∃ mid, Ch ns lo a mid ∧ Ch ns mid b hi
 | [], b, lo, hi, h => ⟨lo, .nil, h⟩
 | x :: a, b, lo, hi, h => by
  cases h with
  | cons h1 h2 =>
   obtain ⟨mid, h3, h4⟩ := ch_split a b h2
   exact ⟨mid, .cons h1 h3, h4⟩
theorem ch_join {ns : List No} : ∀ (a b : List Int) {lo mid hi : Nat}, Ch ns lo a mid → Ch ns mid b hi → Ch ns lo (a ++ b) hi
 | [], b, lo, mid, hi, h, g => by cases h; exact g
 | x :: a, b, lo, mid, hi, h, g => by
  cases h with
  | cons h1 h2 => exact .cons h1 (ch_join a b h2 g)
def postT : List No → Nat → List Int → Bool
 | [], _, roots => decide (roots.length = 1)
 | x :: r, i, roots => if roots.length < x.kids.length then false else if roots.drop (roots.length - x.kids.length) = x.kids then postT r (i + 1) (roots.take (roots.length - x.kids.length) ++ [(i : Int)]) else false
theorem post_tree {ns : List No} : ∀ (r : List No) (i : Nat) (roots : List Int), ns.drop i = r → i ≤ ns.length → Ch ns 0 roots i → postT r i roots = true → ∃ k : Nat, Sub ns 0 k ∧ k + 1 = ns.length
 | [], i, roots, hr, hi, hc, h => by
  simp only [postT, decide_eq_true_eq] at h
  have hl : i = ns.length := by
   have := congrArg List.length hr
   simp at this; omega
  match roots, h, hc with
  | [k], _, hc =>
   cases hc with
   | cons h1 h2 => cases h2; exact ⟨_, h1, hl⟩
 | x :: r, i, roots, hr, hi, hc, h => by
  simp only [postT] at h
  split at h
  ·cases h
  ·split at h
   ·rename_i hlen hdrop
    have hlt : i < ns.length := by
     rcases Nat.lt_or_ge i ns.length with h1 | h1
     ·exact h1
     ·rw [List.drop_eq_nil_of_le h1] at hr; cases hr
    have hx : ns[i]? = some x := by
     rw [List.drop_eq_getElem_cons hlt] at hr
     rw [List.getElem?_eq_getElem hlt]
     simp only [List.cons.injEq] at hr
     rw [hr.1]
    have hr' : ns.drop (i + 1) = r := by
     rw [List.drop_eq_getElem_cons hlt] at hr
     simp only [List.cons.injEq] at hr
     exact hr.2
    rw [← List.take_append_drop (roots.length - x.kids.length) roots, hdrop] at hc
    obtain ⟨mid, h1, h2⟩ := ch_split _ _ hc
    exact post_tree r (i + 1) _ hr' hlt (ch_join _ _ h1 (.cons (.mk hx h2) .nil)) h
   ·cases h
structure ArOk (x : No) : Prop where
 one : x.op = 4 ∨ x.op = 7 ∨ x.op = 8 ∨ x.op = 9 ∨ x.op = 11 ∨ x.op = 12 ∨ x.op = 17 → 1 ≤ x.kids.length
 two : x.op = 5 → 2 ≤ x.kids.length
theorem fail_lo (c : CS) (i e : Int) : (failS c i e).lo = c.lo := by unfold failS; split <;> rfl
theorem want_lo (c : CS) (i : Int) (b : Bool) : (wantS c i b).lo = c.lo := by
 unfold wantS; split
 ·rfl
 ·exact fail_lo _ _ _
theorem use_lo (c : CS) (i : Int) (s : List Nat) : (useS c i s).2.lo = c.lo := by
 unfold useS; split
 ·rfl
 ·exact fail_lo _ _ _
theorem let1_lo (c : CS) (i : Int) (x : No) : (let1 c i x).lo = c.lo := by
 unfold let1
 split
 ·exact fail_lo _ _ _
 split
 ·exact fail_lo _ _ _
 ·rfl
theorem err_lo (c : CS) (i e : Int) : (errS c i e).lo = c.lo := by
 unfold errS; split
 ·rfl
 ·exact fail_lo _ _ _
theorem decl_def (c : CS) (s : List Nat) (k : Int) (h : c.lo.length < 1000000) : ∃ c', declS c s k = some c' ∧ c'.lo = c.lo ++ [⟨s, k⟩] := by
 unfold declS; rw [if_pos h]; exact ⟨_, rfl, rfl⟩
theorem let_def (c : CS) (i : Int) (x : No) (k : Int) (h : c.lo.length < 1000000) : ∃ c', letS c i x k = some c' ∧ c'.lo.length = c.lo.length + 1 := by
 unfold letS
 obtain ⟨c1, h1, h2⟩ := decl_def (wantS (let1 c i x) i (decide (k = x.v.k))) x.name x.v.k (by rw [want_lo, let1_lo]; exact h)
 rw [h1]
 exact ⟨_, rfl, by rw [use_lo, h2, want_lo, let1_lo]; simp⟩
theorem op_def (c : CS) (i : Int) (x : No) (ks : List Int) (har : ArOk x) (hk : ks.length = x.kids.length) (hl : c.lo.length < 1000000) : ∃ k c', opT c i x ks = some (k, c') ∧ c'.lo.length ≤ c.lo.length + 1 := by
 unfold opT
 by_cases h7 : x.op = 7
 ·rw [if_pos h7]
  unfold calT
  have := har.one (by omega)
  cases lookS c.pr x.name x.v.s with
  | none => exact ⟨_, _, rfl, by rw [fail_lo]; omega⟩
  | some m => match ks, hk with
   | [], hk => simp at hk; omega
   | k :: r, _ => exact ⟨_, _, rfl, by rw [want_lo]; omega⟩
 rw [if_neg h7]
 by_cases h6 : x.op ≤ 6
 ·rw [if_pos h6]
  unfold exprT
  by_cases h1 : x.op = 1
  ·rw [if_pos h1]; exact ⟨_, _, rfl, by omega⟩
  rw [if_neg h1]
  by_cases h3 : x.op = 3
  ·rw [if_pos h3]; exact ⟨_, _, rfl, by omega⟩
  rw [if_neg h3]
  by_cases h2 : x.op = 2
  ·rw [if_pos h2]; exact ⟨_, _, rfl, by rw [use_lo]; omega⟩
  rw [if_neg h2]
  by_cases h4 : x.op = 4
  ·rw [if_pos h4]
   have := har.one (by omega)
   match ks, hk with
   | [], hk => simp at hk; omega
   | k :: r, _ => exact ⟨_, _, rfl, by rw [want_lo]; omega⟩
  rw [if_neg h4]
  by_cases h5 : x.op = 5
  ·rw [if_pos h5]
   have := har.two h5
   match ks, hk with
   | [], hk => simp at hk; omega
   | [k], hk => simp at hk; omega
   | k :: k' :: r, _ => exact ⟨_, _, rfl, by rw [want_lo]; omega⟩
  rw [if_neg h5]
  exact ⟨_, _, rfl, by rw [err_lo]; omega⟩
 rw [if_neg h6]
 have key : ∃ c', stmtT c i x ks = some c' ∧ c'.lo.length ≤ c.lo.length + 1 := by
  unfold stmtT
  by_cases h8 : x.op = 8
  ·rw [if_pos h8]
   have := har.one (by omega)
   match ks, hk with
   | [], hk => simp at hk; omega
   | k :: r, _ =>
    obtain ⟨c1, h1, h2⟩ := let_def c i x k hl
    exact ⟨c1, h1, by omega⟩
  rw [if_neg h8]
  by_cases h9 : x.op = 9
  ·rw [if_pos h9]
   have := har.one (by omega)
   match ks, hk with
   | [], hk => simp at hk; omega
   | k :: r, _ => exact ⟨_, rfl, by rw [want_lo, use_lo]; omega⟩
  rw [if_neg h9]
  by_cases h11 : x.op = 11 ∨ x.op = 12
  ·rw [if_pos h11]
   have := har.one (by omega)
   match ks, hk with
   | [], hk => simp at hk; omega
   | k :: r, _ => exact ⟨_, rfl, by rw [want_lo]; omega⟩
  rw [if_neg h11]
  by_cases h13 : x.op = 13
  ·rw [if_pos h13]
   match ks with
   | [] => exact ⟨_, rfl, by rw [want_lo]; omega⟩
   | k :: r => exact ⟨_, rfl, by rw [want_lo, want_lo]; omega⟩
  rw [if_neg h13]
  by_cases h15 : x.op = 15
  ·rw [if_pos h15]; exact ⟨_, rfl, by rw [want_lo]; omega⟩
  rw [if_neg h15]
  by_cases h16 : x.op = 16
  ·rw [if_pos h16]; exact ⟨_, rfl, by rw [want_lo]; omega⟩
  rw [if_neg h16]
  by_cases h17 : x.op = 17
  ·rw [if_pos h17]
   have := har.one (by omega)
   match ks, hk with
   | [], hk => simp at hk; omega
   | k :: r, _ => exact ⟨_, rfl, by rw [want_lo]; omega⟩
  rw [if_neg h17]
  exact ⟨_, rfl, by omega⟩
 obtain ⟨c1, h1, h2⟩ := key
 rw [h1]
 exact ⟨_, _, rfl, h2⟩
theorem note_lo (c : CS) (i : Int) (x : No) (k : Int) : (noteT c i x k).lo = c.lo := by unfold noteT; split <;> rfl
def DefAt (ns : List No) (f : Nat) : Prop := ∀ (lo i : Nat), Sub ns lo i → i < f → ∀ (c : CS) (d : Bool), c.ns = ns → c.lo.length + (i + 1 - lo) ≤ 100000 → ∃ k c', visT f c (i : Int) d = some (k, c') ∧ c'.lo.length ≤ c.lo.length + (i + 1 - lo)
theorem kids_def {ns : List No} {f : Nat} (hv : DefAt ns f) : ∀ (l : List Int) (lo hi : Nat), Ch ns lo l hi → hi ≤ f → ∀ c : CS, c.ns = ns → c.lo.length + (hi - lo) ≤ 100000 → ∃ ks c', kidsM (fun c k => visT f c k false) c l = some (ks, c') ∧ c'.lo.length ≤ c.lo.length + (hi - lo)
 | [], lo, hi, h, _, c, _, _ => by cases h; exact ⟨[], c, rfl, by omega⟩
 | _ :: l, lo, hi, h, hf, c, hc, hb => by
  cases h with
  | @cons _ k _ _ h1 h2 =>
   have l1 := h1.le
   have l2 := h2.le
   obtain ⟨x, c1, e1, b1⟩ := hv lo k h1 (by omega) c false hc (by omega)
   have s1 := vis_stat f c k false _ e1
   obtain ⟨xs, c2, e2, b2⟩ := kids_def hv l (k + 1) hi h2 hf c1 (s1.ns.trans hc) (by omega)
   refine ⟨x :: xs, c2, ?_, by omega⟩
   simp only [kidsM, e1, e2]
theorem blk_def {ns : List No} {f : Nat} (hv : DefAt ns f) : ∀ (l : List Int) (lo hi : Nat), Ch ns lo l hi → hi ≤ f → ∀ (c : CS) (d : Bool), c.ns = ns → c.lo.length + (hi - lo) ≤ 100000 → ∃ c', blkM (visT f) c l d = some c' ∧ c'.lo.length ≤ c.lo.length + (hi - lo)
 | [], lo, hi, h, _, c, d, _, _ => by cases h; exact ⟨c, rfl, by omega⟩
 | _ :: l, lo, hi, h, hf, c, d, hc, hb => by
  cases h with
  | @cons _ k _ _ h1 h2 =>
   have l1 := h1.le
   have l2 := h2.le
   obtain ⟨x, c1, e1, b1⟩ := hv lo k h1 (by omega) c d hc (by omega)
   have s1 := vis_stat f c k d _ e1
   obtain ⟨c2, e2, b2⟩ := blk_def hv l (k + 1) hi h2 hf c1 (d || endsT c1.ns k) (s1.ns.trans hc) (by omega)
   refine ⟨c2, ?_, by omega⟩
   simp only [blkM, e1]
   exact e2
theorem vis_def {ns : List No} (har : ∀ x ∈ ns, ArOk x) : ∀ f, DefAt ns f
 | 0, lo, i, hs, hi, c, d, hc, hb => by omega
 | f + 1, lo, i, hs, hi, c, d, hc, hb => by
  have hlt := hs.lt
  have hle := hs.le
  cases hs with
  | @mk _ _ x hx hch =>
   have hx' : atT c.ns (i : Int) = some x := by rw [hc, atT_nat]; exact hx
   have hxm : x ∈ ns := List.mem_of_getElem? hx
   simp only [visT, hx']
   by_cases h18 : x.op = 18
   ·rw [if_pos h18]
    obtain ⟨c1, e1, b1⟩ := blk_def (vis_def har f) x.kids lo i hch (by omega) c false hc (by omega)
    unfold blockT
    rw [e1]
    refine ⟨0, _, rfl, ?_⟩
    split
    ·rw [want_lo]
     show c1.lo.length ≤ _
     omega
    ·show c1.lo.length ≤ _
     omega
   ·rw [if_neg h18]
    obtain ⟨ks, c1, e1, b1⟩ := kids_def (vis_def har f) x.kids lo i hch (by omega) c hc (by omega)
    rw [e1]
    simp only
    split
    ·obtain ⟨k, c2, e2, b2⟩ := op_def c1 (i : Int) x ks (har x hxm) (kids_len _ _ e1) (by omega)
     rw [e2]
     refine ⟨_, _, rfl, ?_⟩
     rw [note_lo, want_lo]
     omega
    ·exact ⟨_, _, rfl, by omega⟩
structure BodyOk (ns : List No) : Prop where
 tree : ∃ k : Nat, Sub ns 0 k ∧ k + 1 = ns.length
 ar : ∀ x ∈ ns, ArOk x
 lets : ∀ x ∈ ns, x.op = 8 ∨ x.op = 9 → ∀ k ∈ x.kids, ∀ y, atT ns k = some y → y.op ≤ 7
theorem par_def : ∀ (l : List Pa) (c : CS), c.lo.length + l.length < 1000 → ∃ o, parT c l = some o ∧ ∀ c', o = some c' → c'.lo.length = c.lo.length + l.length
 | [], c, h => ⟨some c, rfl, fun c' e => by simp only [Option.some.injEq] at e; subst e; simp⟩
 | p :: l, c, h => by
  simp only [parT]
  split
  ·exact ⟨none, rfl, fun c' e => by cases e⟩
  ·obtain ⟨c1, h1, h2⟩ := decl_def c p.name p.kind (by omega)
   rw [h1]
   have hl : c1.lo.length = c.lo.length + 1 := by rw [h2]; simp
   simp only [List.length_cons] at h
   obtain ⟨o, h3, h4⟩ := par_def l c1 (by omega)
   exact ⟨o, h3, fun c' e => by rw [h4 c' e]; simp; omega⟩
theorem check_def (pr : List Ac) (fs : List (List Nat × Vr)) (m : Me) (hb : BodyOk m.nodes) (hn : m.nodes.length < 1000) (hp : m.params.length < 1000) : ∃ o, checkT 1000 pr fs m = some o := by
 unfold checkT
 obtain ⟨o, h1, h2⟩ := par_def m.params (CS.init pr fs m) (by simp [CS.init]; exact hp)
 rw [h1]
 cases o with
 | none => exact ⟨_, rfl⟩
 | some c1 =>
  obtain ⟨k, hs, hk⟩ := hb.tree
  have hst := par_stat _ _ h1
  have hl := h2 c1 rfl
  simp [CS.init] at hl
  obtain ⟨k', c2, e, _⟩ := vis_def hb.ar 1000 0 k hs (by omega) c1 false (hst.ns) (by omega)
  have : ((m.nodes.length : Int) - 1) = (k : Int) := by omega
  simp only [this, e]
  exact ⟨_, rfl⟩
end
end Go.Ab
end
/- Nodes, as the validator sees them. -/
section
namespace Go.Ab
open Go
set_option maxRecDepth 100000
noncomputable section
theorem nr1 (x : No) : x.r.Op = x.op := rfl
theorem nr2 (x : No) : x.r.Name = x.name := rfl
theorem nr3 (x : No) : x.r.Value_Kind = x.v.k := rfl
theorem nr4 (x : No) : x.r.Value_N = x.v.n := rfl
theorem nr5 (x : No) : x.r.Value_S = x.v.s := rfl
theorem nr6 (x : No) : x.r.Value_I = x.v.I.map iE := rfl
theorem nr7 (x : No) : x.r.Value_L = x.v.L.map .str := rfl
theorem nr8 (x : No) : x.r.Kids = x.kids.map iE := rfl
theorem all_fnd {α : Type} (l : List α) (p : α → Bool) : l.all p = (l.findIdx? fun x => !p x).isNone := by
 rw [← all_find]; simp
def expO (o : Int) : Bool := leI 1 o && leI o 6
def staO (o : Int) : Bool := leI 8 o && leI o 17
def calO (o : Int) : Bool := eqI o 7
def letO (o : Int) : Bool := expO o || calO o
def blkO (o : Int) : Bool := eqI o 18
def opAt (ns : List No) (k : Int) : Int := ((atT ns k).map fun y => y.op).getD 0
def cntT (x : No) (a b : Int) : Bool := leI a (x.kids.length : Int) && leI (x.kids.length : Int) b
def allK (ns : List No) (x : No) (j : Nat) (f : Int → Bool) : Bool := (x.kids.drop j).all fun k => f (opAt ns k)
theorem E_sexpression {n : Nat} (k : Int) : evFn lay0.tab (n + 1) 221 [.p (.int .i64 k)] [] = some (.p (.bool (expO k)), []) := by
 apply T_sexpression n k
 simp only [F_sexpression, iL_ans, c_tf, c_xf, expO, Bool.and_true]
theorem E_sstatement {n : Nat} (k : Int) : evFn lay0.tab (n + 1) 225 [.p (.int .i64 k)] [] = some (.p (.bool (staO k)), []) := by
 apply T_sstatement n k
 simp only [F_sstatement, iL_ans, c_tf, c_xf, staO, Bool.and_true]
theorem E_skids4 {n : Nat} (k : Int) : evFn lay0.tab (n + 1) 223 [.p (.int .i64 k)] [] = some (.p (.bool (calO k)), []) := by
 apply T_skids4 n k
 simp only [F_skids4, iL_ans, c_tf, calO]
theorem E_skids5 {n : Nat} (k : Int) : evFn lay0.tab (n + 1) 224 [.p (.int .i64 k)] [] = some (.p (.bool (blkO k)), []) := by
 apply T_skids5 n k
 simp only [F_skids5, iL_ans, c_tf, blkO]
theorem E_skids3 {n : Nat} (k : Int) : evFn lay0.tab (n + 2) 222 [.p (.int .i64 k)] [] = some (.p (.bool (letO k)), []) := by
 apply T_skids3 (n + 1) k
 simp only [F_skids3, evC_known (E_sexpression (n := n) k), dP_k, dBool_k, dNil_k, iL_ans, c_tf, c_tx, Bool.or_false, letO, calO]
theorem E_skids1 {n : Nat} (x : No) (a b : Int) : evFn lay0.tab (n + 1) 219 [.p (.int .i64 a), .p (.int .i64 b), .box 0 0] [x.r.b] = some (.p (.bool (cntT x a b)), [x.r.b]) := by
 apply T_skids1 n x.r a b
 simp only [F_skids1, nr8, List.length_map, cntT]
 cases leI a (x.kids.length : Int) <;> cases leI (x.kids.length : Int) b <;> rfl
theorem E_skids2E {n : Nat} (ns : List No) (x : No) (j : Nat) (hj : j ≤ x.kids.length) (hk : ∀ k ∈ x.kids, ∃ y, atT ns k = some y) (h : x.kids.length < 1000) : evFn lay0.tab (n + 1003) 220 [.p (.int .i64 j), .p (.fn 221 []), .box 0 0, .box 1 0] [x.r.b, .box [.p (.slice 8 (ns.map No.e))]] = some (.p (.bool (allK ns x j expO)), [x.r.b, .box [.p (.slice 8 (ns.map No.e))]]) := by
 apply T_skids2E (n + 1002) x.r (ns.map No.e) j
 unfold F_skids2E allK
 have hd : List.take ((x.kids.map iE).length - Int.toNat (j : Int)) (List.drop (Int.toNat (j : Int)) (x.kids.map iE)) = (x.kids.drop j).map iE := by
  rw [Int.toNat_natCast, List.take_of_length_le (by simp), List.map_drop]
 simp only [nr8, hd, leI_d, show (0 : Int) ≤ (j : Int) by omega, show (j : Int) ≤ ((x.kids.map iE).length : Int) by rw [List.length_map]; omega, decide_true, iL_t]
 have hkd : ∀ k ∈ x.kids.drop j, ∃ y, atT ns k = some y := fun k hm => hk k (List.mem_of_mem_drop hm)
 have hld : (x.kids.drop j).length < 1000 := by simp; omega
 generalize x.kids.drop j = ks at hkd hld ⊢
 rw [List.length_map]
 refine (loop_list ks (fun q i => L_skids2E_1 _ (n + 1002) _ _ q (ks.map iE, (ks.length : Int), i, x.r, ns.map No.e)) (fun k => !expO (opAt ns k)) (fun i => some (.p (.bool false), [x.r.b, .box [.p (.slice 8 (ns.map No.e))]])) (some (.p (.bool true), [x.r.b, .box [.p (.slice 8 (ns.map No.e))]])) (fun q i hi => ?_) (fun q => ?_) (by omega)).trans ?_
 ·rw [Ls_skids2E_1]
  obtain ⟨y, hy⟩ := hkd ks[i] (List.getElem_mem _)
  simp only [S_skids2E_1, ltT (show ((i : Int) < (ks.length : Int)) by omega), iL_t, at_mapT, cL_map, atT_lt hi, cL_s, dI, hy, dNo, nr1, wS (show i < big by unfold big; omega), evC_known (E_sexpression (n := n + 1001) y.op), dP_k, dBool_k, dNil_k, dSame_k, opAt, Option.map_some, Option.getD_some]
  cases expO y.op <;> rfl
 ·rw [Ls_skids2E_1]
  simp only [S_skids2E_1, ltII, iL_f]
 ·rw [all_fnd]
  cases ks.findIdx? fun k => !expO (opAt ns k) <;> rfl
theorem E_skids2S {n : Nat} (ns : List No) (x : No) (j : Nat) (hj : j ≤ x.kids.length) (hk : ∀ k ∈ x.kids, ∃ y, atT ns k = some y) (h : x.kids.length < 1000) : evFn lay0.tab (n + 1003) 220 [.p (.int .i64 j), .p (.fn 225 []), .box 0 0, .box 1 0] [x.r.b, .box [.p (.slice 8 (ns.map No.e))]] = some (.p (.bool (allK ns x j staO)), [x.r.b, .box [.p (.slice 8 (ns.map No.e))]]) := by
 apply T_skids2S (n + 1002) x.r (ns.map No.e) j
 unfold F_skids2S allK
 have hd : List.take ((x.kids.map iE).length - Int.toNat (j : Int)) (List.drop (Int.toNat (j : Int)) (x.kids.map iE)) = (x.kids.drop j).map iE := by
  rw [Int.toNat_natCast, List.take_of_length_le (by simp), List.map_drop]
 simp only [nr8, hd, leI_d, show (0 : Int) ≤ (j : Int) by omega, show (j : Int) ≤ ((x.kids.map iE).length : Int) by rw [List.length_map]; omega, decide_true, iL_t]
 have hkd : ∀ k ∈ x.kids.drop j, ∃ y, atT ns k = some y := fun k hm => hk k (List.mem_of_mem_drop hm)
 have hld : (x.kids.drop j).length < 1000 := by simp; omega
 generalize x.kids.drop j = ks at hkd hld ⊢
 rw [List.length_map]
 refine (loop_list ks (fun q i => L_skids2S_1 _ (n + 1002) _ _ q (ks.map iE, (ks.length : Int), i, x.r, ns.map No.e)) (fun k => !staO (opAt ns k)) (fun i => some (.p (.bool false), [x.r.b, .box [.p (.slice 8 (ns.map No.e))]])) (some (.p (.bool true), [x.r.b, .box [.p (.slice 8 (ns.map No.e))]])) (fun q i hi => ?_) (fun q => ?_) (by omega)).trans ?_
 ·rw [Ls_skids2S_1]
  obtain ⟨y, hy⟩ := hkd ks[i] (List.getElem_mem _)
  simp only [S_skids2S_1, ltT (show ((i : Int) < (ks.length : Int)) by omega), iL_t, at_mapT, cL_map, atT_lt hi, cL_s, dI, hy, dNo, nr1, wS (show i < big by unfold big; omega), evC_known (E_sstatement (n := n + 1001) y.op), dP_k, dBool_k, dNil_k, dSame_k, opAt, Option.map_some, Option.getD_some]
  cases staO y.op <;> rfl
 ·rw [Ls_skids2S_1]
  simp only [S_skids2S_1, ltII, iL_f]
 ·rw [all_fnd]
  cases ks.findIdx? fun k => !staO (opAt ns k) <;> rfl
theorem E_skids2A {n : Nat} (ns : List No) (x : No) (j : Nat) (hj : j ≤ x.kids.length) (hk : ∀ k ∈ x.kids, ∃ y, atT ns k = some y) (h : x.kids.length < 1000) : evFn lay0.tab (n + 1003) 220 [.p (.int .i64 j), .p (.fn 222 []), .box 0 0, .box 1 0] [x.r.b, .box [.p (.slice 8 (ns.map No.e))]] = some (.p (.bool (allK ns x j letO)), [x.r.b, .box [.p (.slice 8 (ns.map No.e))]]) := by
 apply T_skids2A (n + 1002) x.r (ns.map No.e) j
 unfold F_skids2A allK
 have hd : List.take ((x.kids.map iE).length - Int.toNat (j : Int)) (List.drop (Int.toNat (j : Int)) (x.kids.map iE)) = (x.kids.drop j).map iE := by
  rw [Int.toNat_natCast, List.take_of_length_le (by simp), List.map_drop]
 simp only [nr8, hd, leI_d, show (0 : Int) ≤ (j : Int) by omega, show (j : Int) ≤ ((x.kids.map iE).length : Int) by rw [List.length_map]; omega, decide_true, iL_t]
 have hkd : ∀ k ∈ x.kids.drop j, ∃ y, atT ns k = some y := fun k hm => hk k (List.mem_of_mem_drop hm)
 have hld : (x.kids.drop j).length < 1000 := by simp; omega
 generalize x.kids.drop j = ks at hkd hld ⊢
 rw [List.length_map]
 refine (loop_list ks (fun q i => L_skids2A_1 _ (n + 1002) _ _ q (ks.map iE, (ks.length : Int), i, x.r, ns.map No.e)) (fun k => !letO (opAt ns k)) (fun i => some (.p (.bool false), [x.r.b, .box [.p (.slice 8 (ns.map No.e))]])) (some (.p (.bool true), [x.r.b, .box [.p (.slice 8 (ns.map No.e))]])) (fun q i hi => ?_) (fun q => ?_) (by omega)).trans ?_
 ·rw [Ls_skids2A_1]
  obtain ⟨y, hy⟩ := hkd ks[i] (List.getElem_mem _)
  simp only [S_skids2A_1, ltT (show ((i : Int) < (ks.length : Int)) by omega), iL_t, at_mapT, cL_map, atT_lt hi, cL_s, dI, hy, dNo, nr1, wS (show i < big by unfold big; omega), evC_known (E_skids3 (n := n + 1000) y.op), dP_k, dBool_k, dNil_k, dSame_k, opAt, Option.map_some, Option.getD_some]
  cases letO y.op <;> rfl
 ·rw [Ls_skids2A_1]
  simp only [S_skids2A_1, ltII, iL_f]
 ·rw [all_fnd]
  cases ks.findIdx? fun k => !letO (opAt ns k) <;> rfl
theorem E_skids2B {n : Nat} (ns : List No) (x : No) (j : Nat) (hj : j ≤ x.kids.length) (hk : ∀ k ∈ x.kids, ∃ y, atT ns k = some y) (h : x.kids.length < 1000) : evFn lay0.tab (n + 1003) 220 [.p (.int .i64 j), .p (.fn 223 []), .box 0 0, .box 1 0] [x.r.b, .box [.p (.slice 8 (ns.map No.e))]] = some (.p (.bool (allK ns x j calO)), [x.r.b, .box [.p (.slice 8 (ns.map No.e))]]) := by
 apply T_skids2B (n + 1002) x.r (ns.map No.e) j
 unfold F_skids2B allK
 have hd : List.take ((x.kids.map iE).length - Int.toNat (j : Int)) (List.drop (Int.toNat (j : Int)) (x.kids.map iE)) = (x.kids.drop j).map iE := by
  rw [Int.toNat_natCast, List.take_of_length_le (by simp), List.map_drop]
 simp only [nr8, hd, leI_d, show (0 : Int) ≤ (j : Int) by omega, show (j : Int) ≤ ((x.kids.map iE).length : Int) by rw [List.length_map]; omega, decide_true, iL_t]
 have hkd : ∀ k ∈ x.kids.drop j, ∃ y, atT ns k = some y := fun k hm => hk k (List.mem_of_mem_drop hm)
 have hld : (x.kids.drop j).length < 1000 := by simp; omega
 generalize x.kids.drop j = ks at hkd hld ⊢
 rw [List.length_map]
 refine (loop_list ks (fun q i => L_skids2B_1 _ (n + 1002) _ _ q (ks.map iE, (ks.length : Int), i, x.r, ns.map No.e)) (fun k => !calO (opAt ns k)) (fun i => some (.p (.bool false), [x.r.b, .box [.p (.slice 8 (ns.map No.e))]])) (some (.p (.bool true), [x.r.b, .box [.p (.slice 8 (ns.map No.e))]])) (fun q i hi => ?_) (fun q => ?_) (by omega)).trans ?_
 ·rw [Ls_skids2B_1]
  obtain ⟨y, hy⟩ := hkd ks[i] (List.getElem_mem _)
  simp only [S_skids2B_1, ltT (show ((i : Int) < (ks.length : Int)) by omega), iL_t, at_mapT, cL_map, atT_lt hi, cL_s, dI, hy, dNo, nr1, wS (show i < big by unfold big; omega), evC_known (E_skids4 (n := n + 1001) y.op), dP_k, dBool_k, dNil_k, dSame_k, opAt, Option.map_some, Option.getD_some]
  cases calO y.op <;> rfl
 ·rw [Ls_skids2B_1]
  simp only [S_skids2B_1, ltII, iL_f]
 ·rw [all_fnd]
  cases ks.findIdx? fun k => !calO (opAt ns k) <;> rfl
theorem E_skids2C {n : Nat} (ns : List No) (x : No) (j : Nat) (hj : j ≤ x.kids.length) (hk : ∀ k ∈ x.kids, ∃ y, atT ns k = some y) (h : x.kids.length < 1000) : evFn lay0.tab (n + 1003) 220 [.p (.int .i64 j), .p (.fn 224 []), .box 0 0, .box 1 0] [x.r.b, .box [.p (.slice 8 (ns.map No.e))]] = some (.p (.bool (allK ns x j blkO)), [x.r.b, .box [.p (.slice 8 (ns.map No.e))]]) := by
 apply T_skids2C (n + 1002) x.r (ns.map No.e) j
 unfold F_skids2C allK
 have hd : List.take ((x.kids.map iE).length - Int.toNat (j : Int)) (List.drop (Int.toNat (j : Int)) (x.kids.map iE)) = (x.kids.drop j).map iE := by
  rw [Int.toNat_natCast, List.take_of_length_le (by simp), List.map_drop]
 simp only [nr8, hd, leI_d, show (0 : Int) ≤ (j : Int) by omega, show (j : Int) ≤ ((x.kids.map iE).length : Int) by rw [List.length_map]; omega, decide_true, iL_t]
 have hkd : ∀ k ∈ x.kids.drop j, ∃ y, atT ns k = some y := fun k hm => hk k (List.mem_of_mem_drop hm)
 have hld : (x.kids.drop j).length < 1000 := by simp; omega
 generalize x.kids.drop j = ks at hkd hld ⊢
 rw [List.length_map]
 refine (loop_list ks (fun q i => L_skids2C_1 _ (n + 1002) _ _ q (ks.map iE, (ks.length : Int), i, x.r, ns.map No.e)) (fun k => !blkO (opAt ns k)) (fun i => some (.p (.bool false), [x.r.b, .box [.p (.slice 8 (ns.map No.e))]])) (some (.p (.bool true), [x.r.b, .box [.p (.slice 8 (ns.map No.e))]])) (fun q i hi => ?_) (fun q => ?_) (by omega)).trans ?_
 ·rw [Ls_skids2C_1]
  obtain ⟨y, hy⟩ := hkd ks[i] (List.getElem_mem _)
  simp only [S_skids2C_1, ltT (show ((i : Int) < (ks.length : Int)) by omega), iL_t, at_mapT, cL_map, atT_lt hi, cL_s, dI, hy, dNo, nr1, wS (show i < big by unfold big; omega), evC_known (E_skids5 (n := n + 1001) y.op), dP_k, dBool_k, dNil_k, dSame_k, opAt, Option.map_some, Option.getD_some]
  cases blkO y.op <;> rfl
 ·rw [Ls_skids2C_1]
  simp only [S_skids2C_1, ltII, iL_f]
 ·rw [all_fnd]
  cases ks.findIdx? fun k => !blkO (opAt ns k) <;> rfl
def ifK (ns : List No) (x : No) (m : Int) : Bool := cntT x 2 m && (expO (opAt ns (x.kids.headD 0)) && allK ns x 1 blkO)
def kidsV (ns : List No) (x : No) : Bool := bif eqI x.op 1 then cntT x 0 0 else bif eqI x.op 2 then cntT x 0 0 else bif eqI x.op 3 then cntT x 0 0 else bif eqI x.op 14 then cntT x 0 0 else bif eqI x.op 4 then cntT x 1 1 && allK ns x 0 expO else bif eqI x.op 17 then cntT x 1 1 && allK ns x 0 expO else bif eqI x.op 5 then cntT x 2 2 && allK ns x 0 expO else bif eqI x.op 15 then cntT x 2 2 && allK ns x 0 expO else bif eqI x.op 16 then cntT x 3 3 && allK ns x 0 expO else bif eqI x.op 6 then cntT x 0 16 && allK ns x 0 expO else bif eqI x.op 7 then cntT x 1 17 && allK ns x 0 expO else bif eqI x.op 8 then cntT x 1 1 && allK ns x 0 letO else bif eqI x.op 9 then cntT x 1 1 && allK ns x 0 letO else bif eqI x.op 10 then cntT x 1 1 && allK ns x 0 calO else bif eqI x.op 11 then (bif eqI x.op 12 then ifK ns x 2 else ifK ns x 3) else bif eqI x.op 12 then (bif eqI x.op 12 then ifK ns x 2 else ifK ns x 3) else bif eqI x.op 13 then cntT x 0 1 && allK ns x 0 expO else bif eqI x.op 18 then allK ns x 0 staO else false
theorem E_skids {n : Nat} (ns : List No) (x : No) (hk : ∀ k ∈ x.kids, ∃ y, atT ns k = some y) (h : x.kids.length < 1000) : evFn lay0.tab (n + 1004) 177 [.p (.slice 8 (ns.map No.e)), .p x.e] [] = some (.p (.bool (kidsV ns x)), []) := by
 apply T_skids (n + 1003) (ns.map No.e) x.r
 have h1 : ∀ (a b : Int) (K : KV), evC lay0.tab (n + 1003) 219 [.p (.int .i64 a), .p (.int .i64 b), .box 0 0] [x.r.b] K = K (.p (.bool (cntT x a b))) [x.r.b] := fun a b => evC_known (E_skids1 (n := n + 1002) x a b)
 have hE := evC_known (E_skids2E (n := n) ns x 0 (Nat.zero_le _) hk h)
 have hS := evC_known (E_skids2S (n := n) ns x 0 (Nat.zero_le _) hk h)
 have hA := evC_known (E_skids2A (n := n) ns x 0 (Nat.zero_le _) hk h)
 have hB := evC_known (E_skids2B (n := n) ns x 0 (Nat.zero_le _) hk h)
 simp only [show ((0 : Nat) : Int) = 0 from rfl] at hE hS hA hB
 have hx : ∀ (o : Int) (K : KV), evC lay0.tab (n + 1003) 221 [.p (.int .i64 o)] [] K = K (.p (.bool (expO o))) [] := fun o => evC_known (E_sexpression (n := n + 1002) o)
 have hif : ∀ m, (iL (cntT x 2 m) (cL (at? x.r.Kids 0) fun x133 => dInt .i64 x133 fun i134 => cL (at? (ns.map No.e) i134) fun x135 => d_api_Node x135 fun u136 => evC lay0.tab (n + 1003) 221 [(.p (.int .i64 u136.Op))] [] fun d137 o138 => dP d137 fun x139 => dBool x139 fun b140 => dNil o138 <| iL b140 (evC lay0.tab (n + 1003) 220 [(.p (.int .i64 1)), (.p (.fn 224 [])), (.box 0 0), (.box 1 0)] [x.r.b, (.box [(.p (.slice 8 (ns.map No.e)))])] fun d141 o142 => dP d141 fun x143 => dBool x143 fun b144 => dSame [x.r.b, (.box [(.p (.slice 8 (ns.map No.e)))])] o142 <| iL b144 (some ((.p (.bool true)), [])) (some ((.p (.bool false)), []))) (some ((.p (.bool false)), []))) (some ((.p (.bool false)), []))) = some (.p (.bool (ifK ns x m)), []) := by
  intro m
  unfold ifK
  cases hks : x.kids with
  | nil =>
   have : cntT x 2 m = false := by unfold cntT; rw [hks]; rfl
   rw [this]; rfl
  | cons k r =>
   obtain ⟨y, hy⟩ := hk k (by rw [hks]; exact List.mem_cons_self ..)
   have hC := evC_known (E_skids2C (n := n) ns x 1 (by rw [hks]; simp) hk h)
   simp only [show ((1 : Nat) : Int) = 1 from rfl] at hC
   simp only [nr8, hks, at_mapT, cL_map, atT_zero, cL_s, dI, hy, dNo, nr1, hx, hC, dP_k, dBool_k, dNil_k, dSame_k, iL_ans, c_tf, c_xf, Bool.and_true, List.headD_cons, opAt, Option.map_some, Option.getD_some]
 simp only [F_skids, nr1, h1, dP_k, dBool_k, dSame_k, hif]
 simp only [hE, hS, hA, hB, dP_k, dBool_k, dSame_k, iL_ans, c_tf, c_xf, Bool.and_true, kidsV]
def binO : List (List Nat) := [[124, 124], [38, 38], [61, 61], [33, 61], [60], [60, 61], [62], [62, 61], [43], [45], [42], [47], [37]]
def v0 : Va := ⟨0, 0, [], [], []⟩
def contC (x : No) (b : Bool) : Bool := bif eqI x.op 4 then (bif eqS x.name [45] then b else bif eqS x.name [33] then b else false) else bif eqI x.op 5 then (bif binO.any (fun t => eqS x.name t) then b else false) else bif eqI x.op 6 then (bif nameS x.name then b else bif eqS x.name [105, 110, 116, 115] then b else bif eqS x.name [115, 116, 114, 105, 110, 103, 115] then b else false) else bif eqI x.op 7 then (bif nameS x.name then bif nameS x.v.s then sameV x.v ⟨0, 0, x.v.s, [], []⟩ else false else false) else bif eqI x.op 8 then (bif nameS x.name then bif kindT x.v.k then sameV x.v ⟨x.v.k, 0, [], [], []⟩ else false else false) else bif eqS x.name [] then b else false
def contA (x : No) : Bool := bif eqS x.name [] then (bif valV x.v then (bif eqI x.v.k 1 then bif leI 0 x.v.n then true else bif eqI x.v.k 2 then true else eqI x.v.k 3 else bif eqI x.v.k 2 then true else eqI x.v.k 3) else false) else false
def contV (x : No) : Bool := bif eqI x.op 1 then contA x else bif eqI x.op 2 then (bif eqI x.op 2 then (bif nameS x.name then sameV x.v v0 else false) else contC x (sameV x.v v0)) else bif eqI x.op 9 then (bif nameS x.name then sameV x.v v0 else false) else contC x (sameV x.v v0)
theorem E_scontents {n : Nat} (x : No) (hi : x.v.I.length < 1000) (hl : x.v.L.length < 1000) : evFn lay0.tab (n + 1006) 178 [.p x.e] [] = some (.p (.bool (contV x)), []) := by
 apply T_scontents (n + 1005) x.r
 have h1 := evC_known (E_ssame (n := n + 1) x.v v0 hi hl)
 have h2 := evC_known (E_ssame (n := n + 1) x.v ⟨0, 0, x.v.s, [], []⟩ hi hl)
 have h3 := evC_known (E_ssame (n := n + 1) x.v ⟨x.v.k, 0, [], [], []⟩ hi hl)
 have h4 := evC_known (E_lIsName (n := n) x.name)
 have h5 := evC_known (E_lIsName (n := n) x.v.s)
 have h6 := evC_known (E_wValid (n := n + 3) x.v hl)
 have h7 := evC_known (E_sContS (n := n + 2) binO x.name (by decide))
 have h8 := evC_known (E_skindOf (n := n + 1004) x.v.k)
 simp only [Va.c, v0, List.map_nil] at h1 h2 h3 h6
 simp only [binO, List.map_cons, List.map_nil] at h7
 simp only [F_scontents, nr1, nr2, nr3, nr4, nr5, nr6, nr7, h1, h2, h3, h4, h5, h6, h7, h8, dP_k, dBool_k, dNil_k, iL_ans, contV, contA, contC, v0, binO]
/- Heights. -/
def hK (op : Int) (hs : List Int) : List Int → Nat → Int → Int
 | [], _, m => m
 | k :: r, j, m => hK op hs r (j + 1) (bif (eqI op 11 || eqI op 12) && eqI (j : Int) 0 then (bif ltI m (wrapF .i64 (hs.getD k.toNat 0 + 1)) then wrapF .i64 (hs.getD k.toNat 0 + 1) else m) else bif ltI m (hs.getD k.toNat 0) then hs.getD k.toNat 0 else m)
def hAdd (op m : Int) : Int := bif eqI op 4 then wrapF .i64 (m + 2) else bif eqI op 5 || (eqI op 6 || (eqI op 7 || (eqI op 15 || (eqI op 16 || (eqI op 17 || eqI op 18))))) then wrapF .i64 (m + 1) else m
def hN : List No → Nat → List Int → List Int
 | [], _, hs => hs
 | x :: r, i, hs => hN r (i + 1) (hs.set i (hAdd x.op (hK x.op hs x.kids 0 0)))
def heightT (ns : List No) : Int := (hN ns 0 (List.replicate ns.length 0)).getD (ns.length - 1) 0
def KidsIn (b : Nat) (l : List Int) : Prop := ∀ k ∈ l, 0 ≤ k ∧ k < (b : Int)
theorem getI_map (hs : List Int) {i : Nat} (h : i < hs.length) : (hs.map iE)[i]? = some (iE (hs.getD i 0)) := by
 simp [List.getElem?_eq_getElem h, List.getD_eq_getElem?_getD]
theorem hei2 {m : Nat} (k0 : H_sheight_2 → R) (a b : LD) (N : Nat) (i5 i4 i6 : Int) (x : No) (hs : List Int) (hN : N = hs.length) (hk : KidsIn N x.kids) (hl : x.kids.length < 1000) : ∀ (e q j : Nat) (mx : Int), j + e = x.kids.length → e < q →
  L_sheight_2 (evC lay0.tab m) m k0 q (a, N, i5, mx, b, i4, i6, x.kids.map iE, (x.kids.length : Int), (j : Int), hs.map iE, x.r) = k0 (a, N, i5, hK x.op hs (x.kids.drop j) j mx, b, i4, i6, x.kids.map iE, (x.kids.length : Int), (x.kids.length : Int), hs.map iE, x.r)
 | 0, q + 1, j, mx, h, _ => by
  obtain rfl : j = x.kids.length := by omega
  rw [Ls_sheight_2]
  simp only [S_sheight_2, ltII, iL_f, List.drop_length, hK]
 | e + 1, q + 1, j, mx, h, hq => by
  have hj : j < x.kids.length := by omega
  obtain ⟨g1, g2⟩ := hk x.kids[j] (List.getElem_mem _)
  have g3 : x.kids[j].toNat < hs.length := by omega
  rw [Ls_sheight_2, List.drop_eq_getElem_cons hj]
  simp only [S_sheight_2, ltT (show ((j : Int) < (x.kids.length : Int)) by omega), iL_t, at_mapT, cL_map, atT_lt hj, cL_s, dI, leI_d, g1, decide_true, ltT g2, Nat.zero_add, getI_map hs g3, nr1, wS (show j < big by unfold big; omega), hK]
  cases eqI x.op 11 <;> cases eqI x.op 12 <;> cases eqI (j : Int) 0 <;> exact hei2 k0 a b N i5 i4 i6 x hs hN hk hl e q (j + 1) _ (by omega) (by omega)
theorem hei1 {m : Nat} (k0 : H_sheight_1 → R) (ns : List No) (hm : 1000 < m) (hk : ∀ x ∈ ns, KidsIn ns.length x.kids) (hkl : ∀ x ∈ ns, x.kids.length < 1000) (hl : ns.length < 1000) : ∀ (e q i : Nat) (hs : List Int), i + e = ns.length → e < q → hs.length = ns.length →
  L_sheight_1 (evC lay0.tab m) m k0 q (ns.map No.e, ns.length, ns.map No.e, (ns.length : Int), (i : Int), hs.map iE) = k0 (ns.map No.e, ns.length, ns.map No.e, (ns.length : Int), (ns.length : Int), (hN (ns.drop i) i hs).map iE)
 | 0, q + 1, i, hs, h, _, hhs => by
  obtain rfl : i = ns.length := by omega
  rw [Ls_sheight_1]
  simp only [S_sheight_1, ltII, iL_f, List.drop_length, hN]
 | e + 1, q + 1, i, hs, h, hq, hhs => by
  have hi : i < ns.length := by omega
  have hx : ns[i] ∈ ns := List.getElem_mem _
  rw [Ls_sheight_1, List.drop_eq_getElem_cons hi]
  simp only [S_sheight_1, ltT (show ((i : Int) < (ns.length : Int)) by omega), iL_t, at_mapT, cL_map, atT_lt hi, cL_s, dNo, nr8, List.length_map]
  have g := hei2 (m := m) (fun (l25, n26, i27, i28, l29, i30, i31, l32, i33, i34, l35, u36) => L_sheight_1 (evC lay0.tab m) m k0 q (l25, n26, l29, i30, wrapF .i64 (i31 + 1), List.set l35 (0 + Int.toNat i27) (iE (hAdd u36.Op i28)))) (ns.map No.e) (ns.map No.e) ns.length i ns.length i ns[i] hs hhs.symm (hk _ hx) (hkl _ hx) ns[i].kids.length m 0 0 (by omega) (by have := hkl _ hx; omega)
  simp only [show ((0 : Nat) : Int) = 0 from rfl, List.drop_zero, nr1, Int.toNat_natCast, Nat.zero_add, wS (show i < big by unfold big; omega)] at g
  refine Eq.trans (Eq.trans ?_ g) ?_
  ·have g2 := fun k0' => hei2 (m := m) k0' (ns.map No.e) (ns.map No.e) ns.length i ns.length i ns[i] hs hhs.symm (hk _ hx) (hkl _ hx) ns[i].kids.length m 0 0 (by omega) (by have := hkl _ hx; omega)
   simp only [show ((0 : Nat) : Int) = 0 from rfl, List.drop_zero] at g2
   rw [g2, g2]
   simp only [nr1, leI_d, show (0 : Int) ≤ (i : Int) by omega, decide_true, iL_t, ltT (show ((i : Int) < (ns.length : Int)) by omega), Nat.zero_add, Int.toNat_natCast, getI_map hs (show i < hs.length by omega), cL_s, show (cells (iE (hs.getD i 0))).length = 1 from rfl, show Nat.beq 1 1 = true from rfl, show ∀ v, rebuild (iE (hs.getD i 0)) (cells (Da.int .i64 v)) = some (iE v) from fun _ => rfl, wS (show i < big by unfold big; omega)]
   unfold hAdd
   cases eqI ns[i].op 4 <;> cases eqI ns[i].op 5 <;> cases eqI ns[i].op 6 <;> cases eqI ns[i].op 7 <;> cases eqI ns[i].op 15 <;> cases eqI ns[i].op 16 <;> cases eqI ns[i].op 17 <;> cases eqI ns[i].op 18 <;> rfl
  ·simp only [hN]
   rw [← List.map_set]
   exact hei1 k0 ns hm hk hkl hl e q (i + 1) _ (by omega) (by omega) (by simp [hhs])
theorem hN_len : ∀ (l : List No) (i : Nat) (hs : List Int), (hN l i hs).length = hs.length
 | [], _, _ => rfl
 | x :: r, i, hs => by simp only [hN]; rw [hN_len]; simp
theorem E_sheight {n : Nat} (ns : List No) (h0 : 0 < ns.length) (hk : ∀ x ∈ ns, KidsIn ns.length x.kids) (hkl : ∀ x ∈ ns, x.kids.length < 1000) (hl : ns.length < 1000) : evFn lay0.tab (n + 1002) 179 [.p (.slice 8 (ns.map No.e))] [] = some (.p (.int .i64 (heightT ns)), []) := by
 apply T_sheight (n + 1001) (ns.map No.e)
 unfold F_sheight heightT
 have hw : wrapF .i64 ((ns.length : Int) - 1) = ((ns.length - 1 : Nat) : Int) := by rw [wrapI (by omega) (by omega)]; omega
 have hr : List.replicate ns.length (Da.int .i64 0) = (List.replicate ns.length (0 : Int)).map iE := by simp [iE]
 have g := fun k0 => hei1 (m := n + 1001) k0 ns (by omega) hk hkl hl ns.length (n + 1001) 0 (List.replicate ns.length 0) (by omega) (by omega) (by simp)
 simp only [show ((0 : Nat) : Int) = 0 from rfl, List.drop_zero] at g
 simp only [List.length_map, Int.toNat_natCast, hr, g, leI_d, show (0 : Int) ≤ (ns.length : Int) by omega, Int.le_refl, decide_true, Bool.true_and, show Nat.ble (ns.length * 8) 281474976710656 = true by rw [Nat.ble_eq]; omega, show (ns.length : Int) ≤ 9223372036854775807 by omega, iL_t, eqI_d, show ¬ ((ns.length : Int) = 0) by omega, decide_false, iL_f, hw, show (0 : Int) ≤ ((ns.length - 1 : Nat) : Int) by omega, ltT (show ((ns.length - 1 : Nat) : Int) < (ns.length : Int) by omega), Nat.zero_add]
 rw [getI_map _ (by rw [hN_len]; simp; omega)]
 rfl
end
end Go.Ab
end
/- Valid programs. -/
section
namespace Go.Ab
open Go
set_option maxRecDepth 100000
noncomputable section
theorem E_sEqualV {n : Nat} (xs ys : List Int) (lo len : Nat) (hl : lo + len ≤ xs.length) (h : len < 1000) : evFn lay0.tab (n + 1002) 48 [.arr 0 lo len 1, .p (.slice 1 (ys.map iE))] [.arr (xs.map iE)] = some (.p (.bool (decide ((xs.drop lo).take len = ys))), [.arr (xs.map iE)]) := by
 apply T_sEqualV (n + 1001) (xs.map iE) lo len (ys.map iE)
 have hzl : ((xs.drop lo).take len).length = len := by simp; omega
 simp only [F_sEqualV, List.length_map, eqI_d, iL_ndec]
 by_cases he : len = ys.length
 ·rw [if_pos (by omega)]
  have hl2 : ((xs.drop lo).take len).length = ys.length := by omega
  refine (loop_list (((xs.drop lo).take len).zip ys) (fun q i => L_sEqualV_1 _ (n + 1001) _ _ q (lo, len, ys.map iE, (len : Int), i, xs.map iE)) (fun t => !eqI t.1 t.2) (fun i => some (.p (.bool false), [.arr (xs.map iE)])) (some (.p (.bool true), [.arr (xs.map iE)])) (fun q i hi => ?_) (fun q => ?_) (by simp only [List.length_zip]; omega)).trans ?_
  ·simp only [List.length_zip] at hi
   rw [Ls_sEqualV_1]
   have hg : (xs.map iE)[lo + i]? = some (iE (((xs.drop lo).take len)[i]'(by omega))) := by
    rw [List.getElem?_map, List.getElem?_eq_getElem (by omega)]
    simp
   simp only [S_sEqualV_1, ltT (show ((i : Int) < (len : Int)) by omega), iL_t, leI_d, show (0 : Int) ≤ (i : Int) by omega, decide_true, Int.toNat_natCast, hg, at_mapT, cL_map, atT_lt (show i < ys.length by omega), cL_s, dI, wS (show i < big by unfold big; omega), List.getElem_zip]
   exact iL_if _ _ _
  ·rw [Ls_sEqualV_1]
   simp only [S_sEqualV_1, List.length_zip, hzl, ← he, Nat.min_self, ltII, iL_f]
  ·have key := zip_find eqI hl2 eqI_d
   cases hf : (((xs.drop lo).take len).zip ys).findIdx? (fun t => !eqI t.1 t.2) with
   | none => simp only [key.1 hf, decide_true]
   | some j =>
    have : ¬ (xs.drop lo).take len = ys := fun e => by rw [key.2 e] at hf; cases hf
    simp only [this, decide_false]
 ·rw [if_neg (by omega)]
  have : ¬ (xs.drop lo).take len = ys := fun e => he (by rw [← e]; omega)
  simp only [this, decide_false]
theorem bigL_t {n : Nat} (h : n ≤ 1000) : bigL n 8 = true := by
 unfold bigL
 rw [Bool.and_eq_true, Nat.ble_eq, Nat.ble_eq]; omega
theorem post_loop {n : Nat} (ns : List No) (hkl : ∀ x ∈ ns, x.kids.length < 1000) (hl : ns.length < 1000) (k0 : LD × api_Node → R) (k1 : H_spostOrder_1 → R) (hk0 : ∀ a b, k0 (a, b) = some (.p (.bool false), [])) (hk1 : ∀ a b c d e, k1 (a, b, c, d, e) = some (.p (.bool (decide (a = 1))), [])) : ∀ (e q i : Nat) (roots : List Int), i + e = ns.length → e < q → roots.length ≤ i →
  L_spostOrder_1 (evC lay0.tab (n + 1002)) (n + 1002) k0 k1 q (roots.length, ns.map No.e, (ns.length : Int), (i : Int), roots.map iE) = some (.p (.bool (postT (ns.drop i) i roots)), [])
 | 0, q + 1, i, roots, h, _, _ => by
  obtain rfl : i = ns.length := by omega
  rw [Ls_spostOrder_1]
  simp only [S_spostOrder_1, ltII, iL_f, List.drop_length, postT, hk1]
 | e + 1, q + 1, i, roots, h, hq, hr => by
  have hi : i < ns.length := by omega
  have hx : ns[i] ∈ ns := List.getElem_mem _
  have hkx := hkl _ hx
  rw [Ls_spostOrder_1, List.drop_eq_getElem_cons hi]
  have hw : wrapF .i64 ((roots.length : Int) - ((ns[i].kids.map iE).length : Int)) = (roots.length : Int) - (ns[i].kids.length : Int) := by
   rw [List.length_map, wrapI (by omega) (by omega)]
  simp only [S_spostOrder_1, ltT (show ((i : Int) < (ns.length : Int)) by omega), iL_t, at_mapT, cL_map, atT_lt hi, cL_s, dNo, nr8, hw, postT]
  by_cases hlt : roots.length < ns[i].kids.length
  ·rw [if_pos hlt, ltT (by omega), iL_t, hk0]
  ·rw [if_neg hlt, ltF (by omega), iL_f]
   have ht : ((roots.length : Int) - (ns[i].kids.length : Int)).toNat = roots.length - ns[i].kids.length := by omega
   have happ : roots.map iE = roots.map iE := rfl
   have hm : List.take (roots.length - ns[i].kids.length - 0) (roots.map iE) ++ [Da.int .i64 (i : Int)] = (roots.take (roots.length - ns[i].kids.length) ++ [(i : Int)]).map iE := by
    rw [List.map_append, List.map_take]; rfl
   have hb : bigL ((List.take (roots.length - ns[i].kids.length - 0) (roots.map iE)).length + [Da.int .i64 (i : Int)].length) 8 = true := bigL_t (by simp; omega)
   have hv := evC_known (E_sEqualV (n := n) roots ns[i].kids (roots.length - ns[i].kids.length) (roots.length - (roots.length - ns[i].kids.length)) (by omega) (by omega))
   have hz := evC_known (E_sEqual (n := n) [] ns[i].kids (by simp))
   have hdr : (roots.drop (roots.length - ns[i].kids.length)).take (roots.length - (roots.length - ns[i].kids.length)) = roots.drop (roots.length - ns[i].kids.length) := by
    rw [List.take_of_length_le (by simp)]
   rw [hdr] at hv
   simp only [List.map_nil] at hz
   have hrec := post_loop (n := n) ns hkl hl k0 k1 hk0 hk1 e q (i + 1) (roots.take (roots.length - ns[i].kids.length) ++ [(i : Int)]) (by omega) (by omega) (by simp; omega)
   simp only [leI_d, show (0 : Int) ≤ (roots.length : Int) - (ns[i].kids.length : Int) by omega, show (roots.length : Int) - (ns[i].kids.length : Int) ≤ (roots.length : Int) by omega, decide_true, iL_t, ht, Nat.zero_add, hv, hz, hb, hm, List.length_map, dP_k, dBool_k, dSame_k, hk0, wS (show i < big by unfold big; omega), hrec, beqN_d, iL_dec]
   by_cases hd : roots.drop (roots.length - ns[i].kids.length) = ns[i].kids
   ·rw [if_pos hd]
    by_cases h0 : roots.length - ns[i].kids.length = roots.length
    ·have hk : ([] : List Int) = ns[i].kids := by rw [← hd, h0, List.drop_length]
     rw [if_pos h0, if_pos hk]
     simp only [hd, if_true]
     cases Nat.blt 0 roots.length <;> rfl
    ·rw [if_neg h0, if_pos hd]
   ·rw [if_neg hd]
    by_cases h0 : roots.length - ns[i].kids.length = roots.length
    ·have hk : ¬ ([] : List Int) = ns[i].kids := fun e => hd (by rw [← e]; simp)
     rw [if_pos h0, if_neg hk]
     simp only [hd, if_false]
     cases Nat.blt 0 roots.length <;> rfl
    ·rw [if_neg h0, if_neg hd]
theorem E_spostOrder {n : Nat} (ns : List No) (hkl : ∀ x ∈ ns, x.kids.length < 1000) (hl : ns.length < 1000) : evFn lay0.tab (n + 1003) 176 [.p (.slice 8 (ns.map No.e))] [] = some (.p (.bool (postT ns 0 [])), []) := by
 apply T_spostOrder (n + 1002) (ns.map No.e)
 unfold F_spostOrder
 rw [List.length_map]
 refine (post_loop (n := n) ns hkl hl _ _ (fun _ _ => rfl) (fun a b c d e => ?_) ns.length (n + 1002) 0 [] (by omega) (by omega) (by simp)).trans rfl
 show iL (eqI (a : Int) 1) _ _ = _
 rw [iL_ans, c_tf, eqI_d]
 congr 4
 rw [decide_eq_decide]; omega
theorem post_kids {b : Nat} : ∀ (r : List No) (i : Nat) (roots : List Int), i + r.length = b → KidsIn i roots → postT r i roots = true → ∀ x ∈ r, KidsIn b x.kids
 | [], _, _, _, _, _, x, hx => by cases hx
 | y :: r, i, roots, hb, hr, h, x, hx => by
  simp only [postT] at h
  split at h
  ·cases h
  ·split at h
   ·rename_i hlen hdrop
    simp only [List.length_cons] at hb
    rcases List.mem_cons.1 hx with rfl | hx
    ·intro k hk
     rw [← hdrop] at hk
     obtain ⟨g1, g2⟩ := hr k (List.mem_of_mem_drop hk)
     exact ⟨g1, by omega⟩
    ·refine post_kids r (i + 1) _ (by omega) ?_ h x hx
     intro k hk
     rcases List.mem_append.1 hk with hk | hk
     ·obtain ⟨g1, g2⟩ := hr k (List.mem_of_mem_take hk)
      exact ⟨g1, by omega⟩
     ·simp only [List.mem_singleton] at hk
      subst hk
      omega
   ·cases h
structure SzN (x : No) : Prop where
 iv : x.v.I.length < 1000
 lv : x.v.L.length < 1000
 ks : x.kids.length < 1000
def bodyV (ns : List No) : Bool := postT ns 0 [] && (eqI (opAt ns ((ns.length - 1 : Nat) : Int)) 18 && ((ns.all fun x => kidsV ns x && contV x) && leI (heightT ns) 24))
theorem kids_at {ns : List No} {l : List Int} (h : KidsIn ns.length l) : ∀ k ∈ l, ∃ y, atT ns k = some y := by
 intro k hk
 obtain ⟨g1, g2⟩ := h k hk
 obtain ⟨j, rfl⟩ : ∃ j : Nat, k = (j : Int) := ⟨k.toNat, by omega⟩
 exact ⟨_, atT_lt (by omega)⟩
theorem E_svalidBody {n : Nat} (ns : List No) (hs : ∀ x ∈ ns, SzN x) (hl : ns.length < 1000) : evFn lay0.tab (n + 1008) 126 [.p (.slice 8 (ns.map No.e))] [] = some (.p (.bool (bodyV ns)), []) := by
 apply T_svalidBody (n + 1007) (ns.map No.e)
 unfold F_svalidBody bodyV
 simp only [evC_known (E_spostOrder (n := n + 4) ns (fun x hx => (hs x hx).ks) hl), dP_k, dBool_k, dNil_k]
 cases hp : postT ns 0 [] with
 | false => rfl
 | true =>
  obtain ⟨k, hsub, hk1⟩ := post_tree ns 0 [] rfl (Nat.zero_le _) .nil hp
  have hkk := post_kids (b := ns.length) ns 0 [] (by omega) (fun k hk => by cases hk) hp
  have hw : wrapF .i64 (((ns.map No.e).length : Int) - 1) = ((ns.length - 1 : Nat) : Int) := by rw [List.length_map, wrapI (by omega) (by omega)]; omega
  have hlt : ns.length - 1 < ns.length := by omega
  simp only [hw, iL_t, at_mapT, cL_map, atT_lt hlt, cL_s, dNo, nr1, opAt, Option.map_some, Option.getD_some, Bool.true_and]
  cases eqI ns[ns.length - 1].op 18 with
  | false => rfl
  | true =>
   simp only [Bool.not_true, iL_f, Bool.true_and, List.length_map]
   refine (loop_list ns (fun q i => L_svalidBody_1 _ (n + 1007) _ _ q (ns.map No.e, ns.map No.e, (ns.length : Int), i)) (fun x => !(kidsV ns x && contV x)) (fun i => some (.p (.bool false), [])) (some (.p (.bool (leI (heightT ns) 24)), [])) (fun q i hi => ?_) (fun q => ?_) (by omega)).trans ?_
   ·rw [Ls_svalidBody_1]
    have hx : ns[i] ∈ ns := List.getElem_mem _
    have sx := hs _ hx
    have e1 := evC_known (E_skids (n := n + 3) ns ns[i] (kids_at (hkk _ hx)) sx.ks)
    have e2 := evC_known (E_scontents (n := n + 1) ns[i] sx.iv sx.lv)
    simp only [No.e] at e1 e2
    simp only [S_svalidBody_1, ltT (show ((i : Int) < (ns.length : Int)) by omega), iL_t, at_mapT, cL_map, atT_lt hi, cL_s, dNo, wS (show i < big by unfold big; omega), e1, e2, dP_k, dBool_k, dNil_k]
    cases kidsV ns ns[i] <;> cases contV ns[i] <;> rfl
   ·rw [Ls_svalidBody_1]
    simp only [S_svalidBody_1, ltII, iL_f, evC_known (E_sheight (n := n + 5) ns (by omega) hkk (fun x hx => (hs x hx).ks) hl), dP_k, dInt_k, dNil_k, iL_ans, c_tf]
   ·rw [all_fnd]
    cases ns.findIdx? fun x => !(kidsV ns x && contV x) <;> rfl
def fieldV (f : Fe) : Bool := nameS f.name && (kindT f.kind && (eqI f.init.k f.kind && (valV f.init && (!eqI f.init.n (-9223372036854775808) && !f.init.I.any fun x => eqI (-9223372036854775808) x))))
structure SzF (f : Fe) : Prop where
 iv : f.init.I.length < 1000
 lv : f.init.L.length < 1000
theorem E_svalidField {n : Nat} (f : Fe) (h : SzF f) : evFn lay0.tab (n + 1006) 124 [.p f.e] [] = some (.p (.bool (fieldV f)), []) := by
 apply T_svalidField (n + 1005) f.r
 have h1 := evC_known (E_lIsName (n := n) f.name)
 have h2 := evC_known (E_skindOf (n := n + 1004) f.kind)
 have h3 := evC_known (E_wValid (n := n + 3) f.init h.lv)
 have h4 := evC_known (E_sContI (n := n + 2) f.init.I (-9223372036854775808) h.iv)
 simp only [Va.c] at h3
 simp only [F_svalidField, show f.r.Name = f.name from rfl, show f.r.Kind = f.kind from rfl, show f.r.Init_Kind = f.init.k from rfl, show f.r.Init_N = f.init.n from rfl, show f.r.Init_S = f.init.s from rfl, show f.r.Init_I = f.init.I.map iE from rfl, show f.r.Init_L = f.init.L.map .str from rfl, h1, h2, h3, h4, dP_k, dBool_k, dNil_k, iL_ans, c_ft, c_xf, c_fx, Bool.not_not, Bool.and_true, fieldV]
def methV (m : Me) : Bool := nameS m.name && (!ltI 4 (m.params.length : Int) && ((!(!eqI m.result 0) || kindT m.result) && m.params.all fun p => nameS p.name && kindT p.kind))
theorem E_svalidMethod {n : Nat} (m : Me) (hp : m.params.length < 1000) : evFn lay0.tab (n + 1006) 125 [.p m.e] [] = some (.p (.bool (methV m)), []) := by
 apply T_svalidMethod (n + 1005) m.r
 have h1 := evC_known (E_lIsName (n := n) m.name)
 have h2 := evC_known (E_skindOf (n := n + 1004) m.result)
 have hl : L_svalidMethod_1 (evC lay0.tab (n + 1005)) (n + 1005) (fun u22 => some (.p (.bool false), [])) (fun (l23, i24, i25) => some (.p (.bool true), [])) (n + 1005) (m.params.map Pa.e, (m.params.length : Int), 0) = some (.p (.bool (m.params.all fun p => nameS p.name && kindT p.kind)), []) := by
  refine (loop_list m.params (fun q i => L_svalidMethod_1 _ (n + 1005) _ _ q (m.params.map Pa.e, (m.params.length : Int), i)) (fun p => !(nameS p.name && kindT p.kind)) (fun i => some (.p (.bool false), [])) (some (.p (.bool true), [])) (fun q i hi => ?_) (fun q => ?_) (by omega)).trans ?_
  ·rw [Ls_svalidMethod_1]
   simp only [S_svalidMethod_1, ltT (show ((i : Int) < (m.params.length : Int)) by omega), iL_t, at_mapT, cL_map, atT_lt hi, cL_s, dPa, show ∀ p : Pa, p.r.Name = p.name from fun _ => rfl, show ∀ p : Pa, p.r.Kind = p.kind from fun _ => rfl, wS (show i < big by unfold big; omega), evC_known (E_lIsName (n := n) m.params[i].name), evC_known (E_skindOf (n := n + 1004) m.params[i].kind), dP_k, dBool_k, dNil_k]
   cases nameS m.params[i].name <;> cases kindT m.params[i].kind <;> rfl
  ·rw [Ls_svalidMethod_1]
   simp only [S_svalidMethod_1, ltII, iL_f]
  ·rw [all_fnd]
   cases m.params.findIdx? fun p => !(nameS p.name && kindT p.kind) <;> rfl
 simp only [F_svalidMethod, show m.r.Name = m.name from rfl, show m.r.Params = m.params.map Pa.e from rfl, show m.r.Result = m.result from rfl, List.length_map, hl, h1, h2, dP_k, dBool_k, dNil_k, methV]
 cases nameS m.name <;> cases ltI 4 (m.params.length : Int) <;> cases eqI m.result 0 <;> cases kindT m.result <;> rfl
structure SzMe (m : Me) : Prop where
 ps : m.params.length < 1000
 ns : m.nodes.length < 1000
 nx : ∀ x ∈ m.nodes, SzN x
structure SzA (a : Ac) : Prop where
 fl : a.fields.length < 1000
 me : a.methods.length < 1000
 ff : ∀ f ∈ a.fields, SzF f
 mm : ∀ m ∈ a.methods, SzMe m
theorem E_sContF {n : Nat} (fs : List Fe) (h : fs.length < 1000) (hf : ∀ f ∈ fs, SzF f) : evFn lay0.tab (n + 1009) 122 [.p (.slice 7 (fs.map Fe.e)), .p (.fn 123 [])] [] = some (.p (.bool (fs.any fun f => !fieldV f)), []) := by
 have h1 : ∀ f ∈ fs, evFn lay0.tab (n + 1007) 123 [.p f.e] [] = some (.p (.bool (!fieldV f)), []) := by
  intro f hm
  apply T_sValid1 (n + 1006) f.r
  have := evC_known (E_svalidField (n := n) f (hf f hm))
  simp only [Fe.e] at this
  simp only [F_sValid1, this, dP_k, dBool_k, dNil_k, iL_ans, c_ft]
 have hi : evFn lay0.tab (n + 1008) 100 [.p (.slice 7 (fs.map Fe.e)), .p (.fn 123 [])] [] = some (.p (.int .i64 (ixOf (fs.findIdx? fun f => !fieldV f))), []) := by
  apply T_sIndF (n + 1007) (fs.map Fe.e)
  unfold F_sIndF
  rw [List.length_map]
  refine (loop_list fs (fun q i => L_sIndF_1 _ (n + 1007) _ _ q (fs.map Fe.e, (fs.length : Int), i)) (fun f => !fieldV f) (fun i => some (.p (.int .i64 i), [])) (some (.p (.int .i64 (-1)), [])) (fun q i hi => ?_) (fun q => ?_) (by omega)).trans ?_
  ·rw [Ls_sIndF_1]
   have := evC_known (h1 fs[i] (List.getElem_mem _))
   simp only [Fe.e] at this
   simp only [S_sIndF_1, ltT (show ((i : Int) < (fs.length : Int)) by omega), iL_t, at_mapT, cL_map, atT_lt hi, cL_s, dFe, wS (show i < big by unfold big; omega), this, dP_k, dBool_k, dSame_k]
   exact iL_if _ _ _
  ·rw [Ls_sIndF_1]
   simp only [S_sIndF_1, ltII, iL_f]
  ·cases fs.findIdx? fun f => !fieldV f <;> rfl
 apply T_sContF (n + 1008) (fs.map Fe.e)
 unfold F_sContF
 simp only [evC_known hi, dP_k, dInt_k, dNil_k]
 rw [← List.findIdx?_isSome]
 cases fs.findIdx? fun f => !fieldV f with
 | none => rfl
 | some j => simp [ixOf, leI_d, iL_t]
def metV : List Me → Int → Option Int
 | [], t => some t
 | m :: r, t => bif ltI 1500 (wrapF .i64 (t + (m.nodes.length : Int))) then none else bif methV m && bodyV m.nodes then metV r (wrapF .i64 (t + (m.nodes.length : Int))) else none
def actV (a : Ac) : Bool := nameS a.name && (!ltI 8 (a.fields.length : Int) && (!ltI 16 (a.methods.length : Int) && !a.fields.any fun f => !fieldV f))
def typV : List Ac → Int → Option Int
 | [], t => some t
 | a :: r, t => bif actV a then (match metV a.methods t with | none => none | some t => typV r t) else none
def validT (p : List Ac) : Bool := !ltI 8 (p.length : Int) && (typV p 0).isSome
theorem val_met {n : Nat} (a b : Int) (l : LD) (ml : List Me) (hm : ∀ m ∈ ml, SzMe m) (hl : ml.length < 1000) (k0 : api_Method → R) (k1 : H_sValid_2 → R) (Z : R) (hk0 : ∀ a, k0 a = Z) : ∀ (e q j : Nat) (t : Int), j + e = ml.length → e < q →
  L_sValid_2 (evC lay0.tab (n + 1009)) (n + 1009) k0 k1 q (t, l, a, b, ml.map Me.e, (ml.length : Int), (j : Int)) = match metV (ml.drop j) t with | none => Z | some t => k1 (t, l, a, b, ml.map Me.e, (ml.length : Int), (ml.length : Int))
 | 0, q + 1, j, t, h, _ => by
  obtain rfl : j = ml.length := by omega
  rw [Ls_sValid_2]
  simp only [S_sValid_2, ltII, iL_f, List.drop_length, metV]
 | e + 1, q + 1, j, t, h, hq => by
  have hj : j < ml.length := by omega
  have hx := hm ml[j] (List.getElem_mem _)
  have e1 := evC_known (E_svalidMethod (n := n + 3) ml[j] hx.ps)
  have e2 := evC_known (E_svalidBody (n := n + 1) ml[j].nodes hx.nx hx.ns)
  simp only [Me.e] at e1
  rw [Ls_sValid_2, List.drop_eq_getElem_cons hj]
  simp only [S_sValid_2, ltT (show ((j : Int) < (ml.length : Int)) by omega), iL_t, at_mapT, cL_map, atT_lt hj, cL_s, dMe, wS (show j < big by unfold big; omega), e1, show ml[j].r.Nodes = ml[j].nodes.map No.e from rfl, List.length_map, e2, dP_k, dBool_k, dNil_k, hk0, metV]
  cases ltI 1500 (wrapF .i64 (t + (ml[j].nodes.length : Int)))
  ·cases methV ml[j]
   ·rfl
   ·cases bodyV ml[j].nodes
    ·rfl
    ·exact val_met a b l ml hm hl k0 k1 Z hk0 e q (j + 1) _ (by omega) (by omega)
  ·rfl
theorem val_typ {n : Nat} (p : List Ac) (hp : ∀ a ∈ p, SzA a) (hl : p.length < 1000) (k0 : api_ActorType → R) (k1 : api_Method → R) (k2 : H_sValid_1 → R) (Z : R) (hk0 : ∀ a, k0 a = Z) (hk1 : ∀ a, k1 a = Z) (W : R) (hk2 : ∀ a b c d, k2 (a, b, c, d) = W) : ∀ (e q j : Nat) (t : Int), j + e = p.length → e < q →
  L_sValid_1 (evC lay0.tab (n + 1009)) (n + 1009) k0 k1 k2 q (t, p.map Ac.e, (p.length : Int), (j : Int)) = match typV (p.drop j) t with | none => Z | some _ => W
 | 0, q + 1, j, t, h, _ => by
  obtain rfl : j = p.length := by omega
  rw [Ls_sValid_1]
  simp only [S_sValid_1, ltII, iL_f, List.drop_length, typV, hk2]
 | e + 1, q + 1, j, t, h, hq => by
  have hj : j < p.length := by omega
  have hx := hp p[j] (List.getElem_mem _)
  have e1 := evC_known (E_lIsName (n := n + 4) p[j].name)
  have e2 := evC_known (E_sContF (n := n) p[j].fields hx.fl hx.ff)
  rw [Ls_sValid_1, List.drop_eq_getElem_cons hj]
  have hmet := fun kk => val_met (n := n) (p.length : Int) (j : Int) (p.map Ac.e) p[j].methods hx.mm hx.me (fun u32 => k1 u32) kk Z hk1 p[j].methods.length (n + 1009) 0 t (by omega) (by have := hx.me; omega)
  simp only [show ((0 : Nat) : Int) = 0 from rfl, List.drop_zero] at hmet
  simp only [S_sValid_1, ltT (show ((j : Int) < (p.length : Int)) by omega), iL_t, at_mapT, cL_map, atT_lt hj, cL_s, dAc, show p[j].r.Name = p[j].name from rfl, show p[j].r.Fields = p[j].fields.map Fe.e from rfl, show p[j].r.Methods = p[j].methods.map Me.e from rfl, List.length_map, wS (show j < big by unfold big; omega), e1, e2, dP_k, dBool_k, dNil_k, dSame_k, hk0, hmet, typV, actV]
  cases nameS p[j].name
  ·rfl
  cases ltI 8 (p[j].fields.length : Int)
  ·cases ltI 16 (p[j].methods.length : Int)
   ·cases p[j].fields.any fun f => !fieldV f
    ·simp only [iL_t, iL_f, Bool.not_false, Bool.true_and, cond_true]
     cases metV p[j].methods t with
     | none => rfl
     | some t' => exact val_typ p hp hl k0 k1 k2 Z hk0 hk1 W hk2 e q (j + 1) _ (by omega) (by omega)
    ·rfl
   ·rfl
  ·rfl
theorem E_sValid {n : Nat} (p : List Ac) (hp : ∀ a ∈ p, SzA a) (hl : p.length < 1000) : evFn lay0.tab (n + 1010) 84 [.p (.agg [.slice 3 (p.map Ac.e)])] [] = some (.p (.bool (validT p)), []) := by
 apply T_sValid (n + 1009) ⟨p.map Ac.e⟩
 unfold F_sValid validT
 simp only [List.length_map]
 cases ltI 8 (p.length : Int)
 ·refine (val_typ (n := n) p hp hl _ _ _ (some (.p (.bool false), [])) (fun _ => rfl) (fun _ => rfl) (some (.p (.bool true), [])) (fun _ _ _ _ => rfl) p.length (n + 1009) 0 0 (by omega) (by omega)).trans ?_
  rw [List.drop_zero]
  cases typV p 0 <;> rfl
 ·rfl
/- What is known of valid programs. -/
theorem body_ok {ns : List No} (h : bodyV ns = true) : BodyOk ns := by
 unfold bodyV at h
 simp only [Bool.and_eq_true, List.all_eq_true] at h
 obtain ⟨hp, _, hall, _⟩ := h
 have hkk := post_kids (b := ns.length) ns 0 [] (by omega) (fun k hk => by cases hk) hp
 have hc : ∀ x ∈ ns, kidsV ns x = true := fun x hx => (hall x hx).1
 refine ⟨post_tree ns 0 [] rfl (Nat.zero_le _) .nil hp, fun x hx => ⟨fun ho => ?_, fun ho => ?_⟩, fun x hx ho k hk y hy => ?_⟩
 ·have := hc x hx
  rcases ho with h | h | h | h | h | h | h <;> (unfold kidsV at this; rw [h] at this; simp only [eqI_d, cntT, ifK, leI_d, Bool.and_eq_true, decide_eq_true_eq, Int.reduceEq, decide_false, decide_true, cond_true, cond_false] at this; omega)
 ·have := hc x hx
  unfold kidsV at this; rw [ho] at this; simp only [eqI_d, cntT, ifK, leI_d, Bool.and_eq_true, decide_eq_true_eq, Int.reduceEq, decide_false, decide_true, cond_true, cond_false] at this; omega
 ·have := hc x hx
  have ha : allK ns x 0 letO = true := by
   rcases ho with h | h <;> (unfold kidsV at this; rw [h] at this; simp only [eqI_d, Bool.and_eq_true, Int.reduceEq, decide_false, decide_true, cond_true, cond_false] at this; exact this.2)
  unfold allK at ha
  rw [List.drop_zero, List.all_eq_true] at ha
  have := ha k hk
  unfold opAt at this
  rw [hy] at this
  simp only [Option.map_some, Option.getD_some, letO, expO, calO, leI_d, eqI_d, Bool.or_eq_true, Bool.and_eq_true, decide_eq_true_eq] at this
  omega
theorem met_ok : ∀ (ml : List Me) (t t' : Int), metV ml t = some t' → ∀ m ∈ ml, bodyV m.nodes = true ∧ methV m = true
 | [], _, _, _, m, hm => by cases hm
 | x :: r, t, t', h, m, hm => by
  simp only [metV] at h
  cases h1 : ltI 1500 (wrapF .i64 (t + (x.nodes.length : Int))) with
  | true => rw [h1] at h; simp at h
  | false =>
   cases h2 : methV x && bodyV x.nodes with
   | false => rw [h1, h2] at h; simp at h
   | true =>
    rw [h1, h2] at h
    simp only [cond_true, cond_false] at h
    rcases List.mem_cons.1 hm with rfl | hm
    ·rw [Bool.and_eq_true] at h2; exact ⟨h2.2, h2.1⟩
    ·exact met_ok r _ _ h m hm
theorem typ_ok : ∀ (p : List Ac) (t t' : Int), typV p t = some t' → ∀ a ∈ p, actV a = true ∧ ∀ m ∈ a.methods, bodyV m.nodes = true ∧ methV m = true
 | [], _, _, _, a, ha => by cases ha
 | x :: r, t, t', h, a, ha => by
  simp only [typV] at h
  cases h1 : actV x with
  | false => rw [h1] at h; simp at h
  | true =>
   rw [h1] at h
   simp only [cond_true] at h
   cases h2 : metV x.methods t with
   | none => rw [h2] at h; cases h
   | some t1 =>
    rw [h2] at h
    rcases List.mem_cons.1 ha with rfl | ha
    ·exact ⟨h1, met_ok _ _ _ h2⟩
    ·exact typ_ok r _ _ h a ha
theorem valid_ok {p : List Ac} (h : validT p = true) : p.length ≤ 8 ∧ ∀ a ∈ p, ∀ m ∈ a.methods, BodyOk m.nodes ∧ m.params.length ≤ 4 := by
 unfold validT at h
 simp only [Bool.and_eq_true, Bool.not_eq_true', ltI_d, decide_eq_false_iff_not] at h
 obtain ⟨h1, h2⟩ := h
 refine ⟨by omega, fun a ha m hm => ?_⟩
 obtain ⟨t, ht⟩ := Option.isSome_iff_exists.1 h2
 obtain ⟨g1, g2⟩ := (typ_ok p 0 t ht a ha).2 m hm
 refine ⟨body_ok g1, ?_⟩
 unfold methV at g2
 simp only [Bool.and_eq_true, Bool.not_eq_true', ltI_d, decide_eq_false_iff_not] at g2
 omega
end
end Go.Ab
end
