/- The evaluator and its laws, part Kg3: Le Li Lf Xs Lg Lh Xa -/
import Derived.Test.YtlfhmmbmjkadiaaGreatDoorKg2
import Derived.Test.YtlfhmmbmjkadiaaGreatDoorOg3
import Derived.Test.YtlfhmmbmjkadiaaGreatDoorAm5
import Derived.KernelRfl
set_option linter.all false
/- Small programs. -/
section
namespace Go.Ab
open Go
set_option maxRecDepth 100000
noncomputable section
def smallV (v : Va) : Bool := (v.L.all fun t => !ltI 100 (lenI t)) && (leI (lenI v.s) 100 && (leI (lenI v.I) 40 && leI (lenI v.L) 40))
theorem wB {i : Nat} (h : i < 1000000000000000) : wrapF .i64 ((i : Int) + 1) = ((i + 1 : Nat) : Int) := by
 rw [wrapI (by omega) (by omega)]; omega
theorem E_small {n : Nat} (v : Va) (h : v.L.length < n) (hb : v.L.length < 1000000000000000) : evFn lay0.tab (n + 1) 52 [.p (.agg v.c)] [] = some (.p (.bool (smallV v)), []) := by
 apply T_small n v.r
 unfold F_small smallV
 refine (loop_list v.L (fun q i => L_small_1 _ n _ _ q (i, v.r)) (fun t => ltI 100 (lenI t)) (fun i => some (.p (.bool false), [])) (some (.p (.bool (leI (lenI v.s) 100 && (leI (lenI v.I) 40 && leI (lenI v.L) 40))), [])) (fun q i hi => ?_) (fun q => ?_) h).trans ?_
 ·rw [Ls_small_1]
  show iL (ltI (i : Int) ((v.L.map Da.str).length : Int)) (cL (at? (v.L.map Da.str) (i : Int)) _) _ = _
  simp only [List.length_map, ltT (show ((i : Int) < (v.L.length : Int)) by omega), iL_t, at_mapT, cL_map, atT_lt hi, cL_s, dStr_m, wB (show i < 1000000000000000 by omega)]
  exact iL_if _ _ _
 ·rw [Ls_small_1]
  show iL (ltI (v.L.length : Int) ((v.L.map Da.str).length : Int)) _ (iL (leI (v.s.length : Int) 100) (iL (leI ((v.I.map iE).length : Int) 40) (iL (leI ((v.L.map Da.str).length : Int) 40) _ _) _) _) = _
  simp only [List.length_map, ltII, iL_f, iL_ans, c_tf, c_xf, lenI, Bool.and_true]
 ·rw [all_find]
  cases v.L.findIdx? fun t => ltI 100 (lenI t) <;> rfl
def smF (f : Fe) : Bool := !ltI 100 (lenI f.name) && smallV f.init
def smN (x : No) : Bool := !ltI 100 (lenI x.name) && (!ltI 60 (lenI x.kids) && smallV x.v)
def smM : List Me → Int → Option Int
 | [], t => some t
 | m :: r, t => bif ltI 400 (wrapF .i64 (t + lenI m.nodes)) then none else bif ltI 20 (lenI m.params) then none else bif ltI 100 (lenI m.name) then none else bif m.nodes.all smN then smM r (wrapF .i64 (t + lenI m.nodes)) else none
def smA (a : Ac) : Bool := !ltI 20 (lenI a.fields) && (!ltI 20 (lenI a.methods) && (!ltI 100 (lenI a.name) && a.fields.all smF))
def smP : List Ac → Int → Option Int
 | [], t => some t
 | a :: r, t => bif smA a then (match smM a.methods t with | none => none | some t => smP r t) else none
def smallT (p : List Ac) : Bool := !ltI 20 (lenI p) && (smP p 0).isSome
structure LBV (n : Nat) (v : Va) : Prop where
 l : v.L.length < n
 b : v.L.length < 1000000000000000
structure LBA (n : Nat) (a : Ac) : Prop where
 fl : a.fields.length < n
 me : a.methods.length < n
 ff : ∀ f ∈ a.fields, LBV n f.init
 mm : ∀ m ∈ a.methods, m.nodes.length < n ∧ m.nodes.length < 1000000000000000 ∧ ∀ x ∈ m.nodes, LBV n x.v
theorem LBA.le {n n' : Nat} {a : Ac} (h : LBA n a) (hn : n ≤ n') : LBA n' a := ⟨by have := h.fl; omega, by have := h.me; omega, fun f hf => ⟨by have := (h.ff f hf).l; omega, (h.ff f hf).b⟩, fun m hm => ⟨by have := (h.mm m hm).1; omega, (h.mm m hm).2.1, fun x hx => ⟨by have := ((h.mm m hm).2.2 x hx).l; omega, ((h.mm m hm).2.2 x hx).b⟩⟩⟩
theorem sm_f {n : Nat} (a : Ac) (h : LBA n a) (hl : a.fields.length < 1000) (P : api_Program) (i j : Int) (k0 : api_Program × api_ActorType → R) (k1 : H_Small_2 → R) : L_Small_2 (evC lay0.tab (n + 1)) (n + 1) k0 k1 (n + 1) (i, j, 0, P, a.r) = bif a.fields.all smF then k1 (i, j, (a.fields.length : Int), P, a.r) else k0 (P, a.r) := by
 refine (loop_list a.fields (fun q e => L_Small_2 _ (n + 1) _ _ q (i, j, e, P, a.r)) (fun f => !smF f) (fun _ => k0 (P, a.r)) (k1 (i, j, (a.fields.length : Int), P, a.r)) (fun q e he => ?_) (fun q => ?_) (by have := h.fl; omega)).trans ?_
 ·rw [Ls_Small_2]
  have hv := h.ff a.fields[e] (List.getElem_mem _)
  have e1 := evC_known (E_small (n := n) a.fields[e].init hv.l hv.b)
  simp only [Va.c] at e1
  show iL (ltI (e : Int) ((a.fields.map Fe.e).length : Int)) (cL (at? (a.fields.map Fe.e) (e : Int)) fun x11 => d_api_Field x11 fun u12 => iL (ltI 100 ↑(List.length u12.Name)) _ (cL (at? (a.fields.map Fe.e) (e : Int)) fun x13 => _)) _ = _
  simp only [List.length_map, ltT (show ((e : Int) < (a.fields.length : Int)) by omega), iL_t, at_mapT, cL_map, atT_lt he, cL_s, dFe, wS (show e < big by unfold big; omega), show ∀ f : Fe, f.r.Name = f.name from fun _ => rfl, show ∀ f : Fe, f.r.Init_Kind = f.init.k from fun _ => rfl, show ∀ f : Fe, f.r.Init_N = f.init.n from fun _ => rfl, show ∀ f : Fe, f.r.Init_S = f.init.s from fun _ => rfl, show ∀ f : Fe, f.r.Init_I = f.init.I.map iE from fun _ => rfl, show ∀ f : Fe, f.r.Init_L = f.init.L.map .str from fun _ => rfl, e1, dP_k, dBool_k, dNil_k, smF, lenI]
  refine Eq.trans ?_ (iL_if _ _ _)
  cases ltI 100 (a.fields[e].name.length : Int) <;> cases smallV a.fields[e].init <;> rfl
 ·rw [Ls_Small_2]
  show iL (ltI (a.fields.length : Int) ((a.fields.map Fe.e).length : Int)) _ _ = _
  simp only [List.length_map, ltII, iL_f]
 ·rw [all_fnd]
  cases a.fields.findIdx? fun f => !smF f <;> rfl
theorem sm_n {n : Nat} (m : Me) (hx : ∀ x ∈ m.nodes, LBV n x.v) (hn : m.nodes.length < n) (hl : m.nodes.length < 1000) (P : api_Program) (A : api_ActorType) (i j k : Int) (k0 : api_Program × api_ActorType × api_Method → R) (k1 : H_Small_4 → R) : L_Small_4 (evC lay0.tab (n + 1)) (n + 1) k0 k1 (n + 1) (i, j, k, 0, P, A, m.r) = bif m.nodes.all smN then k1 (i, j, k, (m.nodes.length : Int), P, A, m.r) else k0 (P, A, m.r) := by
 refine (loop_list m.nodes (fun q e => L_Small_4 _ (n + 1) _ _ q (i, j, k, e, P, A, m.r)) (fun x => !smN x) (fun _ => k0 (P, A, m.r)) (k1 (i, j, k, (m.nodes.length : Int), P, A, m.r)) (fun q e he => ?_) (fun q => ?_) (by omega)).trans ?_
 ·rw [Ls_Small_4]
  have hv := hx m.nodes[e] (List.getElem_mem _)
  have e1 := evC_known (E_small (n := n) m.nodes[e].v hv.l hv.b)
  simp only [Va.c] at e1
  simp only [S_Small_4, show m.r.Nodes = m.nodes.map No.e from rfl, List.length_map, ltT (show ((e : Int) < (m.nodes.length : Int)) by omega), iL_t, at_mapT, cL_map, atT_lt he, cL_s, dNo, wS (show e < big by unfold big; omega), nr2, nr3, nr4, nr5, nr6, nr7, nr8, List.length_map, e1, dP_k, dBool_k, dNil_k, smN, lenI]
  refine Eq.trans ?_ (iL_if _ _ _)
  cases ltI 100 (m.nodes[e].name.length : Int) <;> cases ltI 60 (m.nodes[e].kids.length : Int) <;> cases smallV m.nodes[e].v <;> rfl
 ·rw [Ls_Small_4]
  simp only [S_Small_4, show m.r.Nodes = m.nodes.map No.e from rfl, List.length_map, ltII, iL_f]
 ·rw [all_fnd]
  cases m.nodes.findIdx? fun x => !smN x <;> rfl
theorem sm_m {n : Nat} (a : Ac) (h : LBA n a) (hl : a.methods.length < 1000) (P : api_Program) (i : Int) (k0 : api_Program × api_ActorType × api_Method → R) (k1 : H_Small_3 → R) (Z : R) (hk0 : ∀ x, k0 x = Z) : ∀ (e q j : Nat) (t : Int), j + e = a.methods.length → e < q → 0 ≤ t → t ≤ 400 →
  L_Small_3 (evC lay0.tab (n + 1)) (n + 1) k0 k1 q (t, i, (j : Int), P, a.r) = match smM (a.methods.drop j) t with | none => Z | some t => k1 (t, i, (a.methods.length : Int), P, a.r)
 | 0, q + 1, j, t, he, _, _, _ => by
  obtain rfl : j = a.methods.length := by omega
  rw [Ls_Small_3]
  simp only [S_Small_3, show a.r.Methods = a.methods.map Me.e from rfl, List.length_map, ltII, iL_f, List.drop_length, smM]
 | e + 1, q + 1, j, t, he, hq, h0, h4 => by
  have hj : j < a.methods.length := by omega
  obtain ⟨g1, g2, g3⟩ := h.mm a.methods[j] (List.getElem_mem _)
  rw [Ls_Small_3, List.drop_eq_getElem_cons hj]
  simp only [S_Small_3, show a.r.Methods = a.methods.map Me.e from rfl, List.length_map, ltT (show ((j : Int) < (a.methods.length : Int)) by omega), iL_t, at_mapT, cL_map, atT_lt hj, cL_s, dMe, wS (show j < big by unfold big; omega), show ∀ m : Me, m.r.Nodes = m.nodes.map No.e from fun _ => rfl, show ∀ m : Me, m.r.Params = m.params.map Pa.e from fun _ => rfl, show ∀ m : Me, m.r.Name = m.name from fun _ => rfl, List.length_map, hk0, smM, lenI]
  have hw : wrapF .i64 (t + (a.methods[j].nodes.length : Int)) = t + (a.methods[j].nodes.length : Int) := wrapI (by omega) (by omega)
  rw [hw]
  by_cases hg : 400 < t + (a.methods[j].nodes.length : Int)
  ·rw [ltT hg]; rfl
  ·rw [ltF hg]
   cases ltI 20 (a.methods[j].params.length : Int)
   ·cases ltI 100 (a.methods[j].name.length : Int)
    ·simp only [iL_f, cond_false]
     have hs := fun kk => sm_n (n := n) a.methods[j] g3 g1 (by omega) P a.r (t + (a.methods[j].nodes.length : Int)) i (j : Int) (fun (u50, u51, u52) => Z) kk
     refine Eq.trans (hs _) ?_
     cases a.methods[j].nodes.all smN
     ·rfl
     ·simp only [cond_true, wS (show j < big by unfold big; omega)]
      exact sm_m a h hl P i k0 k1 Z hk0 e q (j + 1) (t + (a.methods[j].nodes.length : Int)) (by omega) (by omega) (by omega) (by omega)
    ·rfl
   ·rfl
theorem sm_range : ∀ (l : List Me) (t t' : Int), smM l t = some t' → (∀ m ∈ l, m.nodes.length < 1000000000000000) → 0 ≤ t → t ≤ 400 → 0 ≤ t' ∧ t' ≤ 400 ∧ ∀ m ∈ l, m.nodes.length ≤ 400 ∧ m.params.length ≤ 20 ∧ m.nodes.all smN = true
 | [], t, t', h, _, h0, h4 => by
  simp only [smM, Option.some.injEq] at h
  subst h
  exact ⟨h0, h4, fun m hm => by cases hm⟩
 | m :: r, t, t', h, hb, h0, h4 => by
  have hm := hb m (List.mem_cons_self ..)
  simp only [smM, lenI] at h
  have hw : wrapF .i64 (t + (m.nodes.length : Int)) = t + (m.nodes.length : Int) := wrapI (by omega) (by omega)
  rw [hw] at h
  by_cases hg : 400 < t + (m.nodes.length : Int)
  ·rw [ltT hg] at h; cases h
  ·rw [ltF hg] at h
   by_cases h20 : 20 < (m.params.length : Int)
   ·rw [ltT h20] at h; cases h
   ·rw [ltF h20] at h
    cases h100 : ltI 100 (m.name.length : Int) with
    | true => rw [h100] at h; cases h
    | false =>
     rw [h100] at h
     simp only [cond_false] at h
     cases ha : m.nodes.all smN with
     | false => rw [ha] at h; cases h
     | true =>
      rw [ha] at h
      obtain ⟨g1, g2, g3⟩ := sm_range r _ t' h (fun x hx => hb x (List.mem_cons_of_mem _ hx)) (by omega) (by omega)
      refine ⟨g1, g2, fun x hx => ?_⟩
      rcases List.mem_cons.1 hx with rfl | hx
      ·exact ⟨by omega, by omega, ha⟩
      ·exact g3 x hx
theorem sm_p {n : Nat} (p : List Ac) (h : ∀ a ∈ p, LBA n a) (hl : p.length < 1000) (k0 : api_Program × api_ActorType → R) (k1 : api_Program × api_ActorType × api_Method → R) (k2 : H_Small_1 → R) (Z W : R) (hk0 : ∀ x, k0 x = Z) (hk1 : ∀ x, k1 x = Z) (hk2 : ∀ x, k2 x = W) : ∀ (e q j : Nat) (t : Int), j + e = p.length → e < q → 0 ≤ t → t ≤ 400 →
  L_Small_1 (evC lay0.tab (n + 1)) (n + 1) k0 k1 k2 q (t, (j : Int), ⟨p.map Ac.e⟩) = match smP (p.drop j) t with | none => Z | some _ => W
 | 0, q + 1, j, t, he, _, _, _ => by
  obtain rfl : j = p.length := by omega
  rw [Ls_Small_1]
  simp only [S_Small_1, List.length_map, ltII, iL_f, List.drop_length, smP, hk2]
 | e + 1, q + 1, j, t, he, hq, h0, h4 => by
  have hj : j < p.length := by omega
  have ha := h p[j] (List.getElem_mem _)
  rw [Ls_Small_1, List.drop_eq_getElem_cons hj]
  simp only [S_Small_1, List.length_map, ltT (show ((j : Int) < (p.length : Int)) by omega), iL_t, at_mapT, cL_map, atT_lt hj, cL_s, dAc, show p[j].r.Fields = p[j].fields.map Fe.e from rfl, show p[j].r.Methods = p[j].methods.map Me.e from rfl, show p[j].r.Name = p[j].name from rfl, hk0, hk1, smP, smA, lenI]
  by_cases hf : 20 < (p[j].fields.length : Int)
  ·rw [ltT hf]; rfl
  ·rw [ltF hf]
   by_cases hm : 20 < (p[j].methods.length : Int)
   ·rw [ltT hm]; rfl
   ·rw [ltF hm]
    cases ltI 100 (p[j].name.length : Int)
    ·simp only [iL_f, Bool.not_false, Bool.true_and]
     have hs := fun kk => sm_f (n := n) p[j] ha (by omega) ⟨p.map Ac.e⟩ t (j : Int) (fun (u19, u20) => Z) kk
     refine Eq.trans (hs _) ?_
     cases p[j].fields.all smF
     ·rfl
     ·have hs2 := fun kk => sm_m (n := n) p[j] ha (by omega) ⟨p.map Ac.e⟩ (j : Int) (fun (u60, u61, u62) => Z) kk Z (fun _ => rfl) p[j].methods.length (n + 1) 0 t (by omega) (by have := ha.me; omega) h0 h4
      simp only [show ((0 : Nat) : Int) = 0 from rfl, List.drop_zero] at hs2
      simp only [cond_true]
      refine Eq.trans (hs2 _) ?_
      cases hsm : smM p[j].methods t with
      | none => rfl
      | some t' =>
       obtain ⟨g1, g2, _⟩ := sm_range _ _ _ hsm (fun m hm => (ha.mm m hm).2.1) h0 h4
       simp only [wS (show j < big by unfold big; omega)]
       exact sm_p p h hl k0 k1 k2 Z W hk0 hk1 hk2 e q (j + 1) t' (by omega) (by omega) g1 g2
    ·rfl
theorem E_Small {n : Nat} (p : List Ac) (hp : p.length < n) (h : ∀ a ∈ p, LBA n a) : evFn lay0.tab (n + 2) 17 [pD p] [] = some (.p (.bool (smallT p)), []) := by
 apply T_Small (n + 1) ⟨p.map Ac.e⟩
 unfold F_Small smallT
 simp only [List.length_map, lenI]
 by_cases hl : 20 < (p.length : Int)
 ·rw [ltT hl]; rfl
 ·rw [ltF hl]
  refine (sm_p (n := n) p h (by omega) _ _ _ (some (.p (.bool false), [])) (some (.p (.bool true), [])) (fun _ => rfl) (fun _ => rfl) (fun _ => rfl) p.length (n + 1) 0 0 (by omega) (by omega) (by omega) (by omega)).trans ?_
  rw [List.drop_zero]
  cases smP p 0 <;> rfl
theorem smV_ok {v : Va} (h : smallV v = true) : v.I.length < 1000 ∧ v.L.length < 1000 := by
 unfold smallV lenI at h
 simp only [Bool.and_eq_true, leI_d, decide_eq_true_eq] at h
 omega
theorem smP_ok : ∀ (l : List Ac) (t t' : Int), smP l t = some t' → (∀ a ∈ l, ∀ m ∈ a.methods, m.nodes.length < 1000000000000000) → 0 ≤ t → t ≤ 400 → ∀ a ∈ l, SzA a
 | [], _, _, _, _, _, _, a, ha => by cases ha
 | x :: r, t, t', h, hb, h0, h4, a, ha => by
  simp only [smP] at h
  cases hx : smA x with
  | false => rw [hx] at h; cases h
  | true =>
   rw [hx] at h
   simp only [cond_true] at h
   cases hs : smM x.methods t with
   | none => rw [hs] at h; cases h
   | some t1 =>
    rw [hs] at h
    obtain ⟨g1, g2, g3⟩ := sm_range _ _ _ hs (hb x (List.mem_cons_self ..)) h0 h4
    rcases List.mem_cons.1 ha with rfl | ha
    ·unfold smA lenI at hx
     simp only [Bool.and_eq_true, Bool.not_eq_true', ltI_d, decide_eq_false_iff_not, List.all_eq_true] at hx
     obtain ⟨q1, q2, _, q4⟩ := hx
     refine ⟨by omega, by omega, fun f hf => ?_, fun m hm => ?_⟩
     ·have := q4 f hf
      unfold smF at this
      rw [Bool.and_eq_true] at this
      exact ⟨(smV_ok this.2).1, (smV_ok this.2).2⟩
     ·obtain ⟨w1, w2, w3⟩ := g3 m hm
      refine ⟨by omega, by omega, fun y hy => ?_⟩
      have := List.all_eq_true.1 w3 y hy
      unfold smN lenI at this
      simp only [Bool.and_eq_true, Bool.not_eq_true', ltI_d, decide_eq_false_iff_not] at this
      exact ⟨(smV_ok this.2.2).1, (smV_ok this.2.2).2, by omega⟩
    ·exact smP_ok r t1 t' h (fun b hb' => hb b (List.mem_cons_of_mem _ hb')) g1 g2 a ha
theorem small_sz {n : Nat} {p : List Ac} (h : smallT p = true) (hb : ∀ a ∈ p, LBA n a) : Szd p := by
 unfold smallT lenI at h
 simp only [Bool.and_eq_true, Bool.not_eq_true', ltI_d, decide_eq_false_iff_not] at h
 obtain ⟨t, ht⟩ := Option.isSome_iff_exists.1 h.2
 exact ⟨by omega, smP_ok p 0 t ht (fun a ha m hm => ((hb a ha).mm m hm).2.1) (by omega) (by omega)⟩
end
end Go.Ab
end
/- The arguments of the laws, as typed data. -/
section
namespace Go.Ab
open Go
set_option maxRecDepth 100000
def eqNs : List Nat → List Nat → Bool
 | [], [] => true
 | a :: r, b :: s => Nat.beq a b && eqNs r s
 | _, _ => false
theorem eqNs_eq : ∀ {a b : List Nat}, eqNs a b = true → a = b
 | [], [], _ => rfl
 | [], _ :: _, h => by cases h
 | _ :: _, [], h => by cases h
 | a :: r, b :: s, h => by
  simp only [eqNs, Bool.and_eq_true] at h
  rw [Nat.eq_of_beq_eq_true h.1, eqNs_eq h.2]
def isIntT (P : Program) (k : IntKind) (t : TypeId) : Bool := match P.underlying t with | some (.int k') => decide (k' = k) | _ => false
def isStrT (P : Program) (t : TypeId) : Bool := match P.underlying t with | some .string => true | _ => false
def isSlT (P : Program) (t e z : Nat) : Bool := match P.underlying t with | some (.slice e') => Nat.beq e' e && Nat.beq (P.cellsOf e) z | _ => false
def isStT (P : Program) (t : Nat) (ts : List Nat) : Bool := match P.underlying t with | some (.struct fs) => eqNs (fs.toList.map (·.type)) ts | _ => false
def fieldsT (C : TypeId → List Da → Prop) : List TypeId → List Da → Prop
 | [], xs => xs = []
 | t :: r, xs => ∃ ys zs, xs = ys ++ zs ∧ C t ys ∧ fieldsT C r zs
theorem fieldsTy_T {C : TypeId → List Da → Prop} : ∀ {fs : List Field} {xs : List Da}, fieldsTy C fs xs → fieldsT C (fs.map (·.type)) xs
 | [], _, h => h
 | f :: r, xs, ⟨ys, zs, h1, h2, h3⟩ => ⟨ys, zs, h1, h2, fieldsTy_T h3⟩
section
variable {P : Program} {B : TypeId → Nat} {n t : Nat} {xs : List Da} {x : Da}
theorem ty_int {k : IntKind} (h : isIntT P k t = true) (hc : cellsTy P B (n + 1) t xs) : ∃ i, xs = [.int k i] ∧ (Lit.int k i).wf = true := by
 unfold isIntT at h
 simp only [cellsTy] at hc
 split at h
 ·rename_i hu
  rw [hu] at hc
  have := of_decide_eq_true h
  subst this
  exact hc
 ·cases h
theorem ty_str (h : isStrT P t = true) (hc : cellsTy P B (n + 1) t xs) : ∃ s, xs = [.str s] := by
 unfold isStrT at h
 simp only [cellsTy] at hc
 split at h
 ·rename_i hu
  rw [hu] at hc
  obtain ⟨s, rfl, _⟩ := hc
  exact ⟨s, rfl⟩
 ·cases h
theorem ty_sl {e z : Nat} (h : isSlT P t e z = true) (hc : cellsTy P B (n + 1) t xs) : ∃ es, xs = [.slice z es] ∧ es.length ≤ B e ∧ ∀ x ∈ es, datTy P (cellsTy P B n) e x := by
 unfold isSlT at h
 simp only [cellsTy] at hc
 split at h
 ·rename_i hu
  rw [hu] at hc
  rw [Bool.and_eq_true] at h
  obtain ⟨es, rfl, _, h2, h3⟩ := hc
  have h4 := Nat.eq_of_beq_eq_true h.1
  subst h4
  rw [Nat.eq_of_beq_eq_true h.2]
  exact ⟨es, rfl, h2, h3⟩
 ·cases h
theorem ty_st {ts : List Nat} (h : isStT P t ts = true) (hc : cellsTy P B (n + 1) t xs) : fieldsT (cellsTy P B n) ts xs := by
 unfold isStT at h
 simp only [cellsTy] at hc
 split at h
 ·rename_i hu
  rw [hu] at hc
  rw [← eqNs_eq h]
  exact fieldsTy_T hc
 ·cases h
theorem dat_st {ts : List Nat} {C : TypeId → List Da → Prop} (h : isStT P t ts = true) (hc : datTy P C t x) : ∃ cs, x = .agg cs ∧ C t cs := by
 unfold isStT at h
 unfold datTy at hc
 split at h
 ·rename_i hu
  have : isAggT P t = true := by unfold isAggT; rw [hu]
  rw [this] at hc
  exact hc
 ·cases h
theorem dat_int {k : IntKind} {C : TypeId → List Da → Prop} (h : isIntT P k t = true) (hc : datTy P C t x) : C t [x] := by
 unfold isIntT at h
 unfold datTy at hc
 split at h
 ·rename_i hu
  have : isAggT P t = false := by unfold isAggT; rw [hu]
  rw [this] at hc
  exact hc
 ·cases h
theorem dat_str {C : TypeId → List Da → Prop} (h : isStrT P t = true) (hc : datTy P C t x) : C t [x] := by
 unfold isStrT at h
 unfold datTy at hc
 split at h
 ·rename_i hu
  have : isAggT P t = false := by unfold isAggT; rw [hu]
  rw [this] at hc
  exact hc
 ·cases h
end
theorem rows_map {α : Type} {f : α → Da} {Q : α → Prop} : ∀ {es : List Da}, (∀ x ∈ es, ∃ a, x = f a ∧ Q a) → ∃ l : List α, es = l.map f ∧ ∀ a ∈ l, Q a
 | [], _ => ⟨[], rfl, fun _ h => by cases h⟩
 | x :: es, h => by
  obtain ⟨a, rfl, ha⟩ := h x (List.mem_cons_self ..)
  obtain ⟨l, rfl, hl⟩ := rows_map (es := es) fun y hy => h y (List.mem_cons_of_mem _ hy)
  refine ⟨a :: l, rfl, fun b hb => ?_⟩
  rcases List.mem_cons.1 hb with rfl | hb
  ·exact ha
  ·exact hl b hb
noncomputable section
abbrev Bn : TypeId → Nat := fun _ => 1048576
abbrev CT (n t : Nat) (xs : List Da) : Prop := cellsTy prog0 Bn n t xs
abbrev DT (n t : Nat) (x : Da) : Prop := datTy prog0 (cellsTy prog0 Bn n) t x
theorem isI : isIntT prog0 .i64 3 = true := by kernel_rfl
theorem isS : isStrT prog0 9 = true := by kernel_rfl
theorem isIs : isSlT prog0 51 3 1 = true := by kernel_rfl
theorem isSs : isSlT prog0 31 9 1 = true := by kernel_rfl
theorem isVal : isStT prog0 67 [3, 3, 9, 51, 31] = true := by kernel_rfl
theorem isNode : isStT prog0 69 [3, 9, 67, 51] = true := by kernel_rfl
theorem isPar : isStT prog0 76 [9, 3] = true := by kernel_rfl
theorem isFie : isStT prog0 74 [9, 3, 67] = true := by kernel_rfl
theorem isNodes : isSlT prog0 70 69 8 = true := by kernel_rfl
theorem isPars : isSlT prog0 63 76 2 = true := by kernel_rfl
theorem isFies : isSlT prog0 32 74 7 = true := by kernel_rfl
theorem isMet : isStT prog0 72 [9, 63, 3, 70] = true := by kernel_rfl
theorem isMets : isSlT prog0 42 72 4 = true := by kernel_rfl
theorem isAc : isStT prog0 44 [9, 32, 42] = true := by kernel_rfl
theorem isAcs : isSlT prog0 22 44 3 = true := by kernel_rfl
theorem isPro : isStT prog0 24 [22] = true := by kernel_rfl
theorem c_ints {n : Nat} {xs : List Da} (h : CT (n + 2) 51 xs) : ∃ l : List Int, xs = [.slice 1 (l.map iE)] ∧ l.length ≤ 1048576 := by
 obtain ⟨es, rfl, h1, h2⟩ := ty_sl isIs h
 obtain ⟨l, rfl, _⟩ := rows_map (f := iE) (Q := fun _ => True) (es := es) fun x hx => by
  obtain ⟨i, e, _⟩ := ty_int isI (dat_int isI (h2 x hx))
  simp only [List.cons.injEq, and_true] at e
  exact ⟨i, e, trivial⟩
 exact ⟨l, rfl, by simpa using h1⟩
theorem c_strs {n : Nat} {xs : List Da} (h : CT (n + 2) 31 xs) : ∃ l : List (List Nat), xs = [.slice 1 (l.map .str)] ∧ l.length ≤ 1048576 := by
 obtain ⟨es, rfl, h1, h2⟩ := ty_sl isSs h
 obtain ⟨l, rfl, _⟩ := rows_map (f := Da.str) (Q := fun _ => True) (es := es) fun x hx => by
  obtain ⟨i, e⟩ := ty_str isS (dat_str isS (h2 x hx))
  simp only [List.cons.injEq, and_true] at e
  exact ⟨i, e, trivial⟩
 exact ⟨l, rfl, by simpa using h1⟩
def Va.cs (v : Va) : List Da := [.int .i64 v.k, .int .i64 v.n, .str v.s, .slice 1 (v.I.map iE), .slice 1 (v.L.map .str)]
theorem c_val {n : Nat} {xs : List Da} (h : CT (n + 3) 67 xs) : ∃ v : Va, xs = v.cs ∧ LBV 1048577 v := by
 obtain ⟨_, _, rfl, h1, _, _, rfl, h2, _, _, rfl, h3, _, _, rfl, h4, _, _, rfl, h5, rfl⟩ := ty_st isVal h
 obtain ⟨k, rfl, _⟩ := ty_int isI h1
 obtain ⟨m, rfl, _⟩ := ty_int isI h2
 obtain ⟨s, rfl⟩ := ty_str isS h3
 obtain ⟨I, rfl, _⟩ := c_ints h4
 obtain ⟨L, rfl, hL⟩ := c_strs h5
 exact ⟨⟨k, m, s, I, L⟩, rfl, ⟨by show L.length < _; omega, by show L.length < _; omega⟩⟩
theorem d_node {n : Nat} {x : Da} (h : DT (n + 4) 69 x) : ∃ a : No, x = a.e ∧ LBV 1048577 a.v := by
 obtain ⟨cs, rfl, g⟩ := dat_st isNode h
 obtain ⟨_, _, rfl, h1, _, _, rfl, h2, _, _, rfl, h3, _, _, rfl, h4, rfl⟩ := ty_st isNode g
 obtain ⟨k, rfl, _⟩ := ty_int isI h1
 obtain ⟨s, rfl⟩ := ty_str isS h2
 obtain ⟨v, rfl, hv⟩ := c_val h3
 obtain ⟨I, rfl, _⟩ := c_ints h4
 exact ⟨⟨k, s, v, I⟩, rfl, hv⟩
theorem d_par {n : Nat} {x : Da} (h : DT (n + 2) 76 x) : ∃ a : Pa, x = a.e := by
 obtain ⟨cs, rfl, g⟩ := dat_st isPar h
 obtain ⟨_, _, rfl, h1, _, _, rfl, h2, rfl⟩ := ty_st isPar g
 obtain ⟨s, rfl⟩ := ty_str isS h1
 obtain ⟨k, rfl, _⟩ := ty_int isI h2
 exact ⟨⟨s, k⟩, rfl⟩
theorem d_fie {n : Nat} {x : Da} (h : DT (n + 4) 74 x) : ∃ a : Fe, x = a.e ∧ LBV 1048577 a.init := by
 obtain ⟨cs, rfl, g⟩ := dat_st isFie h
 obtain ⟨_, _, rfl, h1, _, _, rfl, h2, _, _, rfl, h3, rfl⟩ := ty_st isFie g
 obtain ⟨s, rfl⟩ := ty_str isS h1
 obtain ⟨k, rfl, _⟩ := ty_int isI h2
 obtain ⟨v, rfl, hv⟩ := c_val h3
 exact ⟨⟨s, k, v⟩, rfl, hv⟩
theorem d_met {n : Nat} {x : Da} (h : DT (n + 6) 72 x) : ∃ a : Me, x = a.e ∧ a.nodes.length ≤ 1048576 ∧ ∀ y ∈ a.nodes, LBV 1048577 y.v := by
 obtain ⟨cs, rfl, g⟩ := dat_st isMet h
 obtain ⟨_, _, rfl, h1, _, _, rfl, h2, _, _, rfl, h3, _, _, rfl, h4, rfl⟩ := ty_st isMet g
 obtain ⟨s, rfl⟩ := ty_str isS h1
 obtain ⟨ps, rfl, _, h2⟩ := ty_sl isPars h2
 obtain ⟨k, rfl, _⟩ := ty_int isI h3
 obtain ⟨ns, rfl, hl, h4⟩ := ty_sl isNodes h4
 obtain ⟨ps, rfl, _⟩ := rows_map (f := Pa.e) (Q := fun _ => True) (es := ps) fun x hx => by
  obtain ⟨a, ha⟩ := d_par (h2 x hx)
  exact ⟨a, ha, trivial⟩
 obtain ⟨ns, rfl, hv⟩ := rows_map (f := No.e) (Q := fun a => LBV 1048577 a.v) (es := ns) fun x hx => d_node (h4 x hx)
 exact ⟨⟨s, ps, k, ns⟩, rfl, by simpa using hl, hv⟩
theorem d_ac {n : Nat} {x : Da} (h : DT (n + 8) 44 x) : ∃ a : Ac, x = a.e ∧ LBA 1048577 a := by
 obtain ⟨cs, rfl, g⟩ := dat_st isAc h
 obtain ⟨_, _, rfl, h1, _, _, rfl, h2, _, _, rfl, h3, rfl⟩ := ty_st isAc g
 obtain ⟨s, rfl⟩ := ty_str isS h1
 obtain ⟨fs, rfl, hf, h2⟩ := ty_sl isFies h2
 obtain ⟨ms, rfl, hm, h3⟩ := ty_sl isMets h3
 obtain ⟨fs, rfl, hv⟩ := rows_map (f := Fe.e) (Q := fun a => LBV 1048577 a.init) (es := fs) fun x hx => d_fie (h2 x hx)
 obtain ⟨ms, rfl, hw⟩ := rows_map (f := Me.e) (Q := fun a => a.nodes.length ≤ 1048576 ∧ ∀ y ∈ a.nodes, LBV 1048577 y.v) (es := ms) fun x hx => d_met (h3 x hx)
 rw [List.length_map] at hf hm
 replace hf : fs.length ≤ 1048576 := hf
 replace hm : ms.length ≤ 1048576 := hm
 exact ⟨⟨s, fs, ms⟩, rfl, ⟨by show fs.length < _; omega, by show ms.length < _; omega, hv, fun m hmm => ⟨by have := (hw m hmm).1; omega, by have := (hw m hmm).1; omega, (hw m hmm).2⟩⟩⟩
theorem d_prog {n : Nat} {x : Da} (h : DT (n + 10) 24 x) : ∃ p : List Ac, .p x = pD p ∧ p.length < 1048577 ∧ ∀ a ∈ p, LBA 1048577 a := by
 obtain ⟨cs, rfl, g⟩ := dat_st isPro h
 obtain ⟨_, _, rfl, h1, rfl⟩ := ty_st isPro g
 obtain ⟨ts, rfl, hl, h1⟩ := ty_sl isAcs h1
 obtain ⟨p, rfl, hp⟩ := rows_map (f := Ac.e) (Q := fun a => LBA 1048577 a) (es := ts) fun x hx => d_ac (h1 x hx)
 rw [List.length_map] at hl
 replace hl : p.length ≤ 1048576 := hl
 exact ⟨p, rfl, by omega, hp⟩
theorem d_str {n : Nat} {x : Da} (h : DT (n + 1) 9 x) : ∃ s, x = .str s := by
 obtain ⟨s, e⟩ := ty_str isS (dat_str isS h)
 simp only [List.cons.injEq, and_true] at e
 exact ⟨s, e⟩
end
end Go.Ab
end
/- The law TypesSlots on typed data. -/
section
namespace Go.Ab
open Go
set_option maxRecDepth 100000
noncomputable section
theorem E_awake {n : Nat} : evFn lay0.tab (n + 1) 16 [] [] = some (.p (.bool true), []) := by kernel_rfl
theorem dPlE (u : api_Place) (K : api_Place → R) : d_api_Place u.e K = K u := rfl
end
end Go.Ab
end
/- The run of the law TypesSlots on every typed datum. -/
section
namespace Go.Ab
open Go
set_option maxRecDepth 100000
noncomputable section
theorem call0_ok (L : Letters) (N : Nat) : CallOk prog0 globs0 (evFn lay0.tab N) := evFn_ok (P := prog0) (G := globs0) mix0 (lay0.okM L mvG) N
end
end Go.Ab
end
/- Signatures; the law TypesApart on typed data. -/
section
namespace Go.Ab
open Go
set_option maxRecDepth 100000
noncomputable section
theorem sig_loop {m : Nat} (b : Bool) (u : api_Method) (ps : List Pa) (k0 : H_tLookup_1 → R) (hl : ps.length < 1000) : ∀ (e q j : Nat) (acc : List Int), j + e = ps.length → e < q → acc.length ≤ j →
  L_tLookup_1 (evC lay0.tab m) m k0 q (b, ps.map Pa.e, (ps.length : Int), (j : Int), u, acc.length, acc.map iE) = k0 (b, ps.map Pa.e, (ps.length : Int), (ps.length : Int), u, (acc ++ (ps.drop j).map (·.kind)).length, (acc ++ (ps.drop j).map (·.kind)).map iE)
 | 0, q + 1, j, acc, h, _, _ => by
  obtain rfl : j = ps.length := by omega
  rw [Ls_tLookup_1]
  simp only [S_tLookup_1, ltII, iL_f, List.drop_length, List.map_nil, List.append_nil]
 | e + 1, q + 1, j, acc, h, hq, ha => by
  have hj : j < ps.length := by omega
  rw [Ls_tLookup_1, List.drop_eq_getElem_cons hj]
  have hm : acc.map iE ++ [Da.int .i64 ps[j].kind] = (acc ++ [ps[j].kind]).map iE := by rw [List.map_append]; rfl
  have hb : bigL (acc.length + [Da.int .i64 ps[j].kind].length) 8 = true := bigL_t (by simp; omega)
  simp only [S_tLookup_1, ltT (show ((j : Int) < (ps.length : Int)) by omega), iL_t, at_mapT, cL_map, atT_lt hj, cL_s, dPa, show ps[j].r.Kind = ps[j].kind from rfl, hm, wS (show j < big by unfold big; omega), List.length_map, show Nat.beq acc.length acc.length = true from Nat.beq_refl _, hb]
  refine (sig_loop b u ps k0 hl e q (j + 1) (acc ++ [ps[j].kind]) (by omega) (by omega) (by simp; omega)).trans ?_
  simp only [List.append_assoc, List.singleton_append, List.map_cons]
def sigD (o : Option Me) : D := .tup [.p (.agg [.slice 1 (((o.map fun m => m.params.map (·.kind)).getD []).map iE), .int .i64 ((o.map (·.result)).getD 0)]), .p (.bool o.isSome)]
def sigOf (p : List Ac) (t m : List Nat) : Option Me := if (anT p).er = 0 then lookS p t m else none
theorem lookS_mem {p : List Ac} {t m : List Nat} {x : Me} (h : lookS p t m = some x) : ∃ a ∈ p, x ∈ a.methods := by
 unfold lookS at h
 cases hf : p.find? fun a => decide (a.name = t) with
 | none => rw [hf] at h; cases h
 | some a => rw [hf] at h; exact ⟨a, List.mem_of_find?_eq_some hf, List.mem_of_find?_eq_some h⟩
theorem E_tLookup {n : Nat} (p : List Ac) (hp : Szd p) (t m : List Nat) : evFn lay0.tab (n + 6004) 19 [pD p, .p (.str t), .p (.str m)] [] = some (sigD (sigOf p t m), []) := by
 apply T_tLookup (n + 6003) ⟨p.map Ac.e⟩ t m
 have h1 := evC_known (E_tCheck (n := n) p hp)
 have h2 := evC_known (E_tlookup (n := n + 5000) p t m hp.ty fun a ha => (hp.ac a ha).me)
 unfold F_tLookup sigOf
 rw [show ((D.p (api_Program.e ⟨p.map Ac.e⟩))) = pD p from rfl]
 simp only [h1, dTup_k, dCons_k, dP_k, dInt_k, dNil_k, dPlE, eqI_d, iL_ndec]
 by_cases he : (anT p).er = 0
 ·rw [if_pos he, if_pos he]
  show evC lay0.tab (n + 5000 + 1003) 54 [.p (.agg [.slice 3 (p.map Ac.e)]), .p (.str t), .p (.str m)] [] _ = _
  rw [h2]
  cases hl : lookS p t m with
  | none =>
   simp only [Option.getD_none, dTup_k, dCons_k, dP_k, dBool_k, dNil_k, dSame_k, Option.isSome_none]
   have := sig_loop (m := n + 6003) false (Me.r ⟨[], [], 0, []⟩) [] (fun (b39, l40, i41, i42, u43, n44, l45) => iL b39 (some (D.tup [.p (.agg [.slice 1 (List.take n44 (List.drop 0 l45)), .int .i64 u43.Result]), .p (.bool true)], [])) (some (D.tup [.p (.agg [.slice 1 (List.take n44 (List.drop 0 l45)), .int .i64 u43.Result]), .p (.bool false)], []))) (by decide) 0 (n + 6003) 0 [] (by simp) (by omega) (by simp)
   exact this
  | some x =>
   obtain ⟨a, ha, hx⟩ := lookS_mem hl
   have hps := ((hp.ac a ha).mm x hx).ps
   simp only [Option.getD_some, dTup_k, dCons_k, dP_k, dBool_k, dNil_k, dSame_k, Option.isSome_some]
   have := sig_loop (m := n + 6003) true x.r x.params (fun (b39, l40, i41, i42, u43, n44, l45) => iL b39 (some (D.tup [.p (.agg [.slice 1 (List.take n44 (List.drop 0 l45)), .int .i64 u43.Result]), .p (.bool true)], [])) (some (D.tup [.p (.agg [.slice 1 (List.take n44 (List.drop 0 l45)), .int .i64 u43.Result]), .p (.bool false)], []))) hps x.params.length (n + 6003) 0 [] (by omega) (by omega) (by simp)
   rw [List.drop_zero, List.nil_append] at this
   rw [dMe, iL_t]
   show L_tLookup_1 _ _ _ _ (true, x.params.map Pa.e, ((x.params.map Pa.e).length : Int), 0, x.r, 0, []) = _
   rw [List.length_map]
   refine Eq.trans this ?_
   simp only [iL_t, List.drop_zero, sigD, Option.map_some, Option.getD_some, Option.isSome_some]
   rw [List.take_of_length_le (by simp)]
   rfl
 ·rw [if_neg he, if_neg he]; rfl
theorem E_lints {n : Nat} (xs ys : List Int) (h : xs.length < 1000) : evFn lay0.tab (n + 1002) 20 [.p (.slice 1 (xs.map iE)), .p (.slice 1 (ys.map iE))] [] = some (.p (.bool (decide (xs = ys))), []) := by
 apply T_lints (n + 1001) (xs.map iE) (ys.map iE)
 simp only [F_lints, List.length_map, eqI_d, iL_ndec]
 by_cases hl : xs.length = ys.length
 ·rw [if_pos (by omega)]
  refine (loop_list (xs.zip ys) (fun q i => L_lints_1 _ (n + 1001) _ _ q (xs.map iE, ys.map iE, i)) (fun t => !eqI t.1 t.2) (fun i => some (.p (.bool false), [])) (some (.p (.bool true), [])) (fun q i hi => ?_) (fun q => ?_) (by simp [List.length_zip]; omega)).trans ?_
  ·simp only [List.length_zip] at hi
   rw [Ls_lints_1]
   simp only [S_lints_1, List.length_map, ltT (show ((i : Int) < (xs.length : Int)) by omega), iL_t, at_mapT, cL_map, atT_lt (show i < xs.length by omega), atT_lt (show i < ys.length by omega), cL_s, dI, wS (show i < big by unfold big; omega), List.getElem_zip]
   exact iL_if _ _ _
  ·rw [Ls_lints_1]
   simp only [S_lints_1, List.length_map, List.length_zip, hl, Nat.min_self, ltII, iL_f]
  ·have key := zip_find eqI hl eqI_d
   cases hf : (xs.zip ys).findIdx? (fun t => !eqI t.1 t.2) with
   | none => simp [key.1 hf]
   | some j =>
    have : ¬ xs = ys := fun e => by rw [key.2 e] at hf; cases hf
    simp [this]
 ·rw [if_neg (by omega)]
  have : ¬ xs = ys := fun e => hl (by rw [e])
  simp [this]
end
end Go.Ab
end
/- The law TypesApart on typed data. -/
section
namespace Go.Ab
open Go
set_option maxRecDepth 100000
noncomputable section
theorem lookS_app {p : List Ac} {t : Ac} {s m : List Nat} (h : s ≠ t.name) : lookS (p ++ [t]) s m = lookS p s m := by
 unfold lookS
 rw [List.find?_append]
 cases p.find? fun a => decide (a.name = s) with
 | some a => rfl
 | none => simp [Ne.symm h]
theorem lookS_ext {p : List Ac} {t : Ac} (s m : List Nat) (x : Me) (h : lookS p s m = some x) : lookS (p ++ [t]) s m = some x := by
 unfold lookS at h ⊢
 rw [List.find?_append]
 cases hf : p.find? fun a => decide (a.name = s) with
 | some a => rw [hf] at h; exact h
 | none => rw [hf] at h; cases h
theorem met_at {f : Nat} {p : List Ac} {fs : List (List Nat × Vr)} {i : Nat} {all : List Me} {t m n e : Int} : ∀ (r : List Me) (j : Nat) (acc : List CS), metT f p fs i all r j acc = some (.inl (.bad t m n e)) → t = i
 | [], j, acc, h => by simp [metT] at h
 | y :: r, j, acc, h => by
  simp only [metT] at h
  split at h
  ·simp only [Option.some.injEq, Sum.inl.injEq, An.bad.injEq] at h; exact h.1.symm
  ·split at h
   ·cases h
   ·simp only [Option.some.injEq, Sum.inl.injEq, An.bad.injEq] at h; exact h.1.symm
   ·split at h
    ·exact met_at r _ _ h
    ·simp only [Option.some.injEq, Sum.inl.injEq, An.bad.injEq] at h; exact h.1.symm
theorem typ_at {f : Nat} {p : List Ac} {a : Ac} {j : Nat} {acc : List (List CS)} {t m n e : Int} (h : typT f p [a] j acc = some (.bad t m n e)) : t = j := by
 simp only [typT] at h
 split at h
 ·simp only [Option.some.injEq, An.bad.injEq] at h; exact h.1.symm
 ·split at h
  ·simp only [Option.some.injEq, An.bad.injEq] at h; exact h.1.symm
  ·split at h
   ·cases h
   ·rename_i hm
    simp only [Option.some.injEq] at h
    subst h
    exact met_at _ _ _ hm
   ·cases h
theorem met_ne {f : Nat} {p : List Ac} {fs : List (List Nat × Vr)} {i : Nat} {all : List Me} {t m n e : Int} : ∀ (r : List Me) (j : Nat) (acc : List CS), metT f p fs i all r j acc = some (.inl (.bad t m n e)) → e ≠ 0
 | [], j, acc, h => by simp [metT] at h
 | y :: r, j, acc, h => by
  simp only [metT] at h
  split at h
  ·simp only [Option.some.injEq, Sum.inl.injEq, An.bad.injEq] at h; omega
  ·split at h
   ·cases h
   ·simp only [Option.some.injEq, Sum.inl.injEq, An.bad.injEq] at h; omega
   ·split at h
    ·exact met_ne r _ _ h
    ·rename_i hne
     simp only [Option.some.injEq, Sum.inl.injEq, An.bad.injEq] at h
     rw [← h.2.2.2]; exact hne
theorem typ_ne {f : Nat} {p : List Ac} {t m n e : Int} : ∀ (r : List Ac) (j : Nat) (acc : List (List CS)), typT f p r j acc = some (.bad t m n e) → e ≠ 0
 | [], j, acc, h => by simp [typT] at h
 | a :: r, j, acc, h => by
  simp only [typT] at h
  split at h
  ·simp only [Option.some.injEq, An.bad.injEq] at h; omega
  ·split at h
   ·simp only [Option.some.injEq, An.bad.injEq] at h; omega
   ·split at h
    ·cases h
    ·rename_i hm
     simp only [Option.some.injEq] at h
     subst h
     exact met_ne _ _ _ hm
    ·exact typ_ne r _ _ h
theorem er_good {p : List Ac} (hp : Szd p) (h : (anT p).er = 0) : ∃ bs, anT p = .good bs := by
 cases ha : anT p with
 | good bs => exact ⟨bs, rfl⟩
 | bad t m n e =>
  rw [ha] at h
  have he : e = 0 := h
  unfold anT at ha
  cases hv : validT p with
  | false => rw [hv] at ha; simp only [cond_false, An.bad.injEq] at ha; omega
  | true =>
   rw [hv] at ha
   obtain ⟨o, ho⟩ := valid_def hp hv
   rw [ho] at ha
   simp only [cond_true, Option.getD_some] at ha
   subst ha
   exact absurd he (typ_ne _ _ _ ho)
theorem an_more {p : List Ac} {t : Ac} (hp : Szd p) (h : (anT p).er = 0) : (anT (p ++ [t])).er = 0 ∨ (anT (p ++ [t])).er = 1 ∨ (anT (p ++ [t])).pl.Type_ = (p.length : Int) := by
 obtain ⟨bs, hg⟩ := er_good hp h
 obtain ⟨hv, ht⟩ := an_good hg
 cases hq : validT (p ++ [t]) with
 | false =>
  right; left
  unfold anT; rw [hq]; rfl
 | true =>
  have := typ_ext (f := 1000) (p := p) (t := t) lookS_ext p.length 0 [] bs (by omega) (by rw [List.drop_zero]; exact ht)
  rw [List.drop_zero, List.map_nil] at this
  unfold anT
  rw [hq, this]
  cases ho : typT 1000 (p ++ [t]) [t] p.length (bs.map fun l => l.map (ext (p ++ [t]))) with
  | none => right; left; rfl
  | some o =>
   cases o with
   | good b => left; rfl
   | bad i m n e => right; right; exact typ_at ho
theorem dSig (l : LD) (i : Int) (K : api_Signature → R) : d_api_Signature (.agg [.slice 1 l, .int .i64 i]) K = K ⟨l, i⟩ := rfl
theorem E_lawApart {n : Nat} (p : List Ac) (t : Ac) (s m : List Nat) (hl : (p ++ [t]).length < n + 6001) (hb : ∀ a ∈ p ++ [t], LBA (n + 6001) a) (hbig : p.length < 1000000000) : evFn lay0.tab (n + 6005) 5 [pD p, .p t.e, .p (.str s), .p (.str m)] [] = some (.p (.bool true), []) := by
 apply T_lawApart (n + 6004) ⟨p.map Ac.e⟩ t.r s m
 have h1 := evC_known (E_awake (n := n + 6003))
 have h2 := evC_known (E_Small (n := n + 6002) (p ++ [t]) (by omega) fun a ha => (hb a ha).le (by omega))
 unfold F_lawApart
 simp only [h1, dP_k, dBool_k, dNil_k, Bool.not_true, iL_f]
 have hq : (.p (.agg [(.slice 3 (List.take (List.length (p.map Ac.e ++ [Da.agg [Da.str t.r.Name, Da.slice 7 t.r.Fields, Da.slice 4 t.r.Methods]])) (List.drop 0 (p.map Ac.e ++ [Da.agg [Da.str t.r.Name, Da.slice 7 t.r.Fields, Da.slice 4 t.r.Methods]]))))]) : D) = pD (p ++ [t]) := by
  rw [List.drop_zero, List.take_length]
  show (.p (.agg [.slice 3 (p.map Ac.e ++ [t.e])]) : D) = _
  unfold pD
  rw [List.map_append]; rfl
 have b1 : bigL p.length 64 = true := by unfold bigL; rw [Bool.and_eq_true, Nat.ble_eq, Nat.ble_eq]; omega
 have b2 : bigL (p.length + 1) 64 = true := by unfold bigL; rw [Bool.and_eq_true, Nat.ble_eq, Nat.ble_eq]; omega
 rw [show ((D.p (api_Program.e ⟨p.map Ac.e⟩))) = pD p from rfl]
 simp only [hq, List.length_map, b1, iL_t, Nat.beq_refl, List.length_cons, List.length_nil, Nat.zero_add, b2, h2, dP_k, dBool_k, dNil_k]
 cases hs : smallT (p ++ [t]) with
 | false => rfl
 | true =>
  have hzq := small_sz hs hb
  have hzp : Szd p := ⟨by have := hzq.ty; simp at this; omega, fun a ha => hzq.ac a (List.mem_append_left _ ha)⟩
  simp only [Bool.not_true, iL_f]
  cases ltI 100 (s.length : Int)
  ·cases ltI 100 (m.length : Int)
   ·simp only [iL_f, show t.r.Name = t.name from rfl, eqS_d, iL_dec]
    by_cases hst : s = t.name
    ·rw [if_pos hst]
    ·rw [if_neg hst]
     have h3 := evC_known (E_tCheck (n := n + 1) p hzp)
     have h4 := evC_known (E_tCheck (n := n + 1) (p ++ [t]) hzq)
     have h5 := evC_known (E_tLookup (n := n) p hzp s m)
     have h6 := evC_known (E_tLookup (n := n) (p ++ [t]) hzq s m)
     simp only [h3, h4, dTup_k, dCons_k, dP_k, dInt_k, dNil_k, dPlE, eqI_d, iL_ndec]
     by_cases he : (anT p).er = 0
     ·rw [if_pos he]
      by_cases hf : (anT (p ++ [t])).er = 0
      ·rw [if_pos hf]
       have hsig : sigOf (p ++ [t]) s m = sigOf p s m := by
        unfold sigOf; rw [if_pos he, if_pos hf, lookS_app hst]
       rw [hsig] at h6
       simp only [h5, h6]
       cases ho : sigOf p s m with
       | none =>
        have h7 := evC_known (E_lints (n := n + 5002) [] [] (by decide))
        simp only [sigD, dTup_k, dCons_k, dP_k, dBool_k, dNil_k, Option.map_none, Option.getD_none, Option.isSome_none, List.map_nil] at h7 ⊢
        simp only [dSig, h7, dP_k, dBool_k, dNil_k, decide_true, iL_t, show (false == false) = true from rfl]
       | some x =>
        have hps : x.params.length < 1000 := by
         unfold sigOf at ho
         rw [if_pos he] at ho
         obtain ⟨a, ha, hx⟩ := lookS_mem ho
         exact ((hzp.ac a ha).mm x hx).ps
        have h7 := evC_known (E_lints (n := n + 5002) (x.params.map (·.kind)) (x.params.map (·.kind)) (by rw [List.length_map]; exact hps))
        simp only [sigD, dTup_k, dCons_k, dP_k, dBool_k, dNil_k, Option.map_some, Option.getD_some, Option.isSome_some]
        simp only [dSig, h7, dP_k, dBool_k, dNil_k, decide_true, iL_t, show (true == true) = true from rfl]
      ·rw [if_neg hf]
       rcases an_more (t := t) hzp he with h | h | h
       ·exact absurd h hf
       ·rw [h]; rfl
       ·rw [h, iL_dec]
        split
        ·rfl
        ·simp
     ·rw [if_neg he]
   ·rfl
  ·rfl
end
end Go.Ab
end
/- The run of the law TypesApart on every typed datum. -/
section
namespace Go.Ab
open Go
set_option maxRecDepth 100000
noncomputable section
theorem run_TypesApart : ∀ xs, Pw (datTy prog0 (cellsTy prog0 Bn 12)) [24, 44, 9, 9] xs → ∃ N, evFn lay0.tab N 5 (xs.map .p) [] = some (.p (.bool true), []) := by
 intro xs h
 obtain ⟨x1, r1, rfl, h1, h⟩ := h.cons_inv
 obtain ⟨x2, r2, rfl, h2, h⟩ := h.cons_inv
 obtain ⟨x3, r3, rfl, h3, h⟩ := h.cons_inv
 obtain ⟨x4, r4, rfl, h4, h⟩ := h.cons_inv
 obtain rfl := h.nil_inv
 obtain ⟨p, hp, hl, hb⟩ := d_prog (n := 2) h1
 obtain ⟨t, rfl, ht⟩ := d_ac (n := 4) h2
 obtain ⟨s, rfl⟩ := d_str (n := 11) h3
 obtain ⟨m, rfl⟩ := d_str (n := 11) h4
 refine ⟨1048577 + 6005, ?_⟩
 show evFn _ _ _ [.p x1, .p t.e, .p (.str s), .p (.str m)] [] = _
 rw [hp]
 refine E_lawApart (n := 1048577) p t s m (by simp; omega) (fun a ha => ?_) (by omega)
 rcases List.mem_append.1 ha with ha | ha
 ·exact (hb a ha).le (by omega)
 ·simp only [List.mem_singleton] at ha
  subst ha
  exact ht.le (by omega)
end
end Go.Ab
end
