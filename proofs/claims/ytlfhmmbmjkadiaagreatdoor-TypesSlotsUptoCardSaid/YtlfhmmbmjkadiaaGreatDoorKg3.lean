/- The evaluator and its laws, part Kg3: Le Li Lf Xs -/
import Derived.Test.YtlfhmmbmjkadiaaGreatDoorKg2
import Derived.Test.YtlfhmmbmjkadiaaGreatDoorOg3
import Derived.Test.YtlfhmmbmjkadiaaGreatDoorAm5
import Derived.KernelRfl
set_option linter.all false
/- Small programs. -/
section
namespace Go.Ab
open Go
set_option maxRecDepth 100000
noncomputable section
def smallV (v : Va) : Bool := (v.L.all fun t => !ltI 100 (lenI t)) && (leI (lenI v.s) 100 && (leI (lenI v.I) 40 && leI (lenI v.L) 40))
theorem wB {i : Nat} (h : i < 1000000000000000) : wrapF .i64 ((i : Int) + 1) = ((i + 1 : Nat) : Int) := by
 rw [wrapI (by omega) (by omega)]; omega
theorem E_small {n : Nat} (v : Va) (h : v.L.length < n) (hb : v.L.length < 1000000000000000) : evFn lay0.tab (n + 1) 52 [.p (.agg v.c)] [] = some (.p (.bool (smallV v)), []) := by
 apply T_small n v.r
 unfold F_small smallV
 refine (loop_list v.L (fun q i => L_small_1 _ n _ _ q (i, v.r)) (fun t => ltI 100 (lenI t)) (fun i => some (.p (.bool false), [])) (some (.p (.bool (leI (lenI v.s) 100 && (leI (lenI v.I) 40 && leI (lenI v.L) 40))), [])) (fun q i hi => ?_) (fun q => ?_) h).trans ?_
 ·rw [Ls_small_1]
  show iL (ltI (i : Int) ((v.L.map Da.str).length : Int)) (cL (at? (v.L.map Da.str) (i : Int)) _) _ = _
  simp only [List.length_map, ltT (show ((i : Int) < (v.L.length : Int)) by omega), iL_t, at_mapT, cL_map, atT_lt hi, cL_s, dStr_m, wB (show i < 1000000000000000 by omega)]
  exact iL_if _ _ _
 ·rw [Ls_small_1]
  show iL (ltI (v.L.length : Int) ((v.L.map Da.str).length : Int)) _ (iL (leI (v.s.length : Int) 100) (iL (leI ((v.I.map iE).length : Int) 40) (iL (leI ((v.L.map Da.str).length : Int) 40) _ _) _) _) = _
  simp only [List.length_map, ltII, iL_f, iL_ans, c_tf, c_xf, lenI, Bool.and_true]
 ·rw [all_find]
  cases v.L.findIdx? fun t => ltI 100 (lenI t) <;> rfl
def smF (f : Fe) : Bool := !ltI 100 (lenI f.name) && smallV f.init
def smN (x : No) : Bool := !ltI 100 (lenI x.name) && (!ltI 60 (lenI x.kids) && smallV x.v)
def smM : List Me → Int → Option Int
 | [], t => some t
 | m :: r, t => bif ltI 400 (wrapF .i64 (t + lenI m.nodes)) then none else bif ltI 20 (lenI m.params) then none else bif ltI 100 (lenI m.name) then none else bif m.nodes.all smN then smM r (wrapF .i64 (t + lenI m.nodes)) else none
def smA (a : Ac) : Bool := !ltI 20 (lenI a.fields) && (!ltI 20 (lenI a.methods) && (!ltI 100 (lenI a.name) && a.fields.all smF))
def smP : List Ac → Int → Option Int
 | [], t => some t
 | a :: r, t => bif smA a then (match smM a.methods t with | none => none | some t => smP r t) else none
def smallT (p : List Ac) : Bool := !ltI 20 (lenI p) && (smP p 0).isSome
structure LBV (n : Nat) (v : Va) : Prop where
 l : v.L.length < n
 b : v.L.length < 1000000000000000
structure LBA (n : Nat) (a : Ac) : Prop where
 fl : a.fields.length < n
 me : a.methods.length < n
 ff : ∀ f ∈ a.fields, LBV n f.init
 mm : ∀ m ∈ a.methods, m.nodes.length < n ∧ m.nodes.length < 1000000000000000 ∧ ∀ x ∈ m.nodes, LBV n x.v
theorem LBA.le {n n' : Nat} {a : Ac} (h : LBA n a) (hn : n ≤ n') : LBA n' a := ⟨by have := h.fl; omega, by have := h.me; omega, fun f hf => ⟨by have := (h.ff f hf).l; omega, (h.ff f hf).b⟩, fun m hm => ⟨by have := (h.mm m hm).1; omega, (h.mm m hm).2.1, fun x hx => ⟨by have := ((h.mm m hm).2.2 x hx).l; omega, ((h.mm m hm).2.2 x hx).b⟩⟩⟩
theorem sm_f {n : Nat} (a : Ac) (h : LBA n a) (hl : a.fields.length < 1000) (P : api_Program) (i j : Int) (k0 : api_Program × api_ActorType → R) (k1 : H_Small_2 → R) : L_Small_2 (evC lay0.tab (n + 1)) (n + 1) k0 k1 (n + 1) (i, j, 0, P, a.r) = bif a.fields.all smF then k1 (i, j, (a.fields.length : Int), P, a.r) else k0 (P, a.r) := by
 refine (loop_list a.fields (fun q e => L_Small_2 _ (n + 1) _ _ q (i, j, e, P, a.r)) (fun f => !smF f) (fun _ => k0 (P, a.r)) (k1 (i, j, (a.fields.length : Int), P, a.r)) (fun q e he => ?_) (fun q => ?_) (by have := h.fl; omega)).trans ?_
 ·rw [Ls_Small_2]
  have hv := h.ff a.fields[e] (List.getElem_mem _)
  have e1 := evC_known (E_small (n := n) a.fields[e].init hv.l hv.b)
  simp only [Va.c] at e1
  show iL (ltI (e : Int) ((a.fields.map Fe.e).length : Int)) (cL (at? (a.fields.map Fe.e) (e : Int)) fun x11 => d_api_Field x11 fun u12 => iL (ltI 100 ↑(List.length u12.Name)) _ (cL (at? (a.fields.map Fe.e) (e : Int)) fun x13 => _)) _ = _
  simp only [List.length_map, ltT (show ((e : Int) < (a.fields.length : Int)) by omega), iL_t, at_mapT, cL_map, atT_lt he, cL_s, dFe, wS (show e < big by unfold big; omega), show ∀ f : Fe, f.r.Name = f.name from fun _ => rfl, show ∀ f : Fe, f.r.Init_Kind = f.init.k from fun _ => rfl, show ∀ f : Fe, f.r.Init_N = f.init.n from fun _ => rfl, show ∀ f : Fe, f.r.Init_S = f.init.s from fun _ => rfl, show ∀ f : Fe, f.r.Init_I = f.init.I.map iE from fun _ => rfl, show ∀ f : Fe, f.r.Init_L = f.init.L.map .str from fun _ => rfl, e1, dP_k, dBool_k, dNil_k, smF, lenI]
  refine Eq.trans ?_ (iL_if _ _ _)
  cases ltI 100 (a.fields[e].name.length : Int) <;> cases smallV a.fields[e].init <;> rfl
 ·rw [Ls_Small_2]
  show iL (ltI (a.fields.length : Int) ((a.fields.map Fe.e).length : Int)) _ _ = _
  simp only [List.length_map, ltII, iL_f]
 ·rw [all_fnd]
  cases a.fields.findIdx? fun f => !smF f <;> rfl
theorem sm_n {n : Nat} (m : Me) (hx : ∀ x ∈ m.nodes, LBV n x.v) (hn : m.nodes.length < n) (hl : m.nodes.length < 1000) (P : api_Program) (A : api_ActorType) (i j k : Int) (k0 : api_Program × api_ActorType × api_Method → R) (k1 : H_Small_4 → R) : L_Small_4 (evC lay0.tab (n + 1)) (n + 1) k0 k1 (n + 1) (i, j, k, 0, P, A, m.r) = bif m.nodes.all smN then k1 (i, j, k, (m.nodes.length : Int), P, A, m.r) else k0 (P, A, m.r) := by
 refine (loop_list m.nodes (fun q e => L_Small_4 _ (n + 1) _ _ q (i, j, k, e, P, A, m.r)) (fun x => !smN x) (fun _ => k0 (P, A, m.r)) (k1 (i, j, k, (m.nodes.length : Int), P, A, m.r)) (fun q e he => ?_) (fun q => ?_) (by omega)).trans ?_
 ·rw [Ls_Small_4]
  have hv := hx m.nodes[e] (List.getElem_mem _)
  have e1 := evC_known (E_small (n := n) m.nodes[e].v hv.l hv.b)
  simp only [Va.c] at e1
  simp only [S_Small_4, show m.r.Nodes = m.nodes.map No.e from rfl, List.length_map, ltT (show ((e : Int) < (m.nodes.length : Int)) by omega), iL_t, at_mapT, cL_map, atT_lt he, cL_s, dNo, wS (show e < big by unfold big; omega), nr2, nr3, nr4, nr5, nr6, nr7, nr8, List.length_map, e1, dP_k, dBool_k, dNil_k, smN, lenI]
  refine Eq.trans ?_ (iL_if _ _ _)
  cases ltI 100 (m.nodes[e].name.length : Int) <;> cases ltI 60 (m.nodes[e].kids.length : Int) <;> cases smallV m.nodes[e].v <;> rfl
 ·rw [Ls_Small_4]
  simp only [S_Small_4, show m.r.Nodes = m.nodes.map No.e from rfl, List.length_map, ltII, iL_f]
 ·rw [all_fnd]
  cases m.nodes.findIdx? fun x => !smN x <;> rfl
theorem sm_m {n : Nat} (a : Ac) (h : LBA n a) (hl : a.methods.length < 1000) (P : api_Program) (i : Int) (k0 : api_Program × api_ActorType × api_Method → R) (k1 : H_Small_3 → R) (Z : R) (hk0 : ∀ x, k0 x = Z) : ∀ (e q j : Nat) (t : Int), j + e = a.methods.length → e < q → 0 ≤ t → t ≤ 400 →
  L_Small_3 (evC lay0.tab (n + 1)) (n + 1) k0 k1 q (t, i, (j : Int), P, a.r) = match smM (a.methods.drop j) t with | none => Z | some t => k1 (t, i, (a.methods.length : Int), P, a.r)
 | 0, q + 1, j, t, he, _, _, _ => by
  obtain rfl : j = a.methods.length := by omega
  rw [Ls_Small_3]
  simp only [S_Small_3, show a.r.Methods = a.methods.map Me.e from rfl, List.length_map, ltII, iL_f, List.drop_length, smM]
 | e + 1, q + 1, j, t, he, hq, h0, h4 => by
  have hj : j < a.methods.length := by omega
  obtain ⟨g1, g2, g3⟩ := h.mm a.methods[j] (List.getElem_mem _)
  rw [Ls_Small_3, List.drop_eq_getElem_cons hj]
  simp only [S_Small_3, show a.r.Methods = a.methods.map Me.e from rfl, List.length_map, ltT (show ((j : Int) < (a.methods.length : Int)) by omega), iL_t, at_mapT, cL_map, atT_lt hj, cL_s, dMe, wS (show j < big by unfold big; omega), show ∀ m : Me, m.r.Nodes = m.nodes.map No.e from fun _ => rfl, show ∀ m : Me, m.r.Params = m.params.map Pa.e from fun _ => rfl, show ∀ m : Me, m.r.Name = m.name from fun _ => rfl, List.length_map, hk0, smM, lenI]
  have hw : wrapF .i64 (t + (a.methods[j].nodes.length : Int)) = t + (a.methods[j].nodes.length : Int) := wrapI (by omega) (by omega)
  rw [hw]
  by_cases hg : 400 < t + (a.methods[j].nodes.length : Int)
  ·rw [ltT hg]; rfl
  ·rw [ltF hg]
   cases ltI 20 (a.methods[j].params.length : Int)
   ·cases ltI 100 (a.methods[j].name.length : Int)
    ·simp only [iL_f, cond_false]
     have hs := fun kk => sm_n (n := n) a.methods[j] g3 g1 (by omega) P a.r (t + (a.methods[j].nodes.length : Int)) i (j : Int) (fun (u50, u51, u52) => Z) kk
     refine Eq.trans (hs _) ?_
     cases a.methods[j].nodes.all smN
     ·rfl
     ·simp only [cond_true, wS (show j < big by unfold big; omega)]
      exact sm_m a h hl P i k0 k1 Z hk0 e q (j + 1) (t + (a.methods[j].nodes.length : Int)) (by omega) (by omega) (by omega) (by omega)
    ·rfl
   ·rfl
theorem sm_range : ∀ (l : List Me) (t t' : Int), smM l t = some t' → (∀ m ∈ l, m.nodes.length < 1000000000000000) → 0 ≤ t → t ≤ 400 → 0 ≤ t' ∧ t' ≤ 400 ∧ ∀ m ∈ l, m.nodes.length ≤ 400 ∧ m.params.length ≤ 20 ∧ m.nodes.all smN = true
 | [], t, t', h, _, h0, h4 => by
  simp only [smM, Option.some.injEq] at h
  subst h
  exact ⟨h0, h4, fun m hm => by cases hm⟩
 | m :: r, t, t', h, hb, h0, h4 => by
  have hm := hb m (List.mem_cons_self ..)
  simp only [smM, lenI] at h
  have hw : wrapF .i64 (t + (m.nodes.length : Int)) = t + (m.nodes.length : Int) := wrapI (by omega) (by omega)
  rw [hw] at h
  by_cases hg : 400 < t + (m.nodes.length : Int)
  ·rw [ltT hg] at h; cases h
  ·rw [ltF hg] at h
   by_cases h20 : 20 < (m.params.length : Int)
   ·rw [ltT h20] at h; cases h
   ·rw [ltF h20] at h
    cases h100 : ltI 100 (m.name.length : Int) with
    | true => rw [h100] at h; cases h
    | false =>
     rw [h100] at h
     simp only [cond_false] at h
     cases ha : m.nodes.all smN with
     | false => rw [ha] at h; cases h
     | true =>
      rw [ha] at h
      obtain ⟨g1, g2, g3⟩ := sm_range r _ t' h (fun x hx => hb x (List.mem_cons_of_mem _ hx)) (by omega) (by omega)
      refine ⟨g1, g2, fun x hx => ?_⟩
      rcases List.mem_cons.1 hx with rfl | hx
      ·exact ⟨by omega, by omega, ha⟩
      ·exact g3 x hx
theorem sm_p {n : Nat} (p : List Ac) (h : ∀ a ∈ p, LBA n a) (hl : p.length < 1000) (k0 : api_Program × api_ActorType → R) (k1 : api_Program × api_ActorType × api_Method → R) (k2 : H_Small_1 → R) (Z W : R) (hk0 : ∀ x, k0 x = Z) (hk1 : ∀ x, k1 x = Z) (hk2 : ∀ x, k2 x = W) : ∀ (e q j : Nat) (t : Int), j + e = p.length → e < q → 0 ≤ t → t ≤ 400 →
  L_Small_1 (evC lay0.tab (n + 1)) (n + 1) k0 k1 k2 q (t, (j : Int), ⟨p.map Ac.e⟩) = match smP (p.drop j) t with | none => Z | some _ => W
 | 0, q + 1, j, t, he, _, _, _ => by
  obtain rfl : j = p.length := by omega
  rw [Ls_Small_1]
  simp only [S_Small_1, List.length_map, ltII, iL_f, List.drop_length, smP, hk2]
 | e + 1, q + 1, j, t, he, hq, h0, h4 => by
  have hj : j < p.length := by omega
  have ha := h p[j] (List.getElem_mem _)
  rw [Ls_Small_1, List.drop_eq_getElem_cons hj]
  simp only [S_Small_1, List.length_map, ltT (show ((j : Int) < (p.length : Int)) by omega), iL_t, at_mapT, cL_map, atT_lt hj, cL_s, dAc, show p[j].r.Fields = p[j].fields.map Fe.e from rfl, show p[j].r.Methods = p[j].methods.map Me.e from rfl, show p[j].r.Name = p[j].name from rfl, hk0, hk1, smP, smA, lenI]
  by_cases hf : 20 < (p[j].fields.length : Int)
  ·rw [ltT hf]; rfl
  ·rw [ltF hf]
   by_cases hm : 20 < (p[j].methods.length : Int)
   ·rw [ltT hm]; rfl
   ·rw [ltF hm]
    cases ltI 100 (p[j].name.length : Int)
    ·simp only [iL_f, Bool.not_false, Bool.true_and]
     have hs := fun kk => sm_f (n := n) p[j] ha (by omega) ⟨p.map Ac.e⟩ t (j : Int) (fun (u19, u20) => Z) kk
     refine Eq.trans (hs _) ?_
     cases p[j].fields.all smF
     ·rfl
     ·have hs2 := fun kk => sm_m (n := n) p[j] ha (by omega) ⟨p.map Ac.e⟩ (j : Int) (fun (u60, u61, u62) => Z) kk Z (fun _ => rfl) p[j].methods.length (n + 1) 0 t (by omega) (by have := ha.me; omega) h0 h4
      simp only [show ((0 : Nat) : Int) = 0 from rfl, List.drop_zero] at hs2
      simp only [cond_true]
      refine Eq.trans (hs2 _) ?_
      cases hsm : smM p[j].methods t with
      | none => rfl
      | some t' =>
       obtain ⟨g1, g2, _⟩ := sm_range _ _ _ hsm (fun m hm => (ha.mm m hm).2.1) h0 h4
       simp only [wS (show j < big by unfold big; omega)]
       exact sm_p p h hl k0 k1 k2 Z W hk0 hk1 hk2 e q (j + 1) t' (by omega) (by omega) g1 g2
    ·rfl
theorem E_Small {n : Nat} (p : List Ac) (hp : p.length < n) (h : ∀ a ∈ p, LBA n a) : evFn lay0.tab (n + 2) 17 [pD p] [] = some (.p (.bool (smallT p)), []) := by
 apply T_Small (n + 1) ⟨p.map Ac.e⟩
 unfold F_Small smallT
 simp only [List.length_map, lenI]
 by_cases hl : 20 < (p.length : Int)
 ·rw [ltT hl]; rfl
 ·rw [ltF hl]
  refine (sm_p (n := n) p h (by omega) _ _ _ (some (.p (.bool false), [])) (some (.p (.bool true), [])) (fun _ => rfl) (fun _ => rfl) (fun _ => rfl) p.length (n + 1) 0 0 (by omega) (by omega) (by omega) (by omega)).trans ?_
  rw [List.drop_zero]
  cases smP p 0 <;> rfl
theorem smV_ok {v : Va} (h : smallV v = true) : v.I.length < 1000 ∧ v.L.length < 1000 := by
 unfold smallV lenI at h
 simp only [Bool.and_eq_true, leI_d, decide_eq_true_eq] at h
 omega
theorem smP_ok : ∀ (l : List Ac) (t t' : Int), smP l t = some t' → (∀ a ∈ l, ∀ m ∈ a.methods, m.nodes.length < 1000000000000000) → 0 ≤ t → t ≤ 400 → ∀ a ∈ l, SzA a
 | [], _, _, _, _, _, _, a, ha => by cases ha
 | x :: r, t, t', h, hb, h0, h4, a, ha => by
  simp only [smP] at h
  cases hx : smA x with
  | false => rw [hx] at h; cases h
  | true =>
   rw [hx] at h
   simp only [cond_true] at h
   cases hs : smM x.methods t with
   | none => rw [hs] at h; cases h
   | some t1 =>
    rw [hs] at h
    obtain ⟨g1, g2, g3⟩ := sm_range _ _ _ hs (hb x (List.mem_cons_self ..)) h0 h4
    rcases List.mem_cons.1 ha with rfl | ha
    ·unfold smA lenI at hx
     simp only [Bool.and_eq_true, Bool.not_eq_true', ltI_d, decide_eq_false_iff_not, List.all_eq_true] at hx
     obtain ⟨q1, q2, _, q4⟩ := hx
     refine ⟨by omega, by omega, fun f hf => ?_, fun m hm => ?_⟩
     ·have := q4 f hf
      unfold smF at this
      rw [Bool.and_eq_true] at this
      exact ⟨(smV_ok this.2).1, (smV_ok this.2).2⟩
     ·obtain ⟨w1, w2, w3⟩ := g3 m hm
      refine ⟨by omega, by omega, fun y hy => ?_⟩
      have := List.all_eq_true.1 w3 y hy
      unfold smN lenI at this
      simp only [Bool.and_eq_true, Bool.not_eq_true', ltI_d, decide_eq_false_iff_not] at this
      exact ⟨(smV_ok this.2.2).1, (smV_ok this.2.2).2, by omega⟩
    ·exact smP_ok r t1 t' h (fun b hb' => hb b (List.mem_cons_of_mem _ hb')) g1 g2 a ha
theorem small_sz {n : Nat} {p : List Ac} (h : smallT p = true) (hb : ∀ a ∈ p, LBA n a) : Szd p := by
 unfold smallT lenI at h
 simp only [Bool.and_eq_true, Bool.not_eq_true', ltI_d, decide_eq_false_iff_not] at h
 obtain ⟨t, ht⟩ := Option.isSome_iff_exists.1 h.2
 exact ⟨by omega, smP_ok p 0 t ht (fun a ha m hm => ((hb a ha).mm m hm).2.1) (by omega) (by omega)⟩
end
end Go.Ab
end
/- The arguments of the laws, as typed data. -/
section
namespace Go.Ab
open Go
set_option maxRecDepth 100000
def eqNs : List Nat → List Nat → Bool
 | [], [] => true
 | a :: r, b :: s => Nat.beq a b && eqNs r s
 | _, _ => false
theorem eqNs_eq : ∀ {a b : List Nat}, eqNs a b = true → a = b
 | [], [], _ => rfl
 | [], _ :: _, h => by cases h
 | _ :: _, [], h => by cases h
 | a :: r, b :: s, h => by
  simp only [eqNs, Bool.and_eq_true] at h
  rw [Nat.eq_of_beq_eq_true h.1, eqNs_eq h.2]
def isIntT (P : Program) (k : IntKind) (t : TypeId) : Bool := match P.underlying t with | some (.int k') => decide (k' = k) | _ => false
def isStrT (P : Program) (t : TypeId) : Bool := match P.underlying t with | some .string => true | _ => false
def isSlT (P : Program) (t e z : Nat) : Bool := match P.underlying t with | some (.slice e') => Nat.beq e' e && Nat.beq (P.cellsOf e) z | _ => false
def isStT (P : Program) (t : Nat) (ts : List Nat) : Bool := match P.underlying t with | some (.struct fs) => eqNs (fs.toList.map (·.type)) ts | _ => false
def fieldsT (C : TypeId → List Da → Prop) : List TypeId → List Da → Prop
 | [], xs => xs = []
 | t :: r, xs => ∃ ys zs, xs = ys ++ zs ∧ C t ys ∧ fieldsT C r zs
theorem fieldsTy_T {C : TypeId → List Da → Prop} : ∀ {fs : List Field} {xs : List Da}, fieldsTy C fs xs → fieldsT C (fs.map (·.type)) xs
 | [], _, h => h
 | f :: r, xs, ⟨ys, zs, h1, h2, h3⟩ => ⟨ys, zs, h1, h2, fieldsTy_T h3⟩
section
variable {P : Program} {B : TypeId → Nat} {n t : Nat} {xs : List Da} {x : Da}
theorem ty_int {k : IntKind} (h : isIntT P k t = true) (hc : cellsTy P B (n + 1) t xs) : ∃ i, xs = [.int k i] ∧ (Lit.int k i).wf = true := by
 unfold isIntT at h
 simp only [cellsTy] at hc
 split at h
 ·rename_i hu
  rw [hu] at hc
  have := of_decide_eq_true h
  subst this
  exact hc
 ·cases h
theorem ty_str (h : isStrT P t = true) (hc : cellsTy P B (n + 1) t xs) : ∃ s, xs = [.str s] := by
 unfold isStrT at h
 simp only [cellsTy] at hc
 split at h
 ·rename_i hu
  rw [hu] at hc
  obtain ⟨s, rfl, _⟩ := hc
  exact ⟨s, rfl⟩
 ·cases h
theorem ty_sl {e z : Nat} (h : isSlT P t e z = true) (hc : cellsTy P B (n + 1) t xs) : ∃ es, xs = [.slice z es] ∧ es.length ≤ B e ∧ ∀ x ∈ es, datTy P (cellsTy P B n) e x := by
 unfold isSlT at h
 simp only [cellsTy] at hc
 split at h
 ·rename_i hu
  rw [hu] at hc
  rw [Bool.and_eq_true] at h
  obtain ⟨es, rfl, _, h2, h3⟩ := hc
  have h4 := Nat.eq_of_beq_eq_true h.1
  subst h4
  rw [Nat.eq_of_beq_eq_true h.2]
  exact ⟨es, rfl, h2, h3⟩
 ·cases h
theorem ty_st {ts : List Nat} (h : isStT P t ts = true) (hc : cellsTy P B (n + 1) t xs) : fieldsT (cellsTy P B n) ts xs := by
 unfold isStT at h
 simp only [cellsTy] at hc
 split at h
 ·rename_i hu
  rw [hu] at hc
  rw [← eqNs_eq h]
  exact fieldsTy_T hc
 ·cases h
theorem dat_st {ts : List Nat} {C : TypeId → List Da → Prop} (h : isStT P t ts = true) (hc : datTy P C t x) : ∃ cs, x = .agg cs ∧ C t cs := by
 unfold isStT at h
 unfold datTy at hc
 split at h
 ·rename_i hu
  have : isAggT P t = true := by unfold isAggT; rw [hu]
  rw [this] at hc
  exact hc
 ·cases h
theorem dat_int {k : IntKind} {C : TypeId → List Da → Prop} (h : isIntT P k t = true) (hc : datTy P C t x) : C t [x] := by
 unfold isIntT at h
 unfold datTy at hc
 split at h
 ·rename_i hu
  have : isAggT P t = false := by unfold isAggT; rw [hu]
  rw [this] at hc
  exact hc
 ·cases h
theorem dat_str {C : TypeId → List Da → Prop} (h : isStrT P t = true) (hc : datTy P C t x) : C t [x] := by
 unfold isStrT at h
 unfold datTy at hc
 split at h
 ·rename_i hu
  have : isAggT P t = false := by unfold isAggT; rw [hu]
  rw [this] at hc
  exact hc
 ·cases h
end
theorem rows_map {α : Type} {f : α → Da} {Q : α → Prop} : ∀ {es : List Da}, (∀ x ∈ es, ∃ a, x = f a ∧ Q a) → ∃ l : List α, es = l.map f ∧ ∀ a ∈ l, Q a
 | [], _ => ⟨[], rfl, fun _ h => by cases h⟩
 | x :: es, h => by
  obtain ⟨a, rfl, ha⟩ := h x (List.mem_cons_self ..)
  obtain ⟨l, rfl, hl⟩ := rows_map (es := es) fun y hy => h y (List.mem_cons_of_mem _ hy)
  refine ⟨a :: l, rfl, fun b hb => ?_⟩
  rcases List.mem_cons.1 hb with rfl | hb
  ·exact ha
  ·exact hl b hb
noncomputable section
abbrev Bn : TypeId → Nat := fun _ => 1048576
abbrev CT (n t : Nat) (xs : List Da) : Prop := cellsTy prog0 Bn n t xs
abbrev DT (n t : Nat) (x : Da) : Prop := datTy prog0 (cellsTy prog0 Bn n) t x
theorem isI : isIntT prog0 .i64 3 = true := by kernel_rfl
theorem isS : isStrT prog0 9 = true := by kernel_rfl
theorem isIs : isSlT prog0 51 3 1 = true := by kernel_rfl
theorem isSs : isSlT prog0 31 9 1 = true := by kernel_rfl
theorem isVal : isStT prog0 67 [3, 3, 9, 51, 31] = true := by kernel_rfl
theorem isNode : isStT prog0 69 [3, 9, 67, 51] = true := by kernel_rfl
theorem isPar : isStT prog0 76 [9, 3] = true := by kernel_rfl
theorem isFie : isStT prog0 74 [9, 3, 67] = true := by kernel_rfl
theorem isNodes : isSlT prog0 70 69 8 = true := by kernel_rfl
theorem isPars : isSlT prog0 63 76 2 = true := by kernel_rfl
theorem isFies : isSlT prog0 32 74 7 = true := by kernel_rfl
theorem isMet : isStT prog0 72 [9, 63, 3, 70] = true := by kernel_rfl
theorem isMets : isSlT prog0 42 72 4 = true := by kernel_rfl
theorem isAc : isStT prog0 44 [9, 32, 42] = true := by kernel_rfl
theorem isAcs : isSlT prog0 22 44 3 = true := by kernel_rfl
theorem isPro : isStT prog0 24 [22] = true := by kernel_rfl
theorem isPla : isStT prog0 47 [3, 3, 3] = true := by kernel_rfl
theorem c_ints {n : Nat} {xs : List Da} (h : CT (n + 2) 51 xs) : ∃ l : List Int, xs = [.slice 1 (l.map iE)] ∧ l.length ≤ 1048576 := by
 obtain ⟨es, rfl, h1, h2⟩ := ty_sl isIs h
 obtain ⟨l, rfl, _⟩ := rows_map (f := iE) (Q := fun _ => True) (es := es) fun x hx => by
  obtain ⟨i, e, _⟩ := ty_int isI (dat_int isI (h2 x hx))
  simp only [List.cons.injEq, and_true] at e
  exact ⟨i, e, trivial⟩
 exact ⟨l, rfl, by simpa using h1⟩
theorem c_strs {n : Nat} {xs : List Da} (h : CT (n + 2) 31 xs) : ∃ l : List (List Nat), xs = [.slice 1 (l.map .str)] ∧ l.length ≤ 1048576 := by
 obtain ⟨es, rfl, h1, h2⟩ := ty_sl isSs h
 obtain ⟨l, rfl, _⟩ := rows_map (f := Da.str) (Q := fun _ => True) (es := es) fun x hx => by
  obtain ⟨i, e⟩ := ty_str isS (dat_str isS (h2 x hx))
  simp only [List.cons.injEq, and_true] at e
  exact ⟨i, e, trivial⟩
 exact ⟨l, rfl, by simpa using h1⟩
def Va.cs (v : Va) : List Da := [.int .i64 v.k, .int .i64 v.n, .str v.s, .slice 1 (v.I.map iE), .slice 1 (v.L.map .str)]
theorem c_val {n : Nat} {xs : List Da} (h : CT (n + 3) 67 xs) : ∃ v : Va, xs = v.cs ∧ LBV 1048577 v := by
 obtain ⟨_, _, rfl, h1, _, _, rfl, h2, _, _, rfl, h3, _, _, rfl, h4, _, _, rfl, h5, rfl⟩ := ty_st isVal h
 obtain ⟨k, rfl, _⟩ := ty_int isI h1
 obtain ⟨m, rfl, _⟩ := ty_int isI h2
 obtain ⟨s, rfl⟩ := ty_str isS h3
 obtain ⟨I, rfl, _⟩ := c_ints h4
 obtain ⟨L, rfl, hL⟩ := c_strs h5
 exact ⟨⟨k, m, s, I, L⟩, rfl, ⟨by show L.length < _; omega, by show L.length < _; omega⟩⟩
theorem d_node {n : Nat} {x : Da} (h : DT (n + 4) 69 x) : ∃ a : No, x = a.e ∧ LBV 1048577 a.v := by
 obtain ⟨cs, rfl, g⟩ := dat_st isNode h
 obtain ⟨_, _, rfl, h1, _, _, rfl, h2, _, _, rfl, h3, _, _, rfl, h4, rfl⟩ := ty_st isNode g
 obtain ⟨k, rfl, _⟩ := ty_int isI h1
 obtain ⟨s, rfl⟩ := ty_str isS h2
 obtain ⟨v, rfl, hv⟩ := c_val h3
 obtain ⟨I, rfl, _⟩ := c_ints h4
 exact ⟨⟨k, s, v, I⟩, rfl, hv⟩
theorem d_par {n : Nat} {x : Da} (h : DT (n + 2) 76 x) : ∃ a : Pa, x = a.e := by
 obtain ⟨cs, rfl, g⟩ := dat_st isPar h
 obtain ⟨_, _, rfl, h1, _, _, rfl, h2, rfl⟩ := ty_st isPar g
 obtain ⟨s, rfl⟩ := ty_str isS h1
 obtain ⟨k, rfl, _⟩ := ty_int isI h2
 exact ⟨⟨s, k⟩, rfl⟩
theorem d_fie {n : Nat} {x : Da} (h : DT (n + 4) 74 x) : ∃ a : Fe, x = a.e ∧ LBV 1048577 a.init := by
 obtain ⟨cs, rfl, g⟩ := dat_st isFie h
 obtain ⟨_, _, rfl, h1, _, _, rfl, h2, _, _, rfl, h3, rfl⟩ := ty_st isFie g
 obtain ⟨s, rfl⟩ := ty_str isS h1
 obtain ⟨k, rfl, _⟩ := ty_int isI h2
 obtain ⟨v, rfl, hv⟩ := c_val h3
 exact ⟨⟨s, k, v⟩, rfl, hv⟩
theorem d_met {n : Nat} {x : Da} (h : DT (n + 6) 72 x) : ∃ a : Me, x = a.e ∧ a.nodes.length ≤ 1048576 ∧ ∀ y ∈ a.nodes, LBV 1048577 y.v := by
 obtain ⟨cs, rfl, g⟩ := dat_st isMet h
 obtain ⟨_, _, rfl, h1, _, _, rfl, h2, _, _, rfl, h3, _, _, rfl, h4, rfl⟩ := ty_st isMet g
 obtain ⟨s, rfl⟩ := ty_str isS h1
 obtain ⟨ps, rfl, _, h2⟩ := ty_sl isPars h2
 obtain ⟨k, rfl, _⟩ := ty_int isI h3
 obtain ⟨ns, rfl, hl, h4⟩ := ty_sl isNodes h4
 obtain ⟨ps, rfl, _⟩ := rows_map (f := Pa.e) (Q := fun _ => True) (es := ps) fun x hx => by
  obtain ⟨a, ha⟩ := d_par (h2 x hx)
  exact ⟨a, ha, trivial⟩
 obtain ⟨ns, rfl, hv⟩ := rows_map (f := No.e) (Q := fun a => LBV 1048577 a.v) (es := ns) fun x hx => d_node (h4 x hx)
 exact ⟨⟨s, ps, k, ns⟩, rfl, by simpa using hl, hv⟩
theorem d_ac {n : Nat} {x : Da} (h : DT (n + 8) 44 x) : ∃ a : Ac, x = a.e ∧ LBA 1048577 a := by
 obtain ⟨cs, rfl, g⟩ := dat_st isAc h
 obtain ⟨_, _, rfl, h1, _, _, rfl, h2, _, _, rfl, h3, rfl⟩ := ty_st isAc g
 obtain ⟨s, rfl⟩ := ty_str isS h1
 obtain ⟨fs, rfl, hf, h2⟩ := ty_sl isFies h2
 obtain ⟨ms, rfl, hm, h3⟩ := ty_sl isMets h3
 obtain ⟨fs, rfl, hv⟩ := rows_map (f := Fe.e) (Q := fun a => LBV 1048577 a.init) (es := fs) fun x hx => d_fie (h2 x hx)
 obtain ⟨ms, rfl, hw⟩ := rows_map (f := Me.e) (Q := fun a => a.nodes.length ≤ 1048576 ∧ ∀ y ∈ a.nodes, LBV 1048577 y.v) (es := ms) fun x hx => d_met (h3 x hx)
 rw [List.length_map] at hf hm
 replace hf : fs.length ≤ 1048576 := hf
 replace hm : ms.length ≤ 1048576 := hm
 exact ⟨⟨s, fs, ms⟩, rfl, ⟨by show fs.length < _; omega, by show ms.length < _; omega, hv, fun m hmm => ⟨by have := (hw m hmm).1; omega, by have := (hw m hmm).1; omega, (hw m hmm).2⟩⟩⟩
theorem d_prog {n : Nat} {x : Da} (h : DT (n + 10) 24 x) : ∃ p : List Ac, .p x = pD p ∧ p.length < 1048577 ∧ ∀ a ∈ p, LBA 1048577 a := by
 obtain ⟨cs, rfl, g⟩ := dat_st isPro h
 obtain ⟨_, _, rfl, h1, rfl⟩ := ty_st isPro g
 obtain ⟨ts, rfl, hl, h1⟩ := ty_sl isAcs h1
 obtain ⟨p, rfl, hp⟩ := rows_map (f := Ac.e) (Q := fun a => LBA 1048577 a) (es := ts) fun x hx => d_ac (h1 x hx)
 rw [List.length_map] at hl
 replace hl : p.length ≤ 1048576 := hl
 exact ⟨p, rfl, by omega, hp⟩
theorem d_place {n : Nat} {x : Da} (h : DT (n + 2) 47 x) : ∃ a : api_Place, x = a.e := by
 obtain ⟨cs, rfl, g⟩ := dat_st isPla h
 obtain ⟨_, _, rfl, h1, _, _, rfl, h2, _, _, rfl, h3, rfl⟩ := ty_st isPla g
 obtain ⟨a, rfl, _⟩ := ty_int isI h1
 obtain ⟨b, rfl, _⟩ := ty_int isI h2
 obtain ⟨c, rfl, _⟩ := ty_int isI h3
 exact ⟨⟨a, b, c⟩, rfl⟩
end
end Go.Ab
end
/- The law TypesSlots on typed data. -/
section
namespace Go.Ab
open Go
set_option maxRecDepth 100000
noncomputable section
theorem E_awake {n : Nat} : evFn lay0.tab (n + 1) 16 [] [] = some (.p (.bool true), []) := by kernel_rfl
theorem met_some {p : List Ac} {t m : Int} {c : CS} (h : metOf p t m = some c) : ∃ bs, anT p = .good bs ∧ bodyAt bs t m = some c := by
 unfold metOf at h
 cases ha : anT p with
 | bad => rw [ha] at h; cases h
 | good bs => rw [ha] at h; exact ⟨bs, rfl, h⟩
theorem dPlE (u : api_Place) (K : api_Place → R) : d_api_Place u.e K = K u := rfl
theorem E_lawSlots {n : Nat} (p : List Ac) (x : api_Place) (hl : p.length < n + 6001) (hb : ∀ a ∈ p, LBA (n + 6001) a) : evFn lay0.tab (n + 6004) 7 [pD p, .p x.e] [] = some (.p (.bool true), []) := by
 apply T_lawSlots (n + 6003) ⟨p.map Ac.e⟩ x
 have h1 := evC_known (E_awake (n := n + 6002))
 have h2 := evC_known (E_Small (n := n + 6001) p hl hb)
 unfold F_lawSlots
 simp only [h1, dP_k, dBool_k, dNil_k, iL_t]
 rw [show ((D.p (api_Program.e ⟨p.map Ac.e⟩))) = pD p from rfl]
 simp only [h2, dP_k, dBool_k, dNil_k]
 cases hs : smallT p with
 | false => rfl
 | true =>
  have hz := small_sz hs hb
  have h3 := evC_known (E_tCheck (n := n) p hz)
  have h4 := evC_known (E_tSlot (n := n) p hz x)
  simp only [iL_t, h3, h4, dTup_k, dCons_k, dP_k, dInt_k, dBool_k, dNil_k, vaD]
  cases hv : vaAt (metOf p x.Type_ x.Method) x.Node with
  | none =>
   cases hq : (!eqI (anT p).er 0) <;> rfl
  | some v =>
   have hc : ∃ c, metOf p x.Type_ x.Method = some c ∧ getI c.va x.Node = some v := by
    cases hm : metOf p x.Type_ x.Method with
    | none => rw [hm] at hv; cases hv
    | some c => rw [hm] at hv; exact ⟨c, rfl, hv⟩
   obtain ⟨c, hc, hva⟩ := hc
   obtain ⟨bs, hg, hbo⟩ := met_some hc
   obtain ⟨hval, hty⟩ := an_good hg
   obtain ⟨a, me, y, e1, e2, e3, hvar, hk1, hk2⟩ := slots_ok (fun a ha m hm => ((valid_ok hval).2 a ha m hm).1) hty hbo hva
   have her : (anT p).er = 0 := by rw [hg]; rfl
   have h5 := evC_known (E_tLocals (n := n) p hz x.Type_ x.Method)
   have h6 : ∀ k : Int, evFn lay0.tab (n + 6003) 21 [pD p, .p (.agg [.int .i64 x.Type_, .int .i64 x.Method, .int .i64 k])] [] = some (kiD (getI c.ki k), []) := by
    intro k
    have := E_tKind (n := n) p hz ⟨x.Type_, x.Method, k⟩
    rw [hc] at this
    exact this
   have h7 := fun k => evC_known (h6 k)
   rw [hc] at h5
   simp only [Option.map_some, Option.getD_some, Option.isSome_some, her, eqI_d, decide_true, Bool.not_true, iL_f, iL_t]
   rw [dPlE]
   have h8 : ∀ K : KV, evC lay0.tab (n + 6003) 21 [pD p, D.p x.e] [] K = K (kiD (getI c.ki x.Node)) [] := h7 x.Node
   have hm : a.r.Methods = a.methods.map Me.e := rfl
   have hf : a.r.Fields = a.fields.map Fe.e := rfl
   have hn : me.r.Nodes = me.nodes.map No.e := rfl
   rcases hvar with ⟨v1, f, v2, v3, v4⟩ | ⟨v1, pa, v2, v3, v4⟩
   ·obtain ⟨j, hj, hj2⟩ := atT_get v2
    have hjl : j < a.fields.length := by
     rcases Nat.lt_or_ge j a.fields.length with h | h
     ·exact h
     ·rw [List.getElem?_eq_none h] at hj2; cases hj2
    simp only [v1, iL_t, at_mapT, cL_map, e1, cL_s, dAc, hm, hf, e2, dMe, hn, e3, dNo, nr1, nr2, nr8, h5, dP_k, dSl_k, dNil_k, ltF (show ¬ v.slot < 0 by omega), iL_f, List.length_map, leI_d, show ¬ ((a.fields.length : Int) ≤ v.slot) by omega, decide_false, v2, dFe, show f.r.Name = y.name from v3, eqS_d, decide_true, Bool.not_true, show f.r.Kind = v.kind from v4]
    by_cases ho : y.op = 2
    ·simp only [ho, decide_true, Bool.not_true, iL_f, h8, hk1 ho, kiD, Option.getD_some, Option.isSome_some, dTup_k, dCons_k, dP_k, dInt_k, dBool_k, dNil_k, iL_t]
    ·obtain ⟨k, r, e4, e5⟩ := hk2 ho
     simp only [ho, decide_false, Bool.not_false, iL_t, e4, atT_zero, cL_s, dI, h7, e5, kiD, Option.getD_some, Option.isSome_some, dTup_k, dCons_k, dP_k, dInt_k, dBool_k, dNil_k, iL_t, decide_true]
   ·obtain ⟨j, hj, hj2⟩ := atT_get v2
    have hjl : j < c.lo.length := by
     rcases Nat.lt_or_ge j c.lo.length with h | h
     ·exact h
     ·rw [List.getElem?_eq_none h] at hj2; cases hj2
    simp only [v1, iL_t, iL_f, at_mapT, cL_map, e1, cL_s, dAc, hm, hf, e2, dMe, hn, e3, dNo, nr1, nr2, nr8, h5, loAt, dP_k, dSl_k, dNil_k, ltF (show ¬ v.slot < 0 by omega), List.length_map, leI_d, show ¬ ((c.lo.length : Int) ≤ v.slot) by omega, decide_false, v2, dPa, show pa.r.Name = y.name from v3, eqS_d, decide_true, Bool.not_true, show pa.r.Kind = v.kind from v4]
    by_cases ho : y.op = 2
    ·simp only [ho, decide_true, Bool.not_true, iL_f, h8, hk1 ho, kiD, Option.getD_some, Option.isSome_some, dTup_k, dCons_k, dP_k, dInt_k, dBool_k, dNil_k, iL_t]
    ·obtain ⟨k, r, e4, e5⟩ := hk2 ho
     simp only [ho, decide_false, Bool.not_false, iL_t, e4, atT_zero, cL_s, dI, h7, e5, kiD, Option.getD_some, Option.isSome_some, dTup_k, dCons_k, dP_k, dInt_k, dBool_k, dNil_k, iL_t, decide_true]
end
end Go.Ab
end
/- The run of the law TypesSlots on every typed datum. -/
section
namespace Go.Ab
open Go
set_option maxRecDepth 100000
noncomputable section
theorem call0_ok (L : Letters) (N : Nat) : CallOk prog0 globs0 (evFn lay0.tab N) := evFn_ok (P := prog0) (G := globs0) mix0 (lay0.okM L mvG) N
theorem run_TypesSlots : ∀ xs, Pw (datTy prog0 (cellsTy prog0 Bn 12)) [24, 47] xs → ∃ N, evFn lay0.tab N 7 (xs.map .p) [] = some (.p (.bool true), []) := by
 intro xs h
 obtain ⟨x1, r1, rfl, h1, h⟩ := h.cons_inv
 obtain ⟨x2, r2, rfl, h2, h⟩ := h.cons_inv
 obtain rfl := h.nil_inv
 obtain ⟨p, hp, hl, hb⟩ := d_prog (n := 2) h1
 obtain ⟨x, rfl⟩ := d_place (n := 10) h2
 refine ⟨1048577 + 6004, ?_⟩
 show evFn _ _ _ [.p x1, .p x.e] [] = _
 rw [hp]
 exact E_lawSlots (n := 1048577) p x (by omega) fun a ha => (hb a ha).le (by omega)
end
end Go.Ab
end
