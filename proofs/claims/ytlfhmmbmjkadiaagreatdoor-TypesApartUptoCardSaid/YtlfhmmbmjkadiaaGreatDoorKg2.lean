/- The evaluator and its laws, part Kg2: Kh Lb Lc Ld -/
import Derived.Test.YtlfhmmbmjkadiaaGreatDoorKg1
import Derived.Test.YtlfhmmbmjkadiaaGreatDoorOg2
import Derived.Test.YtlfhmmbmjkadiaaGreatDoorOg3
set_option linter.all false
/- A program: its fields, its methods, its types. -/
section
namespace Go.Ab
open Go
set_option maxRecDepth 100000
noncomputable section
theorem E_Analyze1 {n : Nat} (a b : Ac) : evFn lay0.tab (n + 1) 85 [.p a.e, .box 0 0] [b.r.b] = some (.p (.bool (decide (a.name = b.name))), [b.r.b]) := by
 apply T_Analyze1 n a.r b.r
 unfold F_Analyze1
 show iL (eqS a.name b.name) _ _ = _
 rw [eqS_d]
 cases decide (a.name = b.name) <;> rfl
theorem E_Analyze2 {n : Nat} (a b : Me) : evFn lay0.tab (n + 1) 87 [.p a.e, .box 0 0] [b.r.b] = some (.p (.bool (decide (a.name = b.name))), [b.r.b]) := by
 apply T_Analyze2 n a.r b.r
 unfold F_Analyze2
 show iL (eqS a.name b.name) _ _ = _
 rw [eqS_d]
 cases decide (a.name = b.name) <;> rfl
theorem ix_le (o : Option Nat) : leI 0 (ixOf o) = o.isSome := by cases o <;> simp [ixOf, leI_d]
theorem E_sContT {n : Nat} (ts : List Ac) (y : Ac) (h : ts.length < 1000) : evFn lay0.tab (n + 1003) 46 [.p (.slice 3 (ts.map Ac.e)), .fn 85 [.box 0 0]] [y.r.b] = some (.p (.bool (ts.any fun t => decide (t.name = y.name))), [y.r.b]) := by
 have hi : evFn lay0.tab (n + 1002) 81 [.p (.slice 3 (ts.map Ac.e)), .fn 85 [.box 0 0]] [y.r.b] = some (.p (.int .i64 (ixOf (ts.findIdx? fun t => decide (t.name = y.name)))), [y.r.b]) := by
  apply T_sIndexT2 (n + 1001) (ts.map Ac.e) y.r
  unfold F_sIndexT2
  rw [List.length_map]
  refine (loop_list ts (fun q i => L_sIndexT2_1 _ (n + 1001) _ _ q (ts.map Ac.e, (ts.length : Int), i, y.r)) (fun t => decide (t.name = y.name)) (fun i => some (.p (.int .i64 i), [y.r.b])) (some (.p (.int .i64 (-1)), [y.r.b])) (fun q i hi => ?_) (fun q => ?_) (by omega)).trans ?_
  ·rw [Ls_sIndexT2_1]
   simp only [S_sIndexT2_1, ltT (show ((i : Int) < (ts.length : Int)) by omega), iL_t, at_mapT, cL_map, atT_lt hi, cL_s, dAc, wS (show i < big by unfold big; omega)]
   have := E_Analyze1 (n := n + 1000) ts[i] y
   simp only [Ac.e] at this
   simp only [evC_known this, dP_k, dBool_k, dSame_k]
   exact iL_if _ _ _
  ·rw [Ls_sIndexT2_1]
   simp only [S_sIndexT2_1, ltII, iL_f]
  ·cases ts.findIdx? fun t => decide (t.name = y.name) <;> rfl
 apply T_sContT (n + 1002) (ts.map Ac.e) y.r
 unfold F_sContT
 simp only [evC_known hi, dP_k, dInt_k, dSame_k, ix_le]
 rw [List.findIdx?_isSome]
 cases ts.any (fun t => decide (t.name = y.name)) <;> rfl
theorem E_sContM {n : Nat} (ts : List Me) (y : Me) (h : ts.length < 1000) : evFn lay0.tab (n + 1003) 86 [.p (.slice 4 (ts.map Me.e)), .fn 87 [.box 0 0]] [y.r.b] = some (.p (.bool (ts.any fun t => decide (t.name = y.name))), [y.r.b]) := by
 have hi : evFn lay0.tab (n + 1002) 90 [.p (.slice 4 (ts.map Me.e)), .fn 87 [.box 0 0]] [y.r.b] = some (.p (.int .i64 (ixOf (ts.findIdx? fun t => decide (t.name = y.name)))), [y.r.b]) := by
  apply T_sIndexM2 (n + 1001) (ts.map Me.e) y.r
  unfold F_sIndexM2
  rw [List.length_map]
  refine (loop_list ts (fun q i => L_sIndexM2_1 _ (n + 1001) _ _ q (ts.map Me.e, (ts.length : Int), i, y.r)) (fun t => decide (t.name = y.name)) (fun i => some (.p (.int .i64 i), [y.r.b])) (some (.p (.int .i64 (-1)), [y.r.b])) (fun q i hi => ?_) (fun q => ?_) (by omega)).trans ?_
  ·rw [Ls_sIndexM2_1]
   simp only [S_sIndexM2_1, ltT (show ((i : Int) < (ts.length : Int)) by omega), iL_t, at_mapT, cL_map, atT_lt hi, cL_s, dMe, wS (show i < big by unfold big; omega)]
   have := E_Analyze2 (n := n + 1000) ts[i] y
   simp only [Me.e] at this
   simp only [evC_known this, dP_k, dBool_k, dSame_k]
   exact iL_if _ _ _
  ·rw [Ls_sIndexM2_1]
   simp only [S_sIndexM2_1, ltII, iL_f]
  ·cases ts.findIdx? fun t => decide (t.name = y.name) <;> rfl
 apply T_sContM (n + 1002) (ts.map Me.e) y.r
 unfold F_sContM
 simp only [evC_known hi, dP_k, dInt_k, dSame_k, ix_le]
 rw [List.findIdx?_isSome]
 cases ts.any (fun t => decide (t.name = y.name)) <;> rfl
def fldT : List (List Nat × Vr) → List Fe → Nat → Option (List (List Nat × Vr))
 | acc, [], _ => some acc
 | acc, x :: r, k => match getS acc x.name with
  | some _ => none
  | none => fldT (putS acc x.name ⟨x.kind, k, true⟩) r (k + 1)
inductive An where
 | bad (t m n e : Int)
 | good (bs : List (List CS))
def metT (f : Nat) (p : List Ac) (fs : List (List Nat × Vr)) (i : Nat) (all : List Me) : List Me → Nat → List CS → Option (An ⊕ List CS)
 | [], _, acc => some (.inr acc)
 | m :: r, j, acc => if ((all.take j).any fun x => decide (x.name = m.name)) = true then some (.inl (.bad i j (-1) 7)) else match checkT f p fs m with
  | none => none
  | some none => some (.inl (.bad i j (-1) 7))
  | some (some c) => if c.er = 0 then metT f p fs i all r (j + 1) (acc ++ [c]) else some (.inl (.bad i j c.nd c.er))
def typT (f : Nat) (p : List Ac) : List Ac → Nat → List (List CS) → Option An
 | [], _, acc => some (.good acc)
 | a :: r, j, acc => if ((p.take j).any fun x => decide (x.name = a.name)) = true then some (.bad j (-1) (-1) 7) else match fldT [] a.fields 0 with
  | none => some (.bad j (-1) (-1) 7)
  | some fs => match metT f p fs j a.methods a.methods 0 [] with
   | none => none
   | some (.inl e) => some e
   | some (.inr b) => typT f p r (j + 1) (acc ++ [b])
def plD (t m n : Int) : Da := .agg [.int .i64 t, .int .i64 m, .int .i64 n]
def infO (p : List Ac) (bs : List (List CS)) : Inf := ⟨p.map Ac.e, bs.length, bs.map fun l => .slice 3 (l.map bodyE)⟩
def anD (p : List Ac) : An → R
 | .bad t m n e => some (.tup [.p .nilptr, .p (plD t m n), .p (.int .i64 e)], [])
 | .good bs => some (.tup [.box 0 0, .p (plD 0 0 0), .p (.int .i64 0)], (infO p bs).hp)
theorem fld_loop {m : Nat} (ti tl : Int) (ty : LD) (fl : List Fe) (P : api_Program) (I : Inf) (A : api_ActorType) (k0 : api_Program × Int × Inf × api_ActorType × LD × LD × api_Field × types_variable → R) (k1 : Int × LD × Int × Int × LD × Int × Int × Bool × api_Program × Inf × api_ActorType × LD × LD → R) (Z : R) (hk0 : ∀ a b c d, k0 (P, ti, I, A, a, b, c, d) = Z) (hl : fl.length < 1000) : ∀ (e q j : Nat) (acc : List (List Nat × Vr)), j + e = fl.length → e < q →
  L_Analyze_2 (evC lay0.tab m) m k0 k1 q (ti, ty, tl, ti, fl.map Fe.e, (fl.length : Int), (j : Int), P, I, A, acc.map (fun p => .str p.1), acc.map (fun p => p.2.e)) = match fldT acc (fl.drop j) j with
   | none => Z
   | some fs => k1 (ti, ty, tl, ti, fl.map Fe.e, (fl.length : Int), (fl.length : Int), false, P, I, A, fs.map (fun p => .str p.1), fs.map (fun p => p.2.e))
 | 0, q + 1, j, acc, h, _ => by
  obtain rfl : j = fl.length := by omega
  rw [Ls_Analyze_2]
  simp only [S_Analyze_2, ltII, iL_f, List.drop_length, fldT]
 | e + 1, q + 1, j, acc, h, hq => by
  have hj : j < fl.length := by omega
  rw [Ls_Analyze_2, List.drop_eq_getElem_cons hj]
  have hn : fl[j].r.Name = fl[j].name := rfl
  have hkd : fl[j].r.Kind = fl[j].kind := rfl
  simp only [S_Analyze_2, ltT (show ((j : Int) < (fl.length : Int)) by omega), iL_t, at_mapT, cL_map, atT_lt hj, cL_s, dFe, wS (show j < big by unfold big; omega), hn, hkd, fldT]
  rw [lkS]
  cases hg : getS acc fl[j].name with
  | some v => simp only [mO_s, dVr, hk0]
  | none =>
   simp only [mO_n]
   refine Eq.trans (upS acc fl[j].name Vr.e ⟨fl[j].kind, (j : Int), true⟩ fun a b => L_Analyze_2 (evC lay0.tab m) m k0 k1 q (ti, ty, tl, ti, fl.map Fe.e, (fl.length : Int), ((j + 1 : Nat) : Int), P, I, A, a, b)) ?_
   exact fld_loop ti tl ty fl P I A k0 k1 Z hk0 hl e q (j + 1) _ (by omega) (by omega)
structure SzM (m : Me) : Prop where
 ns : m.nodes.length < 1000
 ks : ∀ x ∈ m.nodes, x.kids.length < 1000
 ps : m.params.length < 1000
structure SzP (p : List Ac) : Prop where
 ty : p.length < 1000
 me : ∀ a ∈ p, a.methods.length < 1000
 fl : ∀ a ∈ p, a.fields.length < 1000
 mm : ∀ a ∈ p, ∀ m ∈ a.methods, SzM m
theorem met_loop {f n : Nat} (p : List Ac) (hp : SzP p) (ti : Nat) (tl : Int) (ty : LD) (a : Ac) (ha : a ∈ p) (fs : List (List Nat × Vr)) (I : Inf) (k0 : api_Program × Int × Int × Inf × api_ActorType × LD × api_Method → R) (k1 : Int × api_Program × api_Place × Inf × api_ActorType × LD × api_Method × types_body → R) (k2 : Int × LD × LD × Nat × LD × Int × Int × LD × Int × Int × Bool × api_Program × Inf × api_ActorType × LD → R)
  (hk0 : ∀ a b c d e f g, k0 (a, b, c, d, e, f, g) = anD p (.bad b c (-1) 7)) (hk1 : ∀ a b c d e f g h, k1 (a, b, c, d, e, f, g, h) = anD p (.bad c.Type_ c.Method c.Node a)) : ∀ (e q j : Nat) (acc : List CS) (o : An ⊕ List CS), j + e = a.methods.length → e < q → acc.length ≤ j → metT f p fs ti a.methods (a.methods.drop j) j acc = some o →
  L_Analyze_3 (evC lay0.tab (n + 3 * f + 3001)) (n + 3 * f + 3001) k0 k1 k2 q ((ti : Int), fs.map (fun p => .str p.1), fs.map (fun p => p.2.e), acc.length, ty, tl, (ti : Int), a.methods.map Me.e, (a.methods.length : Int), (j : Int), ⟨p.map Ac.e⟩, I, a.r, acc.map bodyE) = match o with
   | .inl e => anD p e
   | .inr l => k2 ((ti : Int), fs.map (fun p => .str p.1), fs.map (fun p => p.2.e), l.length, ty, tl, (ti : Int), a.methods.map Me.e, (a.methods.length : Int), (a.methods.length : Int), false, ⟨p.map Ac.e⟩, I, a.r, l.map bodyE)
 | 0, q + 1, j, acc, o, h, _, hac, hm => by
  obtain rfl : j = a.methods.length := by omega
  rw [List.drop_length] at hm
  simp only [metT, Option.some.injEq] at hm
  subst hm
  rw [Ls_Analyze_3]
  simp only [S_Analyze_3, ltII, iL_f]
 | e + 1, q + 1, j, acc, o, h, hq, hac, hm => by
  have hj : j < a.methods.length := by omega
  have hml := hp.me a ha
  rw [List.drop_eq_getElem_cons hj] at hm
  simp only [metT] at hm
  rw [Ls_Analyze_3]
  have hlm : (List.length a.r.Methods : Int) = a.methods.length := by show ((a.methods.map Me.e).length : Int) = _; rw [List.length_map]
  have htk : List.take (Int.toNat (j : Int) - 0) (List.drop 0 a.r.Methods) = (a.methods.take j).map Me.e := by
   rw [List.drop_zero, Nat.sub_zero, Int.toNat_natCast, List.map_take]; rfl
  simp only [S_Analyze_3, ltT (show ((j : Int) < (a.methods.length : Int)) by omega), iL_t, at_mapT, cL_map, atT_lt hj, cL_s, dMe, wS (show j < big by unfold big; omega), leI_d, hlm, show (0 : Int) ≤ (j : Int) by omega, decide_true, show (j : Int) ≤ (a.methods.length : Int) by omega, htk]
  obtain ⟨n1, hn1⟩ : ∃ n1, n + 3 * f + 3001 = n1 + 1003 := ⟨n + 3 * f + 1998, by omega⟩
  have hc := E_sContM (n := n1) (a.methods.take j) a.methods[j] (by simp; omega)
  rw [← hn1] at hc
  simp only [evC_known hc, dP_k, dBool_k, dSame_k]
  cases hd : (a.methods.take j).any fun x => decide (x.name = a.methods[j].name)
  ·rw [hd] at hm
   simp only [Bool.false_eq_true, if_false] at hm
   rw [iL_f]
   have sm := hp.mm a ha _ (List.getElem_mem hj)
   have run : ∀ o1, checkT f p fs a.methods[j] = some o1 → evFn lay0.tab (n + 3 * f + 3001) 88 [.p (api_Program.e ⟨p.map Ac.e⟩), .p (.map (fs.map fun p => .str p.1) (fs.map fun p => p.2.e)), .p a.methods[j].r.e] [] = some (chkD o1, []) := fun o1 h1 => E_check p fs a.methods[j] o1 h1 hp.ty hp.me sm.ns sm.ks sm.ps
   cases hck : checkT f p fs a.methods[j] with
   | none => rw [hck] at hm; cases hm
   | some o1 =>
    rw [hck] at hm
    rw [evC_known (run o1 hck)]
    cases o1 with
    | none =>
     simp only [Option.some.injEq] at hm
     subst hm
     exact hk1 7 ⟨p.map Ac.e⟩ ⟨ti, j, -1⟩ I a.r (acc.map bodyE) a.methods[j].r ⟨[], .nilmap, .nilmap⟩
    | some c =>
     simp only at hm
     show iL (!eqI c.er 0) _ _ = _
     rw [eqI_d, iL_ndec]
     by_cases h0 : c.er = 0
     ·rw [if_pos h0] at hm ⊢
      have hb1 : Nat.beq acc.length (acc.map bodyE).length = true := by simp
      have hb2 : bigL ((acc.map bodyE).length + [bodyE c].length) 40 = true := bigL_ok (by simp; omega) (by decide)
      have key := met_loop (n := n) p hp ti tl ty a ha fs I k0 k1 k2 hk0 hk1 e q (j + 1) (acc ++ [c]) o (by omega) (by omega) (by simp; omega) hm
      rw [← key]
      show iL (Nat.beq acc.length (acc.map bodyE).length) (iL (bigL ((acc.map bodyE).length + [bodyE c].length) 40) _ _) _ = _
      rw [hb1, hb2, iL_t, iL_t]
      have hap : acc.map bodyE ++ [bodyE c] = (acc ++ [c]).map bodyE := by simp
      show L_Analyze_3 _ _ k0 k1 k2 q (_, _, _, List.length (acc.map bodyE ++ [bodyE c]), _, _, _, _, _, _, _, _, _, acc.map bodyE ++ [bodyE c]) = _
      rw [hap, List.length_map]
     ·rw [if_neg h0] at hm ⊢
      simp only [Option.some.injEq] at hm
      subst hm
      exact hk1 c.er ⟨p.map Ac.e⟩ ⟨ti, j, c.nd⟩ I a.r (acc.map bodyE) a.methods[j].r _
  ·rw [hd] at hm
   simp only [if_true, Option.some.injEq] at hm
   subst hm
   rw [iL_t, hk0]
theorem typ_loop {f n : Nat} (p : List Ac) (hp : SzP p) (k0 : api_Program × Int × Inf × api_ActorType → R) (k1 : api_Program × Int × Inf × api_ActorType × LD × LD × api_Field × types_variable → R) (k2 : api_Program × Int × Int × Inf × api_ActorType × LD × api_Method → R) (k3 : Int × api_Program × api_Place × Inf × api_ActorType × LD × api_Method × types_body → R) (k4 : LD × Int × Int × Bool × api_Program × Inf → R)
  (hk0 : ∀ a b c d, k0 (a, b, c, d) = anD p (.bad b (-1) (-1) 7)) (hk1 : ∀ a b c d e f g h, k1 (a, b, c, d, e, f, g, h) = anD p (.bad b (-1) (-1) 7)) (hk2 : ∀ a b c d e f g, k2 (a, b, c, d, e, f, g) = anD p (.bad b c (-1) 7)) (hk3 : ∀ a b c d e f g h, k3 (a, b, c, d, e, f, g, h) = anD p (.bad c.Type_ c.Method c.Node a)) (hk4 : ∀ a b c d e bs, k4 (a, b, c, d, e, infO p bs) = anD p (.good bs)) :
  ∀ (e q j : Nat) (acc : List (List CS)) (o : An), j + e = p.length → e < q → acc.length ≤ j → typT f p (p.drop j) j acc = some o →
  L_Analyze_1 (evC lay0.tab (n + 3 * f + 3001)) (n + 3 * f + 3001) k0 k1 k2 k3 k4 q (p.map Ac.e, (p.length : Int), (j : Int), ⟨p.map Ac.e⟩, infO p acc) = anD p o
 | 0, q + 1, j, acc, o, h, _, hac, ht => by
  obtain rfl : j = p.length := by omega
  rw [List.drop_length] at ht
  simp only [typT, Option.some.injEq] at ht
  subst ht
  rw [Ls_Analyze_1]
  simp only [S_Analyze_1, ltII, iL_f, hk4]
 | e + 1, q + 1, j, acc, o, h, hq, hac, ht => by
  have hj : j < p.length := by omega
  have hty := hp.ty
  rw [List.drop_eq_getElem_cons hj] at ht
  simp only [typT] at ht
  rw [Ls_Analyze_1]
  have htk : List.take (Int.toNat (j : Int) - 0) (List.drop 0 (p.map Ac.e)) = (p.take j).map Ac.e := by
   rw [List.drop_zero, Nat.sub_zero, Int.toNat_natCast, List.map_take]
  simp only [S_Analyze_1, ltT (show ((j : Int) < (p.length : Int)) by omega), iL_t, at_mapT, cL_map, atT_lt hj, cL_s, dAc, wS (show j < big by unfold big; omega), leI_d, List.length_map, show (0 : Int) ≤ (j : Int) by omega, decide_true, show (j : Int) ≤ (p.length : Int) by omega, htk]
  obtain ⟨n1, hn1⟩ : ∃ n1, n + 3 * f + 3001 = n1 + 1003 := ⟨n + 3 * f + 1998, by omega⟩
  have hc := E_sContT (n := n1) (p.take j) p[j] (by simp; omega)
  rw [← hn1] at hc
  simp only [evC_known hc, dP_k, dBool_k, dSame_k]
  cases hd : (p.take j).any fun x => decide (x.name = p[j].name)
  ·rw [hd] at ht
   simp only [Bool.false_eq_true, if_false] at ht
   rw [iL_f]
   have hmem : p[j] ∈ p := List.getElem_mem hj
   have fl := fun (k0 : api_Program × Int × Inf × api_ActorType × LD × LD × api_Field × types_variable → R) k1 Z (hkk : ∀ a b c d, k0 (⟨p.map Ac.e⟩, (j : Int), infO p acc, p[j].r, a, b, c, d) = Z) => fld_loop (m := n + 3 * f + 3001) (j : Int) (p.length : Int) (p.map Ac.e) p[j].fields ⟨p.map Ac.e⟩ (infO p acc) p[j].r k0 k1 Z hkk (hp.fl _ hmem) p[j].fields.length (n + 3 * f + 3001) 0 [] (by omega) (by have := hp.fl _ hmem; omega)
   simp only [List.map_nil, List.drop_zero, show ((0 : Nat) : Int) = 0 from rfl] at fl
   have hlf : (List.length p[j].r.Fields : Int) = p[j].fields.length := by show ((p[j].fields.map Fe.e).length : Int) = _; rw [List.length_map]
   rw [hlf]
   refine Eq.trans (fl _ _ (anD p (.bad j (-1) (-1) 7)) fun a b c d => hk1 _ _ _ _ _ _ _ _) ?_
   cases hf : fldT [] p[j].fields 0 with
   | none =>
    rw [hf] at ht
    simp only [Option.some.injEq] at ht
    subst ht; rfl
   | some fs =>
    rw [hf] at ht
    simp only at ht
    cases hm : metT f p fs j p[j].methods p[j].methods 0 [] with
    | none => rw [hm] at ht; cases ht
    | some om =>
     rw [hm] at ht
     have ml := fun k0 k1 k2 h0 h1 => met_loop (n := n) p hp j (p.length : Int) (p.map Ac.e) p[j] hmem fs (infO p acc) k0 k1 k2 h0 h1 p[j].methods.length (n + 3 * f + 3001) 0 [] om (by omega) (by have := hp.me _ hmem; omega) (by simp) (by rw [List.drop_zero]; exact hm)
     simp only [List.map_nil, List.length_nil, show ((0 : Nat) : Int) = 0 from rfl] at ml
     have hlm : (List.length p[j].r.Methods : Int) = p[j].methods.length := by show ((p[j].methods.map Me.e).length : Int) = _; rw [List.length_map]
     simp only [hlm]
     refine Eq.trans (ml _ _ _ (fun a b c d e f g => hk2 _ _ _ _ _ _ _) (fun a b c d e f g h => hk3 _ _ _ _ _ _ _ _)) ?_
     cases om with
     | inl e => simp only [Option.some.injEq] at ht; subst ht; rfl
     | inr l =>
      simp only at ht
      have key := typ_loop (n := n) p hp k0 k1 k2 k3 k4 hk0 hk1 hk2 hk3 hk4 e q (j + 1) (acc ++ [l]) o (by omega) (by omega) (by simp; omega) ht
      rw [← key]
      have htl : List.take l.length (List.drop 0 (l.map bodyE)) = l.map bodyE := by
       rw [List.drop_zero]
       have := List.take_length (l := l.map bodyE)
       rwa [List.length_map] at this
      have hb1 : Nat.beq (infO p acc).bn (List.length (infO p acc).bs) = true := by simp [infO]
      have hb2 : bigL (List.length (infO p acc).bs + [Da.slice 3 (l.map bodyE)].length) 24 = true := bigL_ok (by simp [infO]; omega) (by decide)
      simp only [htl, hb1, hb2, iL_t]
      have hi : Inf.mk (infO p acc).ty (List.length ((infO p acc).bs ++ [Da.slice 3 (l.map bodyE)])) ((infO p acc).bs ++ [Da.slice 3 (l.map bodyE)]) = infO p (acc ++ [l]) := by
       simp [infO]
      rw [hi, wS (show j < big by unfold big; omega)]
  ·rw [hd] at ht
   simp only [if_true, Option.some.injEq] at ht
   subst ht
   rw [iL_t, hk0]
theorem E_Analyze {f n : Nat} (p : List Ac) (hp : SzP p) (b : Bool) (o : An) (hv : evFn lay0.tab (n + 3 * f + 3001) 84 [.p (.agg [.slice 3 (p.map Ac.e)])] [] = some (.p (.bool b), [])) (ho : o = .bad 0 0 0 1 ∧ b = false ∨ b = true ∧ typT f p p 0 [] = some o) : evFn lay0.tab (n + 3 * f + 3002) 53 [.p (.agg [.slice 3 (p.map Ac.e)])] [] = anD p o := by
 have key : F_Analyze (evC lay0.tab (n + 3 * f + 3001)) (n + 3 * f + 3001) ⟨p.map Ac.e⟩ = anD p o := by
  unfold F_Analyze
  have hv' : evFn lay0.tab (n + 3 * f + 3001) 84 [.p (api_Program.e ⟨p.map Ac.e⟩)] [] = some (.p (.bool b), []) := hv
  simp only [evC_known hv', dP_k, dBool_k, dNil_k]
  rcases ho with ⟨rfl, rfl⟩ | ⟨rfl, ht⟩
  ·rfl
  ·show L_Analyze_1 _ _ _ _ _ _ _ _ (p.map Ac.e, ((p.map Ac.e).length : Int), 0, ⟨p.map Ac.e⟩, Inf.mk (p.map Ac.e) 0 []) = _
   rw [List.length_map]
   exact typ_loop (n := n) p hp _ _ _ _ _ (fun a b c d => rfl) (fun a b c d e f g h => rfl) (fun a b c d e f g => rfl) (fun a b c d e f g h => rfl) (fun a b c d e bs => rfl) p.length (n + 3 * f + 3001) 0 [] o (by omega) (by have := hp.ty; omega) (by simp) (by rw [List.drop_zero]; exact ht)
 cases o with
 | bad t m n e => exact T_Analyze _ ⟨p.map Ac.e⟩ _ key
 | good bs => exact T_Analyze _ ⟨p.map Ac.e⟩ _ key
end
end Go.Ab
end
/- A greater program: what checks in a program checks in one with more types. -/
section
namespace Go.Ab
open Go
noncomputable section
def ext (q : List Ac) (c : CS) : CS := {c with pr := q}
theorem fail_ext (q : List Ac) (c : CS) (i e : Int) : failS (ext q c) i e = ext q (failS c i e) := by unfold failS ext; split <;> rfl
theorem want_ext (q : List Ac) (c : CS) (i : Int) (b : Bool) : wantS (ext q c) i b = ext q (wantS c i b) := by
 unfold wantS; split
 ·rfl
 ·exact fail_ext _ _ _ _
theorem use_ext (q : List Ac) (c : CS) (i : Int) (s : List Nat) : useS (ext q c) i s = ((useS c i s).1, ext q (useS c i s).2) := by
 unfold useS
 have : findS (ext q c) s = findS c s := rfl
 rw [this]
 cases findS c s with
 | some v => rfl
 | none => simp only [fail_ext]
theorem decl_ext (q : List Ac) (c : CS) (s : List Nat) (k : Int) : declS (ext q c) s k = (declS c s k).map (ext q) := by
 unfold declS
 by_cases h : c.lo.length < 1000000
 ·rw [if_pos h, if_pos (show (ext q c).lo.length < 1000000 from h)]; rfl
 ·rw [if_neg h, if_neg (show ¬ (ext q c).lo.length < 1000000 from h)]; rfl
theorem let1_ext (q : List Ac) (c : CS) (i : Int) (x : No) : let1 (ext q c) i x = ext q (let1 c i x) := by
 unfold let1
 have h1 : dupS (ext q c) x.name = dupS c x.name := rfl
 have h2 : (ext q c).lo = c.lo := rfl
 rw [h1, h2]
 split
 ·exact fail_ext _ _ _ _
 split
 ·exact fail_ext _ _ _ _
 ·rfl
theorem let_ext (q : List Ac) (c : CS) (i : Int) (x : No) (k : Int) : letS (ext q c) i x k = (letS c i x k).map (ext q) := by
 unfold letS
 rw [let1_ext, want_ext, decl_ext]
 cases declS (wantS (let1 c i x) i (decide (k = x.v.k))) x.name x.v.k with
 | none => rfl
 | some c1 => simp only [Option.map_some, use_ext]
theorem err_ext (q : List Ac) (c : CS) (i e : Int) : errS (ext q c) i e = ext q (errS c i e) := by
 unfold errS; split
 ·rfl
 ·exact fail_ext _ _ _ _
theorem note_ext (q : List Ac) (c : CS) (i : Int) (x : No) (k : Int) : noteT (ext q c) i x k = ext q (noteT c i x k) := by unfold noteT; split <;> rfl
/- An error stays. -/
theorem fail_er {c : CS} {i e : Int} (h : (failS c i e).er = 0) : c.er = 0 := by
 unfold failS at h; split at h
 ·assumption
 ·exact h
theorem want_er {c : CS} {i : Int} {b : Bool} (h : (wantS c i b).er = 0) : c.er = 0 := by
 unfold wantS at h; split at h
 ·exact h
 ·exact fail_er h
theorem fail_ne {c : CS} {i e : Int} (he : e ≠ 0) : (failS c i e).er ≠ 0 := by
 unfold failS; split
 ·exact he
 ·assumption
theorem note_er (c : CS) (i : Int) (x : No) (k : Int) : (noteT c i x k).er = c.er := by unfold noteT; split <;> rfl
theorem kids_er {v : CS → Int → Option (Int × CS)} (hv : ∀ c k r, v c k = some r → r.2.er = 0 → c.er = 0) : ∀ (l : List Int) (c : CS) {r : List Int × CS}, kidsM v c l = some r → r.2.er = 0 → c.er = 0
 | [], c, r, h, h0 => by simp only [kidsM, Option.some.injEq] at h; rw [← h] at h0; exact h0
 | k :: l, c, r, h, h0 => by
  simp only [kidsM] at h
  split at h
  ·cases h
  ·rename_i x c1 h1
   split at h
   ·cases h
   ·rename_i xs c2 h2
    simp only [Option.some.injEq] at h
    rw [← h] at h0
    have a := kids_er hv l c1 h2 h0
    exact hv _ _ _ h1 a
theorem blk_er {v : CS → Int → Bool → Option (Int × CS)} (hv : ∀ c k d r, v c k d = some r → r.2.er = 0 → c.er = 0) : ∀ (l : List Int) (c : CS) (d : Bool) {r : CS}, blkM v c l d = some r → r.er = 0 → c.er = 0
 | [], c, d, r, h, h0 => by simp only [blkM, Option.some.injEq] at h; rw [← h] at h0; exact h0
 | k :: l, c, d, r, h, h0 => by
  simp only [blkM] at h
  split at h
  ·cases h
  ·rename_i x c1 h1
   have a := blk_er hv l c1 _ h h0
   exact hv _ _ _ _ h1 a
theorem block_er {v : CS → Int → Bool → Option (Int × CS)} (hv : ∀ c k d r, v c k d = some r → r.2.er = 0 → c.er = 0) {c : CS} {i : Int} {x : No} {r : CS} (h : blockT v c i x = some r) (h0 : r.er = 0) : c.er = 0 := by
 unfold blockT at h
 split at h
 ·cases h
 ·rename_i c1 h1
  simp only [Option.some.injEq] at h
  have : c1.er = 0 := by
   rw [← h] at h0
   split at h0
   ·have := want_er h0; exact this
   ·exact h0
  exact blk_er hv _ _ _ h1 this
theorem vis_er : ∀ (f : Nat) (c : CS) (i : Int) (d : Bool) (r : Int × CS), visT f c i d = some r → r.2.er = 0 → c.er = 0
 | 0, c, i, d, r, h, h0 => by simp only [visT] at h; cases h
 | f + 1, c, i, d, r, h, h0 => by
  simp only [visT] at h
  split at h
  ·cases h
  ·split at h
   ·split at h
    ·cases h
    ·rename_i c1 h1
     simp only [Option.some.injEq] at h
     rw [← h] at h0
     exact block_er (vis_er f) h1 h0
   ·split at h
    ·cases h
    ·rename_i ks c1 h1
     have key : c1.er = 0 := by
      split at h
      ·assumption
      ·simp only [Option.some.injEq] at h
       rw [← h] at h0
       exact h0
     exact kids_er (fun c k r => vis_er f c k false r) _ _ h1 key
section
variable {p q : List Ac} (hq : ∀ t m x, lookS p t m = some x → lookS q t m = some x)
include hq
theorem op_ext {c c' : CS} {i k : Int} {x : No} {ks : List Int} (hp : c.pr = p) (h : opT c i x ks = some (k, c')) (h0 : c'.er = 0) : opT (ext q c) i x ks = some (k, ext q c') := by
 unfold opT at h ⊢
 by_cases h7 : x.op = 7
 ·rw [if_pos h7] at h ⊢
  unfold calT at h ⊢
  rw [hp] at h
  have hqp : (ext q c).pr = q := rfl
  rw [hqp]
  cases hl : lookS p x.name x.v.s with
  | none =>
   rw [hl] at h
   simp only [Option.some.injEq, Prod.mk.injEq] at h
   rw [← h.2] at h0
   exact absurd h0 (fail_ne (by decide))
  | some m =>
   rw [hl] at h
   rw [hq _ _ _ hl]
   simp only at h ⊢
   split at h
   ·cases h
   ·simp only [Option.some.injEq, Prod.mk.injEq] at h
    rw [want_ext, ← h.2, h.1]
 rw [if_neg h7] at h ⊢
 by_cases h6 : x.op ≤ 6
 ·rw [if_pos h6] at h ⊢
  unfold exprT at h ⊢
  repeat' split at h
  all_goals first
   | (cases h; done)
   | (
     simp only [Option.some.injEq, Prod.mk.injEq] at h
     rw [← h.2, ← h.1]
     simp only [use_ext, want_ext, err_ext]
     simp_all)
 rw [if_neg h6] at h ⊢
 cases hs : stmtT c i x ks with
 | none => rw [hs] at h; cases h
 | some c1 =>
  rw [hs] at h
  simp only [Option.some.injEq, Prod.mk.injEq] at h
  obtain ⟨rfl, rfl⟩ := h
  have : stmtT (ext q c) i x ks = some (ext q c1) := by
   have hre : (ext q c).re = c.re := rfl
   unfold stmtT at hs ⊢
   rw [hre]
   by_cases h8 : x.op = 8
   ·rw [if_pos h8] at hs ⊢
    match ks, hs with
    | k :: r, hs =>
     simp only at hs ⊢
     rw [let_ext, hs]; rfl
   rw [if_neg h8] at hs ⊢
   by_cases h9 : x.op = 9
   ·rw [if_pos h9] at hs ⊢
    match ks, hs with
    | k :: r, hs =>
     simp only [Option.some.injEq] at hs ⊢
     rw [use_ext, want_ext, hs]
   rw [if_neg h9] at hs ⊢
   by_cases h11 : x.op = 11 ∨ x.op = 12
   ·rw [if_pos h11] at hs ⊢
    match ks, hs with
    | k :: r, hs =>
     simp only [Option.some.injEq] at hs ⊢
     rw [want_ext, hs]
   rw [if_neg h11] at hs ⊢
   by_cases h13 : x.op = 13
   ·rw [if_pos h13] at hs ⊢
    match ks, hs with
    | [], hs =>
     simp only [Option.some.injEq] at hs ⊢
     rw [want_ext, hs]
    | k :: r, hs =>
     simp only [Option.some.injEq] at hs ⊢
     rw [want_ext, want_ext, hs]
   rw [if_neg h13] at hs ⊢
   by_cases h15 : x.op = 15
   ·rw [if_pos h15] at hs ⊢
    simp only [Option.some.injEq] at hs ⊢
    rw [want_ext, hs]
   rw [if_neg h15] at hs ⊢
   by_cases h16 : x.op = 16
   ·rw [if_pos h16] at hs ⊢
    simp only [Option.some.injEq] at hs ⊢
    rw [want_ext, hs]
   rw [if_neg h16] at hs ⊢
   by_cases h17 : x.op = 17
   ·rw [if_pos h17] at hs ⊢
    match ks, hs with
    | k :: r, hs =>
     simp only [Option.some.injEq] at hs ⊢
     rw [want_ext, hs]
   rw [if_neg h17] at hs ⊢
   simp only [Option.some.injEq] at hs
   rw [hs]
  rw [this]
theorem kids_ext {f : Nat} (hv : ∀ c i d k c', c.pr = p → visT f c i d = some (k, c') → c'.er = 0 → visT f (ext q c) i d = some (k, ext q c')) : ∀ (l : List Int) (c : CS) (ks : List Int) (c' : CS), c.pr = p → kidsM (fun c k => visT f c k false) c l = some (ks, c') → c'.er = 0 → kidsM (fun c k => visT f c k false) (ext q c) l = some (ks, ext q c')
 | [], c, ks, c', hp, h, h0 => by
  simp only [kidsM, Option.some.injEq, Prod.mk.injEq] at h ⊢
  rw [← h.2]; exact ⟨h.1, rfl⟩
 | k :: l, c, ks, c', hp, h, h0 => by
  simp only [kidsM] at h ⊢
  split at h
  ·cases h
  ·rename_i x c1 h1
   split at h
   ·cases h
   ·rename_i xs c2 h2
    simp only [Option.some.injEq, Prod.mk.injEq] at h
    obtain ⟨rfl, rfl⟩ := h
    have e1 : c1.er = 0 := kids_er (fun c k r => vis_er f c k false r) l c1 h2 h0
    have s1 : c1.pr = p := (vis_stat f c k false _ h1).pr.trans hp
    rw [hv c k false x c1 hp h1 e1]
    simp only
    rw [kids_ext hv l c1 xs c2 s1 h2 h0]
theorem blk_ext {f : Nat} (hv : ∀ c i d k c', c.pr = p → visT f c i d = some (k, c') → c'.er = 0 → visT f (ext q c) i d = some (k, ext q c')) : ∀ (l : List Int) (c : CS) (d : Bool) (c' : CS), c.pr = p → blkM (visT f) c l d = some c' → c'.er = 0 → blkM (visT f) (ext q c) l d = some (ext q c')
 | [], c, d, c', hp, h, h0 => by
  simp only [blkM, Option.some.injEq] at h ⊢
  rw [h]
 | k :: l, c, d, c', hp, h, h0 => by
  simp only [blkM] at h ⊢
  split at h
  ·cases h
  ·rename_i x c1 h1
   have e1 : c1.er = 0 := blk_er (vis_er f) l c1 _ h h0
   have s1 : c1.pr = p := (vis_stat f c k d _ h1).pr.trans hp
   rw [hv c k d x c1 hp h1 e1]
   simp only
   have : (ext q c1).ns = c1.ns := rfl
   rw [this]
   exact blk_ext hv l c1 _ c' s1 h h0
theorem vis_ext : ∀ (f : Nat) (c : CS) (i : Int) (d : Bool) (k : Int) (c' : CS), c.pr = p → visT f c i d = some (k, c') → c'.er = 0 → visT f (ext q c) i d = some (k, ext q c')
 | 0, c, i, d, k, c', hp, h, h0 => by simp only [visT] at h; cases h
 | f + 1, c, i, d, k, c', hp, h, h0 => by
  simp only [visT] at h ⊢
  have hns : (ext q c).ns = c.ns := rfl
  rw [hns]
  split at h
  ·cases h
  ·rename_i x hx
   by_cases h18 : x.op = 18
   ·rw [if_pos h18] at h ⊢
    split at h
    ·cases h
    ·rename_i c1 h1
     simp only [Option.some.injEq, Prod.mk.injEq] at h
     obtain ⟨rfl, rfl⟩ := h
     have : blockT (visT f) (ext q c) i x = some (ext q c1) := by
      unfold blockT at h1 ⊢
      split at h1
      ·cases h1
      ·rename_i c2 h2
       simp only [Option.some.injEq] at h1
       have e2 : c2.er = 0 := by
        rw [← h1] at h0
        split at h0
        ·have := want_er h0; exact this
        ·exact h0
       rw [blk_ext hq (vis_ext f) _ _ _ _ hp h2 e2]
       simp only [Option.some.injEq]
       rw [← h1]
       show (if i = (c2.ns.length : Int) - 1 then wantS (ext q {c2 with sc := c.sc}) i (decide (c2.re = 0) || endsT c2.ns i) else ext q {c2 with sc := c.sc}) = _
       split
       ·exact want_ext _ _ _ _
       ·rfl
     rw [this]
   ·rw [if_neg h18] at h ⊢
    split at h
    ·cases h
    ·rename_i ks c1 h1
     split at h
     ·rename_i e1
      split at h
      ·cases h
      ·rename_i k1 c2 h2
       simp only [Option.some.injEq, Prod.mk.injEq] at h
       obtain ⟨rfl, rfl⟩ := h
       rw [note_er] at h0
       have e2 := want_er h0
       have s1 : c1.pr = p := (kids_stat (fun c k r => vis_stat f c k false r) _ _ h1).pr.trans hp
       rw [kids_ext hq (vis_ext f) _ _ _ _ hp h1 e1]
       simp only
       rw [if_pos (show (ext q c1).er = 0 from e1), op_ext hq s1 h2 e2]
       simp only [want_ext, note_ext]
     ·rename_i e1
      simp only [Option.some.injEq, Prod.mk.injEq] at h
      obtain ⟨rfl, rfl⟩ := h
      contradiction
theorem par_ext : ∀ (l : List Pa) (c : CS), parT (ext q c) l = (parT c l).map (·.map (ext q))
 | [], c => rfl
 | a :: l, c => by
  simp only [parT]
  have : dupS (ext q c) a.name = dupS c a.name := rfl
  rw [this, decl_ext]
  split
  ·rfl
  ·cases declS c a.name a.kind with
   | none => rfl
   | some c1 => exact par_ext l c1
theorem check_ext {f : Nat} {fs : List (List Nat × Vr)} {m : Me} {c : CS} (h : checkT f p fs m = some (some c)) (h0 : c.er = 0) : checkT f q fs m = some (some (ext q c)) := by
 unfold checkT at h ⊢
 have hi : CS.init q fs m = ext q (CS.init p fs m) := rfl
 rw [hi, par_ext hq]
 cases hp : parT (CS.init p fs m) m.params with
 | none => rw [hp] at h; cases h
 | some o =>
  rw [hp] at h
  cases o with
  | none => cases h
  | some c1 =>
   simp only at h
   split at h
   ·cases h
   ·rename_i k c2 h2
    simp only [Option.some.injEq] at h
    subst h
    have s1 : c1.pr = p := (par_stat _ _ hp).pr
    simp only [Option.map_some]
    rw [vis_ext hq f _ _ _ _ _ s1 h2 h0]
theorem met_ext {f : Nat} {fs : List (List Nat × Vr)} {i : Nat} {all : List Me} : ∀ (r : List Me) (j : Nat) (acc l : List CS), metT f p fs i all r j acc = some (.inr l) → metT f q fs i all r j (acc.map (ext q)) = some (.inr (l.map (ext q)))
 | [], j, acc, l, h => by
  simp only [metT, Option.some.injEq, Sum.inr.injEq] at h ⊢
  rw [h]
 | m :: r, j, acc, l, h => by
  simp only [metT] at h ⊢
  split at h
  ·cases h
  ·rename_i hd
   rw [if_neg hd]
   split at h
   ·cases h
   ·cases h
   ·rename_i c hc
    split at h
    ·rename_i h0
     rw [check_ext hq hc h0]
     simp only
     rw [if_pos (show (ext q c).er = 0 from h0)]
     have := met_ext r (j + 1) (acc ++ [c]) l h
     rw [List.map_append] at this
     exact this
    ·cases h
end
theorem typ_ext {f : Nat} {p : List Ac} {t : Ac} (hq : ∀ a m x, lookS p a m = some x → lookS (p ++ [t]) a m = some x) : ∀ (d j : Nat) (acc bs : List (List CS)), j + d = p.length → typT f p (p.drop j) j acc = some (.good bs) → typT f (p ++ [t]) ((p ++ [t]).drop j) j (acc.map (·.map (ext (p ++ [t])))) = typT f (p ++ [t]) [t] p.length (bs.map (·.map (ext (p ++ [t]))))
 | 0, j, acc, bs, hj, h => by
  obtain rfl : j = p.length := by omega
  rw [List.drop_length] at h
  simp only [typT, Option.some.injEq, An.good.injEq] at h
  rw [h, List.drop_left]
 | d + 1, j, acc, bs, hj, h => by
  have hlt : j < p.length := by omega
  rw [List.drop_eq_getElem_cons hlt] at h
  rw [List.drop_eq_getElem_cons (by simp; omega), List.getElem_append_left hlt]
  have htk : (p ++ [t]).take j = p.take j := List.take_append_of_le_length (by omega)
  rw [typT]
  rw [typT] at h
  rw [htk]
  split at h
  ·cases h
  ·rename_i hd
   rw [if_neg hd]
   split at h
   ·cases h
   ·rename_i fs hf
    first | rw [hf] | skip
    split at h
    ·cases h
    ·rename_i e he; simp only [Option.some.injEq] at h
     subst h
     exfalso
     -- an error of a method is no good end
     have key : ∀ (r : List Me) (j' : Nat) (a : List CS) {b : List (List CS)}, metT f p fs j p[j].methods r j' a ≠ some (.inl (.good b)) := by
      intro r
      induction r with
      | nil => intro j' a b hh; simp only [metT] at hh; cases hh
      | cons m r ih =>
       intro j' a b hh
       simp only [metT] at hh
       split at hh
       ·cases hh
       ·split at hh
        ·cases hh
        ·cases hh
        ·split at hh
         ·exact ih _ _ hh
         ·cases hh
     exact key _ _ _ he
    ·rename_i l hl
     have m1 := met_ext hq p[j].methods 0 [] l hl
     simp only [List.map_nil] at m1
     rw [m1]
     simp only
     have := typ_ext hq d (j + 1) (acc ++ [l]) bs (by omega) h
     rw [List.map_append] at this
     exact this
end
end Go.Ab
end
/- What a method that checks tells of its variables. -/
section
namespace Go.Ab
open Go
noncomputable section
def Loc1 (lo : List Pa) (s : List Nat) (v : Vr) : Prop := v.field = false ∧ ∃ j : Nat, v.slot = j ∧ lo[j]? = some ⟨s, v.kind⟩
theorem Loc1.mono {lo lo' : List Pa} {s : List Nat} {v : Vr} (h : Loc1 lo s v) (hp : ∀ (j : Nat) (x : Pa), lo[j]? = some x → lo'[j]? = some x) : Loc1 lo' s v :=
 ⟨h.1, by obtain ⟨j, h1, h2⟩ := h.2; exact ⟨j, h1, hp _ _ h2⟩⟩
def Grow (lo lo' : List Pa) : Prop := ∀ (j : Nat) (x : Pa), lo[j]? = some x → lo'[j]? = some x
structure InvC (ns : List No) (c : CS) (b : Nat) : Prop where
 sc : ∀ s v, getS c.sc s = some v → Loc1 c.lo s v
 va : ∀ i v, getI c.va i = some v → ∃ j : Nat, i = j ∧ j < b ∧ ∃ x, ns[j]? = some x ∧ (x.op = 2 ∨ x.op = 8 ∨ x.op = 9) ∧ (getS c.fs x.name = some v ∨ Loc1 c.lo x.name v) ∧
  (x.op = 2 → getI c.ki i = some v.kind) ∧ (x.op ≠ 2 → ∃ (k : Nat) (r : List Int), x.kids = (k : Int) :: r ∧ k < b ∧ getI c.ki (k : Int) = some v.kind)
theorem InvC.le {ns : List No} {c : CS} {b b' : Nat} (h : InvC ns c b) (hb : b ≤ b') : InvC ns c b' :=
 ⟨h.sc, fun i v hv => by
  obtain ⟨j, h1, h2, x, h3, h4, h5, h6, h7⟩ := h.va i v hv
  exact ⟨j, h1, by omega, x, h3, h4, h5, h6, fun hne => by
   obtain ⟨k, r, g1, g2, g3⟩ := h7 hne
   exact ⟨k, r, g1, by omega, g3⟩⟩⟩
structure Kp (c c' : CS) (b : Nat) : Prop where
 lo : Grow c.lo c'.lo
 ki : ∀ j : Nat, j < b → getI c'.ki (j : Int) = getI c.ki (j : Int)
theorem Kp.refl (c : CS) (b : Nat) : Kp c c b := ⟨fun _ _ h => h, fun _ _ => rfl⟩
theorem Kp.trans {a b c : CS} {k k' : Nat} (h : Kp a b k) (g : Kp b c k') (hk : k ≤ k') : Kp a c k := ⟨fun j x hx => g.lo j x (h.lo j x hx), fun j hj => (g.ki j (by omega)).trans (h.ki j hj)⟩
end
end Go.Ab
end
/- What is told of programs. -/
section
namespace Go.Ab
open Go
set_option maxRecDepth 100000
noncomputable section
structure Szd (p : List Ac) : Prop where
 ty : p.length < 1000
 ac : ∀ a ∈ p, SzA a
theorem Szd.p {p : List Ac} (h : Szd p) : SzP p := ⟨h.ty, fun a ha => (h.ac a ha).me, fun a ha => (h.ac a ha).fl, fun a ha m hm => ⟨((h.ac a ha).mm m hm).ns, fun x hx => (((h.ac a ha).mm m hm).nx x hx).ks, ((h.ac a ha).mm m hm).ps⟩⟩
theorem met_def {p : List Ac} {fs : List (List Nat × Vr)} {i : Nat} {all : List Me} : ∀ (r : List Me) (j : Nat) (acc : List CS), (∀ m ∈ r, BodyOk m.nodes ∧ m.nodes.length < 1000 ∧ m.params.length < 1000) → ∃ o, metT 1000 p fs i all r j acc = some o
 | [], j, acc, _ => ⟨_, rfl⟩
 | m :: r, j, acc, h => by
  obtain ⟨h1, h2, h3⟩ := h m (List.mem_cons_self ..)
  simp only [metT]
  split
  ·exact ⟨_, rfl⟩
  ·obtain ⟨o, ho⟩ := check_def p fs m h1 h2 h3
   rw [ho]
   cases o with
   | none => exact ⟨_, rfl⟩
   | some c =>
    simp only
    split
    ·exact met_def r (j + 1) _ fun m hm => h m (List.mem_cons_of_mem _ hm)
    ·exact ⟨_, rfl⟩
theorem typ_def {p : List Ac} : ∀ (r : List Ac) (j : Nat) (acc : List (List CS)), (∀ a ∈ r, ∀ m ∈ a.methods, BodyOk m.nodes ∧ m.nodes.length < 1000 ∧ m.params.length < 1000) → ∃ o, typT 1000 p r j acc = some o
 | [], j, acc, _ => ⟨_, rfl⟩
 | a :: r, j, acc, h => by
  simp only [typT]
  split
  ·exact ⟨_, rfl⟩
  ·cases fldT [] a.fields 0 with
   | none => exact ⟨_, rfl⟩
   | some fs =>
    obtain ⟨o, ho⟩ := met_def (p := p) (fs := fs) (i := j) (all := a.methods) a.methods 0 [] (h a (List.mem_cons_self ..))
    simp only [ho]
    cases o with
    | inl e => exact ⟨_, rfl⟩
    | inr l => exact typ_def r (j + 1) _ fun b hb => h b (List.mem_cons_of_mem _ hb)
def anT (p : List Ac) : An := bif validT p then (typT 1000 p p 0 []).getD (.bad 0 0 0 1) else .bad 0 0 0 1
theorem an_good {p : List Ac} {bs : List (List CS)} (h : anT p = .good bs) : validT p = true ∧ typT 1000 p p 0 [] = some (.good bs) := by
 unfold anT at h
 cases hv : validT p with
 | false => rw [hv] at h; cases h
 | true =>
  rw [hv] at h
  simp only [cond_true] at h
  cases ht : typT 1000 p p 0 [] with
  | none => rw [ht] at h; cases h
  | some o => rw [ht] at h; simp only [Option.getD_some] at h; rw [h]; exact ⟨rfl, rfl⟩
theorem valid_def {p : List Ac} (hp : Szd p) (hv : validT p = true) : ∃ o, typT 1000 p p 0 [] = some o :=
 typ_def p 0 [] fun a ha m hm => ⟨((valid_ok hv).2 a ha m hm).1, ((hp.ac a ha).mm m hm).ns, ((hp.ac a ha).mm m hm).ps⟩
abbrev pD (p : List Ac) : D := .p (.agg [.slice 3 (p.map Ac.e)])
theorem E_An {n : Nat} (p : List Ac) (hp : Szd p) : evFn lay0.tab (n + 6002) 53 [pD p] [] = anD p (anT p) := by
 have hv := E_sValid (n := n + 4991) p hp.ac hp.ty
 refine E_Analyze (f := 1000) (n := n) p hp.p (validT p) (anT p) hv ?_
 unfold anT
 cases h : validT p with
 | false => exact .inl ⟨rfl, rfl⟩
 | true =>
  obtain ⟨o, ho⟩ := valid_def hp h
  exact .inr ⟨rfl, by rw [ho]; rfl⟩
def An.pl : An → api_Place | .bad t m n _ => ⟨t, m, n⟩ | .good _ => ⟨0, 0, 0⟩
def An.er : An → Int | .bad _ _ _ e => e | .good _ => 0
theorem dInf (c : Inf) (K : Inf → R) : d_Inf c.hp K = K c := rfl
theorem dPl (t m n : Int) (K : api_Place → R) : d_api_Place (plD t m n) K = K ⟨t, m, n⟩ := rfl
theorem bx_t (i o : Nat) (a b : R) : iL (isBoxD (.box i o)) a b = a := rfl
theorem bx_f (x : Da) (a b : R) : iL (isBoxD (.p x)) a b = b := rfl
theorem dBx (i o : Nat) (K : R) : dBox i o (.box i o) K = K := by unfold dBox; simp; rfl
theorem dNpn (K : R) : dNp .nilptr K = K := rfl
theorem An_bad {n : Nat} {p : List Ac} (hp : Szd p) {t m k e : Int} (ha : anT p = .bad t m k e) (K : KV) : evC lay0.tab (n + 6002) 53 [pD p] [] K = K (.tup [.p .nilptr, .p (plD t m k), .p (.int .i64 e)]) [] := evC_known (by rw [E_An p hp, ha]; rfl) K
theorem An_good {n : Nat} {p : List Ac} (hp : Szd p) {bs : List (List CS)} (ha : anT p = .good bs) (K : KV) : evC lay0.tab (n + 6002) 53 [pD p] [] K = K (.tup [.box 0 0, .p (plD 0 0 0), .p (.int .i64 0)]) (infO p bs).hp := evC_known (by rw [E_An p hp, ha]; rfl) K
theorem E_tCheck {n : Nat} (p : List Ac) (hp : Szd p) : evFn lay0.tab (n + 6003) 18 [pD p] [] = some (.tup [.p (anT p).pl.e, .p (.int .i64 (anT p).er)], []) := by
 apply T_tCheck (n + 6002) ⟨p.map Ac.e⟩
 unfold F_tCheck
 show evC lay0.tab (n + 6002) 53 [pD p] [] _ = _
 cases ha : anT p with
 | bad t m k e =>
  simp only [An_bad hp ha, dTup_k, dCons_k, dP_k, dNil_k, dInt_k, dPl, bx_t, bx_f, dBx, dNpn, dInf, dSame_k, dBool_k]; rfl
 | good bs =>
  simp only [An_good hp ha, dTup_k, dCons_k, dP_k, dNil_k, dInt_k, dPl, bx_t, bx_f, dBx, dNpn, dInf, dSame_k, dBool_k]; rfl
end
end Go.Ab
end
