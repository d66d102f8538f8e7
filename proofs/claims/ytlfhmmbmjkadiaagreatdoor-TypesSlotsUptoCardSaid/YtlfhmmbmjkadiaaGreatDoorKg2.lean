/- The evaluator and its laws, part Kg2: Kh Lb Lc Ld -/
import Derived.Test.YtlfhmmbmjkadiaaGreatDoorKg1
import Derived.Test.YtlfhmmbmjkadiaaGreatDoorOg2
import Derived.Test.YtlfhmmbmjkadiaaGreatDoorOg3
set_option linter.all false
/- A program: its fields, its methods, its types. -/
section
namespace Go.Ab
open Go
set_option maxRecDepth 100000
noncomputable section
theorem E_Analyze1 {n : Nat} (a b : Ac) : evFn lay0.tab (n + 1) 85 [.p a.e, .box 0 0] [b.r.b] = some (.p (.bool (decide (a.name = b.name))), [b.r.b]) := by
 apply T_Analyze1 n a.r b.r
 unfold F_Analyze1
 show iL (eqS a.name b.name) _ _ = _
 rw [eqS_d]
 cases decide (a.name = b.name) <;> rfl
theorem E_Analyze2 {n : Nat} (a b : Me) : evFn lay0.tab (n + 1) 87 [.p a.e, .box 0 0] [b.r.b] = some (.p (.bool (decide (a.name = b.name))), [b.r.b]) := by
 apply T_Analyze2 n a.r b.r
 unfold F_Analyze2
 show iL (eqS a.name b.name) _ _ = _
 rw [eqS_d]
 cases decide (a.name = b.name) <;> rfl
theorem ix_le (o : Option Nat) : leI 0 (ixOf o) = o.isSome := by cases o <;> simp [ixOf, leI_d]
theorem E_sContT {n : Nat} (ts : List Ac) (y : Ac) (h : ts.length < 1000) : evFn lay0.tab (n + 1003) 46 [.p (.slice 3 (ts.map Ac.e)), .fn 85 [.box 0 0]] [y.r.b] = some (.p (.bool (ts.any fun t => decide (t.name = y.name))), [y.r.b]) := by
 have hi : evFn lay0.tab (n + 1002) 81 [.p (.slice 3 (ts.map Ac.e)), .fn 85 [.box 0 0]] [y.r.b] = some (.p (.int .i64 (ixOf (ts.findIdx? fun t => decide (t.name = y.name)))), [y.r.b]) := by
  apply T_sIndexT2 (n + 1001) (ts.map Ac.e) y.r
  unfold F_sIndexT2
  rw [List.length_map]
  refine (loop_list ts (fun q i => L_sIndexT2_1 _ (n + 1001) _ _ q (ts.map Ac.e, (ts.length : Int), i, y.r)) (fun t => decide (t.name = y.name)) (fun i => some (.p (.int .i64 i), [y.r.b])) (some (.p (.int .i64 (-1)), [y.r.b])) (fun q i hi => ?_) (fun q => ?_) (by omega)).trans ?_
  ·rw [Ls_sIndexT2_1]
   simp only [S_sIndexT2_1, ltT (show ((i : Int) < (ts.length : Int)) by omega), iL_t, at_mapT, cL_map, atT_lt hi, cL_s, dAc, wS (show i < big by unfold big; omega)]
   have := E_Analyze1 (n := n + 1000) ts[i] y
   simp only [Ac.e] at this
   simp only [evC_known this, dP_k, dBool_k, dSame_k]
   exact iL_if _ _ _
  ·rw [Ls_sIndexT2_1]
   simp only [S_sIndexT2_1, ltII, iL_f]
  ·cases ts.findIdx? fun t => decide (t.name = y.name) <;> rfl
 apply T_sContT (n + 1002) (ts.map Ac.e) y.r
 unfold F_sContT
 simp only [evC_known hi, dP_k, dInt_k, dSame_k, ix_le]
 rw [List.findIdx?_isSome]
 cases ts.any (fun t => decide (t.name = y.name)) <;> rfl
theorem E_sContM {n : Nat} (ts : List Me) (y : Me) (h : ts.length < 1000) : evFn lay0.tab (n + 1003) 86 [.p (.slice 4 (ts.map Me.e)), .fn 87 [.box 0 0]] [y.r.b] = some (.p (.bool (ts.any fun t => decide (t.name = y.name))), [y.r.b]) := by
 have hi : evFn lay0.tab (n + 1002) 90 [.p (.slice 4 (ts.map Me.e)), .fn 87 [.box 0 0]] [y.r.b] = some (.p (.int .i64 (ixOf (ts.findIdx? fun t => decide (t.name = y.name)))), [y.r.b]) := by
  apply T_sIndexM2 (n + 1001) (ts.map Me.e) y.r
  unfold F_sIndexM2
  rw [List.length_map]
  refine (loop_list ts (fun q i => L_sIndexM2_1 _ (n + 1001) _ _ q (ts.map Me.e, (ts.length : Int), i, y.r)) (fun t => decide (t.name = y.name)) (fun i => some (.p (.int .i64 i), [y.r.b])) (some (.p (.int .i64 (-1)), [y.r.b])) (fun q i hi => ?_) (fun q => ?_) (by omega)).trans ?_
  ·rw [Ls_sIndexM2_1]
   simp only [S_sIndexM2_1, ltT (show ((i : Int) < (ts.length : Int)) by omega), iL_t, at_mapT, cL_map, atT_lt hi, cL_s, dMe, wS (show i < big by unfold big; omega)]
   have := E_Analyze2 (n := n + 1000) ts[i] y
   simp only [Me.e] at this
   simp only [evC_known this, dP_k, dBool_k, dSame_k]
   exact iL_if _ _ _
  ·rw [Ls_sIndexM2_1]
   simp only [S_sIndexM2_1, ltII, iL_f]
  ·cases ts.findIdx? fun t => decide (t.name = y.name) <;> rfl
 apply T_sContM (n + 1002) (ts.map Me.e) y.r
 unfold F_sContM
 simp only [evC_known hi, dP_k, dInt_k, dSame_k, ix_le]
 rw [List.findIdx?_isSome]
 cases ts.any (fun t => decide (t.name = y.name)) <;> rfl
def fldT : List (List Nat × Vr) → List Fe → Nat → Option (List (List Nat × Vr))
 | acc, [], _ => some acc
 | acc, x :: r, k => match getS acc x.name with
  | some _ => none
  | none => fldT (putS acc x.name ⟨x.kind, k, true⟩) r (k + 1)
inductive An where
 | bad (t m n e : Int)
 | good (bs : List (List CS))
def metT (f : Nat) (p : List Ac) (fs : List (List Nat × Vr)) (i : Nat) (all : List Me) : List Me → Nat → List CS → Option (An ⊕ List CS)
 | [], _, acc => some (.inr acc)
 | m :: r, j, acc => if ((all.take j).any fun x => decide (x.name = m.name)) = true then some (.inl (.bad i j (-1) 7)) else match checkT f p fs m with
  | none => none
  | some none => some (.inl (.bad i j (-1) 7))
  | some (some c) => if c.er = 0 then metT f p fs i all r (j + 1) (acc ++ [c]) else some (.inl (.bad i j c.nd c.er))
def typT (f : Nat) (p : List Ac) : List Ac → Nat → List (List CS) → Option An
 | [], _, acc => some (.good acc)
 | a :: r, j, acc => if ((p.take j).any fun x => decide (x.name = a.name)) = true then some (.bad j (-1) (-1) 7) else match fldT [] a.fields 0 with
  | none => some (.bad j (-1) (-1) 7)
  | some fs => match metT f p fs j a.methods a.methods 0 [] with
   | none => none
   | some (.inl e) => some e
   | some (.inr b) => typT f p r (j + 1) (acc ++ [b])
def plD (t m n : Int) : Da := .agg [.int .i64 t, .int .i64 m, .int .i64 n]
def infO (p : List Ac) (bs : List (List CS)) : Inf := ⟨p.map Ac.e, bs.length, bs.map fun l => .slice 3 (l.map bodyE)⟩
def anD (p : List Ac) : An → R
 | .bad t m n e => some (.tup [.p .nilptr, .p (plD t m n), .p (.int .i64 e)], [])
 | .good bs => some (.tup [.box 0 0, .p (plD 0 0 0), .p (.int .i64 0)], (infO p bs).hp)
theorem fld_loop {m : Nat} (ti tl : Int) (ty : LD) (fl : List Fe) (P : api_Program) (I : Inf) (A : api_ActorType) (k0 : api_Program × Int × Inf × api_ActorType × LD × LD × api_Field × types_variable → R) (k1 : Int × LD × Int × Int × LD × Int × Int × Bool × api_Program × Inf × api_ActorType × LD × LD → R) (Z : R) (hk0 : ∀ a b c d, k0 (P, ti, I, A, a, b, c, d) = Z) (hl : fl.length < 1000) : ∀ (e q j : Nat) (acc : List (List Nat × Vr)), j + e = fl.length → e < q →
  L_Analyze_2 (evC lay0.tab m) m k0 k1 q (ti, ty, tl, ti, fl.map Fe.e, (fl.length : Int), (j : Int), P, I, A, acc.map (fun p => .str p.1), acc.map (fun p => p.2.e)) = match fldT acc (fl.drop j) j with
   | none => Z
   | some fs => k1 (ti, ty, tl, ti, fl.map Fe.e, (fl.length : Int), (fl.length : Int), false, P, I, A, fs.map (fun p => .str p.1), fs.map (fun p => p.2.e))
 | 0, q + 1, j, acc, h, _ => by
  obtain rfl : j = fl.length := by omega
  rw [Ls_Analyze_2]
  simp only [S_Analyze_2, ltII, iL_f, List.drop_length, fldT]
 | e + 1, q + 1, j, acc, h, hq => by
  have hj : j < fl.length := by omega
  rw [Ls_Analyze_2, List.drop_eq_getElem_cons hj]
  have hn : fl[j].r.Name = fl[j].name := rfl
  have hkd : fl[j].r.Kind = fl[j].kind := rfl
  simp only [S_Analyze_2, ltT (show ((j : Int) < (fl.length : Int)) by omega), iL_t, at_mapT, cL_map, atT_lt hj, cL_s, dFe, wS (show j < big by unfold big; omega), hn, hkd, fldT]
  rw [lkS]
  cases hg : getS acc fl[j].name with
  | some v => simp only [mO_s, dVr, hk0]
  | none =>
   simp only [mO_n]
   refine Eq.trans (upS acc fl[j].name Vr.e ⟨fl[j].kind, (j : Int), true⟩ fun a b => L_Analyze_2 (evC lay0.tab m) m k0 k1 q (ti, ty, tl, ti, fl.map Fe.e, (fl.length : Int), ((j + 1 : Nat) : Int), P, I, A, a, b)) ?_
   exact fld_loop ti tl ty fl P I A k0 k1 Z hk0 hl e q (j + 1) _ (by omega) (by omega)
structure SzM (m : Me) : Prop where
 ns : m.nodes.length < 1000
 ks : ∀ x ∈ m.nodes, x.kids.length < 1000
 ps : m.params.length < 1000
structure SzP (p : List Ac) : Prop where
 ty : p.length < 1000
 me : ∀ a ∈ p, a.methods.length < 1000
 fl : ∀ a ∈ p, a.fields.length < 1000
 mm : ∀ a ∈ p, ∀ m ∈ a.methods, SzM m
theorem met_loop {f n : Nat} (p : List Ac) (hp : SzP p) (ti : Nat) (tl : Int) (ty : LD) (a : Ac) (ha : a ∈ p) (fs : List (List Nat × Vr)) (I : Inf) (k0 : api_Program × Int × Int × Inf × api_ActorType × LD × api_Method → R) (k1 : Int × api_Program × api_Place × Inf × api_ActorType × LD × api_Method × types_body → R) (k2 : Int × LD × LD × Nat × LD × Int × Int × LD × Int × Int × Bool × api_Program × Inf × api_ActorType × LD → R)
  (hk0 : ∀ a b c d e f g, k0 (a, b, c, d, e, f, g) = anD p (.bad b c (-1) 7)) (hk1 : ∀ a b c d e f g h, k1 (a, b, c, d, e, f, g, h) = anD p (.bad c.Type_ c.Method c.Node a)) : ∀ (e q j : Nat) (acc : List CS) (o : An ⊕ List CS), j + e = a.methods.length → e < q → acc.length ≤ j → metT f p fs ti a.methods (a.methods.drop j) j acc = some o →
  L_Analyze_3 (evC lay0.tab (n + 3 * f + 3001)) (n + 3 * f + 3001) k0 k1 k2 q ((ti : Int), fs.map (fun p => .str p.1), fs.map (fun p => p.2.e), acc.length, ty, tl, (ti : Int), a.methods.map Me.e, (a.methods.length : Int), (j : Int), ⟨p.map Ac.e⟩, I, a.r, acc.map bodyE) = match o with
   | .inl e => anD p e
   | .inr l => k2 ((ti : Int), fs.map (fun p => .str p.1), fs.map (fun p => p.2.e), l.length, ty, tl, (ti : Int), a.methods.map Me.e, (a.methods.length : Int), (a.methods.length : Int), false, ⟨p.map Ac.e⟩, I, a.r, l.map bodyE)
 | 0, q + 1, j, acc, o, h, _, hac, hm => by
  obtain rfl : j = a.methods.length := by omega
  rw [List.drop_length] at hm
  simp only [metT, Option.some.injEq] at hm
  subst hm
  rw [Ls_Analyze_3]
  simp only [S_Analyze_3, ltII, iL_f]
 | e + 1, q + 1, j, acc, o, h, hq, hac, hm => by
  have hj : j < a.methods.length := by omega
  have hml := hp.me a ha
  rw [List.drop_eq_getElem_cons hj] at hm
  simp only [metT] at hm
  rw [Ls_Analyze_3]
  have hlm : (List.length a.r.Methods : Int) = a.methods.length := by show ((a.methods.map Me.e).length : Int) = _; rw [List.length_map]
  have htk : List.take (Int.toNat (j : Int) - 0) (List.drop 0 a.r.Methods) = (a.methods.take j).map Me.e := by
   rw [List.drop_zero, Nat.sub_zero, Int.toNat_natCast, List.map_take]; rfl
  simp only [S_Analyze_3, ltT (show ((j : Int) < (a.methods.length : Int)) by omega), iL_t, at_mapT, cL_map, atT_lt hj, cL_s, dMe, wS (show j < big by unfold big; omega), leI_d, hlm, show (0 : Int) ≤ (j : Int) by omega, decide_true, show (j : Int) ≤ (a.methods.length : Int) by omega, htk]
  obtain ⟨n1, hn1⟩ : ∃ n1, n + 3 * f + 3001 = n1 + 1003 := ⟨n + 3 * f + 1998, by omega⟩
  have hc := E_sContM (n := n1) (a.methods.take j) a.methods[j] (by simp; omega)
  rw [← hn1] at hc
  simp only [evC_known hc, dP_k, dBool_k, dSame_k]
  cases hd : (a.methods.take j).any fun x => decide (x.name = a.methods[j].name)
  ·rw [hd] at hm
   simp only [Bool.false_eq_true, if_false] at hm
   rw [iL_f]
   have sm := hp.mm a ha _ (List.getElem_mem hj)
   have run : ∀ o1, checkT f p fs a.methods[j] = some o1 → evFn lay0.tab (n + 3 * f + 3001) 88 [.p (api_Program.e ⟨p.map Ac.e⟩), .p (.map (fs.map fun p => .str p.1) (fs.map fun p => p.2.e)), .p a.methods[j].r.e] [] = some (chkD o1, []) := fun o1 h1 => E_check p fs a.methods[j] o1 h1 hp.ty hp.me sm.ns sm.ks sm.ps
   cases hck : checkT f p fs a.methods[j] with
   | none => rw [hck] at hm; cases hm
   | some o1 =>
    rw [hck] at hm
    rw [evC_known (run o1 hck)]
    cases o1 with
    | none =>
     simp only [Option.some.injEq] at hm
     subst hm
     exact hk1 7 ⟨p.map Ac.e⟩ ⟨ti, j, -1⟩ I a.r (acc.map bodyE) a.methods[j].r ⟨[], .nilmap, .nilmap⟩
    | some c =>
     simp only at hm
     show iL (!eqI c.er 0) _ _ = _
     rw [eqI_d, iL_ndec]
     by_cases h0 : c.er = 0
     ·rw [if_pos h0] at hm ⊢
      have hb1 : Nat.beq acc.length (acc.map bodyE).length = true := by simp
      have hb2 : bigL ((acc.map bodyE).length + [bodyE c].length) 40 = true := bigL_ok (by simp; omega) (by decide)
      have key := met_loop (n := n) p hp ti tl ty a ha fs I k0 k1 k2 hk0 hk1 e q (j + 1) (acc ++ [c]) o (by omega) (by omega) (by simp; omega) hm
      rw [← key]
      show iL (Nat.beq acc.length (acc.map bodyE).length) (iL (bigL ((acc.map bodyE).length + [bodyE c].length) 40) _ _) _ = _
      rw [hb1, hb2, iL_t, iL_t]
      have hap : acc.map bodyE ++ [bodyE c] = (acc ++ [c]).map bodyE := by simp
      show L_Analyze_3 _ _ k0 k1 k2 q (_, _, _, List.length (acc.map bodyE ++ [bodyE c]), _, _, _, _, _, _, _, _, _, acc.map bodyE ++ [bodyE c]) = _
      rw [hap, List.length_map]
     ·rw [if_neg h0] at hm ⊢
      simp only [Option.some.injEq] at hm
      subst hm
      exact hk1 c.er ⟨p.map Ac.e⟩ ⟨ti, j, c.nd⟩ I a.r (acc.map bodyE) a.methods[j].r _
  ·rw [hd] at hm
   simp only [if_true, Option.some.injEq] at hm
   subst hm
   rw [iL_t, hk0]
theorem typ_loop {f n : Nat} (p : List Ac) (hp : SzP p) (k0 : api_Program × Int × Inf × api_ActorType → R) (k1 : api_Program × Int × Inf × api_ActorType × LD × LD × api_Field × types_variable → R) (k2 : api_Program × Int × Int × Inf × api_ActorType × LD × api_Method → R) (k3 : Int × api_Program × api_Place × Inf × api_ActorType × LD × api_Method × types_body → R) (k4 : LD × Int × Int × Bool × api_Program × Inf → R)
  (hk0 : ∀ a b c d, k0 (a, b, c, d) = anD p (.bad b (-1) (-1) 7)) (hk1 : ∀ a b c d e f g h, k1 (a, b, c, d, e, f, g, h) = anD p (.bad b (-1) (-1) 7)) (hk2 : ∀ a b c d e f g, k2 (a, b, c, d, e, f, g) = anD p (.bad b c (-1) 7)) (hk3 : ∀ a b c d e f g h, k3 (a, b, c, d, e, f, g, h) = anD p (.bad c.Type_ c.Method c.Node a)) (hk4 : ∀ a b c d e bs, k4 (a, b, c, d, e, infO p bs) = anD p (.good bs)) :
  ∀ (e q j : Nat) (acc : List (List CS)) (o : An), j + e = p.length → e < q → acc.length ≤ j → typT f p (p.drop j) j acc = some o →
  L_Analyze_1 (evC lay0.tab (n + 3 * f + 3001)) (n + 3 * f + 3001) k0 k1 k2 k3 k4 q (p.map Ac.e, (p.length : Int), (j : Int), ⟨p.map Ac.e⟩, infO p acc) = anD p o
 | 0, q + 1, j, acc, o, h, _, hac, ht => by
  obtain rfl : j = p.length := by omega
  rw [List.drop_length] at ht
  simp only [typT, Option.some.injEq] at ht
  subst ht
  rw [Ls_Analyze_1]
  simp only [S_Analyze_1, ltII, iL_f, hk4]
 | e + 1, q + 1, j, acc, o, h, hq, hac, ht => by
  have hj : j < p.length := by omega
  have hty := hp.ty
  rw [List.drop_eq_getElem_cons hj] at ht
  simp only [typT] at ht
  rw [Ls_Analyze_1]
  have htk : List.take (Int.toNat (j : Int) - 0) (List.drop 0 (p.map Ac.e)) = (p.take j).map Ac.e := by
   rw [List.drop_zero, Nat.sub_zero, Int.toNat_natCast, List.map_take]
  simp only [S_Analyze_1, ltT (show ((j : Int) < (p.length : Int)) by omega), iL_t, at_mapT, cL_map, atT_lt hj, cL_s, dAc, wS (show j < big by unfold big; omega), leI_d, List.length_map, show (0 : Int) ≤ (j : Int) by omega, decide_true, show (j : Int) ≤ (p.length : Int) by omega, htk]
  obtain ⟨n1, hn1⟩ : ∃ n1, n + 3 * f + 3001 = n1 + 1003 := ⟨n + 3 * f + 1998, by omega⟩
  have hc := E_sContT (n := n1) (p.take j) p[j] (by simp; omega)
  rw [← hn1] at hc
  simp only [evC_known hc, dP_k, dBool_k, dSame_k]
  cases hd : (p.take j).any fun x => decide (x.name = p[j].name)
  ·rw [hd] at ht
   simp only [Bool.false_eq_true, if_false] at ht
   rw [iL_f]
   have hmem : p[j] ∈ p := List.getElem_mem hj
   have fl := fun (k0 : api_Program × Int × Inf × api_ActorType × LD × LD × api_Field × types_variable → R) k1 Z (hkk : ∀ a b c d, k0 (⟨p.map Ac.e⟩, (j : Int), infO p acc, p[j].r, a, b, c, d) = Z) => fld_loop (m := n + 3 * f + 3001) (j : Int) (p.length : Int) (p.map Ac.e) p[j].fields ⟨p.map Ac.e⟩ (infO p acc) p[j].r k0 k1 Z hkk (hp.fl _ hmem) p[j].fields.length (n + 3 * f + 3001) 0 [] (by omega) (by have := hp.fl _ hmem; omega)
   simp only [List.map_nil, List.drop_zero, show ((0 : Nat) : Int) = 0 from rfl] at fl
   have hlf : (List.length p[j].r.Fields : Int) = p[j].fields.length := by show ((p[j].fields.map Fe.e).length : Int) = _; rw [List.length_map]
   rw [hlf]
   refine Eq.trans (fl _ _ (anD p (.bad j (-1) (-1) 7)) fun a b c d => hk1 _ _ _ _ _ _ _ _) ?_
   cases hf : fldT [] p[j].fields 0 with
   | none =>
    rw [hf] at ht
    simp only [Option.some.injEq] at ht
    subst ht; rfl
   | some fs =>
    rw [hf] at ht
    simp only at ht
    cases hm : metT f p fs j p[j].methods p[j].methods 0 [] with
    | none => rw [hm] at ht; cases ht
    | some om =>
     rw [hm] at ht
     have ml := fun k0 k1 k2 h0 h1 => met_loop (n := n) p hp j (p.length : Int) (p.map Ac.e) p[j] hmem fs (infO p acc) k0 k1 k2 h0 h1 p[j].methods.length (n + 3 * f + 3001) 0 [] om (by omega) (by have := hp.me _ hmem; omega) (by simp) (by rw [List.drop_zero]; exact hm)
     simp only [List.map_nil, List.length_nil, show ((0 : Nat) : Int) = 0 from rfl] at ml
     have hlm : (List.length p[j].r.Methods : Int) = p[j].methods.length := by show ((p[j].methods.map Me.e).length : Int) = _; rw [List.length_map]
     simp only [hlm]
     refine Eq.trans (ml _ _ _ (fun a b c d e f g => hk2 _ _ _ _ _ _ _) (fun a b c d e f g h => hk3 _ _ _ _ _ _ _ _)) ?_
     cases om with
     | inl e => simp only [Option.some.injEq] at ht; subst ht; rfl
     | inr l =>
      simp only at ht
      have key := typ_loop (n := n) p hp k0 k1 k2 k3 k4 hk0 hk1 hk2 hk3 hk4 e q (j + 1) (acc ++ [l]) o (by omega) (by omega) (by simp; omega) ht
      rw [← key]
      have htl : List.take l.length (List.drop 0 (l.map bodyE)) = l.map bodyE := by
       rw [List.drop_zero]
       have := List.take_length (l := l.map bodyE)
       rwa [List.length_map] at this
      have hb1 : Nat.beq (infO p acc).bn (List.length (infO p acc).bs) = true := by simp [infO]
      have hb2 : bigL (List.length (infO p acc).bs + [Da.slice 3 (l.map bodyE)].length) 24 = true := bigL_ok (by simp [infO]; omega) (by decide)
      simp only [htl, hb1, hb2, iL_t]
      have hi : Inf.mk (infO p acc).ty (List.length ((infO p acc).bs ++ [Da.slice 3 (l.map bodyE)])) ((infO p acc).bs ++ [Da.slice 3 (l.map bodyE)]) = infO p (acc ++ [l]) := by
       simp [infO]
      rw [hi, wS (show j < big by unfold big; omega)]
  ·rw [hd] at ht
   simp only [if_true, Option.some.injEq] at ht
   subst ht
   rw [iL_t, hk0]
theorem E_Analyze {f n : Nat} (p : List Ac) (hp : SzP p) (b : Bool) (o : An) (hv : evFn lay0.tab (n + 3 * f + 3001) 84 [.p (.agg [.slice 3 (p.map Ac.e)])] [] = some (.p (.bool b), [])) (ho : o = .bad 0 0 0 1 ∧ b = false ∨ b = true ∧ typT f p p 0 [] = some o) : evFn lay0.tab (n + 3 * f + 3002) 53 [.p (.agg [.slice 3 (p.map Ac.e)])] [] = anD p o := by
 have key : F_Analyze (evC lay0.tab (n + 3 * f + 3001)) (n + 3 * f + 3001) ⟨p.map Ac.e⟩ = anD p o := by
  unfold F_Analyze
  have hv' : evFn lay0.tab (n + 3 * f + 3001) 84 [.p (api_Program.e ⟨p.map Ac.e⟩)] [] = some (.p (.bool b), []) := hv
  simp only [evC_known hv', dP_k, dBool_k, dNil_k]
  rcases ho with ⟨rfl, rfl⟩ | ⟨rfl, ht⟩
  ·rfl
  ·show L_Analyze_1 _ _ _ _ _ _ _ _ (p.map Ac.e, ((p.map Ac.e).length : Int), 0, ⟨p.map Ac.e⟩, Inf.mk (p.map Ac.e) 0 []) = _
   rw [List.length_map]
   exact typ_loop (n := n) p hp _ _ _ _ _ (fun a b c d => rfl) (fun a b c d e f g h => rfl) (fun a b c d e f g => rfl) (fun a b c d e f g h => rfl) (fun a b c d e bs => rfl) p.length (n + 3 * f + 3001) 0 [] o (by omega) (by have := hp.ty; omega) (by simp) (by rw [List.drop_zero]; exact ht)
 cases o with
 | bad t m n e => exact T_Analyze _ ⟨p.map Ac.e⟩ _ key
 | good bs => exact T_Analyze _ ⟨p.map Ac.e⟩ _ key
end
end Go.Ab
end
/- A greater program: what checks in a program checks in one with more types. -/
section
namespace Go.Ab
open Go
noncomputable section
def ext (q : List Ac) (c : CS) : CS := {c with pr := q}
/- An error stays. -/
theorem fail_er {c : CS} {i e : Int} (h : (failS c i e).er = 0) : c.er = 0 := by
 unfold failS at h; split at h
 ·assumption
 ·exact h
theorem want_er {c : CS} {i : Int} {b : Bool} (h : (wantS c i b).er = 0) : c.er = 0 := by
 unfold wantS at h; split at h
 ·exact h
 ·exact fail_er h
theorem want_b {c : CS} {i : Int} {b : Bool} (h : (wantS c i b).er = 0) : b = true := by
 unfold wantS at h; split at h
 ·assumption
 ·unfold failS at h
  split at h
  ·cases h
  ·contradiction
theorem want_id {c : CS} {i : Int} {b : Bool} (h : (wantS c i b).er = 0) : wantS c i b = c := by
 rw [want_b h]; rfl
theorem fail_ne {c : CS} {i e : Int} (he : e ≠ 0) : (failS c i e).er ≠ 0 := by
 unfold failS; split
 ·exact he
 ·assumption
theorem use_er {c : CS} {i : Int} {s : List Nat} (h : (useS c i s).2.er = 0) : c.er = 0 := by
 unfold useS at h; split at h
 ·exact h
 ·exact fail_er h
theorem decl_er {c c' : CS} {s : List Nat} {k : Int} (h : declS c s k = some c') : c'.er = c.er := by
 unfold declS at h; split at h
 ·simp only [Option.some.injEq] at h; rw [← h]
 ·cases h
theorem let1_er {c : CS} {i : Int} {x : No} (h : (let1 c i x).er = 0) : c.er = 0 := by
 unfold let1 at h
 split at h
 ·exact fail_er h
 split at h
 ·exact fail_er h
 ·exact h
theorem let_er {c c' : CS} {i k : Int} {x : No} (h : letS c i x k = some c') (h0 : c'.er = 0) : c.er = 0 := by
 unfold letS at h
 split at h
 ·rename_i c3 h3
  simp only [Option.some.injEq] at h; subst h
  have := use_er h0
  rw [decl_er h3] at this
  exact let1_er (want_er this)
 ·cases h
theorem note_er (c : CS) (i : Int) (x : No) (k : Int) : (noteT c i x k).er = c.er := by unfold noteT; split <;> rfl
theorem kids_er {v : CS → Int → Option (Int × CS)} (hv : ∀ c k r, v c k = some r → r.2.er = 0 → c.er = 0) : ∀ (l : List Int) (c : CS) {r : List Int × CS}, kidsM v c l = some r → r.2.er = 0 → c.er = 0
 | [], c, r, h, h0 => by simp only [kidsM, Option.some.injEq] at h; rw [← h] at h0; exact h0
 | k :: l, c, r, h, h0 => by
  simp only [kidsM] at h
  split at h
  ·cases h
  ·rename_i x c1 h1
   split at h
   ·cases h
   ·rename_i xs c2 h2
    simp only [Option.some.injEq] at h
    rw [← h] at h0
    have a := kids_er hv l c1 h2 h0
    exact hv _ _ _ h1 a
theorem blk_er {v : CS → Int → Bool → Option (Int × CS)} (hv : ∀ c k d r, v c k d = some r → r.2.er = 0 → c.er = 0) : ∀ (l : List Int) (c : CS) (d : Bool) {r : CS}, blkM v c l d = some r → r.er = 0 → c.er = 0
 | [], c, d, r, h, h0 => by simp only [blkM, Option.some.injEq] at h; rw [← h] at h0; exact h0
 | k :: l, c, d, r, h, h0 => by
  simp only [blkM] at h
  split at h
  ·cases h
  ·rename_i x c1 h1
   have a := blk_er hv l c1 _ h h0
   exact hv _ _ _ _ h1 a
theorem block_er {v : CS → Int → Bool → Option (Int × CS)} (hv : ∀ c k d r, v c k d = some r → r.2.er = 0 → c.er = 0) {c : CS} {i : Int} {x : No} {r : CS} (h : blockT v c i x = some r) (h0 : r.er = 0) : c.er = 0 := by
 unfold blockT at h
 split at h
 ·cases h
 ·rename_i c1 h1
  simp only [Option.some.injEq] at h
  have : c1.er = 0 := by
   rw [← h] at h0
   split at h0
   ·have := want_er h0; exact this
   ·exact h0
  exact blk_er hv _ _ _ h1 this
theorem vis_er : ∀ (f : Nat) (c : CS) (i : Int) (d : Bool) (r : Int × CS), visT f c i d = some r → r.2.er = 0 → c.er = 0
 | 0, c, i, d, r, h, h0 => by simp only [visT] at h; cases h
 | f + 1, c, i, d, r, h, h0 => by
  simp only [visT] at h
  split at h
  ·cases h
  ·split at h
   ·split at h
    ·cases h
    ·rename_i c1 h1
     simp only [Option.some.injEq] at h
     rw [← h] at h0
     exact block_er (vis_er f) h1 h0
   ·split at h
    ·cases h
    ·rename_i ks c1 h1
     have key : c1.er = 0 := by
      split at h
      ·assumption
      ·simp only [Option.some.injEq] at h
       rw [← h] at h0
       exact h0
     exact kids_er (fun c k r => vis_er f c k false r) _ _ h1 key
section
variable {p q : List Ac} (hq : ∀ t m x, lookS p t m = some x → lookS q t m = some x)
include hq
end
end
end Go.Ab
end
/- What a method that checks tells of its variables. -/
section
namespace Go.Ab
open Go
noncomputable section
theorem find_set {β : Type} {α : Type} [DecidableEq α] : ∀ (l : List (α × β)) (s t : α) (v : β),
  ((match l.findIdx? (fun (p : α × β) => decide (s = p.1)) with | some j => l.set j (s, v) | none => l ++ [(s, v)]).find? fun p => decide (t = p.1)) = if t = s then some (s, v) else l.find? fun p => decide (t = p.1)
 | [], s, t, v => by
  simp only [List.findIdx?_nil, List.nil_append, List.find?_cons, List.find?_nil]
  by_cases h : t = s <;> simp [h]
 | p :: l, s, t, v => by
  rw [List.findIdx?_cons]
  by_cases h : s = p.1
  ·simp only [h, decide_true, if_true, List.set_cons_zero, List.find?_cons]
   by_cases ht : t = p.1 <;> simp [ht]
  ·simp only [h, decide_false, Bool.false_eq_true, if_false]
   have ih := find_set l s t v
   cases hf : l.findIdx? (fun p => decide (s = p.1)) with
   | none =>
    rw [hf] at ih
    simp only [Option.map_none, List.cons_append, List.find?_cons] at ih ⊢
    rw [ih]
    by_cases ht : t = p.1
    ·subst ht; simp [Ne.symm h]
    ·simp [ht]
   | some j =>
    rw [hf] at ih
    simp only [Option.map_some, List.set_cons_succ, List.find?_cons] at ih ⊢
    rw [ih]
    by_cases ht : t = p.1
    ·subst ht; simp [Ne.symm h]
    ·simp [ht]
theorem getS_put {β : Type} (l : List (List Nat × β)) (s t : List Nat) (v : β) : getS (putS l s v) t = if t = s then some v else getS l t := by
 refine (congrArg (Option.map (·.2)) (find_set l s t v)).trans ?_
 unfold getS
 split <;> rfl
theorem getI_put {β : Type} (l : List (Int × β)) (s t : Int) (v : β) : getI (putI l s v) t = if t = s then some v else getI l t := by
 refine (congrArg (Option.map (·.2)) (find_set l s t v)).trans ?_
 unfold getI
 split <;> rfl
def Loc1 (lo : List Pa) (s : List Nat) (v : Vr) : Prop := v.field = false ∧ ∃ j : Nat, v.slot = j ∧ lo[j]? = some ⟨s, v.kind⟩
theorem Loc1.mono {lo lo' : List Pa} {s : List Nat} {v : Vr} (h : Loc1 lo s v) (hp : ∀ (j : Nat) (x : Pa), lo[j]? = some x → lo'[j]? = some x) : Loc1 lo' s v :=
 ⟨h.1, by obtain ⟨j, h1, h2⟩ := h.2; exact ⟨j, h1, hp _ _ h2⟩⟩
def Grow (lo lo' : List Pa) : Prop := ∀ (j : Nat) (x : Pa), lo[j]? = some x → lo'[j]? = some x
structure InvC (ns : List No) (c : CS) (b : Nat) : Prop where
 sc : ∀ s v, getS c.sc s = some v → Loc1 c.lo s v
 va : ∀ i v, getI c.va i = some v → ∃ j : Nat, i = j ∧ j < b ∧ ∃ x, ns[j]? = some x ∧ (x.op = 2 ∨ x.op = 8 ∨ x.op = 9) ∧ (getS c.fs x.name = some v ∨ Loc1 c.lo x.name v) ∧
  (x.op = 2 → getI c.ki i = some v.kind) ∧ (x.op ≠ 2 → ∃ (k : Nat) (r : List Int), x.kids = (k : Int) :: r ∧ k < b ∧ getI c.ki (k : Int) = some v.kind)
theorem InvC.le {ns : List No} {c : CS} {b b' : Nat} (h : InvC ns c b) (hb : b ≤ b') : InvC ns c b' :=
 ⟨h.sc, fun i v hv => by
  obtain ⟨j, h1, h2, x, h3, h4, h5, h6, h7⟩ := h.va i v hv
  exact ⟨j, h1, by omega, x, h3, h4, h5, h6, fun hne => by
   obtain ⟨k, r, g1, g2, g3⟩ := h7 hne
   exact ⟨k, r, g1, by omega, g3⟩⟩⟩
inductive OpR (c : CS) (i : Int) (x : No) (ks : List Int) : Int → CS → Prop
 | same {k} : x.op ≠ 2 → x.op ≠ 8 → x.op ≠ 9 → OpR c i x ks k c
 | var {v} : x.op = 2 → findS c x.name = some v → OpR c i x ks v.kind {c with va := putI c.va i v}
 | lett {y r} : x.op = 8 → ks = y :: r → OpR c i x ks 0 {c with sc := putS c.sc x.name ⟨y, c.lo.length, false⟩, le := putS c.le x.name true, lo := c.lo ++ [⟨x.name, y⟩], va := putI c.va i ⟨y, c.lo.length, false⟩}
 | asg {v r} : x.op = 9 → ks = v.kind :: r → findS c x.name = some v → OpR c i x ks 0 {c with va := putI c.va i v}
theorem use_z {c : CS} {i : Int} {s : List Nat} (h : (useS c i s).2.er = 0) : ∃ v, findS c s = some v ∧ useS c i s = (v, {c with va := putI c.va i v}) := by
 unfold useS at h ⊢
 cases hf : findS c s with
 | some v => exact ⟨v, rfl, rfl⟩
 | none => rw [hf] at h; exact absurd h (fail_ne (by decide))
theorem err_z {c : CS} {i e : Int} (h : (errS c i e).er = 0) : errS c i e = c := by
 unfold errS at h ⊢
 split
 ·rfl
 ·rename_i hne
  rw [if_neg hne] at h
  exact absurd h (fail_ne hne)
theorem op_r {c c' : CS} {i k : Int} {x : No} {ks : List Int} (h : opT c i x ks = some (k, c')) (h0 : c'.er = 0) : OpR c i x ks k c' := by
 unfold opT at h
 by_cases h7 : x.op = 7
 ·rw [if_pos h7] at h
  unfold calT at h
  cases hl : lookS c.pr x.name x.v.s with
  | none =>
   rw [hl] at h
   simp only [Option.some.injEq, Prod.mk.injEq] at h
   rw [← h.2] at h0
   exact absurd h0 (fail_ne (by decide))
  | some m =>
   rw [hl] at h
   match ks, h with
   | a :: r, h =>
    simp only [Option.some.injEq, Prod.mk.injEq] at h
    rw [← h.2] at h0 ⊢
    rw [want_id h0]
    exact .same (by omega) (by omega) (by omega)
 rw [if_neg h7] at h
 by_cases h6 : x.op ≤ 6
 ·rw [if_pos h6] at h
  unfold exprT at h
  by_cases h1 : x.op = 1
  ·rw [if_pos h1] at h
   simp only [Option.some.injEq, Prod.mk.injEq] at h
   rw [← h.2]
   exact .same (by omega) (by omega) (by omega)
  rw [if_neg h1] at h
  by_cases h3 : x.op = 3
  ·rw [if_pos h3] at h
   simp only [Option.some.injEq, Prod.mk.injEq] at h
   rw [← h.2]
   exact .same (by omega) (by omega) (by omega)
  rw [if_neg h3] at h
  by_cases h2 : x.op = 2
  ·rw [if_pos h2] at h
   simp only [Option.some.injEq, Prod.mk.injEq] at h
   rw [← h.2] at h0
   obtain ⟨v, g1, g2⟩ := use_z h0
   rw [← h.1, ← h.2, g2]
   exact .var h2 g1
  rw [if_neg h2] at h
  by_cases h4 : x.op = 4
  ·rw [if_pos h4] at h
   match ks, h with
   | a :: r, h =>
    simp only [Option.some.injEq, Prod.mk.injEq] at h
    rw [← h.2] at h0 ⊢
    rw [want_id h0]
    exact .same (by omega) (by omega) (by omega)
  rw [if_neg h4] at h
  by_cases h5 : x.op = 5
  ·rw [if_pos h5] at h
   match ks, h with
   | a :: b :: r, h =>
    simp only [Option.some.injEq, Prod.mk.injEq] at h
    rw [← h.2] at h0 ⊢
    rw [want_id h0]
    exact .same (by omega) (by omega) (by omega)
  rw [if_neg h5] at h
  simp only [Option.some.injEq, Prod.mk.injEq] at h
  rw [← h.2] at h0 ⊢
  rw [err_z h0]
  exact .same (by omega) (by omega) (by omega)
 rw [if_neg h6] at h
 cases hs : stmtT c i x ks with
 | none => rw [hs] at h; cases h
 | some c1 =>
  rw [hs] at h
  simp only [Option.some.injEq, Prod.mk.injEq] at h
  obtain ⟨rfl, rfl⟩ := h
  unfold stmtT at hs
  by_cases h8 : x.op = 8
  ·rw [if_pos h8] at hs
   match ks, hs with
   | y :: r, hs =>
    simp only at hs
    have hz := let_er hs h0
    unfold letS at hs
    cases hd : declS (wantS (let1 c i x) i (decide (y = x.v.k))) x.name x.v.k with
    | none => rw [hd] at hs; cases hs
    | some c2 =>
     rw [hd] at hs
     simp only [Option.some.injEq] at hs
     rw [← hs] at h0
     have e2 := use_er h0
     rw [decl_er hd] at e2
     have hy := want_b e2
     rw [want_id e2] at hd
     simp only [decide_eq_true_eq] at hy
     have e3 := want_er e2
     have hl1 : let1 c i x = c ∧ dupS c x.name ≠ true := by
      unfold let1 at e3 ⊢
      split
      ·rename_i hdup
       rw [if_pos hdup] at e3
       exact absurd e3 (fail_ne (by decide))
      ·rename_i hdup
       rw [if_neg hdup] at e3
       split
       ·rename_i h8'
        rw [if_pos h8'] at e3
        exact absurd e3 (fail_ne (by decide))
       ·exact ⟨rfl, hdup⟩
     rw [hl1.1] at hd
     unfold declS at hd
     split at hd
     ·simp only [Option.some.injEq] at hd
      subst hd
      obtain ⟨v, g1, g2⟩ := use_z h0
      rw [g2] at hs
      have hfs : getS c.fs x.name = none := by
       cases hg : getS c.fs x.name with
       | none => rfl
       | some w => exact absurd (by unfold dupS; rw [hg]) hl1.2
      unfold findS at g1
      simp only [hfs, getS_put, if_true, Option.some.injEq] at g1
      rw [← hs, ← g1, ← hy]
      exact .lett h8 rfl
     ·cases hd
  rw [if_neg h8] at hs
  by_cases h9 : x.op = 9
  ·rw [if_pos h9] at hs
   match ks, hs with
   | y :: r, hs =>
    simp only [Option.some.injEq] at hs
    rw [← hs] at h0 ⊢
    have hb := want_b h0
    rw [want_id h0]
    obtain ⟨v, g1, g2⟩ := use_z (want_er h0)
    rw [g2] at hb ⊢
    simp only [decide_eq_true_eq] at hb
    exact .asg h9 (by rw [hb]) g1
  rw [if_neg h9] at hs
  have hsame : c1 = c := by
   by_cases h11 : x.op = 11 ∨ x.op = 12
   ·rw [if_pos h11] at hs
    match ks, hs with
    | y :: r, hs =>
     simp only [Option.some.injEq] at hs
     rw [← hs] at h0 ⊢
     exact want_id h0
   rw [if_neg h11] at hs
   by_cases h13 : x.op = 13
   ·rw [if_pos h13] at hs
    match ks, hs with
    | [], hs =>
     simp only [Option.some.injEq] at hs
     rw [← hs] at h0 ⊢
     exact want_id h0
    | y :: r, hs =>
     simp only [Option.some.injEq] at hs
     rw [← hs] at h0 ⊢
     rw [want_id h0]
     exact want_id (want_er h0)
   rw [if_neg h13] at hs
   by_cases h15 : x.op = 15
   ·rw [if_pos h15] at hs
    simp only [Option.some.injEq] at hs
    rw [← hs] at h0 ⊢
    exact want_id h0
   rw [if_neg h15] at hs
   by_cases h16 : x.op = 16
   ·rw [if_pos h16] at hs
    simp only [Option.some.injEq] at hs
    rw [← hs] at h0 ⊢
    exact want_id h0
   rw [if_neg h16] at hs
   by_cases h17 : x.op = 17
   ·rw [if_pos h17] at hs
    match ks, hs with
    | y :: r, hs =>
     simp only [Option.some.injEq] at hs
     rw [← hs] at h0 ⊢
     exact want_id h0
   rw [if_neg h17] at hs
   simp only [Option.some.injEq] at hs
   exact hs.symm
  subst hsame
  exact .same (by omega) h8 h9
structure Kp (c c' : CS) (b : Nat) : Prop where
 lo : Grow c.lo c'.lo
 ki : ∀ j : Nat, j < b → getI c'.ki (j : Int) = getI c.ki (j : Int)
theorem Kp.refl (c : CS) (b : Nat) : Kp c c b := ⟨fun _ _ h => h, fun _ _ => rfl⟩
theorem Kp.trans {a b c : CS} {k k' : Nat} (h : Kp a b k) (g : Kp b c k') (hk : k ≤ k') : Kp a c k := ⟨fun j x hx => g.lo j x (h.lo j x hx), fun j hj => (g.ki j (by omega)).trans (h.ki j hj)⟩
theorem grow_app (lo : List Pa) (x : Pa) : Grow lo (lo ++ [x]) := fun j y h => by
 have : j < lo.length := by
  rcases Nat.lt_or_ge j lo.length with h1 | h1
  ·exact h1
  ·rw [List.getElem?_eq_none h1] at h; cases h
 rw [List.getElem?_append_left this]; exact h
theorem ki_note (c : CS) (i : Int) (x : No) (k : Int) (j : Int) : getI (noteT c i x k).ki j = if x.op ≤ 7 ∧ j = i then some k else getI c.ki j := by
 unfold noteT
 by_cases h : x.op ≤ 7
 ·rw [if_pos h, getI_put]
  by_cases hj : j = i <;> simp [h, hj]
 ·rw [if_neg h, if_neg (fun g => h g.1)]
theorem note_rest (c : CS) (i : Int) (x : No) (k : Int) : (noteT c i x k).va = c.va ∧ (noteT c i x k).sc = c.sc ∧ (noteT c i x k).lo = c.lo ∧ (noteT c i x k).fs = c.fs := by
 unfold noteT; split <;> exact ⟨rfl, rfl, rfl, rfl⟩
theorem find_ok {ns : List No} {c : CS} {b : Nat} {s : List Nat} {v : Vr} (h : InvC ns c b) (hf : findS c s = some v) : getS c.fs s = some v ∨ Loc1 c.lo s v := by
 unfold findS at hf
 cases hg : getS c.fs s with
 | some w => rw [hg] at hf; left; exact hf
 | none => rw [hg] at hf; right; exact h.sc _ _ hf
theorem inv_node {ns : List No} {c c' : CS} {i : Nat} {x : No} {ks : List Int} {k : Int} (hx : ns[i]? = some x) (h : InvC ns c i) (hr : OpR c i x ks k c')
  (hk : ∀ y r, ks = y :: r → x.op = 8 ∨ x.op = 9 → ∃ (q : Nat) (t : List Int), x.kids = (q : Int) :: t ∧ q < i ∧ getI c.ki (q : Int) = some y) : InvC ns (noteT c' i x k) (i + 1) ∧ Kp c (noteT c' i x k) i ∧ (x.op ≤ 7 → getI (noteT c' i x k).ki (i : Int) = some k) := by
 obtain ⟨n1, n2, n3, n4⟩ := note_rest c' i x k
 have hki : c'.ki = c.ki := by cases hr <;> rfl
 have hlo : Grow c.lo c'.lo := by cases hr <;> first | exact fun _ _ h => h | exact grow_app _ _
 have hfs : c'.fs = c.fs := by cases hr <;> rfl
 have hnew : ∀ j : Nat, j < i → getI (noteT c' i x k).ki (j : Int) = getI c.ki (j : Int) := fun j hj => by
  rw [ki_note, if_neg (by omega), hki]
 have hloc : ∀ s v, Loc1 c.lo s v → Loc1 c'.lo s v := fun s v g => g.mono hlo
 refine ⟨⟨?_, ?_⟩, ⟨by rw [n3]; exact hlo, hnew⟩, fun h7 => by rw [ki_note, if_pos ⟨h7, rfl⟩]⟩
 ·rw [n2, n3]
  cases hr with
  | same => exact h.sc
  | var => exact h.sc
  | asg => exact h.sc
  | @lett y r h8 hks =>
   intro s v hv
   simp only [getS_put] at hv
   split at hv
   ·rename_i e
    simp only [Option.some.injEq] at hv
    subst hv e
    exact ⟨rfl, _, rfl, by simp⟩
   ·exact (h.sc _ _ hv).mono (grow_app _ _)
 ·rw [n1, n3, n4, hfs]
  have old : ∀ j v, getI c.va j = some v → ∃ q : Nat, j = q ∧ q < i + 1 ∧ ∃ z, ns[q]? = some z ∧ (z.op = 2 ∨ z.op = 8 ∨ z.op = 9) ∧ (getS c.fs z.name = some v ∨ Loc1 c'.lo z.name v) ∧
    (z.op = 2 → getI (noteT c' i x k).ki j = some v.kind) ∧ (z.op ≠ 2 → ∃ (e : Nat) (r : List Int), z.kids = (e : Int) :: r ∧ e < i + 1 ∧ getI (noteT c' i x k).ki (e : Int) = some v.kind) := by
   intro j v hv
   obtain ⟨q, g1, g2, z, g3, g4, g5, g6, g7⟩ := h.va j v hv
   subst g1
   refine ⟨q, rfl, by omega, z, g3, g4, g5.imp_right (hloc _ _), fun h2 => by rw [hnew q g2]; exact g6 h2, fun h2 => ?_⟩
   obtain ⟨e, r, e1, e2, e3⟩ := g7 h2
   exact ⟨e, r, e1, by omega, by rw [hnew e e2]; exact e3⟩
  cases hr with
  | same => exact old
  | @var v h2 hf =>
   intro j w hw
   simp only [getI_put] at hw
   split at hw
   ·rename_i e
    simp only [Option.some.injEq] at hw
    subst hw e
    exact ⟨i, rfl, by omega, x, hx, .inl h2, find_ok h hf, fun _ => by rw [ki_note, if_pos ⟨by omega, rfl⟩], fun hne => absurd h2 hne⟩
   ·exact old j w hw
  | @asg v r h9 hks hf =>
   intro j w hw
   simp only [getI_put] at hw
   split at hw
   ·rename_i e
    simp only [Option.some.injEq] at hw
    subst hw e
    obtain ⟨q, t, g1, g2, g3⟩ := hk _ _ hks (.inr h9)
    exact ⟨i, rfl, by omega, x, hx, .inr (.inr h9), find_ok h hf, fun h2 => by omega, fun _ => ⟨q, t, g1, by omega, by rw [hnew q g2]; exact g3⟩⟩
   ·exact old j w hw
  | @lett y r h8 hks =>
   intro j w hw
   simp only [getI_put] at hw
   split at hw
   ·rename_i e
    simp only [Option.some.injEq] at hw
    subst hw e
    obtain ⟨q, t, g1, g2, g3⟩ := hk _ _ hks (.inl h8)
    exact ⟨i, rfl, by omega, x, hx, .inr (.inl h8), .inr ⟨rfl, _, rfl, by simp⟩, fun h2 => by omega, fun _ => ⟨q, t, g1, by omega, by rw [hnew q g2]; exact g3⟩⟩
   ·exact old j w hw
theorem hs_lt {ns : List No} {i : Nat} {x : No} (h : ns[i]? = some x) : i < ns.length := by
 rcases Nat.lt_or_ge i ns.length with h1 | h1
 ·exact h1
 ·rw [List.getElem?_eq_none h1] at h; cases h
def VisI (ns : List No) (f : Nat) : Prop := ∀ (lo i : Nat), Sub ns lo i → ∀ (c : CS) (d : Bool) (k : Int) (c' : CS), c.ns = ns → visT f c (i : Int) d = some (k, c') → c'.er = 0 → InvC ns c lo → InvC ns c' (i + 1) ∧ Kp c c' lo ∧ (∀ x, ns[i]? = some x → x.op ≤ 7 → getI c'.ki (i : Int) = some k)
theorem kids_inv {ns : List No} {f : Nat} (hv : VisI ns f) : ∀ (l : List Int) (lo hi : Nat), Ch ns lo l hi → ∀ (c : CS) (ks : List Int) (c' : CS), c.ns = ns → kidsM (fun c k => visT f c k false) c l = some (ks, c') → c'.er = 0 → InvC ns c lo → InvC ns c' hi ∧ Kp c c' lo ∧
  (∀ y r, ks = y :: r → ∃ (q : Nat) (t : List Int), l = (q : Int) :: t ∧ q < hi ∧ (∀ x, ns[q]? = some x → x.op ≤ 7 → getI c'.ki (q : Int) = some y))
 | [], lo, hi, h, c, ks, c', hc, hk, h0, hi' => by
  cases h
  simp only [kidsM, Option.some.injEq, Prod.mk.injEq] at hk
  obtain ⟨rfl, rfl⟩ := hk
  exact ⟨hi', Kp.refl _ _, fun y r e => by cases e⟩
 | _ :: l, lo, hi, h, c, ks, c', hc, hk, h0, hi' => by
  cases h with
  | @cons _ q _ _ h1 h2 =>
   simp only [kidsM] at hk
   cases e1 : visT f c (q : Int) false with
   | none => rw [e1] at hk; cases hk
   | some r1 =>
    obtain ⟨y, c1⟩ := r1
    rw [e1] at hk
    simp only at hk
    cases e2 : kidsM (fun c k => visT f c k false) c1 l with
    | none => rw [e2] at hk; cases hk
    | some r2 =>
     obtain ⟨ys, c2⟩ := r2
     rw [e2] at hk
     simp only [Option.some.injEq, Prod.mk.injEq] at hk
     obtain ⟨rfl, rfl⟩ := hk
     have z1 : c1.er = 0 := kids_er (fun c k r e => vis_er f c k false r e) l c1 e2 h0
     have s1 := vis_stat f c q false _ e1
     obtain ⟨a1, a2, a3⟩ := hv lo q h1 c false y c1 hc e1 z1 hi'
     obtain ⟨b1, b2, b3⟩ := kids_inv hv l (q + 1) hi h2 c1 ys c2 (s1.ns.trans hc) e2 h0 a1
     have l1 := h1.le
     have l2 := h2.le
     refine ⟨b1, a2.trans b2 (by omega), fun y' r e => ?_⟩
     simp only [List.cons.injEq] at e
     obtain ⟨rfl, _⟩ := e
     exact ⟨q, l, rfl, by omega, fun x hx ho => by rw [b2.ki q (by omega)]; exact a3 x hx ho⟩
theorem blk_inv {ns : List No} {f : Nat} (hv : VisI ns f) : ∀ (l : List Int) (lo hi : Nat), Ch ns lo l hi → ∀ (c : CS) (d : Bool) (c' : CS), c.ns = ns → blkM (visT f) c l d = some c' → c'.er = 0 → InvC ns c lo → InvC ns c' hi ∧ Kp c c' lo
 | [], lo, hi, h, c, d, c', hc, hk, h0, hi' => by
  cases h
  simp only [blkM, Option.some.injEq] at hk
  subst hk
  exact ⟨hi', Kp.refl _ _⟩
 | _ :: l, lo, hi, h, c, d, c', hc, hk, h0, hi' => by
  cases h with
  | @cons _ q _ _ h1 h2 =>
   simp only [blkM] at hk
   cases e1 : visT f c (q : Int) d with
   | none => rw [e1] at hk; cases hk
   | some r1 =>
    obtain ⟨y, c1⟩ := r1
    rw [e1] at hk
    simp only at hk
    have z1 : c1.er = 0 := blk_er (fun c k d r e => vis_er f c k d r e) l c1 _ hk h0
    have s1 := vis_stat f c q d _ e1
    obtain ⟨a1, a2, _⟩ := hv lo q h1 c d y c1 hc e1 z1 hi'
    obtain ⟨b1, b2⟩ := blk_inv hv l (q + 1) hi h2 c1 _ c' (s1.ns.trans hc) hk h0 a1
    have l1 := h1.le
    exact ⟨b1, a2.trans b2 (by omega)⟩
theorem vis_inv {ns : List No} (hb : ∀ x ∈ ns, x.op = 8 ∨ x.op = 9 → ∀ k ∈ x.kids, ∀ y, atT ns k = some y → y.op ≤ 7) : ∀ f, VisI ns f
 | 0, lo, i, hs, c, d, k, c', hc, h, h0, hi => by simp [visT] at h
 | f + 1, lo, i, hs, c, d, k, c', hc, h, h0, hi => by
  have hle := hs.le
  cases hs with
  | @mk _ _ x hx hch =>
   have hx' : atT c.ns (i : Int) = some x := by rw [hc, atT_nat]; exact hx
   have hxm : x ∈ ns := List.mem_of_getElem? hx
   simp only [visT, hx'] at h
   by_cases h18 : x.op = 18
   ·rw [if_pos h18] at h
    unfold blockT at h
    cases e1 : blkM (visT f) c x.kids false with
    | none => rw [e1] at h; cases h
    | some c1 =>
     rw [e1] at h
     simp only [Option.some.injEq, Prod.mk.injEq] at h
     have hfin : c' = {c1 with sc := c.sc} := by
      rw [← h.2]
      split
      ·rename_i he
       rw [← h.2, if_pos he] at h0
       exact want_id h0
      ·rfl
     have z1 : c1.er = 0 := by rw [hfin] at h0; exact h0
     obtain ⟨a1, a2⟩ := blk_inv (vis_inv hb f) x.kids lo i hch c false c1 hc e1 z1 hi
     rw [hfin]
     refine ⟨⟨fun s v hv => (hi.sc s v hv).mono a2.lo, (a1.le (Nat.le_succ i)).va⟩, ⟨a2.lo, a2.ki⟩, fun y hy ho => ?_⟩
     rw [hx] at hy
     simp only [Option.some.injEq] at hy
     subst hy
     omega
   ·rw [if_neg h18] at h
    cases e1 : kidsM (fun c k => visT f c k false) c x.kids with
    | none => rw [e1] at h; cases h
    | some r1 =>
     obtain ⟨ks, c1⟩ := r1
     rw [e1] at h
     simp only at h
     by_cases z1 : c1.er = 0
     ·rw [if_pos z1] at h
      cases e2 : opT c1 (i : Int) x ks with
      | none => rw [e2] at h; cases h
      | some r2 =>
       obtain ⟨k2, c2⟩ := r2
       rw [e2] at h
       simp only [Option.some.injEq, Prod.mk.injEq] at h
       obtain ⟨rfl, rfl⟩ := h
       rw [note_er] at h0
       rw [want_id h0]
       have z2 := want_er h0
       obtain ⟨a1, a2, a3⟩ := kids_inv (vis_inv hb f) x.kids lo i hch c ks c1 hc e1 z1 hi
       obtain ⟨b1, b2, b3⟩ := inv_node hx a1 (op_r e2 z2) (fun y r e ho => by
        obtain ⟨q, t, g1, g2, g3⟩ := a3 y r e
        have hq : ns[q]? ≠ none := by
         have := hs_lt hx
         rw [List.getElem?_eq_getElem (by omega)]; simp
        cases hz : ns[q]? with
        | none => exact absurd hz hq
        | some z =>
         refine ⟨q, t, g1, g2, g3 z hz (hb x hxm ho (q : Int) (by rw [g1]; exact List.mem_cons_self ..) z (by rw [atT_nat]; exact hz))⟩)
       refine ⟨b1, a2.trans b2 hch.le, fun y hy ho => ?_⟩
       rw [hx] at hy
       simp only [Option.some.injEq] at hy
       subst hy
       exact b3 ho
     ·rw [if_neg z1] at h
      simp only [Option.some.injEq, Prod.mk.injEq] at h
      rw [← h.2] at h0
      exact absurd h0 z1
theorem par_inv {ns : List No} : ∀ (l : List Pa) (c c' : CS), parT c l = some (some c') → InvC ns c 0 → InvC ns c' 0
 | [], c, c', h, hi => by
  simp only [parT, Option.some.injEq] at h
  subst h; exact hi
 | p :: l, c, c', h, hi => by
  simp only [parT] at h
  split at h
  ·cases h
  ·cases hd : declS c p.name p.kind with
   | none => rw [hd] at h; cases h
   | some c1 =>
    rw [hd] at h
    refine par_inv l c1 c' h ?_
    unfold declS at hd
    split at hd
    ·simp only [Option.some.injEq] at hd
     subst hd
     refine ⟨fun s v hv => ?_, fun i v hv => ?_⟩
     ·simp only [getS_put] at hv
      split at hv
      ·rename_i e
       simp only [Option.some.injEq] at hv
       subst hv e
       exact ⟨rfl, _, rfl, by simp⟩
      ·exact (hi.sc _ _ hv).mono (grow_app _ _)
     ·obtain ⟨j, _, g, _⟩ := hi.va i v hv
      omega
    ·cases hd
theorem check_inv {f : Nat} {pr : List Ac} {fs : List (List Nat × Vr)} {m : Me} {c : CS} (h : checkT f pr fs m = some (some c)) (h0 : c.er = 0) (hb : BodyOk m.nodes) : InvC m.nodes c m.nodes.length ∧ c.fs = fs := by
 unfold checkT at h
 cases hp : parT (CS.init pr fs m) m.params with
 | none => rw [hp] at h; cases h
 | some o =>
  cases o with
  | none => rw [hp] at h; cases h
  | some c1 =>
   rw [hp] at h
   simp only at h
   obtain ⟨k, hs, hk⟩ := hb.tree
   have he : ((m.nodes.length : Int) - 1) = (k : Int) := by omega
   rw [he] at h
   cases hv : visT f c1 (k : Int) false with
   | none => rw [hv] at h; cases h
   | some r =>
    obtain ⟨y, c2⟩ := r
    rw [hv] at h
    simp only [Option.some.injEq] at h
    subst h
    have hst := par_stat _ _ hp
    have h1 : InvC m.nodes c1 0 := par_inv _ _ _ hp ⟨fun s v hv => by simp [CS.init, getS] at hv, fun i v hv => by simp [CS.init, getI] at hv⟩
    obtain ⟨a1, _, _⟩ := vis_inv hb.lets f 0 k hs c1 false y c2 hst.ns hv h0 h1
    have hst2 := vis_stat _ _ _ _ _ hv
    exact ⟨hk ▸ a1, hst2.fs.trans hst.fs⟩
theorem fld_ok (all : List Fe) : ∀ (l : List Fe) (k : Nat) (acc fs : List (List Nat × Vr)), all.drop k = l → fldT acc l k = some fs → (∀ s v, getS acc s = some v → v.field = true ∧ ∃ (j : Nat) (f : Fe), v.slot = j ∧ all[j]? = some f ∧ f.name = s ∧ f.kind = v.kind) →
  ∀ s v, getS fs s = some v → v.field = true ∧ ∃ (j : Nat) (f : Fe), v.slot = j ∧ all[j]? = some f ∧ f.name = s ∧ f.kind = v.kind
 | [], k, acc, fs, hd, h, ha => by
  simp only [fldT, Option.some.injEq] at h
  subst h; exact ha
 | x :: l, k, acc, fs, hd, h, ha => by
  simp only [fldT] at h
  have hlt : k < all.length := by
   rcases Nat.lt_or_ge k all.length with h1 | h1
   ·exact h1
   ·rw [List.drop_eq_nil_of_le h1] at hd; cases hd
  rw [List.drop_eq_getElem_cons hlt] at hd
  simp only [List.cons.injEq] at hd
  cases hg : getS acc x.name with
  | some w => rw [hg] at h; cases h
  | none =>
   rw [hg] at h
   refine fld_ok all l (k + 1) _ fs hd.2 h fun s v hv => ?_
   rw [getS_put] at hv
   split at hv
   ·rename_i e
    simp only [Option.some.injEq] at hv
    subst hv
    exact ⟨rfl, k, x, rfl, by rw [List.getElem?_eq_getElem hlt, hd.1], e.symm, rfl⟩
   ·exact ha s v hv
theorem met_good {f : Nat} {p : List Ac} {fs : List (List Nat × Vr)} {i : Nat} {all : List Me} : ∀ (r : List Me) (j : Nat) (acc l : List CS), metT f p fs i all r j acc = some (.inr l) → ∃ l', l = acc ++ l' ∧ l'.length = r.length ∧ ∀ (q : Nat) c, l'[q]? = some c → ∃ m, r[q]? = some m ∧ checkT f p fs m = some (some c) ∧ c.er = 0
 | [], j, acc, l, h => by
  simp only [metT, Option.some.injEq, Sum.inr.injEq] at h
  exact ⟨[], by simp [h], rfl, fun q c hc => by simp at hc⟩
 | m :: r, j, acc, l, h => by
  simp only [metT] at h
  split at h
  ·cases h
  ·cases hc : checkT f p fs m with
   | none => rw [hc] at h; cases h
   | some o =>
    cases o with
    | none => rw [hc] at h; cases h
    | some c =>
     rw [hc] at h
     simp only at h
     split at h
     ·rename_i h0
      obtain ⟨l', g1, g2, g3⟩ := met_good r (j + 1) (acc ++ [c]) l h
      refine ⟨c :: l', by rw [g1]; simp, by simp [g2], fun q c' hq => ?_⟩
      cases q with
      | zero =>
       simp only [List.getElem?_cons_zero, Option.some.injEq] at hq
       subst hq
       exact ⟨m, rfl, hc, h0⟩
      | succ q =>
       simp only [List.getElem?_cons_succ] at hq ⊢
       exact g3 q c' hq
     ·cases h
theorem met_bad {f : Nat} {p : List Ac} {fs : List (List Nat × Vr)} {i : Nat} {all : List Me} {bs : List (List CS)} : ∀ (r : List Me) (j : Nat) (acc : List CS), ¬ metT f p fs i all r j acc = some (.inl (.good bs))
 | [], j, acc, h => by simp [metT] at h
 | m :: r, j, acc, h => by
  simp only [metT] at h
  split at h
  ·cases h
  ·split at h
   ·cases h
   ·cases h
   ·split at h
    ·exact met_bad r _ _ h
    ·cases h
theorem typ_good {f : Nat} {p : List Ac} : ∀ (r : List Ac) (j : Nat) (acc bs : List (List CS)), typT f p r j acc = some (.good bs) → ∃ l', bs = acc ++ l' ∧ l'.length = r.length ∧ ∀ (q : Nat) l, l'[q]? = some l → ∃ a fs, r[q]? = some a ∧ fldT [] a.fields 0 = some fs ∧ l.length = a.methods.length ∧ ∀ (w : Nat) c, l[w]? = some c → ∃ m, a.methods[w]? = some m ∧ checkT f p fs m = some (some c) ∧ c.er = 0
 | [], j, acc, bs, h => by
  simp only [typT, Option.some.injEq, An.good.injEq] at h
  exact ⟨[], by simp [h], rfl, fun q c hc => by simp at hc⟩
 | a :: r, j, acc, bs, h => by
  simp only [typT] at h
  split at h
  ·cases h
  ·cases hf : fldT [] a.fields 0 with
   | none => rw [hf] at h; cases h
   | some fs =>
    rw [hf] at h
    simp only at h
    cases hm : metT f p fs j a.methods a.methods 0 [] with
    | none => rw [hm] at h; cases h
    | some o =>
     cases o with
     | inl e =>
      rw [hm] at h
      simp only [Option.some.injEq] at h
      subst h
      exact absurd hm (met_bad _ _ _)
     | inr l =>
      rw [hm] at h
      simp only at h
      obtain ⟨l', g1, g2, g3⟩ := typ_good r (j + 1) (acc ++ [l]) bs h
      refine ⟨l :: l', by rw [g1]; simp, by simp [g2], fun q l0 hq => ?_⟩
      cases q with
      | zero =>
       simp only [List.getElem?_cons_zero, Option.some.injEq] at hq
       subst hq
       obtain ⟨l1, k1, k2, k3⟩ := met_good a.methods 0 [] l hm
       simp only [List.nil_append] at k1
       subst k1
       exact ⟨a, fs, rfl, hf, k2, k3⟩
      | succ q =>
       simp only [List.getElem?_cons_succ] at hq ⊢
       exact g3 q l0 hq
def bodyAt (bs : List (List CS)) (t m : Int) : Option CS := match atT bs t with | some l => atT l m | none => none
theorem atT_get {α : Type} {l : List α} {i : Int} {x : α} (h : atT l i = some x) : ∃ j : Nat, i = j ∧ l[j]? = some x := by
 unfold atT at h
 split at h
 ·exact ⟨i.toNat, by omega, h⟩
 ·cases h
theorem slots_ok {p : List Ac} {bs : List (List CS)} (hv : ∀ a ∈ p, ∀ m ∈ a.methods, BodyOk m.nodes) (ht : typT 1000 p p 0 [] = some (.good bs)) {t m n : Int} {c : CS} {v : Vr} (hb : bodyAt bs t m = some c) (hn : getI c.va n = some v) :
  ∃ a me x, atT p t = some a ∧ atT a.methods m = some me ∧ atT me.nodes n = some x ∧
   (v.field = true ∧ (∃ f, atT a.fields v.slot = some f ∧ f.name = x.name ∧ f.kind = v.kind) ∨ v.field = false ∧ ∃ pa, atT c.lo v.slot = some pa ∧ pa.name = x.name ∧ pa.kind = v.kind) ∧
   (x.op = 2 → getI c.ki n = some v.kind) ∧ (x.op ≠ 2 → ∃ k r, x.kids = k :: r ∧ getI c.ki k = some v.kind) := by
 obtain ⟨l', g1, g2, g3⟩ := typ_good p 0 [] bs ht
 simp only [List.nil_append] at g1
 subst g1
 unfold bodyAt at hb
 cases hl : atT bs t with
 | none => rw [hl] at hb; cases hb
 | some l =>
  rw [hl] at hb
  obtain ⟨tn, rfl, hl2⟩ := atT_get hl
  obtain ⟨mn, rfl, hm2⟩ := atT_get hb
  obtain ⟨a, fs, ha, hf, _, hcs⟩ := g3 tn l hl2
  obtain ⟨me, hme, hck, h0⟩ := hcs mn c hm2
  have hbo := hv a (List.mem_of_getElem? ha) me (List.mem_of_getElem? hme)
  obtain ⟨hinv, hfs⟩ := check_inv hck h0 hbo
  obtain ⟨j, rfl, hj, x, hx, hop, hvar, hk1, hk2⟩ := hinv.va n v hn
  refine ⟨a, me, x, by rw [atT_nat]; exact ha, by rw [atT_nat]; exact hme, by rw [atT_nat]; exact hx, ?_, hk1, fun hne => ?_⟩
  ·rcases hvar with hvar | ⟨e1, q, e2, e3⟩
   ·left
    rw [hfs] at hvar
    obtain ⟨f1, q, f, f2, f3, f4, f5⟩ := fld_ok a.fields a.fields 0 [] fs rfl hf (fun s v hv => by simp [getS] at hv) _ _ hvar
    exact ⟨f1, f, by rw [f2, atT_nat]; exact f3, f4, f5⟩
   ·right
    exact ⟨e1, _, by rw [e2, atT_nat]; exact e3, rfl, rfl⟩
  ·obtain ⟨k, r, e1, _, e3⟩ := hk2 hne
   exact ⟨k, r, e1, e3⟩
end
end Go.Ab
end
/- What is told of programs. -/
section
namespace Go.Ab
open Go
set_option maxRecDepth 100000
noncomputable section
structure Szd (p : List Ac) : Prop where
 ty : p.length < 1000
 ac : ∀ a ∈ p, SzA a
theorem Szd.p {p : List Ac} (h : Szd p) : SzP p := ⟨h.ty, fun a ha => (h.ac a ha).me, fun a ha => (h.ac a ha).fl, fun a ha m hm => ⟨((h.ac a ha).mm m hm).ns, fun x hx => (((h.ac a ha).mm m hm).nx x hx).ks, ((h.ac a ha).mm m hm).ps⟩⟩
theorem met_def {p : List Ac} {fs : List (List Nat × Vr)} {i : Nat} {all : List Me} : ∀ (r : List Me) (j : Nat) (acc : List CS), (∀ m ∈ r, BodyOk m.nodes ∧ m.nodes.length < 1000 ∧ m.params.length < 1000) → ∃ o, metT 1000 p fs i all r j acc = some o
 | [], j, acc, _ => ⟨_, rfl⟩
 | m :: r, j, acc, h => by
  obtain ⟨h1, h2, h3⟩ := h m (List.mem_cons_self ..)
  simp only [metT]
  split
  ·exact ⟨_, rfl⟩
  ·obtain ⟨o, ho⟩ := check_def p fs m h1 h2 h3
   rw [ho]
   cases o with
   | none => exact ⟨_, rfl⟩
   | some c =>
    simp only
    split
    ·exact met_def r (j + 1) _ fun m hm => h m (List.mem_cons_of_mem _ hm)
    ·exact ⟨_, rfl⟩
theorem typ_def {p : List Ac} : ∀ (r : List Ac) (j : Nat) (acc : List (List CS)), (∀ a ∈ r, ∀ m ∈ a.methods, BodyOk m.nodes ∧ m.nodes.length < 1000 ∧ m.params.length < 1000) → ∃ o, typT 1000 p r j acc = some o
 | [], j, acc, _ => ⟨_, rfl⟩
 | a :: r, j, acc, h => by
  simp only [typT]
  split
  ·exact ⟨_, rfl⟩
  ·cases fldT [] a.fields 0 with
   | none => exact ⟨_, rfl⟩
   | some fs =>
    obtain ⟨o, ho⟩ := met_def (p := p) (fs := fs) (i := j) (all := a.methods) a.methods 0 [] (h a (List.mem_cons_self ..))
    simp only [ho]
    cases o with
    | inl e => exact ⟨_, rfl⟩
    | inr l => exact typ_def r (j + 1) _ fun b hb => h b (List.mem_cons_of_mem _ hb)
def anT (p : List Ac) : An := bif validT p then (typT 1000 p p 0 []).getD (.bad 0 0 0 1) else .bad 0 0 0 1
theorem an_good {p : List Ac} {bs : List (List CS)} (h : anT p = .good bs) : validT p = true ∧ typT 1000 p p 0 [] = some (.good bs) := by
 unfold anT at h
 cases hv : validT p with
 | false => rw [hv] at h; cases h
 | true =>
  rw [hv] at h
  simp only [cond_true] at h
  cases ht : typT 1000 p p 0 [] with
  | none => rw [ht] at h; cases h
  | some o => rw [ht] at h; simp only [Option.getD_some] at h; rw [h]; exact ⟨rfl, rfl⟩
theorem valid_def {p : List Ac} (hp : Szd p) (hv : validT p = true) : ∃ o, typT 1000 p p 0 [] = some o :=
 typ_def p 0 [] fun a ha m hm => ⟨((valid_ok hv).2 a ha m hm).1, ((hp.ac a ha).mm m hm).ns, ((hp.ac a ha).mm m hm).ps⟩
abbrev pD (p : List Ac) : D := .p (.agg [.slice 3 (p.map Ac.e)])
theorem E_An {n : Nat} (p : List Ac) (hp : Szd p) : evFn lay0.tab (n + 6002) 53 [pD p] [] = anD p (anT p) := by
 have hv := E_sValid (n := n + 4991) p hp.ac hp.ty
 refine E_Analyze (f := 1000) (n := n) p hp.p (validT p) (anT p) hv ?_
 unfold anT
 cases h : validT p with
 | false => exact .inl ⟨rfl, rfl⟩
 | true =>
  obtain ⟨o, ho⟩ := valid_def hp h
  exact .inr ⟨rfl, by rw [ho]; rfl⟩
def An.pl : An → api_Place | .bad t m n _ => ⟨t, m, n⟩ | .good _ => ⟨0, 0, 0⟩
def An.er : An → Int | .bad _ _ _ e => e | .good _ => 0
theorem dInf (c : Inf) (K : Inf → R) : d_Inf c.hp K = K c := rfl
theorem dPl (t m n : Int) (K : api_Place → R) : d_api_Place (plD t m n) K = K ⟨t, m, n⟩ := rfl
theorem bx_t (i o : Nat) (a b : R) : iL (isBoxD (.box i o)) a b = a := rfl
theorem bx_f (x : Da) (a b : R) : iL (isBoxD (.p x)) a b = b := rfl
theorem dBx (i o : Nat) (K : R) : dBox i o (.box i o) K = K := by unfold dBox; simp; rfl
theorem dNpn (K : R) : dNp .nilptr K = K := rfl
theorem An_bad {n : Nat} {p : List Ac} (hp : Szd p) {t m k e : Int} (ha : anT p = .bad t m k e) (K : KV) : evC lay0.tab (n + 6002) 53 [pD p] [] K = K (.tup [.p .nilptr, .p (plD t m k), .p (.int .i64 e)]) [] := evC_known (by rw [E_An p hp, ha]; rfl) K
theorem An_good {n : Nat} {p : List Ac} (hp : Szd p) {bs : List (List CS)} (ha : anT p = .good bs) (K : KV) : evC lay0.tab (n + 6002) 53 [pD p] [] K = K (.tup [.box 0 0, .p (plD 0 0 0), .p (.int .i64 0)]) (infO p bs).hp := evC_known (by rw [E_An p hp, ha]; rfl) K
theorem E_tCheck {n : Nat} (p : List Ac) (hp : Szd p) : evFn lay0.tab (n + 6003) 18 [pD p] [] = some (.tup [.p (anT p).pl.e, .p (.int .i64 (anT p).er)], []) := by
 apply T_tCheck (n + 6002) ⟨p.map Ac.e⟩
 unfold F_tCheck
 show evC lay0.tab (n + 6002) 53 [pD p] [] _ = _
 cases ha : anT p with
 | bad t m k e =>
  simp only [An_bad hp ha, dTup_k, dCons_k, dP_k, dNil_k, dInt_k, dPl, bx_t, bx_f, dBx, dNpn, dInf, dSame_k, dBool_k]; rfl
 | good bs =>
  simp only [An_good hp ha, dTup_k, dCons_k, dP_k, dNil_k, dInt_k, dPl, bx_t, bx_f, dBx, dNpn, dInf, dSame_k, dBool_k]; rfl
def bodyN : Option CS → Da
 | some c => bodyE c
 | none => .agg [.slice 2 [], .nilmap, .nilmap]
theorem E_ibody {n : Nat} (p : List Ac) (bs : List (List CS)) (t m : Int) : evFn lay0.tab (n + 1) 92 [.box 0 0, .p (.int .i64 t), .p (.int .i64 m)] (infO p bs).hp = some (.tup [.p (bodyN (bodyAt bs t m)), .p (.bool (bodyAt bs t m).isSome)], (infO p bs).hp) := by
 apply T_ibody n (infO p bs) t m
 unfold F_ibody bodyAt
 have hn : (infO p bs).bn = bs.length := rfl
 have hb : (infO p bs).bs = bs.map fun l => .slice 3 (l.map bodyE) := rfl
 by_cases h0 : t < 0
 ·rw [ltT h0, iL_t]
  have : atT bs t = none := by unfold atT; rw [if_neg (by omega)]
  rw [this]; rfl
 rw [ltF h0, iL_f, hn, leI_d, iL_dec]
 obtain ⟨j, rfl⟩ : ∃ j : Nat, t = (j : Int) := ⟨t.toNat, by omega⟩
 by_cases h1 : (bs.length : Int) ≤ (j : Int)
 ·rw [if_pos h1]
  have : atT bs (j : Int) = none := by rw [atT_nat, List.getElem?_eq_none (by omega)]
  rw [this]; rfl
 rw [if_neg h1]
 have hj : j < bs.length := by omega
 have hg : (infO p bs).bs[0 + (j : Int).toNat]? = some (.slice 3 (bs[j].map bodyE)) := by
  rw [hb, Nat.zero_add, Int.toNat_natCast, List.getElem?_map, List.getElem?_eq_getElem hj]; rfl
 rw [atT_lt hj]
 simp only [hg, leI_d, show (0 : Int) ≤ (j : Int) by omega, decide_true, iL_t, ltT (show (j : Int) < (bs.length : Int) by omega), cL_s]
 by_cases h2 : m < 0
 ·rw [ltT h2, iL_t]
  have : atT bs[j] m = none := by unfold atT; rw [if_neg (by omega)]
  rw [this]; rfl
 rw [ltF h2, iL_f]
 obtain ⟨i, rfl⟩ : ∃ j : Nat, m = (j : Int) := ⟨m.toNat, by omega⟩
 show iL (decide (((bs[j].map bodyE).length : Int) ≤ (i : Int))) _ (cL (at? (bs[j].map bodyE) (i : Int)) _) = _
 rw [List.length_map, iL_dec]
 by_cases h3 : (bs[j].length : Int) ≤ (i : Int)
 ·rw [if_pos h3]
  have : atT bs[j] (i : Int) = none := by rw [atT_nat, List.getElem?_eq_none (by omega)]
  rw [this]; rfl
 ·rw [if_neg h3, at_mapT, cL_map, atT_lt (by omega)]
  rfl
theorem E_ibody0 {n : Nat} (t m : Int) : evFn lay0.tab (n + 1) 92 [.p .nilptr, .p (.int .i64 t), .p (.int .i64 m)] [] = some (.tup [.p (bodyN none), .p (.bool false)], []) := T_ibody0 n t m _ rfl
def kiAt (o : Option CS) (n : Int) : Option Int := match o with | some c => getI c.ki n | none => none
def vaAt (o : Option CS) (n : Int) : Option Vr := match o with | some c => getI c.va n | none => none
def loAt (o : Option CS) : List Pa := match o with | some c => c.lo | none => []
def kiD (o : Option Int) : D := .tup [.p (.int .i64 (o.getD 0)), .p (.bool o.isSome)]
def vaD (o : Option Vr) : D := .tup [.p (.int .i64 ((o.map (·.slot)).getD 0)), .p (.bool ((o.map (·.field)).getD false)), .p (.bool o.isSome)]
theorem E_iKind {n : Nat} (p : List Ac) (bs : List (List CS)) (x : api_Place) : evFn lay0.tab (n + 2) 55 [.box 0 0, .p x.e] (infO p bs).hp = some (kiD (kiAt (bodyAt bs x.Type_ x.Method) x.Node), (infO p bs).hp) := by
 apply T_iKind (n + 1) (infO p bs) x
 unfold F_iKind
 simp only [evC_known (E_ibody (n := n) p bs x.Type_ x.Method)]
 cases bodyAt bs x.Type_ x.Method with
 | none =>
  simp only [dTup_k, dCons_k, dP_k, dBool_k, dNil_k, dSame_k, bodyN, bodyE, dAgg_k, dSl_k]
  rfl
 | some c =>
  have h := lkI c.ki x.Node (fun v => .int .i64 v) (some (.tup [.p (.int .i64 0), .p (.bool false)], (infO p bs).hp)) (fun x25 => dInt .i64 x25 fun i26 => some (.tup [.p (.int .i64 i26), .p (.bool true)], (infO p bs).hp))
  simp only [dTup_k, dCons_k, dP_k, dBool_k, dNil_k, dSame_k, bodyN, bodyE, dAgg_k, dSl_k]
  refine Eq.trans h ?_
  simp only [kiAt]
  cases getI c.ki x.Node <;> rfl
theorem E_iKind0 {n : Nat} (x : api_Place) : evFn lay0.tab (n + 2) 55 [.p .nilptr, .p x.e] [] = some (kiD none, []) := by
 apply T_iKind0 (n + 1) x
 unfold F_iKind0
 rw [evC_known (E_ibody0 (n := n) x.Type_ x.Method)]
 simp only [dTup_k, dCons_k, dP_k, dBool_k, dNil_k, dSame_k, bodyN, bodyE, dAgg_k, dSl_k]
 rfl
theorem E_iSlot {n : Nat} (p : List Ac) (bs : List (List CS)) (x : api_Place) : evFn lay0.tab (n + 2) 60 [.box 0 0, .p x.e] (infO p bs).hp = some (vaD (vaAt (bodyAt bs x.Type_ x.Method) x.Node), (infO p bs).hp) := by
 apply T_iSlot (n + 1) (infO p bs) x
 unfold F_iSlot
 simp only [evC_known (E_ibody (n := n) p bs x.Type_ x.Method)]
 cases bodyAt bs x.Type_ x.Method with
 | none =>
  simp only [dTup_k, dCons_k, dP_k, dBool_k, dNil_k, dSame_k, bodyN, bodyE, dAgg_k, dSl_k]
  rfl
 | some c =>
  have h := lkI c.va x.Node Vr.e (some (.tup [.p (.int .i64 0), .p (.bool false), .p (.bool false)], (infO p bs).hp)) (fun x25 => d_types_variable x25 fun u26 => iL u26.field (some (.tup [.p (.int .i64 u26.slot), .p (.bool true), .p (.bool true)], (infO p bs).hp)) (some (.tup [.p (.int .i64 u26.slot), .p (.bool false), .p (.bool true)], (infO p bs).hp)))
  simp only [dTup_k, dCons_k, dP_k, dBool_k, dNil_k, dSame_k, bodyN, bodyE, dAgg_k, dSl_k]
  refine Eq.trans h ?_
  simp only [vaAt]
  cases getI c.va x.Node with
  | none => rfl
  | some v =>
   obtain ⟨k, s, f⟩ := v
   cases f <;> rfl
theorem E_iSlot0 {n : Nat} (x : api_Place) : evFn lay0.tab (n + 2) 60 [.p .nilptr, .p x.e] [] = some (vaD none, []) := by
 apply T_iSlot0 (n + 1) x
 unfold F_iSlot0
 rw [evC_known (E_ibody0 (n := n) x.Type_ x.Method)]
 simp only [dTup_k, dCons_k, dP_k, dBool_k, dNil_k, dSame_k, bodyN, bodyE, dAgg_k, dSl_k]
 rfl
theorem t_clone : ∃ x, lay0.tab 96 = some (.both (primClone 2 24) x) := ⟨(fxOf prog0 globs0 spec0 96).getD ⟨.skip, [], false⟩, by kernel_rfl⟩
theorem E_clone {n : Nat} (l : List Da) (h : l.length < 10000) : evFn lay0.tab (n + 1) 96 [.p (.slice 2 l)] [] = some (.p (.slice 2 l), []) := by
 obtain ⟨x, hx⟩ := t_clone
 unfold evFn
 rw [hx]
 show primClone 2 24 [.slice 2 l] = _
 show (bif (Nat.beq 2 2 && (Nat.ble ((2 * (0 + l.length) + 192) * 24) 281474976710656 && Nat.ble (2 * (0 + l.length) + 192) 9223372036854775807)) then some (D.p (.slice 2 l), ([] : List Ob)) else none) = _
 rw [show (Nat.beq 2 2 && (Nat.ble ((2 * (0 + l.length) + 192) * 24) 281474976710656 && Nat.ble (2 * (0 + l.length) + 192) 9223372036854775807)) = true by rw [Bool.and_eq_true, Bool.and_eq_true, Nat.ble_eq, Nat.ble_eq]; exact ⟨rfl, by omega, by omega⟩]
 rfl
theorem E_iLocals {n : Nat} (p : List Ac) (bs : List (List CS)) (t m : Int) (h : (loAt (bodyAt bs t m)).length < 10000) : evFn lay0.tab (n + 2) 63 [.box 0 0, .p (.int .i64 t), .p (.int .i64 m)] (infO p bs).hp = some (.p (.slice 2 ((loAt (bodyAt bs t m)).map Pa.e)), (infO p bs).hp) := by
 apply T_iLocals (n + 1) (infO p bs) t m
 unfold F_iLocals
 rw [evC_known (E_ibody (n := n) p bs t m)]
 cases hb : bodyAt bs t m with
 | none =>
  simp only [dTup_k, dCons_k, dP_k, dBool_k, dNil_k, dSame_k, bodyN, bodyE, dAgg_k, dSl_k, evC_known (E_clone (n := n) [] (by decide))]
  rfl
 | some c =>
  rw [hb] at h
  simp only [dTup_k, dCons_k, dP_k, dBool_k, dNil_k, dSame_k, bodyN, bodyE, dAgg_k, dSl_k, evC_known (E_clone (n := n) (c.lo.map Pa.e) (by rw [List.length_map]; exact h))]
  rfl
theorem E_iLocals0 {n : Nat} (t m : Int) : evFn lay0.tab (n + 2) 63 [.p .nilptr, .p (.int .i64 t), .p (.int .i64 m)] [] = some (.p (.slice 2 []), []) := by
 apply T_iLocals0 (n + 1) t m
 unfold F_iLocals0
 rw [evC_known (E_ibody0 (n := n) t m)]
 simp only [dTup_k, dCons_k, dP_k, dBool_k, dNil_k, dSame_k, bodyN, bodyE, dAgg_k, dSl_k, evC_known (E_clone (n := n) [] (by decide))]
 rfl
def metOf (p : List Ac) (t m : Int) : Option CS := match anT p with | .good bs => bodyAt bs t m | _ => none
theorem E_tKind {n : Nat} (p : List Ac) (hp : Szd p) (x : api_Place) : evFn lay0.tab (n + 6003) 21 [pD p, .p x.e] [] = some (kiD (kiAt (metOf p x.Type_ x.Method) x.Node), []) := by
 apply T_tKind (n + 6002) ⟨p.map Ac.e⟩ x
 unfold F_tKind metOf
 show evC lay0.tab (n + 6002) 53 [pD p] [] _ = _
 cases ha : anT p with
 | bad t m k e =>
  simp only [An_bad hp ha, dTup_k, dCons_k, dP_k, dNil_k, dInt_k, dPl, bx_t, bx_f, dBx, dNpn, dInf, dSame_k, dBool_k, evC_known (E_iKind0 (n := n + 6000) x)]; rfl
 | good bs =>
  simp only [An_good hp ha, dTup_k, dCons_k, dP_k, dNil_k, dInt_k, dPl, bx_t, bx_f, dBx, dNpn, dInf, dSame_k, dBool_k, evC_known (E_iKind (n := n + 6000) p bs x)]
  cases kiAt (bodyAt bs x.Type_ x.Method) x.Node <;> rfl
theorem E_tSlot {n : Nat} (p : List Ac) (hp : Szd p) (x : api_Place) : evFn lay0.tab (n + 6003) 24 [pD p, .p x.e] [] = some (vaD (vaAt (metOf p x.Type_ x.Method) x.Node), []) := by
 apply T_tSlot (n + 6002) ⟨p.map Ac.e⟩ x
 unfold F_tSlot metOf
 show evC lay0.tab (n + 6002) 53 [pD p] [] _ = _
 cases ha : anT p with
 | bad t m k e =>
  simp only [An_bad hp ha, dTup_k, dCons_k, dP_k, dNil_k, dInt_k, dPl, bx_t, bx_f, dBx, dNpn, dInf, dSame_k, dBool_k, evC_known (E_iSlot0 (n := n + 6000) x)]; rfl
 | good bs =>
  simp only [An_good hp ha, dTup_k, dCons_k, dP_k, dNil_k, dInt_k, dPl, bx_t, bx_f, dBx, dNpn, dInf, dSame_k, dBool_k, evC_known (E_iSlot (n := n + 6000) p bs x)]
  cases vaAt (bodyAt bs x.Type_ x.Method) x.Node with
  | none => rfl
  | some v =>
   obtain ⟨k, s, f⟩ := v
   cases f <;> rfl
theorem check_lo {pr : List Ac} {fs : List (List Nat × Vr)} {m : Me} {c : CS} (h : checkT 1000 pr fs m = some (some c)) (hb : BodyOk m.nodes) (hn : m.nodes.length < 1000) (hp : m.params.length < 1000) : c.lo.length < 10000 := by
 unfold checkT at h
 obtain ⟨o, h1, h2⟩ := par_def m.params (CS.init pr fs m) (by simp [CS.init]; exact hp)
 rw [h1] at h
 cases o with
 | none => cases h
 | some c1 =>
  obtain ⟨k, hs, hk⟩ := hb.tree
  have hst := par_stat _ _ h1
  have hl := h2 c1 rfl
  simp [CS.init] at hl
  obtain ⟨k', c2, e, hle⟩ := vis_def hb.ar 1000 0 k hs (by omega) c1 false (hst.ns) (by omega)
  have : ((m.nodes.length : Int) - 1) = (k : Int) := by omega
  simp only [this, e, Option.some.injEq] at h
  subst h
  omega
theorem lo_small {p : List Ac} (hp : Szd p) (t m : Int) : (loAt (metOf p t m)).length < 10000 := by
 unfold metOf
 cases ha : anT p with
 | bad t m k e => simp [loAt]
 | good bs =>
  obtain ⟨hv, ht⟩ := an_good ha
  obtain ⟨l', g1, g2, g3⟩ := typ_good p 0 [] bs ht
  simp only [List.nil_append] at g1
  subst g1
  unfold bodyAt
  simp only
  cases hl : atT bs t with
  | none => simp [loAt]
  | some l =>
   simp only
   cases hm : atT l m with
   | none => simp [loAt]
   | some c =>
    obtain ⟨tn, rfl, hl2⟩ := atT_get hl
    obtain ⟨mn, rfl, hm2⟩ := atT_get hm
    obtain ⟨a, fs, ha, hf, _, hcs⟩ := g3 tn l hl2
    obtain ⟨me, hme, hck, h0⟩ := hcs mn c hm2
    have h1 := List.mem_of_getElem? ha
    have h2 := List.mem_of_getElem? hme
    exact check_lo hck ((valid_ok hv).2 a h1 me h2).1 ((hp.ac a h1).mm me h2).ns ((hp.ac a h1).mm me h2).ps
theorem E_tLocals {n : Nat} (p : List Ac) (hp : Szd p) (t m : Int) : evFn lay0.tab (n + 6003) 27 [pD p, .p (.int .i64 t), .p (.int .i64 m)] [] = some (.p (.slice 2 ((loAt (metOf p t m)).map Pa.e)), []) := by
 have hlo := lo_small hp t m
 apply T_tLocals (n + 6002) ⟨p.map Ac.e⟩ t m
 unfold F_tLocals
 unfold metOf at hlo ⊢
 show evC lay0.tab (n + 6002) 53 [pD p] [] _ = _
 cases ha : anT p with
 | bad t m k e =>
  simp only [An_bad hp ha, dTup_k, dCons_k, dP_k, dNil_k, dInt_k, dPl, bx_t, bx_f, dBx, dNpn, dInf, dSame_k, dBool_k, evC_known (E_iLocals0 (n := n + 6000) _ _)]; rfl
 | good bs =>
  rw [ha] at hlo
  simp only [An_good hp ha, dTup_k, dCons_k, dP_k, dNil_k, dInt_k, dPl, bx_t, bx_f, dBx, dNpn, dInf, dSame_k, dBool_k, evC_known (E_iLocals (n := n + 6000) p bs t m hlo)]; rfl
end
end Go.Ab
end
