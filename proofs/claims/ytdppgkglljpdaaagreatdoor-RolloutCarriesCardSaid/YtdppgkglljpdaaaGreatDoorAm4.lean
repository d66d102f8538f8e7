/- The evaluator and its laws, part Am4: AbS AbY AbK AbB AbE -/
import Derived.Test.YtdppgkglljpdaaaGreatDoorAm3
import Derived.Attr
import Derived.Test.YtdppgkglljpdaaaGreatDoorAm0
set_option linter.all false
/- Laws for running the fast form on data with letters. -/
section
namespace Go.Ab
open Go
theorem getF_nil (t : Nat) : getF .nil t = .junk := rfl
theorem getF_cons (s t : Nat) (d : D) (r : Tm) : getF (.cons s d r) t = if s = t then d else getF r t := by
  rw [getF_eq, getF_eq]
  show (bif Nat.beq s t then d else get r t) = _
  by_cases h : s = t
  · subst h; simp
  · have : Nat.beq s t = false := by rw [← Bool.not_eq_true, Nat.beq_eq]; exact h
    simp [this, h]
theorem gG_out (w : Bool) (run : KV → R) (hp : List Ob) (k : KV) : gG (.tup []) w run hp k = k (.tup []) hp := rfl
theorem gF_out (w : Bool) (run : KF → R) (hp : List Ob) (k : KF) : gF (.tup []) w run hp k = k (.tup []) hp ⟨[], [], false, 0⟩ := rfl
theorem evA_t (tm : Tm) (n : Nat) : evA tm (.t n) = getF tm n := rfl
theorem lenG_str (s : List Nat) (hp : List Ob) (k : D → R) : lenG 0 (.p (.str s)) hp k = k (.p (.int .i64 s.length)) := by
  simp only [lenG, lenK, caseP, caseStr, lenD_eq, lenF_eq]; rfl
theorem lenG_slice (z : Nat) (es : List Da) (hp : List Ob) (k : D → R) : lenG 1 (.p (.slice z es)) hp k = k (.p (.int .i64 es.length)) := by
  simp only [lenG, lenK, slLenK, caseP, caseSlice, lenD_eq, lenF_eq]; rfl
theorem lenG_sl (g : Tag) (z : Nat) (es : List Da) (hp : List Ob) (k : D → R) : lenG 1 (.sl g z es) hp k = k (.p (.int .i64 es.length)) := by
  simp only [lenG, lenK, slLenK, lenD_eq, lenF_eq]; rfl
theorem lenG_arr (id lo len z : Nat) (hp : List Ob) (k : D → R) : lenG 1 (.arr id lo len z) hp k = k (.p (.int .i64 len)) := by
  simp only [lenG, lenK, slLenK, lenD_eq]; rfl
theorem bin_eql (i : IntKind) (m n : Int) (k : D → R) : binK .eql (.p (.int i m)) (.p (.int i n)) k = k (.p (.bool (eqI m n))) := by simp [binK_eq, bin, isShift, binInt, optK, caseO]
theorem bin_neq (i : IntKind) (m n : Int) (k : D → R) : binK .neq (.p (.int i m)) (.p (.int i n)) k = k (.p (.bool (!eqI m n))) := by simp [binK_eq, bin, isShift, binInt, optK, caseO]
theorem bin_lss (i : IntKind) (m n : Int) (k : D → R) : binK .lss (.p (.int i m)) (.p (.int i n)) k = k (.p (.bool (ltI m n))) := by simp [binK_eq, bin, isShift, binInt, optK, caseO]
theorem bin_leq (i : IntKind) (m n : Int) (k : D → R) : binK .leq (.p (.int i m)) (.p (.int i n)) k = k (.p (.bool (leI m n))) := by simp [binK_eq, bin, isShift, binInt, optK, caseO]
theorem bin_gtr (i : IntKind) (m n : Int) (k : D → R) : binK .gtr (.p (.int i m)) (.p (.int i n)) k = k (.p (.bool (ltI n m))) := by simp [binK_eq, bin, isShift, binInt, optK, caseO]
theorem bin_geq (i : IntKind) (m n : Int) (k : D → R) : binK .geq (.p (.int i m)) (.p (.int i n)) k = k (.p (.bool (leI n m))) := by simp [binK_eq, bin, isShift, binInt, optK, caseO]
theorem bin_add (i : IntKind) (m n : Int) (k : D → R) : binK .add (.p (.int i m)) (.p (.int i n)) k = k (.p (.int i (wrapF i (m + n)))) := by simp [binK_eq, bin, isShift, binInt, optK, caseO]
theorem bin_sub (i : IntKind) (m n : Int) (k : D → R) : binK .sub (.p (.int i m)) (.p (.int i n)) k = k (.p (.int i (wrapF i (m - n)))) := by simp [binK_eq, bin, isShift, binInt, optK, caseO]
theorem bin_seql (a b : List Nat) (k : D → R) : binK .eql (.p (.str a)) (.p (.str b)) k = k (.p (.bool (eqS a b))) := by simp [binK_eq, bin, binStr, optK, caseO]
theorem bin_sneq (a b : List Nat) (k : D → R) : binK .neq (.p (.str a)) (.p (.str b)) k = k (.p (.bool (!eqS a b))) := by simp [binK_eq, bin, binStr, optK, caseO]
theorem growN_zero (hp : List Ob) : growN 0 hp = hp := rfl
theorem growN_succ (n : Nat) (hp : List Ob) : growN (n + 1) hp = hp ++ List.replicate (n + 1) .unborn := rfl
theorem growN_one (hp : List Ob) : growN 1 hp = hp ++ [.unborn] := rfl
theorem numbered_nil (n : Nat) : numbered [] n = .nil := rfl
theorem numbered_cons (d : D) (r : List D) (n : Nat) : numbered (d :: r) n = .cons n d (numbered r (n + 1)) := rfl
theorem rvsK_nil (tm : Tm) (hp : List Ob) (k : List D → R) : rvsK tm hp [] k = k [] := rfl
theorem rvsK_t (tm : Tm) (hp : List Ob) (n : Nat) (rs : List Rv) (k : List D → R) : rvsK tm hp (.t n :: rs) k = rvsK tm hp rs fun ds => k (getF tm n :: ds) := rfl
theorem finK_p (fz : Bool) (x : Da) (hp : List Ob) : finK 0 fz [.p x] hp = some (.p x, []) := rfl
theorem finK_p2 (fz : Bool) (x y : Da) (hp : List Ob) : finK 0 fz [.p x, .p y] hp = some (.tup [.p x, .p y], []) := rfl
theorem finK_p3 (fz : Bool) (x y z : Da) (hp : List Ob) : finK 0 fz [.p x, .p y, .p z] hp = some (.tup [.p x, .p y, .p z], []) := rfl
theorem fa_box (off id o : Nat) (k : D → R) : faG off (.box id o) k = k (.box id (o + off)) := rfl
theorem fa_ip (off o : Nat) (x : Da) (k : D → R) : faG off (.ip x o) k = k (.ip x (o + off)) := rfl
theorem load1_box (id off : Nat) (hp : List Ob) (k : D → R) : load1G (.box id off) hp k = nthK hp id fun o => caseBox o none fun cs => nthK cs off k := rfl
theorem load1_ip (x : Da) (off : Nat) (hp : List Ob) (k : D → R) : load1G (.ip x off) hp k = nthK (cells x) off fun x => k (.p x) := rfl
theorem ix_str (s : List Nat) (q : IntKind) (i : Int) (k : D → R) : ixK (.p (.str s)) (.p (.int q i)) k = caseI i (fun j => caseO s[j]? none fun b => k (.p (.int .u8 (Int.ofNat b)))) fun _ => none := by
  simp only [ixK, caseP, caseStr, caseInt, idxK_eq]
theorem ia_slice (z : Nat) (es : List Da) (q : IntKind) (i : Int) (k : D → R) : iaG z (.p (.slice z es)) (.p (.int q i)) k = caseO (at? es i) none fun y => k (.ip y 0) := by
  simp only [iaG, iaK, caseP, caseSlice, caseInt, iff_eq, show Nat.beq z z = true from Nat.beq_refl z, cond_true, atK_eq]
theorem ext_tup (i : Nat) (ds : List D) (k : D → R) : extK i (.tup ds) k = caseO ds[i]? none k := by
  simp only [extK, nthK_eq]
theorem call_known {call : CallF} {f : Nat} {raw : Bool} {vs : List D} {hp : List Ob} {k : KV} {r : D} (hv : vs.all isP = true) (hc : call f vs [] = some (r, [])) (hr : pureD r = true) : callG call f raw vs hp k = k r hp := by
  unfold callG callK
  rw [pureArgs_eq, hv, cond_true]
  unfold callP
  rw [hc]
  simp only [caseO, pureRes_eq, hr, cond_true]
theorem evH_code {tab : Nat → Option Hn} {f : Nat} {b : Sem} {res : List Rv} {fz : Bool} (h : tab f = some (.code b res fz)) (n : Nat) (args : List D) (hp : List Ob) : evH tab (n + 1) f args hp = runH b (evH tab n) n res fz args hp := by
  show hn (tab f) (evH tab n) n args hp = _
  rw [h]; rfl
theorem evH_prim {tab : Nat → Option Hn} {f : Nat} {g : List Da → Option (D × List Ob)} (h : tab f = some (.prim g)) (n : Nat) (xs : List Da) : evH tab (n + 1) f (xs.map .p) [] = g xs := by
  show hn (tab f) (evH tab n) n (xs.map .p) [] = _
  rw [h]
  have : ∀ xs : List Da, allP (xs.map .p) = some xs := by
    intro xs
    induction xs with
    | nil => rfl
    | cons x r ih => simp [allP, ih]
  simp only [hn, this]
theorem loopK_step (m : Nat) (live : List Nat) (body : Tm → List Ob → K → R) (n : Nat) (tm : Tm) (hp : List Ob) : loopK m live body (n + 1) tm hp = keepK m live tm hp fun tm hp => body tm hp (loopK m live body n) := rfl
theorem keepF_nil (tm : Tm) : keepF [] tm = .nil := rfl
theorem keepF_cons (s : Nat) (r : List Nat) (tm : Tm) : keepF (s :: r) tm = .cons s (getF tm s) (keepF r tm) := rfl
theorem ltI_nat (a b : Nat) : ltI a b = decide (a < b) := by
  show Nat.ble (a + 1) b = _
  rw [Bool.eq_iff_iff, Nat.ble_eq, decide_eq_true_eq]; omega
theorem at_nat (es : List Da) (j : Nat) : at? es (j : Int) = es[j]? := rfl
theorem wrap_nat (n : Nat) (h : n < 9223372036854775808) : wrapF .i64 (n : Int) = n := by
  show wrapF .i64 (.ofNat n) = .ofNat n
  exact wrap_small .i64 n (Nat.ble_eq.mpr h)
theorem wrap_few (n : Nat) (h : n ≤ 65000) : wrapF .i64 (n : Int) = n := wrap_nat n (Nat.lt_of_le_of_lt h (Nat.lt_of_lt_of_le (by decide : 65000 < 65001) (by decide)))
theorem nthK_zero {α : Type} (x : α) (r : List α) (k : α → R) : nthK (x :: r) 0 k = k x := rfl
theorem nthK_succ {α : Type} (x : α) (r : List α) (i : Nat) (k : α → R) : nthK (x :: r) (i + 1) k = nthK r i k := rfl
theorem caseO_some {α : Type} (x : α) (e : R) (k : α → R) : caseO (some x) e k = k x := rfl
theorem caseBox_box (cs : List D) (e : R) (k : List D → R) : caseBox (.box cs) e k = k cs := rfl
theorem wrap_succ (j : Nat) (h : j + 1 ≤ 65000) : wrapF .i64 ((j : Int) + 1) = ((j + 1 : Nat) : Int) := by
  have e : ((j : Int) + 1) = ((j + 1 : Nat) : Int) := by omega
  rw [e]; exact wrap_few _ h
theorem eqI_dec (a b : Int) : eqI a b = decide (a = b) := by
  rw [Bool.eq_iff_iff, decide_eq_true_eq]
  cases a <;> cases b <;> simp [eqI] <;> omega
theorem ltI_dec (a b : Int) : ltI a b = decide (a < b) := by
  rw [Bool.eq_iff_iff, decide_eq_true_eq]
  cases a with
  | ofNat a => cases b with
    | ofNat b => rw [show ltI (Int.ofNat a) (Int.ofNat b) = decide (a < b) from ltI_nat a b]; simp
    | negSucc b => simp [ltI]; omega
  | negSucc a => cases b with
    | ofNat b => simp [ltI]; omega
    | negSucc b => simp [ltI, Nat.blt]; omega
end Go.Ab
end
/- More laws for running the fast form on data with letters: loads, stores, closures, arrays, loops, results. -/
section
namespace Go.Ab
open Go
/- Rows. -/
theorem obF_zero (o : Ob) (r : List Ob) : obF (o :: r) 0 = o := rfl
theorem obF_succ (o : Ob) (r : List Ob) (i : Nat) : obF (o :: r) (i + 1) = obF r i := rfl
theorem subK_zero {α : Type} (l : List α) (n : Nat) (k : List α → R) : subK l 0 n k = takeL l n k := by cases l <;> rfl
theorem subK_succ {α : Type} (x : α) (r : List α) (off n : Nat) (k : List α → R) : subK (x :: r) (off + 1) n k = subK r off n k := by
  unfold subK
  rw [tlN_eq, tlN_eq]
  rfl
theorem takeL_zero {α : Type} (l : List α) (k : List α → R) : takeL l 0 k = k [] := by cases l <;> rfl
theorem takeL_succ {α : Type} (x : α) (r : List α) (n : Nat) (k : List α → R) : takeL (x :: r) (n + 1) k = takeL r n fun r => k (x :: r) := rfl
theorem pick1_agg (ds : List D) (k : D → R) : pick1K true ds k = allPK ds (k (.agg ds)) fun xs => k (.p (.agg xs)) := rfl
theorem pick1_one (d : D) (k : D → R) : pick1K false [d] k = k d := rfl
theorem allPK_nil (e : R) (k : List Da → R) : allPK [] e k = k [] := rfl
theorem allPK_cons (x : Da) (r : List D) (e : R) (k : List Da → R) : allPK (.p x :: r) e k = allPK r e fun xs => k (x :: xs) := rfl
theorem mapP_nil : mapP [] = [] := rfl
theorem mapP_cons (x : Da) (r : List Da) : mapP (x :: r) = .p x :: mapP r := rfl
theorem loadG_box (n : Nat) (agg : Bool) (id off : Nat) (hp : List Ob) (k : D → R) : loadG n agg (.box id off) hp k = caseBox (obF hp id) none fun cs => subK cs off n fun ds => pick1K agg ds k := rfl
theorem loadG_ip (n : Nat) (agg : Bool) (x : Da) (off : Nat) (hp : List Ob) (k : D → R) : loadG n agg (.ip x off) hp k = subK (cells x) off n fun xs => pick1K agg (mapP xs) k := rfl
theorem cells_agg (cs : List Da) : cells (.agg cs) = cs := rfl
theorem cells_str (s : List Nat) : cells (.str s) = [.str s] := rfl
theorem cells_int (i : IntKind) (n : Int) : cells (.int i n) = [.int i n] := rfl
theorem fld_p (off n : Nat) (agg : Bool) (cs : List Da) (k : D → R) : fldG off n agg (.p (.agg cs)) k = subK cs off n fun xs => pick1K agg (mapP xs) k := rfl
theorem fld_agg (off n : Nat) (agg : Bool) (cs : List D) (k : D → R) : fldG off n agg (.agg cs) k = subK cs off n fun xs => pick1K agg xs k := rfl
theorem alloc_eq (base kk : Nat) (zs : List D) (hp : List Ob) (k : KV) : allocG base kk zs hp k = bif isUnborn (obF hp (base + kk)) then k (.box (base + kk) 0) (setOb hp (base + kk) (.box zs)) else none := by
  simp only [allocG, forceN_eq, unb_eq, setF_eq]; rfl
theorem box_eq (base n kk : Nat) (d : D) (hp : List Ob) (k : KV) : boxG base n kk d hp k = bif isUnborn (obF hp (base + kk)) then (bif Nat.beq (dcells d).length n && (dcells d).all okCell then k (.box (base + kk) 0) (setOb hp (base + kk) (.box (dcells d))) else none) else none := by
  simp only [boxG, forceN_eq, unb_eq, setF_eq, forceDs_eq, iff_eq]; rfl
theorem isUnborn_unborn : isUnborn .unborn = true := rfl
theorem setOb_zero (x : Ob) (r : List Ob) (o : Ob) : setOb (x :: r) 0 o = o :: r := rfl
theorem setOb_succ (x : Ob) (r : List Ob) (i : Nat) (o : Ob) : setOb (x :: r) (i + 1) o = x :: setOb r i o := rfl
theorem dcells_agg (cs : List Da) : dcells (.p (.agg cs)) = mapP cs := (mapP_eq cs).symm
theorem dcells_int (i : IntKind) (n : Int) : dcells (.p (.int i n)) = [.p (.int i n)] := rfl
theorem dcells_str (s : List Nat) : dcells (.p (.str s)) = [.p (.str s)] := rfl
theorem dcells_bool (b : Bool) : dcells (.p (.bool b)) = [.p (.bool b)] := rfl
theorem dcells_slice (z : Nat) (es : List Da) : dcells (.p (.slice z es)) = [.p (.slice z es)] := rfl
theorem dcells_sl (g : Tag) (z : Nat) (es : List Da) : dcells (.sl g z es) = [.sl g z es] := rfl
theorem dcells_arr (id lo len z : Nat) : dcells (.arr id lo len z) = [.arr id lo len z] := rfl
theorem okCell_p (x : Da) : okCell (.p x) = true := rfl
theorem okCell_sl (g : Tag) (z : Nat) (es : List Da) : okCell (.sl g z es) = true := rfl
theorem okCell_arr (id lo len z : Nat) : okCell (.arr id lo len z) = true := rfl
theorem store_box (call : CallF) (base n kk id off : Nat) (d : D) (hp : List Ob) (k : KV) : storeG call base n kk (.box id off) d hp k = caseBox (obF hp id) none fun cs => bif Nat.beq (dcells d).length n && (dcells d).all okCell then (bif Nat.ble (off + n) cs.length then k .junk (setOb hp id (.box (splF cs off (dcells d)))) else none) else none := by
  show storeK n (.box id off) d hp _ k = _
  simp only [storeK, dcellsK_eq, fitL_eq, iff_eq, hasL_eq, forceDs_eq, setF_eq]
  rfl
theorem splF_zero (c : D) (r xs : List D) : splF (c :: r) 0 xs = overF xs (c :: r) := rfl
theorem splF_succ (c : D) (r : List D) (o : Nat) (xs : List D) : splF (c :: r) (o + 1) xs = c :: splF r o xs := rfl
theorem overF_nil (cs : List D) : overF [] cs = cs := rfl
theorem overF_cons (x : D) (xs : List D) (c : D) (cs : List D) : overF (x :: xs) (c :: cs) = x :: overF xs cs := rfl
theorem nilck_box (id off : Nat) (k : D → R) : nilckG (.box id off) k = k (.box id off) := rfl
theorem nilck_ip (x : Da) (off : Nat) (k : D → R) : nilckG (.ip x off) k = k (.ip x off) := rfl
/- Operations in the general form. -/
theorem mkfn_nil (call : CallF) (base kk f : Nat) (hp : List Ob) (k : KV) : genV call base (.mkfn f) kk [] hp k = k (.p (.fn f [])) hp := by
  rw [genV_still rfl]; rfl
theorem mkfn_cap (call : CallF) (base kk f : Nat) (x : Da) (hp : List Ob) (k : KV) : genV call base (.mkfn f) kk [.p x] hp k = k (.p (.fn f [x])) hp := by
  rw [genV_still rfl]; rfl
theorem mkfn_ref (call : CallF) (base kk f id off : Nat) (hp : List Ob) (k : KV) : genV call base (.mkfn f) kk [.box id off] hp k = k (.fn f [.box id off]) hp := by
  rw [genV_still rfl]; rfl
theorem conv_int (call : CallF) (base kk : Nat) (i j : IntKind) (n : Int) (hp : List Ob) (k : KV) : genV call base (.conv j) kk [.p (.int i n)] hp k = k (.p (.int j (wrapF j n))) hp := by
  rw [genV_still rfl]; rfl
/- Ghosts. -/
theorem keep_by {m : Nat} {live : List Nat} {tm tm' : Tm} {hp hp' : List Ob} (h : evGh m (.keep live) ⟨tm, hp⟩ = some ⟨tm', hp'⟩) (k : K) : keepK m live tm hp k = k tm' hp' := by
  rw [keepK_eq, h]; rfl
/- Results. -/
theorem finK_arr (o : List Ob) (es : List Da) (len z : Nat) : finK 0 true [.arr 0 0 len z] (.arr es :: o) = some (.p (.slice z (es.take len)), []) := by
  rw [finK_eq]
  rfl
/- Tests. -/
theorem eqS_iff : ∀ {a b : List Nat}, eqS a b = true ↔ a = b
  | [], [] => by simp [eqS]
  | [], _ :: _ => by simp [eqS]
  | _ :: _, [] => by simp [eqS]
  | x :: a, y :: b => by
    simp only [eqS]
    by_cases h : x = y
    · subst h; simp [eqS_iff (a := a) (b := b)]
    · have : Nat.beq x y = false := by rw [← Bool.not_eq_true, Nat.beq_eq]; exact h
      simp [this, h]
theorem eqS_dec (a b : List Nat) : eqS a b = decide (a = b) := by
  rw [Bool.eq_iff_iff, eqS_iff, decide_eq_true_eq]
theorem leI_dec (a b : Int) : leI a b = decide (a ≤ b) := by
  unfold leI; rw [ltI_dec, Bool.eq_iff_iff]; simp
end Go.Ab
namespace Go.Ab
/- Footprints of operations that write nothing. -/
theorem apart_still {a b : Foot} (ha : a.ws = []) (ha' : a.grow = false) (hb : b.ws = []) (hb' : b.grow = false) : apart a b = true := by
  have h1 : ∀ i, wr a i = false := fun i => by simp [wr, ha, ha']
  have h2 : ∀ i, wr b i = false := fun i => by simp [wr, hb, hb']
  simp [apart, h1, h2, ha', hb']
theorem apart_EE (h g : List Ob) : apart (footE h) (footE g) = true := apart_still rfl rfl rfl rfl
theorem apart_EO (h g : List Ob) (o : O) (vs : List D) : apart (footE h) (footO o vs g) = true := apart_still rfl rfl rfl rfl
theorem apart_OE (h g : List Ob) (o : O) (vs : List D) : apart (footO o vs h) (footE g) = true := apart_still rfl rfl rfl rfl
theorem apart_OO (h g : List Ob) (o o' : O) (vs vs' : List D) : apart (footO o vs h) (footO o' vs' g) = true := apart_still rfl rfl rfl rfl
theorem apartAll_nil (fs : List Foot) : apartAll fs [] = true := rfl
theorem apartAll_cons (fs : List Foot) (i j : Nat) (r : List (Nat × Nat)) : apartAll fs ((i, j) :: r) = match fs[i]?, fs[j]? with
    | some a, some b => apart a b && apartAll fs r
    | _, _ => false := rfl
end Go.Ab
namespace Go.Ab
/- Loops. -/
def firstF (test : Nat → Bool) : Nat → Nat → Option Nat
  | 0, _ => none
  | r + 1, j => if test j = true then firstF test r (j + 1) else some j
theorem loop_go {m : Nat} {live : List Nat} {body : Tm → List Ob → K → R} (n : Nat) (T : Nat → Tm) (H : Nat → List Ob) (Tb : Nat → Tm) (Hb : Nat → List Ob) (test : Nat → Bool) (out : Nat → R) (fin : R)
    (hk : ∀ j, j < n → evGh m (.keep live) ⟨Tb j, Hb j⟩ = some ⟨T (j + 1), H (j + 1)⟩)
    (hb : ∀ j kn, j < n → body (T j) (H j) kn = if test j = true then kn (Tb j) (Hb j) else out j)
    (he : ∀ kn, body (T n) (H n) kn = fin) : ∀ (r j fuel : Nat) (tm : Tm) (hp : List Ob), j + r = n → r < fuel → evGh m (.keep live) ⟨tm, hp⟩ = some ⟨T j, H j⟩ → loopK m live body fuel tm hp = match firstF test r j with
      | none => fin
      | some i => out i
  | 0, j, fuel + 1, tm, hp, hj, hf, h0 => by
    obtain rfl : j = n := by omega
    rw [loopK_step, keep_by h0]
    exact he _
  | r + 1, j, fuel + 1, tm, hp, hj, hf, h0 => by
    rw [loopK_step, keep_by h0]
    refine (hb j _ (by omega)).trans ?_
    simp only [firstF]
    split
    · exact loop_go n T H Tb Hb test out fin hk hb he r (j + 1) fuel _ _ (by omega) (by omega) (hk j (by omega))
    · rfl
  | _, _, 0, _, _, _, hf, _ => absurd hf (Nat.not_lt_zero _)
theorem firstF_none (test : Nat → Bool) : ∀ (r j : Nat), firstF test r j = none ↔ ∀ i, i < r → test (j + i) = true
  | 0, j => by simp [firstF]
  | r + 1, j => by
    simp only [firstF]
    split
    · rename_i h
      rw [firstF_none test r (j + 1)]
      constructor
      · intro h2 i hi
        cases i with
        | zero => exact h
        | succ i => have := h2 i (by omega); rwa [show j + 1 + i = j + (i + 1) by omega] at this
      · intro h2 i hi
        have := h2 (i + 1) (by omega)
        rwa [show j + (i + 1) = j + 1 + i by omega] at this
    · rename_i h
      constructor
      · intro h2; cases h2
      · intro h2; exact absurd (h2 0 (by omega)) h
theorem firstF_some (test : Nat → Bool) : ∀ (r j i : Nat), firstF test r j = some i → j ≤ i ∧ i < j + r ∧ test i = false ∧ ∀ k, j ≤ k → k < i → test k = true
  | 0, j, i, h => by simp [firstF] at h
  | r + 1, j, i, h => by
    simp only [firstF] at h
    split at h
    · rename_i ht
      obtain ⟨h1, h2, h3, h4⟩ := firstF_some test r (j + 1) i h
      refine ⟨by omega, by omega, h3, fun k hk hki => ?_⟩
      by_cases hkj : k = j
      · subst hkj; exact ht
      · exact h4 k (by omega) hki
    · rename_i ht
      injection h with h
      subst h
      exact ⟨Nat.le_refl _, by omega, by simpa using ht, fun k hk hki => by omega⟩
def findR (o : Option Nat) (fin : R) (out : Nat → R) : R :=
  match o with
  | none => fin
  | some i => out i
theorem findR_const (o : Option Nat) (a b : R) : findR o a (fun _ => b) = if o.isNone = true then a else b := by cases o <;> rfl
theorem loop_find {m : Nat} {live : List Nat} {body : Tm → List Ob → K → R} (n : Nat) (T : Nat → Tm) (H : Nat → List Ob) (Tb : Nat → Tm) (Hb : Nat → List Ob) (test : Nat → Bool) (out : Nat → R) (fin : R)
    (hk : ∀ j, j < n → evGh m (.keep live) ⟨Tb j, Hb j⟩ = some ⟨T (j + 1), H (j + 1)⟩)
    (hb : ∀ j kn, j < n → body (T j) (H j) kn = if test j = true then kn (Tb j) (Hb j) else out j)
    (he : ∀ kn, body (T n) (H n) kn = fin) (fuel : Nat) (tm : Tm) (hp : List Ob) (hf : n < fuel) (h0 : evGh m (.keep live) ⟨tm, hp⟩ = some ⟨T 0, H 0⟩) : loopK m live body fuel tm hp = findR (firstF test n 0) fin out := by
  unfold findR
  exact loop_go n T H Tb Hb test out fin hk hb he n 0 fuel tm hp (by omega) hf h0
theorem loop_all {m : Nat} {live : List Nat} {body : Tm → List Ob → K → R} (n : Nat) (T : Nat → Tm) (H : Nat → List Ob) (Tb : Nat → Tm) (Hb : Nat → List Ob) (test : Nat → Bool) (out : R) (fin : R)
    (hk : ∀ j, j < n → evGh m (.keep live) ⟨Tb j, Hb j⟩ = some ⟨T (j + 1), H (j + 1)⟩)
    (hb : ∀ j kn, j < n → body (T j) (H j) kn = if test j = true then kn (Tb j) (Hb j) else out)
    (he : ∀ kn, body (T n) (H n) kn = fin) (fuel : Nat) (tm : Tm) (hp : List Ob) (hf : n < fuel) (h0 : evGh m (.keep live) ⟨tm, hp⟩ = some ⟨T 0, H 0⟩) : loopK m live body fuel tm hp = if ∀ j, j < n → test j = true then fin else out := by
  rw [loop_find n T H Tb Hb test (fun _ => out) fin hk hb he fuel tm hp hf h0]
  unfold findR
  cases h : firstF test n 0 with
  | none =>
    rw [firstF_none] at h
    rw [if_pos fun j hj => by simpa using h j hj]
  | some i =>
    rw [if_neg]
    intro h2
    have := (firstF_none test n 0).2 fun i hi => by simpa using h2 i hi
    rw [h] at this; cases this
theorem loop_map {m : Nat} {live : List Nat} {body : Tm → List Ob → K → R} (n : Nat) (T : Nat → Tm) (H : Nat → List Ob) (Tb : Nat → Tm) (Hb : Nat → List Ob) (fin : R)
    (hk : ∀ j, j < n → evGh m (.keep live) ⟨Tb j, Hb j⟩ = some ⟨T (j + 1), H (j + 1)⟩)
    (hb : ∀ j kn, j < n → body (T j) (H j) kn = kn (Tb j) (Hb j))
    (he : ∀ kn, body (T n) (H n) kn = fin) (fuel : Nat) (tm : Tm) (hp : List Ob) (hf : n < fuel) (h0 : evGh m (.keep live) ⟨tm, hp⟩ = some ⟨T 0, H 0⟩) : loopK m live body fuel tm hp = fin := by
  rw [loop_all n T H Tb Hb (fun _ => true) none fin hk (fun j kn hj => by rw [hb j kn hj]; rfl) he fuel tm hp hf h0]
  simp
theorem at_map {α : Type} (f : α → Da) (l : List α) (j : Nat) (h : j < l.length) : at? (l.map f) (j : Int) = some (f l[j]) := by
  rw [at_nat, List.getElem?_map, List.getElem?_eq_getElem h]; rfl
end Go.Ab
namespace Go.Ab
end Go.Ab
namespace Go.Ab
/- Statements, step by step. -/
section
variable (c : CallF) (n m : Nat) (tm : Tm) (hp : List Ob) (kn : K) (ke : Nat → K) (kr : K)
theorem s_skip : skipS c n m tm hp kn ke kr = kn tm hp := rfl
theorem s_ret : retS c n m tm hp kn ke kr = kr tm hp := rfl
theorem s_exit (i : Nat) : exitS i c n m tm hp kn ke kr = ke i tm hp := rfl
theorem s_seq (a b : Sem) : seqS a b c n m tm hp kn ke kr = a c n m tm hp (fun tm hp => b c n m tm hp kn ke kr) ke kr := rfl
theorem s_cond (x : A) (t e : Sem) : condS x t e c n m tm hp kn ke kr = condK (evA tm x) (t c n m tm hp kn ke kr) (e c n m tm hp kn ke kr) := rfl
theorem s_block (i : Nat) (b : Sem) : blockS i b c n m tm hp kn ke kr = b c n m tm hp kn (fun j tm hp => iff (Nat.beq j i) (kn tm hp) (ke j tm hp)) kr := rfl
theorem s_loop (live : List Nat) (b : Sem) : loopS live b c n m tm hp kn ke kr = loopK m live (fun tm hp k => b c n m tm hp k ke kr) n tm hp := rfl
theorem s_gh (g : Gh) (b : Sem) : ghS g b c n m tm hp kn ke kr = ghK m g tm hp fun tm hp => b c n m tm hp kn ke kr := rfl
theorem s_reg (nal : Nat) (f : CallF → Nat → Tm → List Ob → K → R) : regH nal f c n m tm hp kn ke kr = f c hp.length tm (growN nal hp) kn := rfl
theorem s_run (b : Sem) (res : List Rv) (fz : Bool) (args : List D) : runH b c n res fz args hp = b c n hp.length (numbered args 0) hp (fun tm hp' => rvsK tm hp' res fun ds => finK hp.length fz ds hp') (fun _ _ _ => none) (fun tm hp' => rvsK tm hp' res fun ds => finK hp.length fz ds hp') := rfl
end
end Go.Ab
namespace Go.Ab
theorem ans {b c : Bool} (h : b = c) : (some (D.p (.bool b), []) : R) = some (.p (.bool c), []) := by rw [h]
theorem ite_ans (c : Prop) [Decidable c] (a b : Bool) : (if c then (some (D.p (.bool a), []) : R) else some (.p (.bool b), [])) = some (.p (.bool (if c then a else b)), []) := by split <;> rfl
end Go.Ab
namespace Go.Ab
/- Appends. -/
theorem app_own {call : CallF} {base esz bytes kk id len : Nat} {hp : List Ob} {es ys : List Da} {g : Tag} {k : KV} (h : obF hp id = .arr es) (hl : es.length = len) (h1 : (2 * (len + ys.length) + 192) * bytes ≤ 281474976710656) (h2 : 2 * (len + ys.length) + 192 ≤ 9223372036854775807) (hu : isUnborn (obF hp (base + kk)) = true) :
    appG call base esz bytes kk (.arr id 0 len esz) (.sl g esz ys) hp k = k (.arr (base + kk) 0 (len + ys.length) esz) (setOb (setOb hp id .dead) (base + kk) (.arr (es ++ ys))) := by
  subst hl
  show appK esz bytes base kk (.arr id 0 es.length esz) (.sl g esz ys) hp _ k = _
  simp only [appK, iff_eq, show Nat.beq esz esz = true from Nat.beq_refl esz, cond_true, h, caseArr, yK, appTake_eq, show Nat.ble es.length es.length = true from Nat.ble_eq.mpr (Nat.le_refl _), List.take_length, forceN_eq, lenF_eq, unb_eq, setF_eq]
  rw [show Nat.ble (Nat.mul (Nat.add (Nat.mul 2 (Nat.add es.length ys.length)) 192) bytes) 281474976710656 = true from Nat.ble_eq.mpr h1, show Nat.ble (Nat.add (Nat.mul 2 (Nat.add es.length ys.length)) 192) 9223372036854775807 = true from Nat.ble_eq.mpr h2]
  have : obF hp (Nat.add base kk) = obF hp (base + kk) := rfl
  rw [this, hu]
  rfl
theorem app_nil {call : CallF} {base esz bytes kk z : Nat} {hp : List Ob} {ys : List Da} {k : KV} (h1 : (2 * ys.length + 192) * bytes ≤ 281474976710656) (h2 : 2 * ys.length + 192 ≤ 9223372036854775807) (hu : isUnborn (obF hp (base + kk)) = true) :
    appG call base esz bytes kk (.sl .nil z []) (.p (.slice esz ys)) hp k = k (.arr (base + kk) 0 ys.length esz) (setOb hp (base + kk) (.arr ys)) := by
  show genW call base (.app esz bytes) kk [.sl .nil z [], .p (.slice esz ys)] hp k = _
  rw [genW_eq]
  have hu' : isUnborn (obAt hp (base + kk)) = true := by rw [← hu, obF_eq]; rfl
  simp only [genV, makes, Bool.not_true, Bool.false_or, hu', cond_true, act, aApp, base1, elems, zElems, zOk, show Nat.beq esz esz = true from Nat.beq_refl esz, Bool.true_or, List.length_nil, Nat.zero_add, List.isEmpty_nil, Bool.not_true, Bool.and_false, cond_false, List.nil_append]
  rw [show Nat.ble ((2 * ys.length + 192) * bytes) 281474976710656 = true from Nat.ble_eq.mpr h1, show Nat.ble (2 * ys.length + 192) 9223372036854775807 = true from Nat.ble_eq.mpr h2]
  rfl
theorem bsl1_p (call : CallF) (base esz : Nat) (z : Da) (kk : Nat) (x : Da) (hp : List Ob) (k : KV) : bsl1G call base esz z kk (.p x) hp k = bif Nat.beq (cells x).length esz then k (.sl .exact esz [x]) hp else none := by
  show bsl1K esz (.p x) _ _ = _
  simp only [bsl1K, caseP, lenF_eq, iff_eq]
/- Calls of which the answer is known, with their footprint. -/
theorem callF_known {call : CallF} {f : Nat} {raw : Bool} {vs : List D} {hp : List Ob} {k : KF} {r : D} (hv : vs.all isP = true) (hc : call f vs [] = some (r, [])) (hr : pureD r = true) : callF call f raw vs hp k = k r hp (footE hp) := by
  unfold callF callK
  rw [pureArgs_eq, hv, cond_true]
  unfold callP
  rw [hc]
  simp only [caseO, pureRes_eq, hr, cond_true]
theorem binB_eql (call : CallF) (base kk : Nat) (a b : Bool) (hp : List Ob) (k : KV) : genV call base (.binB .eql) kk [.p (.bool a), .p (.bool b)] hp k = k (.p (.bool (a == b))) hp := by
  rw [genV_still rfl]; rfl
theorem binB_neq (call : CallF) (base kk : Nat) (a b : Bool) (hp : List Ob) (k : KV) : genV call base (.binB .neq) kk [.p (.bool a), .p (.bool b)] hp k = k (.p (.bool (!(a == b)))) hp := by
  rw [genV_still rfl]; rfl
theorem store_boxF (call : CallF) (base n kk id off : Nat) (d : D) (hp : List Ob) (k : KF) : genF call base (.store n) kk [.box id off, d] hp k = storeG call base n kk (.box id off) d hp fun v hp' => k v hp' ⟨need (.store n) [.box id off, d] hp, [id], false, hp.length⟩ := by
  rw [storeG_eq]
  simp only [genF, genV, makes, Bool.not_false, Bool.true_or, cond_true, cond_false]
  cases h : act call base (.store n) kk [.box id off, d] (need (.store n) [.box id off, d] hp) ((need (.store n) [.box id off, d] hp).map (obAt hp)) hp.length with
  | none => rfl
  | some e =>
    simp only [act, aStore] at h
    split at h
    · cases hb : (Nat.beq (dcells d).length n && Nat.ble (off + n) (List.length ‹List D›) && (dcells d).all okCell)
      · rw [hb] at h; cases h
      · rw [hb] at h
        simp only [cond_true, Option.some.injEq] at h
        subst h; rfl
    · cases h
/- Results out of a box. -/
noncomputable def rvG (d : D) (hp : List Ob) (n : Nat) (agg : Bool) (k : D → R) : R :=
  match d with
  | .box id off => caseBox (obF hp id) none fun cs => subK cs off n fun ds => pick1K agg ds k
  | _ => none
theorem rvsK_cell (tm : Tm) (hp : List Ob) (a n : Nat) (agg : Bool) (rs : List Rv) (k : List D → R) : rvsK tm hp (.cell a n agg :: rs) k = rvG (getF tm a) hp n agg fun d => rvsK tm hp rs fun ds => k (d :: ds) := by
  show rvK tm hp (.cell a n agg) _ = _
  unfold rvG
  simp only [rvK]
  cases getF tm a <;> rfl
theorem rvG_box (id off : Nat) (hp : List Ob) (n : Nat) (agg : Bool) (k : D → R) : rvG (.box id off) hp n agg k = caseBox (obF hp id) none fun cs => subK cs off n fun ds => pick1K agg ds k := rfl
end Go.Ab
namespace Go.Ab
/- Tests split where they are made: what follows sees true or false. -/
theorem dec_split (c : Prop) [Decidable c] (k : D → R) : k (.p (.bool (decide c))) = if c then k (.p (.bool true)) else k (.p (.bool false)) := by split <;> simp_all
theorem not_split (c : Prop) [Decidable c] (k : D → R) : k (.p (.bool (!decide c))) = if c then k (.p (.bool false)) else k (.p (.bool true)) := by split <;> simp_all
theorem i_eql (i : IntKind) (m n : Int) (k : D → R) : binK .eql (.p (.int i m)) (.p (.int i n)) k = if m = n then k (.p (.bool true)) else k (.p (.bool false)) := by rw [bin_eql, eqI_dec]; exact dec_split _ k
theorem i_neq (i : IntKind) (m n : Int) (k : D → R) : binK .neq (.p (.int i m)) (.p (.int i n)) k = if m = n then k (.p (.bool false)) else k (.p (.bool true)) := by rw [bin_neq, eqI_dec]; exact not_split _ k
theorem i_lss (i : IntKind) (m n : Int) (k : D → R) : binK .lss (.p (.int i m)) (.p (.int i n)) k = if m < n then k (.p (.bool true)) else k (.p (.bool false)) := by rw [bin_lss, ltI_dec]; exact dec_split _ k
theorem i_leq (i : IntKind) (m n : Int) (k : D → R) : binK .leq (.p (.int i m)) (.p (.int i n)) k = if m ≤ n then k (.p (.bool true)) else k (.p (.bool false)) := by rw [bin_leq, leI_dec]; exact dec_split _ k
theorem i_gtr (i : IntKind) (m n : Int) (k : D → R) : binK .gtr (.p (.int i m)) (.p (.int i n)) k = if n < m then k (.p (.bool true)) else k (.p (.bool false)) := by rw [bin_gtr, ltI_dec]; exact dec_split _ k
theorem i_geq (i : IntKind) (m n : Int) (k : D → R) : binK .geq (.p (.int i m)) (.p (.int i n)) k = if n ≤ m then k (.p (.bool true)) else k (.p (.bool false)) := by rw [bin_geq, leI_dec]; exact dec_split _ k
theorem s_eql (a b : List Nat) (k : D → R) : binK .eql (.p (.str a)) (.p (.str b)) k = if a = b then k (.p (.bool true)) else k (.p (.bool false)) := by rw [bin_seql, eqS_dec]; exact dec_split _ k
theorem s_neq (a b : List Nat) (k : D → R) : binK .neq (.p (.str a)) (.p (.str b)) k = if a = b then k (.p (.bool false)) else k (.p (.bool true)) := by rw [bin_sneq, eqS_dec]; exact not_split _ k
theorem gG_tt (run : KV → R) (hp : List Ob) (k : KV) : gG (.p (.bool true)) true run hp k = run k := rfl
theorem gG_tf (run : KV → R) (hp : List Ob) (k : KV) : gG (.p (.bool true)) false run hp k = k (.tup []) hp := rfl
theorem gG_ft (run : KV → R) (hp : List Ob) (k : KV) : gG (.p (.bool false)) true run hp k = k (.tup []) hp := rfl
theorem gG_ff (run : KV → R) (hp : List Ob) (k : KV) : gG (.p (.bool false)) false run hp k = run k := rfl
theorem gF_tt (run : KF → R) (hp : List Ob) (k : KF) : gF (.p (.bool true)) true run hp k = run k := rfl
theorem gF_tf (run : KF → R) (hp : List Ob) (k : KF) : gF (.p (.bool true)) false run hp k = k (.tup []) hp ⟨[], [], false, 0⟩ := rfl
theorem gF_ft (run : KF → R) (hp : List Ob) (k : KF) : gF (.p (.bool false)) true run hp k = k (.tup []) hp ⟨[], [], false, 0⟩ := rfl
theorem gF_ff (run : KF → R) (hp : List Ob) (k : KF) : gF (.p (.bool false)) false run hp k = run k := rfl
theorem pickK_t (a b : D) (k : D → R) : pickK (.p (.bool true)) a b k = k a := rfl
theorem pickK_f (a b : D) (k : D → R) : pickK (.p (.bool false)) a b k = k b := rfl
theorem notK_t (k : D → R) : notK (.p (.bool true)) k = k (.p (.bool false)) := rfl
theorem notK_f (k : D → R) : notK (.p (.bool false)) k = k (.p (.bool true)) := rfl
theorem condK_t (t e : R) : condK (.p (.bool true)) t e = t := rfl
theorem condK_f (t e : R) : condK (.p (.bool false)) t e = e := rfl
theorem call_bool {call : CallF} {f : Nat} {raw : Bool} {vs : List D} {hp : List Ob} {k : KV} {b : Bool} (hv : vs.all isP = true) (hc : call f vs [] = some (.p (.bool b), [])) : callG call f raw vs hp k = if b = true then k (.p (.bool true)) hp else k (.p (.bool false)) hp := by
  rw [call_known hv hc rfl]; cases b <;> rfl
theorem callF_bool {call : CallF} {f : Nat} {raw : Bool} {vs : List D} {hp : List Ob} {k : KF} {b : Bool} (hv : vs.all isP = true) (hc : call f vs [] = some (.p (.bool b), [])) : callF call f raw vs hp k = if b = true then k (.p (.bool true)) hp (footE hp) else k (.p (.bool false)) hp (footE hp) := by
  rw [callF_known hv hc rfl]; cases b <;> rfl
theorem binB_tt (call : CallF) (base kk : Nat) (a b : Bool) (hp : List Ob) (k : KV) : genV call base (.binB .eql) kk [.p (.bool a), .p (.bool b)] hp k = if a = b then k (.p (.bool true)) hp else k (.p (.bool false)) hp := by
  rw [binB_eql]; cases a <;> cases b <;> rfl
theorem apart_EN (h : List Ob) (n : Nat) : apart (footE h) ⟨[], [], false, n⟩ = true := apart_still rfl rfl rfl rfl
theorem apart_NE (h : List Ob) (n : Nat) : apart ⟨[], [], false, n⟩ (footE h) = true := apart_still rfl rfl rfl rfl
theorem apart_ON (h : List Ob) (o : O) (vs : List D) (n : Nat) : apart (footO o vs h) ⟨[], [], false, n⟩ = true := apart_still rfl rfl rfl rfl
theorem apart_NO (h : List Ob) (o : O) (vs : List D) (n : Nat) : apart ⟨[], [], false, n⟩ (footO o vs h) = true := apart_still rfl rfl rfl rfl
end Go.Ab
namespace Go.Ab
theorem nbeq_dec (a b : Nat) : Nat.beq a b = decide (a = b) := by rw [Bool.eq_iff_iff, Nat.beq_eq, decide_eq_true_eq]
theorem nble_dec (a b : Nat) : Nat.ble a b = decide (a ≤ b) := by rw [Bool.eq_iff_iff, Nat.ble_eq, decide_eq_true_eq]
theorem all_idx {α : Type} (l : List α) (d : α) (P : α → Prop) : (∀ j, j < l.length → P (l[j]?.getD d)) ↔ ∀ t, t ∈ l → P t := by
  constructor
  · intro h t ht
    obtain ⟨j, hj, rfl⟩ := List.mem_iff_getElem.1 ht
    have := h j hj
    rwa [List.getElem?_eq_getElem hj] at this
  · intro h j hj
    rw [List.getElem?_eq_getElem hj]
    exact h _ (List.getElem_mem hj)
end Go.Ab
namespace Go.Ab
/- Calls that hand on a function value which refers to the first box, of one cell without references. -/
theorem close_one (c : Da) (rest : List Ob) : close (.box [.p c] :: rest) closeFuel [0] [] = [0] := by
  show close (.box [.p c] :: rest) (3998 + 2) [0] [] = [0]
  simp [close, obIds, dids.didsL, dids]
theorem callv_ref1 {call : CallF} {base kk f : Nat} {x c r : Da} {rest : List Ob} {k : KV} (hc : call f [.p x, .box 0 0] [.box [.p c]] = some (.p r, [.box [.p c]])) : genW call base .callv kk [.fn f [.box 0 0], .p x] (.box [.p c] :: rest) k = k (.p r) (.box [.p c] :: rest) := by
  rw [genW_eq]
  have hn : need .callv [.fn f [.box 0 0], .p x] (.box [.p c] :: rest) = [0] := close_one c rest
  have hd : doCall call f [.p x, .box 0 0] [0] [.box [.p c]] (rest.length + 1) = some (.p r, [(0, .box [.p c])], []) := by
    have : doCall call f [.p x, .box 0 0] [0] [.box [.p c]] (rest.length + 1) = match call f [.p x, .box 0 0] [.box [.p c]] with
      | none => none
      | some (r, out) => bif Nat.ble 1 out.length then some (mapD (back 1 (rest.length + 1) [0] out.length) r, [0].zip (out.map (mapOb (back 1 (rest.length + 1) [0] out.length))), (out.map (mapOb (back 1 (rest.length + 1) [0] out.length))).drop 1) else none := rfl
    rw [this, hc]
    rfl
  simp only [genV, makes, Bool.not_false, Bool.true_or, cond_true, hn, act, aCallv]
  have e : doCall call f (List.map norm [D.p x] ++ [.box 0 0]) [0] (List.map (obAt (.box [.p c] :: rest)) [0]) (List.length (Ob.box [.p c] :: rest)) = some (.p r, [(0, .box [.p c])], []) := hd
  rw [e]
  rfl
theorem call_ref1 {call : CallF} {f g : Nat} {raw : Bool} {x c r : Da} {rest : List Ob} {k : KV} (hc : call f [.p x, .fn g [.box 0 0]] [.box [.p c]] = some (.p r, [.box [.p c]])) : callG call f raw [.p x, .fn g [.box 0 0]] (.box [.p c] :: rest) k = k (.p r) (.box [.p c] :: rest) := by
  rw [← callG_eq (base := 0) (kk := 0)]
  have hn : need (.call f raw) [.p x, .fn g [.box 0 0]] (.box [.p c] :: rest) = [0] := close_one c rest
  have ha : (bif raw then [D.p x, .fn g [.box 0 0]] else List.map norm [.p x, .fn g [.box 0 0]]) = [.p x, .fn g [.box 0 0]] := by cases raw <;> rfl
  have hd : doCall call f [.p x, .fn g [.box 0 0]] [0] [.box [.p c]] (rest.length + 1) = some (.p r, [(0, .box [.p c])], []) := by
    have : doCall call f [.p x, .fn g [.box 0 0]] [0] [.box [.p c]] (rest.length + 1) = match call f [.p x, .fn g [.box 0 0]] [.box [.p c]] with
      | none => none
      | some (r, out) => bif Nat.ble 1 out.length then some (mapD (back 1 (rest.length + 1) [0] out.length) r, [0].zip (out.map (mapOb (back 1 (rest.length + 1) [0] out.length))), (out.map (mapOb (back 1 (rest.length + 1) [0] out.length))).drop 1) else none := rfl
    rw [this, hc]
    rfl
  simp only [genV, makes, Bool.not_false, Bool.true_or, cond_true, hn, act, ha]
  have e : doCall call f [.p x, .fn g [.box 0 0]] [0] (List.map (obAt (.box [.p c] :: rest)) [0]) (List.length (Ob.box [.p c] :: rest)) = some (.p r, [(0, .box [.p c])], []) := hd
  rw [e]
  rfl
/- Results. -/
theorem finK_one (x c : Da) (rest : List Ob) (fz : Bool) : finK 1 fz [.p x] (.box [.p c] :: rest) = some (.p x, [.box [.p c]]) := by
  rw [finK_eq]
  have : fin 1 fz [.p x] (.box [.p c] :: rest) = fin 1 true [.p x] (.box [.p c] :: rest) := by cases fz <;> rfl
  rw [this]
  have h : close (.box [.p c] :: rest) closeFuel [] [0] = [0] := close_nil _ _ _
  simp only [fin, cond_true, frzL, dids, List.map_nil, pur, fzAll, updAll, dids.didsL, List.take_succ_cons, List.take_zero, List.flatMap_cons, obIds, List.flatMap_nil, List.append_nil, List.range_succ, List.range_zero, List.nil_append, h, one, shrinkOb, List.map_cons, obAt, List.getD_cons_zero, mapOb, mapD.mapDL, mapD]
theorem finK_V (c0 c1 c2 : Da) (o0 o1 : Ob) (es fs : List Da) (n m : Nat) (hn : n = es.length) (hm : m = fs.length) : finK 0 true [.agg [.p c0, .p c1, .p c2, .arr 2 0 n 1, .arr 3 0 m 1]] [o0, o1, .arr es, .arr fs] = some (.p (.agg [c0, c1, c2, .slice 1 es, .slice 1 fs]), []) := by
  subst hn hm
  have : finK 0 true [.agg [.p c0, .p c1, .p c2, .arr 2 0 es.length 1, .arr 3 0 fs.length 1]] [o0, o1, .arr es, .arr fs] = some (.p (.agg [c0, c1, c2, .slice 1 (es.take es.length), .slice 1 (fs.take fs.length)]), []) := by
    rw [finK_eq]; rfl
  rw [this, List.take_length, List.take_length]
end Go.Ab
namespace Go.Ab
theorem allPK_arr (id lo len z : Nat) (r : List D) (e : R) (k : List Da → R) : allPK (.arr id lo len z :: r) e k = e := rfl
theorem allPK_sl (g : Tag) (z : Nat) (es : List Da) (r : List D) (e : R) (k : List Da → R) : allPK (.sl g z es :: r) e k = e := rfl
theorem allPK_box (id off : Nat) (r : List D) (e : R) (k : List Da → R) : allPK (.box id off :: r) e k = e := rfl
theorem dcells_aggD (ds : List D) : dcells (.agg ds) = ds := rfl
end Go.Ab
namespace Go.Ab
theorem finK_sl (g : Tag) (z : Nat) (es : List Da) (hp : List Ob) : finK 0 true [.sl g z es] hp = some (.p (.slice z es), []) := by
  rw [finK_eq]; rfl
theorem finK_arr0 (es : List Da) (len z : Nat) (rest : List Ob) (h : es.length = len) : finK 0 true [.arr 0 0 len z] (.arr es :: rest) = some (.p (.slice z es), []) := by
  subst h; rw [finK_arr, List.take_length]
noncomputable def ownG (d : D) (s z : Nat) (tm : Tm) (hp : List Ob) (k : K) : R := bif ownD d then k (.cons s (.arr hp.length 0 0 z) tm) (hp ++ [.arr []]) else k tm hp
theorem gh_own (m s z : Nat) (tm : Tm) (hp : List Ob) (k : K) : ghK m (.own s z) tm hp k = ownG (getF tm s) s z tm hp k := by
  rw [ghK_eq]
  simp only [evGh, ← getF_eq, ownG]
  cases ownD (getF tm s) <;> rfl
theorem ownG_nil (z' s z : Nat) (tm : Tm) (hp : List Ob) (k : K) : ownG (.sl .nil z' []) s z tm hp k = k (.cons s (.arr hp.length 0 0 z) tm) (hp ++ [.arr []]) := rfl
theorem ownG_exact (z' s z : Nat) (tm : Tm) (hp : List Ob) (k : K) : ownG (.sl .exact z' []) s z tm hp k = k (.cons s (.arr hp.length 0 0 z) tm) (hp ++ [.arr []]) := rfl
theorem ownG_arr (i l n z' s z : Nat) (tm : Tm) (hp : List Ob) (k : K) : ownG (.arr i l n z') s z tm hp k = k tm hp := rfl
theorem app_own0 {call : CallF} {base esz bytes kk len : Nat} {rest : List Ob} {es : List Da} {x : Da} {g : Tag} {k : KV} (hl : es.length = len) (h1 : len ≤ 1000) (hb : bytes ≤ 1000) (hu : isUnborn (obF (.arr es :: rest) (base + kk)) = true) :
    appG call base esz bytes kk (.arr 0 0 len esz) (.sl g esz [x]) (.arr es :: rest) k = k (.arr (base + kk) 0 (len + 1) esz) (setOb (.dead :: rest) (base + kk) (.arr (es ++ [x]))) :=
  app_own (es := es) (ys := [x]) rfl hl (by
    have : (2 * (len + [x].length) + 192) * bytes ≤ 2194 * 1000 := Nat.mul_le_mul (by simp; omega) hb
    omega) (by simp; omega) hu
theorem app_own1 {call : CallF} {base esz bytes kk len : Nat} {o : Ob} {rest : List Ob} {es : List Da} {x : Da} {g : Tag} {k : KV} (hl : es.length = len) (h1 : len ≤ 1000) (hb : bytes ≤ 1000) (hu : isUnborn (obF (o :: .arr es :: rest) (base + kk)) = true) :
    appG call base esz bytes kk (.arr 1 0 len esz) (.sl g esz [x]) (o :: .arr es :: rest) k = k (.arr (base + kk) 0 (len + 1) esz) (setOb (o :: .dead :: rest) (base + kk) (.arr (es ++ [x]))) :=
  app_own (es := es) (ys := [x]) rfl hl (by
    have : (2 * (len + [x].length) + 192) * bytes ≤ 2194 * 1000 := Nat.mul_le_mul (by simp; omega) hb
    omega) (by simp; omega) hu
theorem take_snoc {α β : Type} (f : α → β) (l : List α) (j : Nat) (h : j < l.length) : (l.take j).map f ++ [f l[j]] = (l.take (j + 1)).map f := by
  rw [List.take_add_one, List.getElem?_eq_getElem h, List.map_append]; rfl
end Go.Ab
namespace Go.Ab
theorem apart_NN (n k : Nat) : apart ⟨[], [], false, n⟩ ⟨[], [], false, k⟩ = true := apart_still rfl rfl rfl rfl
end Go.Ab
namespace Go.Ab
theorem binB_nn (call : CallF) (base kk : Nat) (a b : Bool) (hp : List Ob) (k : KV) : genV call base (.binB .neq) kk [.p (.bool a), .p (.bool b)] hp k = if a = b then k (.p (.bool false)) hp else k (.p (.bool true)) hp := by
  rw [binB_neq]; cases a <;> cases b <;> rfl
/- Built structs. -/
theorem fillK_nil (cs : List D) (k : List D → R) : fillK [] cs [] k = k cs := rfl
theorem fillK_cons (p : Nat × Nat) (ps : List (Nat × Nat)) (cs : List D) (d : D) (ds : List D) (k : List D → R) : fillK (p :: ps) cs (d :: ds) k = bif Nat.beq (dcells d).length p.2 && (dcells d).all okCell then (bif Nat.ble (p.1 + p.2) cs.length then fillK ps (splF cs p.1 (dcells d)) ds k else none) else none := by
  show dcellsK d (fun xs => iff (fitL xs p.2) (iff (hasL cs (Nat.add p.1 p.2)) (fillK ps (splF cs p.1 xs) ds k) none) none) = _
  simp only [dcellsK_eq, iff_eq, fitL_eq, hasL_eq]
  rfl
theorem build_eq (zs : List D) (ps : List (Nat × Nat)) (vs : List D) (k : D → R) : buildG zs ps vs k = fillK ps zs vs fun cs => allPK cs (k (.agg cs)) fun xs => k (.p (.agg xs)) := rfl
end Go.Ab
namespace Go.Ab
/- Slices of arrays, growing, elements of arrays. -/
end Go.Ab
namespace Go.Ab
/- Operations with footprints that make or write objects. -/
theorem alloc_F (call : CallF) (base kk : Nat) (zs : List D) (hp : List Ob) (k : KF) : genF call base (.alloc zs) kk [] hp k = bif isUnborn (obF hp (base + kk)) then k (.box (base + kk) 0) (setOb hp (base + kk) (.box zs)) ⟨[base + kk], [base + kk], false, hp.length⟩ else none := by
  have hn : need (.alloc zs) [] hp = [] := rfl
  have : obAt hp (base + kk) = obF hp (base + kk) := (obF_eq hp _).symm
  simp only [genF, makes, Bool.not_true, Bool.false_or, hn, this, act, aAlloc, List.map_nil, cond_true]
  rfl
end Go.Ab
namespace Go.Ab
noncomputable def owncG (d : D) (off z : Nat) (tm : Tm) (hp : List Ob) (k : K) : R :=
  match d with
  | .box id o => caseBox (obF hp id) none fun cs => caseO cs[o + off]? none fun d => bif ownD d then k tm (setOb hp id (.box (cs.set (o + off) (.arr hp.length 0 0 z))) ++ [.arr []]) else k tm hp
  | _ => none
theorem gh_ownc (m s off z : Nat) (tm : Tm) (hp : List Ob) (k : K) : ghK m (.ownc s off z) tm hp k = owncG (getF tm s) off z tm hp k := by
  rw [ghK_eq]
  simp only [evGh, ← getF_eq, owncG]
  cases getF tm s <;> try rfl
  rename_i id o
  have : obAt hp id = obF hp id := (obF_eq hp id).symm
  simp only [this]
  cases obF hp id <;> try rfl
  rename_i cs
  simp only [caseBox]
  cases cs[o + off]? with
  | none => rfl
  | some d => simp only [caseO]; cases ownD d <;> rfl
theorem owncG_box (id o off z : Nat) (tm : Tm) (hp : List Ob) (k : K) : owncG (.box id o) off z tm hp k = caseBox (obF hp id) none fun cs => caseO cs[o + off]? none fun d => bif ownD d then k tm (setOb hp id (.box (cs.set (o + off) (.arr hp.length 0 0 z))) ++ [.arr []]) else k tm hp := rfl
theorem ownD_nil (z : Nat) : ownD (.sl .nil z []) = true := rfl
end Go.Ab
namespace Go.Ab
/- Registers and heap are computed before a region runs: a mark that simp takes off keeps it from looking at what comes behind. -/
def mk {α : Type} (x : α) : α := x
theorem mk_eq {α : Type} (x : α) : mk x = x := rfl
noncomputable def goH (nal : Nat) (f : CallF → Nat → Tm → List Ob → K → R) (c : CallF) (kn : K) (tm : Tm) (hp : List Ob) : R := f c hp.length tm (growN nal hp) kn
noncomputable def goD (nal : Nat) (ps : List (Nat × Nat)) (f : CallF → Nat → Tm → List Ob → (Tm → List Ob → List Foot → R) → R) (c : CallF) (kn : K) (tm : Tm) (hp : List Ob) : R := f c hp.length tm (growN nal hp) fun tm hp fs => iff (apartAll fs ps) (kn tm hp) none
theorem m_reg (c : CallF) (n m : Nat) (tm : Tm) (hp : List Ob) (kn : K) (ke : Nat → K) (kr : K) (nal : Nat) (f : CallF → Nat → Tm → List Ob → K → R) : regH nal f c n m tm hp kn ke kr = goH nal f c kn (mk tm) (mk hp) := rfl
theorem m_regD (c : CallF) (n m : Nat) (tm : Tm) (hp : List Ob) (kn : K) (ke : Nat → K) (kr : K) (nal : Nat) (ps : List (Nat × Nat)) (f : CallF → Nat → Tm → List Ob → (Tm → List Ob → List Foot → R) → R) : regD nal ps f c n m tm hp kn ke kr = goD nal ps f c kn (mk tm) (mk hp) := rfl
theorem goH_eq (nal : Nat) (f : CallF → Nat → Tm → List Ob → K → R) (c : CallF) (kn : K) (tm : Tm) (hp : List Ob) : goH nal f c kn tm hp = f c hp.length tm (growN nal hp) kn := rfl
theorem goD_eq (nal : Nat) (ps : List (Nat × Nat)) (f : CallF → Nat → Tm → List Ob → (Tm → List Ob → List Foot → R) → R) (c : CallF) (kn : K) (tm : Tm) (hp : List Ob) : goD nal ps f c kn tm hp = f c hp.length tm (growN nal hp) fun tm hp fs => iff (apartAll fs ps) (kn tm hp) none := rfl
@[congr] theorem c_goH {nal : Nat} {f : CallF → Nat → Tm → List Ob → K → R} {c : CallF} {kn : K} {tm tm' : Tm} {hp hp' : List Ob} (h1 : tm = tm') (h2 : hp = hp') : goH nal f c kn tm hp = goH nal f c kn tm' hp' := by rw [h1, h2]
@[congr] theorem c_goD {nal : Nat} {ps : List (Nat × Nat)} {f : CallF → Nat → Tm → List Ob → (Tm → List Ob → List Foot → R) → R} {c : CallF} {kn : K} {tm tm' : Tm} {hp hp' : List Ob} (h1 : tm = tm') (h2 : hp = hp') : goD nal ps f c kn tm hp = goD nal ps f c kn tm' hp' := by rw [h1, h2]
end Go.Ab
namespace Go.Ab
theorem finK_v1 (a b c : Da) (g g' : Tag) (z z' : Nat) (es es' : List Da) (hp : List Ob) : finK 0 true [.agg [.p a, .p b, .p c, .sl g z es, .sl g' z' es']] hp = some (.p (.agg [a, b, c, .slice z es, .slice z' es']), []) := by
  rw [finK_eq]; rfl
theorem finK_v2 (a b c e : Da) (g g' : Tag) (z z' : Nat) (es es' : List Da) (hp : List Ob) : finK 0 true [.agg [.p a, .p b, .p c, .sl g z es, .sl g' z' es'], .p e] hp = some (.tup [.p (.agg [a, b, c, .slice z es, .slice z' es']), .p e], []) := by
  rw [finK_eq]; rfl
end Go.Ab
namespace Go.Ab
theorem s_add (a b : List Nat) (k : D → R) (h : a.length + b.length ≤ 100000) : binK .add (.p (.str a)) (.p (.str b)) k = k (.p (.str (a ++ b))) := by
  have : Nat.ble (a.length + b.length) wordMax = true := Nat.ble_eq.mpr (by unfold wordMax; omega)
  simp [binK_eq, bin, binStr, optK, caseO, this]
theorem min_int (call : CallF) (base kk : Nat) (i : IntKind) (a b : Int) (hp : List Ob) (k : KV) : genV call base .min2 kk [.p (.int i a), .p (.int i b)] hp k = k (.p (.int i (if b < a then b else a))) hp := by
  rw [genV_still rfl]
  show effK (aMin2 [.p (.int i a), .p (.int i b)]) _ = _
  simp only [aMin2, if_true, ltI_dec]
  by_cases h : b < a <;> simp [h] <;> rfl
theorem slStr_hi (s : List Nat) (q : IntKind) (n : Nat) (k : D → R) (h : n ≤ s.length) : slStrG false true (.p (.str s)) [.p (.int q (n : Int))] k = k (.p (.str (s.take n))) := by
  have hb : bound (.p (.int q (n : Int))) s.length = some n := by
    simp only [bound, leI_dec]
    simp [h]
  simp only [slStrG, caseP, caseStr, takeK_eq, dropF_eq, lenF_eq, bounds, hb, caseO, List.drop_zero, Nat.sub_zero]
  rfl
end Go.Ab
namespace Go.Ab
theorem b_rem (i : IntKind) (m n : Int) (k : D → R) (h : n ≠ 0) : binK .rem (.p (.int i m)) (.p (.int i n)) k = k (.p (.int i (m.tmod n))) := by
  have : eqI n 0 = false := by rw [eqI_dec]; simpa using h
  simp [binK_eq, bin, isShift, binInt, optK, caseO, this]
theorem b_quo (i : IntKind) (m n : Int) (k : D → R) (h : n ≠ 0) : binK .quo (.p (.int i m)) (.p (.int i n)) k = k (.p (.int i (wrapF i (m.tdiv n)))) := by
  have : eqI n 0 = false := by rw [eqI_dec]; simpa using h
  simp [binK_eq, bin, isShift, binInt, optK, caseO, this]
theorem un_neg (call : CallF) (base kk : Nat) (i : IntKind) (n : Int) (hp : List Ob) (k : KV) : genV call base (.un .neg) kk [.p (.int i n)] hp k = k (.p (.int i (wrapF i (0 - n)))) hp := by
  rw [genV_still rfl]; rfl
theorem slStr_both (s : List Nat) (q q' : IntKind) (a b : Nat) (k : D → R) (h1 : a ≤ b) (h2 : b ≤ s.length) : slStrG true true (.p (.str s)) [.p (.int q (a : Int)), .p (.int q' (b : Int))] k = k (.p (.str ((s.drop a).take (b - a)))) := by
  have hb : bound (.p (.int q' (b : Int))) s.length = some b := by
    simp only [bound, leI_dec]
    simp [h2]
  have ha : bound (.p (.int q (a : Int))) b = some a := by
    simp only [bound, leI_dec]
    simp [h1]
  simp only [slStrG, caseP, caseStr, takeK_eq, dropF_eq, lenF_eq, bounds, hb, ha, caseO]
  rfl
end Go.Ab
end
/- Where simp looks: at an operation's operands, not at what comes behind. -/
section
namespace Go.Ab
open Go
@[congr] theorem c_binK {op : BinOp} {x x' y y' : D} {k : D → R} (hx : x = x') (hy : y = y') : binK op x y k = binK op x' y' k := by rw [hx, hy]
@[congr] theorem c_notK {d d' : D} {k : D → R} (hd : d = d') : notK d k = notK d' k := by rw [hd]
@[congr] theorem c_pickK {c c' a b : D} {k : D → R} (hc : c = c') : pickK c a b k = pickK c' a b k := by rw [hc]
@[congr] theorem c_iaG {z : Nat} {x x' i i' : D} {k : D → R} (hx : x = x') (hi : i = i') : iaG z x i k = iaG z x' i' k := by rw [hx, hi]
@[congr] theorem c_ixK {x x' i i' : D} {k : D → R} (hx : x = x') (hi : i = i') : ixK x i k = ixK x' i' k := by rw [hx, hi]
@[congr] theorem c_faG {off : Nat} {x x' : D} {k : D → R} (hx : x = x') : faG off x k = faG off x' k := by rw [hx]
@[congr] theorem c_nilckG {x x' : D} {k : D → R} (hx : x = x') : nilckG x k = nilckG x' k := by rw [hx]
@[congr] theorem c_extK {i : Nat} {x x' : D} {k : D → R} (hx : x = x') : extK i x k = extK i x' k := by rw [hx]
@[congr] theorem c_lenG {kd : Nat} {x x' : D} {hp hp' : List Ob} {k : D → R} (hx : x = x') (hhp : hp = hp') : lenG kd x hp k = lenG kd x' hp' k := by rw [hx, hhp]
@[congr] theorem c_load1G {x x' : D} {hp hp' : List Ob} {k : D → R} (hx : x = x') (hhp : hp = hp') : load1G x hp k = load1G x' hp' k := by rw [hx, hhp]
@[congr] theorem c_loadG {n : Nat} {agg : Bool} {x x' : D} {hp hp' : List Ob} {k : D → R} (hx : x = x') (hhp : hp = hp') : loadG n agg x hp k = loadG n agg x' hp' k := by rw [hx, hhp]
@[congr] theorem c_fldG {off n : Nat} {agg : Bool} {x x' : D} {k : D → R} (hx : x = x') : fldG off n agg x k = fldG off n agg x' k := by rw [hx]
@[congr] theorem c_buildG {zs : List D} {ps : List (Nat × Nat)} {vs vs' : List D} {k : D → R} (hvs : vs = vs') : buildG zs ps vs k = buildG zs ps vs' k := by rw [hvs]
@[congr] theorem c_slStrG {lo hi : Bool} {x x' : D} {xs xs' : List D} {k : D → R} (hx : x = x') (hxs : xs = xs') : slStrG lo hi x xs k = slStrG lo hi x' xs' k := by rw [hx, hxs]
@[congr] theorem c_boxG {base base' n kk : Nat} {d d' : D} {hp hp' : List Ob} {k : KV} (hbase : base = base') (hd : d = d') (hhp : hp = hp') : boxG base n kk d hp k = boxG base' n kk d' hp' k := by rw [hbase, hd, hhp]
@[congr] theorem c_allocG {base base' kk : Nat} {zs : List D} {hp hp' : List Ob} {k : KV} (hbase : base = base') (hhp : hp = hp') : allocG base kk zs hp k = allocG base' kk zs hp' k := by rw [hbase, hhp]
@[congr] theorem c_storeG {call : CallF} {base n kk : Nat} {a a' d d' : D} {hp hp' : List Ob} {k : KV} (ha : a = a') (hd : d = d') (hhp : hp = hp') : storeG call base n kk a d hp k = storeG call base n kk a' d' hp' k := by rw [ha, hd, hhp]
@[congr] theorem c_appG {call : CallF} {base base' esz bytes kk : Nat} {a a' b b' : D} {hp hp' : List Ob} {k : KV} (hbase : base = base') (ha : a = a') (hb : b = b') (hhp : hp = hp') : appG call base esz bytes kk a b hp k = appG call base' esz bytes kk a' b' hp' k := by rw [hbase, ha, hb, hhp]
@[congr] theorem c_bsl1G {call : CallF} {base esz : Nat} {z : Da} {kk : Nat} {d d' : D} {hp hp' : List Ob} {k : KV} (hd : d = d') (hhp : hp = hp') : bsl1G call base esz z kk d hp k = bsl1G call base esz z kk d' hp' k := by rw [hd, hhp]
@[congr] theorem c_genV {call : CallF} {base base' : Nat} {o : O} {kk : Nat} {vs vs' : List D} {hp hp' : List Ob} {k : KV} (hbase : base = base') (hvs : vs = vs') (hhp : hp = hp') : genV call base o kk vs hp k = genV call base' o kk vs' hp' k := by rw [hbase, hvs, hhp]
@[congr] theorem c_genW {call : CallF} {base base' : Nat} {o : O} {kk : Nat} {vs vs' : List D} {hp hp' : List Ob} {k : KV} (hbase : base = base') (hvs : vs = vs') (hhp : hp = hp') : genW call base o kk vs hp k = genW call base' o kk vs' hp' k := by rw [hbase, hvs, hhp]
@[congr] theorem c_genF {call : CallF} {base base' : Nat} {o : O} {kk : Nat} {vs vs' : List D} {hp hp' : List Ob} {k : KF} (hbase : base = base') (hvs : vs = vs') (hhp : hp = hp') : genF call base o kk vs hp k = genF call base' o kk vs' hp' k := by rw [hbase, hvs, hhp]
@[congr] theorem c_callG {call : CallF} {f : Nat} {raw : Bool} {vs vs' : List D} {hp hp' : List Ob} {k : KV} (hvs : vs = vs') (hhp : hp = hp') : callG call f raw vs hp k = callG call f raw vs' hp' k := by rw [hvs, hhp]
@[congr] theorem c_callF {call : CallF} {f : Nat} {raw : Bool} {vs vs' : List D} {hp hp' : List Ob} {k : KF} (hvs : vs = vs') (hhp : hp = hp') : callF call f raw vs hp k = callF call f raw vs' hp' k := by rw [hvs, hhp]
@[congr] theorem c_gG {d d' : D} {w : Bool} {run : KV → R} {hp hp' : List Ob} {k : KV} (hd : d = d') (hhp : hp = hp') : gG d w run hp k = gG d' w run hp' k := by rw [hd, hhp]
@[congr] theorem c_gF {d d' : D} {w : Bool} {run : KF → R} {hp hp' : List Ob} {k : KF} (hd : d = d') (hhp : hp = hp') : gF d w run hp k = gF d' w run hp' k := by rw [hd, hhp]
@[congr] theorem c_condK {d d' : D} {t e : R} (hd : d = d') : condK d t e = condK d' t e := by rw [hd]
@[congr] theorem c_caseBox {o o' : Ob} {e : R} {k : List D → R} (ho : o = o') : caseBox o e k = caseBox o' e k := by rw [ho]
@[congr] theorem c_nthK {α : Type} {l l' : List α} {i i' : Nat} {k : α → R} (hl : l = l') (hi : i = i') : nthK l i k = nthK l' i' k := by rw [hl, hi]
@[congr] theorem c_subK {α : Type} {l l' : List α} {off off' n : Nat} {k : List α → R} (hl : l = l') (hoff : off = off') : subK l off n k = subK l' off' n k := by rw [hl, hoff]
@[congr] theorem c_takeL {α : Type} {l l' : List α} {n n' : Nat} {k : List α → R} (hl : l = l') (hn : n = n') : takeL l n k = takeL l' n' k := by rw [hl, hn]
@[congr] theorem c_pick1K {agg : Bool} {ds ds' : List D} {k : D → R} (hds : ds = ds') : pick1K agg ds k = pick1K agg ds' k := by rw [hds]
@[congr] theorem c_allPK {ds ds' : List D} {e : R} {k : List Da → R} (hds : ds = ds') : allPK ds e k = allPK ds' e k := by rw [hds]
@[congr] theorem c_rvsK {tm : Tm} {hp : List Ob} {rs rs' : List Rv} {k : List D → R} (hrs : rs = rs') : rvsK tm hp rs k = rvsK tm hp rs' k := by rw [hrs]
@[congr] theorem c_loopK {m : Nat} {live : List Nat} {body : Tm → List Ob → K → R} {fuel : Nat} {tm tm' : Tm} {hp hp' : List Ob} (htm : tm = tm') (hhp : hp = hp') : loopK m live body fuel tm hp = loopK m live body fuel tm' hp' := by rw [htm, hhp]
@[congr] theorem c_keepK {m : Nat} {live : List Nat} {tm tm' : Tm} {hp hp' : List Ob} {k : K} (htm : tm = tm') (hhp : hp = hp') : keepK m live tm hp k = keepK m live tm' hp' k := by rw [htm, hhp]
@[congr] theorem c_ghK {m : Nat} {g : Gh} {tm tm' : Tm} {hp hp' : List Ob} {k : K} (htm : tm = tm') (hhp : hp = hp') : ghK m g tm hp k = ghK m g tm' hp' k := by rw [htm, hhp]
@[congr] theorem c_iff {b b' : Bool} {t e : R} (hb : b = b') : iff b t e = iff b' t e := by rw [hb]
@[congr] theorem c_seqS {a b : Sem} {c : CallF} {n m m' : Nat} {tm : Tm} {hp : List Ob} {kn : K} {ke : Nat → K} {kr : K} (hm : m = m') : seqS a b c n m tm hp kn ke kr = seqS a b c n m' tm hp kn ke kr := by rw [hm]
@[congr] theorem c_condS {a : A} {t e : Sem} {c : CallF} {n m m' : Nat} {tm : Tm} {hp : List Ob} {kn : K} {ke : Nat → K} {kr : K} (hm : m = m') : condS a t e c n m tm hp kn ke kr = condS a t e c n m' tm hp kn ke kr := by rw [hm]
@[congr] theorem c_blockS {i : Nat} {b : Sem} {c : CallF} {n m m' : Nat} {tm : Tm} {hp : List Ob} {kn : K} {ke : Nat → K} {kr : K} (hm : m = m') : blockS i b c n m tm hp kn ke kr = blockS i b c n m' tm hp kn ke kr := by rw [hm]
@[congr] theorem c_loopS {l : List Nat} {b : Sem} {c : CallF} {n m m' : Nat} {tm : Tm} {hp : List Ob} {kn : K} {ke : Nat → K} {kr : K} (hm : m = m') : loopS l b c n m tm hp kn ke kr = loopS l b c n m' tm hp kn ke kr := by rw [hm]
@[congr] theorem c_ghS {g : Gh} {b : Sem} {c : CallF} {n m m' : Nat} {tm : Tm} {hp : List Ob} {kn : K} {ke : Nat → K} {kr : K} (hm : m = m') : ghS g b c n m tm hp kn ke kr = ghS g b c n m' tm hp kn ke kr := by rw [hm]
@[congr] theorem c_regH {a : Nat} {f : CallF → Nat → Tm → List Ob → K → R} {c : CallF} {n m m' : Nat} {tm : Tm} {hp : List Ob} {kn : K} {ke : Nat → K} {kr : K} (hm : m = m') : regH a f c n m tm hp kn ke kr = regH a f c n m' tm hp kn ke kr := by rw [hm]
@[congr] theorem c_regD {a : Nat} {ps : List (Nat × Nat)} {f : CallF → Nat → Tm → List Ob → (Tm → List Ob → List Foot → R) → R} {c : CallF} {n m m' : Nat} {tm : Tm} {hp : List Ob} {kn : K} {ke : Nat → K} {kr : K} (hm : m = m') : regD a ps f c n m tm hp kn ke kr = regD a ps f c n m' tm hp kn ke kr := by rw [hm]
@[congr] theorem c_runH {b : Sem} {call : CallF} {n n' : Nat} {res : List Rv} {fz : Bool} {args : List D} {hp : List Ob} (hn : n = n') : runH b call n res fz args hp = runH b call n' res fz args hp := by rw [hn]
attribute [go_sem ↓] s_run s_seq m_reg m_regD s_ret s_skip s_cond s_block s_loop s_exit s_gh evA_t box_eq alloc_eq store_box fa_box fa_ip load1_box load1_ip loadG_box loadG_ip subK_zero subK_succ takeL_zero takeL_succ pick1_agg pick1_one allPK_nil allPK_cons allPK_arr allPK_sl allPK_box fld_p fld_agg nthK_zero nthK_succ caseBox_box caseO_some nilck_box nilck_ip ia_slice ix_str lenG_str lenG_slice lenG_sl lenG_arr i_eql i_neq i_lss i_leq i_gtr i_geq bin_add bin_sub s_eql s_neq gG_tt gG_tf gG_ft gG_ff gG_out gF_tt gF_tf gF_ft gF_ff gF_out binB_tt binB_nn build_eq fillK_nil fillK_cons bsl1_p store_boxF rvsK_cell rvG_box gh_own gh_ownc owncG_box ownG_nil ownG_exact ownG_arr pickK_t pickK_f condK_t condK_f notK_t notK_f cond_true cond_false iff_eq mkfn_nil mkfn_cap mkfn_ref not_false_eq_true ext_tup rvsK_t rvsK_nil
attribute [go_sem] box_eq alloc_eq store_box fa_box fa_ip load1_box load1_ip loadG_box loadG_ip subK_zero subK_succ takeL_zero takeL_succ pick1_agg pick1_one allPK_nil allPK_cons allPK_arr allPK_sl allPK_box fld_p fld_agg nthK_zero nthK_succ caseBox_box caseO_some nilck_box nilck_ip ia_slice ix_str lenG_str lenG_slice lenG_sl lenG_arr i_eql i_neq i_lss i_leq i_gtr i_geq bin_add bin_sub s_eql s_neq gG_tt gG_tf gG_ft gG_ff gG_out gF_tt gF_tf gF_ft gF_ff gF_out binB_tt binB_nn build_eq fillK_nil fillK_cons bsl1_p store_boxF rvsK_cell rvG_box gh_own gh_ownc owncG_box ownG_nil ownG_exact ownG_arr pickK_t pickK_f condK_t condK_f notK_t notK_f cond_true cond_false iff_eq mkfn_nil mkfn_cap mkfn_ref not_false_eq_true ext_tup rvsK_t rvsK_nil mk_eq goH_eq goD_eq growN_zero growN_one growN_succ List.replicate_succ List.replicate_zero numbered_nil numbered_cons getF_cons getF_nil Nat.zero_add Nat.add_zero List.nil_append List.append_nil List.cons_append List.map_cons List.map_nil List.length_nil List.length_cons List.length_map List.all_cons List.all_nil Bool.and_true Bool.true_and Bool.and_self isUnborn_unborn obF_zero obF_succ setOb_zero setOb_succ dcells_agg dcells_aggD dcells_int dcells_str dcells_bool dcells_slice dcells_sl dcells_arr mapP_nil mapP_cons okCell_p okCell_sl okCell_arr splF_zero splF_succ overF_nil overF_cons cells_agg cells_str cells_int eqI_dec ltI_dec leI_dec eqS_dec List.getElem?_cons_zero List.getElem?_cons_succ decide_true decide_false Bool.not_true Bool.not_false Bool.not_eq_true' decide_eq_true_eq decide_eq_false_iff_not Bool.false_eq_true Bool.true_eq_false ite_not finK_sl finK_p finK_p2 finK_p3 apartAll_nil apartAll_cons apart_EE apart_EO apart_OE apart_OO apart_EN apart_NE apart_ON apart_NO apart_NN nbeq_dec nble_dec eq_self if_true if_false ownD_nil List.set_cons_zero List.set_cons_succ beq_self_eq_true
attribute [go_sem_proc ↓] reduceIte
attribute [go_sem_proc] Nat.reduceEqDiff Nat.reduceAdd Nat.reduceSub Nat.reduceBEq Int.reduceEq Int.reduceLT Int.reduceLE Int.reduceNeg Nat.reduceLeDiff
end Go.Ab
end
/- Short forms for code. -/
section
namespace Go.Ab
instance (n : Nat) : OfNat A n := ⟨.t n⟩
namespace Z
def r (ops : List Opx) (out : List Nat) : Co := .reg 0 ops none out
def q (n : Nat) (ops : List Opx) (out : List Nat) : Co := .reg n ops none out
def d (n : Nat) (ops : List Opx) (ps : List (Nat × Nat)) (out : List Nat) : Co := .reg n ops (some ps) out
def s (a b : Co) : Co := .seq a b
def c (n : Nat) (a b : Co) : Co := .cond (.t n) a b
def b (i : Nat) (a : Co) : Co := .block i a
def e (i : Nat) : Co := .exit i
def k : Co := .skip
def x : Co := .ret
def o (d : Nat) (p : O) (a : List A) : Opx := ⟨some d, p, a, 0, none⟩
def v (k d : Nat) (p : O) (a : List A) : Opx := ⟨some d, p, a, k, none⟩
def w (p : O) (a : List A) : Opx := ⟨none, p, a, 0, none⟩
def g (t d : Nat) (p : O) (a : List A) : Opx := ⟨some d, p, a, 0, some (t, true)⟩
def n (t d : Nat) (p : O) (a : List A) : Opx := ⟨some d, p, a, 0, some (t, false)⟩
def i (z : Int) : A := .c (.int .i64 z)
def tt : A := .c (.bool true)
def ff : A := .c (.bool false)
def m : O := .mv
def p : O := .pick
def eq : O := .bin .eql
def ne : O := .bin .neq
def lt : O := .bin .lss
def le : O := .bin .leq
def gt : O := .bin .gtr
def ge : O := .bin .geq
def ad : O := .bin .add
def sb : O := .bin .sub
def ld (n : Nat) : O := .load n true
def l1 : O := .load 1 false
def ca (f : Nat) : O := .call f false
def nt : O := .un .not
end Z
abbrev iT (f n : Nat) (x : Fx) : Option Fn := bif Nat.beq f n then some (.code x) else none
end Go.Ab
end
/- The code as functions, computed by simp: one law for each form of code. -/
section
namespace Go.Ab
open Go
section
variable (call : CallF) (base kk : Nat) (tm : Tm) (hp : List Ob) (k : KV) (q : K) (qf : Tm → List Ob → List Foot → R) (fs : List Foot)
theorem d_skip : den .skip = skipS := rfl
theorem d_ret : den .ret = retS := rfl
theorem d_exit (i : Nat) : den (.exit i) = exitS i := rfl
theorem d_seq (a b : Co) : den (.seq a b) = seqS (den a) (den b) := rfl
theorem d_cond (c : A) (t e : Co) : den (.cond c t e) = condS c (den t) (den e) := rfl
theorem d_block (i : Nat) (b : Co) : den (.block i b) = blockS i (den b) := rfl
theorem d_loop (l : List Nat) (b : Co) : den (.loop l b) = loopS l (den b) := rfl
theorem d_gh (g : Gh) (b : Co) : den (.gh g b) = ghS g (den b) := rfl
theorem d_reg (nal : Nat) (ops : List Opx) (out : List Nat) : den (.reg nal ops none out) = regH nal fun call base tm hp k => kOps call base ops tm hp fun tm hp => k (keepF out tm) hp := rfl
theorem d_regD (nal : Nat) (ops : List Opx) (ps : List (Nat × Nat)) (out : List Nat) : den (.reg nal ops (some ps) out) = regD nal ps fun call base tm hp k => kOpsF call base ops tm hp [] fun tm hp fs => k (keepF out tm) hp fs := rfl
theorem o_nil : kOps call base [] tm hp q = q tm hp := rfl
theorem o_cons (d : Nat) (o : O) (as : List A) (r : List Opx) : kOps call base (⟨some d, o, as, kk, none⟩ :: r) tm hp q = kOp call base o kk (mapA tm as) hp fun v hp => kOps call base r (.cons d v tm) hp q := rfl
theorem o_none (o : O) (as : List A) (r : List Opx) : kOps call base (⟨none, o, as, kk, none⟩ :: r) tm hp q = kOp call base o kk (mapA tm as) hp fun _ hp => kOps call base r tm hp q := rfl
theorem o_consG (d : Nat) (o : O) (as : List A) (g : Nat) (w : Bool) (r : List Opx) : kOps call base (⟨some d, o, as, kk, some (g, w)⟩ :: r) tm hp q = gG (getF tm g) w (fun k => kOp call base o kk (mapA tm as) hp k) hp fun v hp => kOps call base r (.cons d v tm) hp q := rfl
theorem o_noneG (o : O) (as : List A) (g : Nat) (w : Bool) (r : List Opx) : kOps call base (⟨none, o, as, kk, some (g, w)⟩ :: r) tm hp q = gG (getF tm g) w (fun k => kOp call base o kk (mapA tm as) hp k) hp fun _ hp => kOps call base r tm hp q := rfl
theorem mapA_nil : mapA tm [] = [] := rfl
theorem mapA_cons (a : A) (r : List A) : mapA tm (a :: r) = evA tm a :: mapA tm r := rfl
theorem evA_c (x : Da) : evA tm (.c x) = .p x := rfl
theorem evA_n (z : Nat) : evA tm (.n z) = .sl .nil z [] := rfl
theorem evA_f (g : Nat) : evA tm (.f g) = .p (.fn g []) := rfl
theorem evA_g (x : Da) : evA tm (.g x) = .ip x 0 := rfl
theorem k_mv (a : D) : kOp call base .mv kk [a] hp k = k a hp := rfl
theorem k_pick (c a b : D) : kOp call base .pick kk [c, a, b] hp k = pickK c a b fun v => k v hp := rfl
theorem k_bin (op : BinOp) (x y : D) : kOp call base (.bin op) kk [x, y] hp k = binK op x y fun v => k v hp := rfl
theorem k_not (x : D) : kOp call base (.un .not) kk [x] hp k = notK x fun v => k v hp := rfl
theorem k_ia (esz : Nat) (x i : D) : kOp call base (.ia esz) kk [x, i] hp k = iaG esz x i fun v => k v hp := rfl
theorem k_ix (x i : D) : kOp call base .ix kk [x, i] hp k = ixK x i fun v => k v hp := rfl
theorem k_fa (off : Nat) (x : D) : kOp call base (.fa off) kk [x] hp k = faG off x fun v => k v hp := rfl
theorem k_nilck (x : D) : kOp call base .nilck kk [x] hp k = nilckG x fun v => k v hp := rfl
theorem k_ext (i : Nat) (x : D) : kOp call base (.ext i) kk [x] hp k = extK i x fun v => k v hp := rfl
theorem k_len (kd : Nat) (x : D) : kOp call base (.len kd) kk [x] hp k = lenG kd x hp fun v => k v hp := rfl
theorem k_load1 (x : D) : kOp call base (.load 1 false) kk [x] hp k = load1G x hp fun v => k v hp := rfl
theorem k_load (n : Nat) (x : D) : kOp call base (.load n true) kk [x] hp k = loadG n true x hp fun v => k v hp := by unfold kOp; split <;> simp_all
theorem k_call (f : Nat) (raw : Bool) (vs : List D) : kOp call base (.call f raw) kk vs hp k = callG call f raw vs hp k := rfl
theorem k_alloc (zs : List D) : kOp call base (.alloc zs) kk [] hp k = allocG base kk zs hp k := rfl
theorem k_box (n : Nat) (d : D) : kOp call base (.box n) kk [d] hp k = boxG base n kk d hp k := rfl
theorem k_store (n : Nat) (a d : D) : kOp call base (.store n) kk [a, d] hp k = storeG call base n kk a d hp k := rfl
theorem k_slStr (lo hi : Bool) (x : D) (xs : List D) : kOp call base (.slStr lo hi) kk (x :: xs) hp k = slStrG lo hi x xs fun v => k v hp := rfl
theorem k_fld (off n : Nat) (agg : Bool) (x : D) : kOp call base (.fld off n agg) kk [x] hp k = fldG off n agg x fun v => k v hp := rfl
theorem k_build (zs : List D) (ps : List (Nat × Nat)) (vs : List D) : kOp call base (.build zs ps) kk vs hp k = buildG zs ps vs fun v => k v hp := rfl
theorem k_app (esz bytes : Nat) (a b : D) : kOp call base (.app esz bytes) kk [a, b] hp k = appG call base esz bytes kk a b hp k := rfl
theorem k_bsl1 (esz : Nat) (z : Da) (d : D) : kOp call base (.bsl esz z 1 [0]) kk [d] hp k = bsl1G call base esz z kk d hp k := rfl
end
end Go.Ab
namespace Go.Ab
open Go
section
variable (call : CallF) (base kk : Nat) (tm : Tm) (hp : List Ob) (k : KV) (q : K) (qf : Tm → List Ob → List Foot → R) (kf : KF) (fs : List Foot) (vs : List D)
theorem p_nil : kOpsF call base [] tm hp fs qf = qf tm hp fs.reverse := rfl
theorem p_cons (d : Nat) (o : O) (as : List A) (r : List Opx) : kOpsF call base (⟨some d, o, as, kk, none⟩ :: r) tm hp fs qf = kOpF call base o kk (mapA tm as) hp fun v hp f => kOpsF call base r (.cons d v tm) hp (f :: fs) qf := rfl
theorem p_none (o : O) (as : List A) (r : List Opx) : kOpsF call base (⟨none, o, as, kk, none⟩ :: r) tm hp fs qf = kOpF call base o kk (mapA tm as) hp fun _ hp f => kOpsF call base r tm hp (f :: fs) qf := rfl
theorem p_consG (d : Nat) (o : O) (as : List A) (g : Nat) (w : Bool) (r : List Opx) : kOpsF call base (⟨some d, o, as, kk, some (g, w)⟩ :: r) tm hp fs qf = gF (getF tm g) w (fun k => kOpF call base o kk (mapA tm as) hp k) hp fun v hp f => kOpsF call base r (.cons d v tm) hp (f :: fs) qf := rfl
theorem p_noneG (o : O) (as : List A) (g : Nat) (w : Bool) (r : List Opx) : kOpsF call base (⟨none, o, as, kk, some (g, w)⟩ :: r) tm hp fs qf = gF (getF tm g) w (fun k => kOpF call base o kk (mapA tm as) hp k) hp fun _ hp f => kOpsF call base r tm hp (f :: fs) qf := rfl
theorem kF_call (f : Nat) (raw : Bool) : kOpF call base (.call f raw) kk vs hp kf = callF call f raw vs hp kf := rfl
theorem k_mkfn (f : Nat) : kOp call base (.mkfn f) kk vs hp k = genV call base (.mkfn f) kk vs hp k := by unfold kOp; rfl
theorem k_conv (i : IntKind) : kOp call base (.conv i) kk vs hp k = genV call base (.conv i) kk vs hp k := by unfold kOp; rfl
theorem k_binB (op : BinOp) : kOp call base (.binB op) kk vs hp k = genV call base (.binB op) kk vs hp k := by unfold kOp; rfl
theorem k_binN (n : Nat) (op : BinOp) : kOp call base (.binN n op) kk vs hp k = genV call base (.binN n op) kk vs hp k := by unfold kOp; rfl
theorem k_binS (ks : List Nat) (op : BinOp) : kOp call base (.binS ks op) kk vs hp k = genV call base (.binS ks op) kk vs hp k := by unfold kOp; rfl
theorem k_neg : kOp call base (.un .neg) kk vs hp k = genV call base (.un .neg) kk vs hp k := by unfold kOp; rfl
theorem k_mkif (t : Nat) : kOp call base (.mkif t) kk vs hp k = genV call base (.mkif t) kk vs hp k := by unfold kOp; rfl
theorem k_iaa (n z : Nat) : kOp call base (.iaa n z) kk vs hp k = genV call base (.iaa n z) kk vs hp k := by unfold kOp; rfl
theorem k_lkp (t : TypeDesc) (z : D) (b : Bool) : kOp call base (.lkp t z b) kk vs hp k = genV call base (.lkp t z b) kk vs hp k := by unfold kOp; rfl
theorem k_cap : kOp call base .cap kk vs hp k = genV call base .cap kk vs hp k := by unfold kOp; rfl
theorem k_min : kOp call base .min2 kk vs hp k = genV call base .min2 kk vs hp k := by unfold kOp; rfl
theorem k_max : kOp call base .max2 kk vs hp k = genV call base .max2 kk vs hp k := by unfold kOp; rfl
theorem k_same : kOp call base .same kk vs hp k = genV call base .same kk vs hp k := by unfold kOp; rfl
theorem k_assert (t : Nat) (z : D) (b : Bool) : kOp call base (.assertT t z b) kk vs hp k = genV call base (.assertT t z b) kk vs hp k := by unfold kOp; rfl
theorem k_b2s : kOp call base .b2s kk vs hp k = genV call base .b2s kk vs hp k := by unfold kOp; rfl
theorem k_s2b : kOp call base .s2b kk vs hp k = genV call base .s2b kk vs hp k := by unfold kOp; rfl
theorem k_mkmap : kOp call base .mkmap kk vs hp k = genW call base .mkmap kk vs hp k := by unfold kOp; rfl
theorem k_mksl (z : Nat) (x : Da) (b : Nat) : kOp call base (.mksl z x b) kk vs hp k = genW call base (.mksl z x b) kk vs hp k := by unfold kOp; rfl
theorem k_bslm (z : Nat) (x : Da) (n : Nat) (ps : List Nat) : kOp call base (.bslm z x n ps) kk vs hp k = genW call base (.bslm z x n ps) kk vs hp k := by unfold kOp; rfl
theorem k_bsle (z : Nat) (x : Da) (n : Nat) (ps : List Nat) : kOp call base (.bsle z x n ps) kk vs hp k = genW call base (.bsle z x n ps) kk vs hp k := by unfold kOp; rfl
theorem k_slSl (z : Nat) (a b c : Bool) : kOp call base (.slSl z a b c) kk vs hp k = genW call base (.slSl z a b c) kk vs hp k := by unfold kOp; rfl
theorem k_mupd (t : TypeDesc) : kOp call base (.mupd t) kk vs hp k = genW call base (.mupd t) kk vs hp k := by unfold kOp; rfl
theorem k_callv : kOp call base .callv kk vs hp k = genW call base .callv kk vs hp k := by unfold kOp; rfl
theorem k_appm (z : Nat) (x : Da) (b : Nat) : kOp call base (.appm z x b) kk vs hp k = genW call base (.appm z x b) kk vs hp k := by unfold kOp; rfl
theorem k_clone : kOp call base .clone kk vs hp k = genW call base .clone kk vs hp k := by unfold kOp; rfl
theorem k_pan : kOp call base .pan kk vs hp k = genW call base .pan kk vs hp k := by unfold kOp; rfl
theorem k_bsl (esz : Nat) (z : Da) (n : Nat) (i j : Nat) (ps : List Nat) : kOp call base (.bsl esz z n (i :: j :: ps)) kk vs hp k = genW call base (.bsl esz z n (i :: j :: ps)) kk vs hp k := by unfold kOp; split <;> first | rfl | simp_all
end
end Go.Ab
namespace Go.Ab
theorem ofA (n : Nat) : (OfNat.ofNat n : A) = .t n := rfl
attribute [go_sem] Z.r Z.q Z.d Z.s Z.c Z.b Z.e Z.k Z.x Z.o Z.v Z.w Z.g Z.n Z.i Z.tt Z.ff Z.m Z.p Z.eq Z.ne Z.lt Z.le Z.gt Z.ge Z.ad Z.sb Z.ld Z.l1 Z.ca Z.nt ofA
attribute [go_sem] d_skip d_ret d_exit d_seq d_cond d_block d_loop d_gh d_reg d_regD o_nil o_cons o_none o_consG o_noneG mapA_nil mapA_cons evA_t evA_c evA_n evA_f evA_g k_mv k_pick k_bin k_not k_ia k_ix k_fa k_nilck k_ext k_len k_load1 k_load k_call k_alloc k_box k_store k_slStr k_fld k_build k_app k_bsl1 p_nil p_cons p_none p_consG p_noneG kF_call k_mkfn k_conv k_binB k_binN k_binS k_neg k_mkif k_iaa k_lkp k_cap k_min k_max k_same k_assert k_b2s k_s2b k_mkmap k_mksl k_bslm k_bsle k_slSl k_mupd k_callv k_appm k_clone k_pan k_bsl kOpF still getF_cons keepF_nil keepF_cons List.reverse_cons List.reverse_nil List.nil_append List.cons_append
abbrev PX (x : Fx) := { h : Sem // den x.body = h }
abbrev PY (c : Co) := { h : Sem // den c = h }
noncomputable abbrev iB (f n : Nat) (x : Fx) (h : Sem) : Option Hn := iffO (Nat.beq f n) (some (.code h x.res x.fz)) none
noncomputable abbrev iI (f n : Nat) (a b : Option Hn) : Option Hn := iffO (Nat.blt f n) a b
end Go.Ab
end
