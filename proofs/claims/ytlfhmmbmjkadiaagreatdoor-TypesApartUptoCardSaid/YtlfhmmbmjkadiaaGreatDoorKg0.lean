/- The evaluator and its laws, part Kg0: Ka Kb Kc Ia Kd Ke Kf -/
import Derived.Test.YtlfhmmbmjkadiaaGreatDoorDcA
import Derived.Test.YtlfhmmbmjkadiaaGreatDoorAl
import Derived.Test.YtlfhmmbmjkadiaaGreatDoorOg0
import Derived.Test.YtlfhmmbmjkadiaaGreatDoorOg1
set_option linter.all false
/- Typed programs of the actor language, as data. -/
section
namespace Go.Ab
open Go
noncomputable section
structure Va where
 k : Int
 n : Int
 s : List Nat
 I : List Int
 L : List (List Nat)
structure No where
 op : Int
 name : List Nat
 v : Va
 kids : List Int
structure Pa where
 name : List Nat
 kind : Int
structure Fe where
 name : List Nat
 kind : Int
 init : Va
structure Me where
 name : List Nat
 params : List Pa
 result : Int
 nodes : List No
structure Ac where
 name : List Nat
 fields : List Fe
 methods : List Me
def iE (i : Int) : Da := .int .i64 i
def No.r (n : No) : api_Node := ⟨n.op, n.name, n.v.k, n.v.n, n.v.s, n.v.I.map iE, n.v.L.map .str, n.kids.map iE⟩
def No.e (n : No) : Da := n.r.e
def Pa.r (p : Pa) : api_Param := ⟨p.name, p.kind⟩
def Pa.e (p : Pa) : Da := p.r.e
def Fe.r (f : Fe) : api_Field := ⟨f.name, f.kind, f.init.k, f.init.n, f.init.s, f.init.I.map iE, f.init.L.map .str⟩
def Fe.e (f : Fe) : Da := f.r.e
def Me.r (m : Me) : api_Method := ⟨m.name, m.params.map Pa.e, m.result, m.nodes.map No.e⟩
def Me.e (m : Me) : Da := m.r.e
def Ac.r (a : Ac) : api_ActorType := ⟨a.name, a.fields.map Fe.e, a.methods.map Me.e⟩
def Ac.e (a : Ac) : Da := a.r.e
theorem dNo (n : No) (K : api_Node → R) : d_api_Node n.e K = K n.r := rfl
theorem dPa (n : Pa) (K : api_Param → R) : d_api_Param n.e K = K n.r := rfl
theorem dFe (n : Fe) (K : api_Field → R) : d_api_Field n.e K = K n.r := rfl
theorem dMe (n : Me) (K : api_Method → R) : d_api_Method n.e K = K n.r := rfl
theorem dAc (n : Ac) (K : api_ActorType → R) : d_api_ActorType n.e K = K n.r := rfl
theorem dI (i : Int) (K : Int → R) : dInt .i64 (iE i) K = K i := rfl
def big : Nat := 1000000000000
theorem wS {i : Nat} (h : i < big) : wrapF .i64 ((i : Int) + 1) = ((i + 1 : Nat) : Int) := by
 unfold big at h
 rw [wrapI (by omega) (by omega)]; omega
theorem ltT {a b : Int} (h : a < b) : ltI a b = true := by rw [ltI_d]; simpa using h
theorem ltF {a b : Int} (h : ¬ a < b) : ltI a b = false := by rw [ltI_d]; simpa using h
theorem ltII (a : Int) : ltI a a = false := ltF (Int.lt_irrefl a)
structure Vr where
 kind : Int
 slot : Int
 field : Bool
def Vr.r (v : Vr) : types_variable := ⟨v.kind, v.slot, v.field⟩
def Vr.e (v : Vr) : Da := v.r.e
theorem dVr (n : Vr) (K : types_variable → R) : d_types_variable n.e K = K n.r := rfl
def getS {β : Type} (l : List (List Nat × β)) (s : List Nat) : Option β := (l.find? fun p => decide (s = p.1)).map (·.2)
def putS {β : Type} (l : List (List Nat × β)) (s : List Nat) (v : β) : List (List Nat × β) := match l.findIdx? (fun p => decide (s = p.1)) with | some j => l.set j (s, v) | none => l ++ [(s, v)]
def getI {β : Type} (l : List (Int × β)) (s : Int) : Option β := (l.find? fun p => decide (s = p.1)).map (·.2)
def putI {β : Type} (l : List (Int × β)) (s : Int) (v : β) : List (Int × β) := match l.findIdx? (fun p => decide (s = p.1)) with | some j => l.set j (s, v) | none => l ++ [(s, v)]
theorem findK_from {α : Type} (kt : TypeDesc) (k : Da) (f : α → Da) (p : α → Bool) (h : ∀ x, keyEq kt k (f x) = some (p x)) : ∀ (l : List α) (i : Nat), findK kt k (l.map f) i = some ((l.findIdx? p).map (i + ·))
 | [], i => rfl
 | x :: r, i => by
  simp only [List.map_cons, findK, h, List.findIdx?_cons]
  cases p x
  ·simp only [findK_from kt k f p h r (i + 1), Bool.false_eq_true, if_false, Option.map_map]
   congr 1
   cases r.findIdx? p with
   | none => rfl
   | some j => simp only [Option.map_some, Function.comp]; congr 1; omega
  ·rfl
theorem findK_S {β : Type} (l : List (List Nat × β)) (s : List Nat) : findK .string (.str s) (l.map fun p => .str p.1) 0 = some (l.findIdx? fun p => decide (s = p.1)) := by
 rw [findK_from .string (.str s) (fun p : List Nat × β => .str p.1) (fun p => decide (s = p.1)) (fun x => by simp only [keyEq, eqS_d])]
 cases l.findIdx? (fun p => decide (s = p.1)) <;> simp
theorem findK_I {β : Type} (l : List (Int × β)) (s : Int) : findK (.int .i64) (.int .i64 s) (l.map fun p => .int .i64 p.1) 0 = some (l.findIdx? fun p => decide (s = p.1)) := by
 rw [findK_from (.int .i64) (.int .i64 s) (fun p : Int × β => .int .i64 p.1) (fun p => decide (s = p.1)) (fun x => by simp only [keyEq, if_true, eqI_d])]
 cases l.findIdx? (fun p => decide (s = p.1)) <;> simp
theorem find_idx {α : Type} (p : α → Bool) : ∀ (l : List α), (match l.findIdx? p with | some j => l[j]? | none => none) = l.find? p
 | [] => rfl
 | x :: r => by
  simp only [List.findIdx?_cons, List.find?_cons]
  cases p x
  ·simp only [Bool.false_eq_true, if_false]
   rw [← find_idx p r]
   cases r.findIdx? p <;> rfl
  ·rfl
def mO {β : Type} (o : Option β) (E : R) (K : β → R) : R := match o with | none => E | some v => K v
theorem mO_n {β : Type} (E : R) (K : β → R) : mO none E K = E := rfl
theorem mO_s {β : Type} (v : β) (E : R) (K : β → R) : mO (some v) E K = K v := rfl
theorem lkS {β : Type} (l : List (List Nat × β)) (s : List Nat) (e : β → Da) (E : R) (K : Da → R) : (cL (findK .string (.str s) (l.map fun p => .str p.1) 0) fun y => optN y E fun n => cL (l.map fun p => e p.2)[n]? K) = mO (getS l s) E fun v => K (e v) := by
 rw [findK_S]
 unfold getS
 rw [← find_idx]
 cases h : l.findIdx? (fun p => decide (s = p.1)) with
 | none => rfl
 | some j =>
  have hj : j < l.length := (List.findIdx?_eq_some_iff_getElem.1 h).1
  simp only [cL_s, optN_s, List.getElem?_map, List.getElem?_eq_getElem hj, Option.map_some, mO_s]
theorem set_keys {α β : Type} {l : List (α × β)} {j : Nat} {s : α} {v : β} {hj : j < l.length} (h : l[j].1 = s) : (l.set j (s, v)).map (·.1) = l.map (·.1) := by
 apply List.ext_getElem?
 intro k
 simp only [List.getElem?_map, List.getElem?_set]
 by_cases hk : j = k
 ·subst hk; simp [hj, ← h]
 ·simp [hk]
theorem upS {β : Type} (l : List (List Nat × β)) (s : List Nat) (e : β → Da) (v : β) (G : List Da → List Da → R) : (cL (findK .string (.str s) (l.map fun p => .str p.1) 0) fun y => optN y (G ((l.map fun p => .str p.1) ++ [.str s]) ((l.map fun p => e p.2) ++ [e v])) fun n => G (l.map fun p => .str p.1) ((l.map fun p => e p.2).set n (e v))) = G ((putS l s v).map fun p => .str p.1) ((putS l s v).map fun p => e p.2) := by
 rw [findK_S]
 unfold putS
 cases h : l.findIdx? (fun p => decide (s = p.1)) with
 | none => simp only [cL_s, optN_n, List.map_append, List.map_cons, List.map_nil]
 | some j =>
  obtain ⟨hj, hp, _⟩ := List.findIdx?_eq_some_iff_getElem.1 h
  have hk : (l.set j (s, v)).map (·.1) = l.map (·.1) := set_keys (hj := hj) (by simpa using (of_decide_eq_true hp).symm)
  simp only [cL_s, optN_s]
  congr 1
  ·have := congrArg (List.map Da.str) hk
   simp only [List.map_map] at this
   exact this.symm
  ·rw [List.map_set]
theorem upI {β : Type} (l : List (Int × β)) (s : Int) (e : β → Da) (v : β) (G : List Da → List Da → R) : (cL (findK (.int .i64) (.int .i64 s) (l.map fun p => .int .i64 p.1) 0) fun y => optN y (G ((l.map fun p => .int .i64 p.1) ++ [.int .i64 s]) ((l.map fun p => e p.2) ++ [e v])) fun n => G (l.map fun p => .int .i64 p.1) ((l.map fun p => e p.2).set n (e v))) = G ((putI l s v).map fun p => .int .i64 p.1) ((putI l s v).map fun p => e p.2) := by
 rw [findK_I]
 unfold putI
 cases h : l.findIdx? (fun p => decide (s = p.1)) with
 | none => simp only [cL_s, optN_n, List.map_append, List.map_cons, List.map_nil]
 | some j =>
  obtain ⟨hj, hp, _⟩ := List.findIdx?_eq_some_iff_getElem.1 h
  have hk : (l.set j (s, v)).map (·.1) = l.map (·.1) := set_keys (hj := hj) (by simpa using (of_decide_eq_true hp).symm)
  simp only [cL_s, optN_s]
  congr 1
  ·have := congrArg (List.map (Da.int .i64)) hk
   simp only [List.map_map] at this
   exact this.symm
  ·rw [List.map_set]
structure CS where
 pr : List Ac
 fs : List (List Nat × Vr)
 ns : List No
 re : Int
 nd : Int
 er : Int
 sc : List (List Nat × Vr)
 le : List (List Nat × Bool)
 lo : List Pa
 ki : List (Int × Int)
 va : List (Int × Vr)
def CS.k (c : CS) : Ckr := ⟨c.pr.map Ac.e, c.fs.map fun p => .str p.1, c.fs.map fun p => p.2.e, c.ns.map No.e, c.re, c.lo.length, c.nd, c.er, c.sc.map fun p => .str p.1, c.sc.map fun p => p.2.e, c.le.map fun p => .str p.1, c.le.map fun p => .bool p.2, c.lo.map Pa.e, c.ki.map fun p => .int .i64 p.1, c.ki.map fun p => .int .i64 p.2, c.va.map fun p => .int .i64 p.1, c.va.map fun p => p.2.e⟩
theorem dCS (c : CS) (K : Ckr → R) : d_Ckr c.k.hp K = K c.k := rfl
def ixOf (o : Option Nat) : Int := match o with | some j => j | none => -1
end
end Go.Ab
end
/- The checker's small functions on typed data. -/
section
namespace Go.Ab
open Go
noncomputable section
def failS (c : CS) (i e : Int) : CS := if c.er = 0 then {c with nd := i, er := e} else c
def wantS (c : CS) (i : Int) (b : Bool) : CS := if b = true then c else failS c i 15
def findS (c : CS) (s : List Nat) : Option Vr := match getS c.fs s with
 | some v => some v
 | none => getS c.sc s
def useS (c : CS) (i : Int) (s : List Nat) : Vr × CS := match findS c s with
 | some v => (v, {c with va := putI c.va i v})
 | none => (⟨0, 0, false⟩, failS c i 14)
def declS (c : CS) (s : List Nat) (k : Int) : Option CS := if c.lo.length < 1000000 then some {c with sc := putS c.sc s ⟨k, c.lo.length, false⟩, le := putS c.le s true, lo := c.lo ++ [⟨s, k⟩]} else none
def dupS (c : CS) (s : List Nat) : Bool := match getS c.fs s with
 | some _ => true
 | none => match getS c.le s with
  | some b => b
  | none => false
def let1 (c : CS) (i : Int) (n : No) : CS := if dupS c n.name = true then failS c i 7 else if c.lo.length = 8 then failS c i 5 else c
def letS (c : CS) (i : Int) (n : No) (k : Int) : Option CS := match declS (wantS (let1 c i n) i (decide (k = n.v.k))) n.name n.v.k with
 | some c => some (useS c i n.name).2
 | none => none
theorem E_cfail {n : Nat} (c : CS) (i e : Int) : evFn lay0.tab (n + 1) 230 [.box 0 0, .p (.int .i64 i), .p (.int .i64 e)] c.k.hp = some (.tup [], (failS c i e).k.hp) := by
 apply T_cfail n c.k i e
 unfold F_cfail failS
 rw [eqI_d, iL_dec]
 show (if c.er = 0 then _ else _) = _
 by_cases h : c.er = 0
 ·rw [if_pos h, if_pos h]; rfl
 ·rw [if_neg h, if_neg h]
theorem E_cwant {n : Nat} (c : CS) (i : Int) (b : Bool) : evFn lay0.tab (n + 2) 184 [.box 0 0, .p (.int .i64 i), .p (.bool b)] c.k.hp = some (.tup [], (wantS c i b).k.hp) := by
 apply T_cwant (n + 1) c.k i b
 unfold F_cwant wantS
 cases b
 ·simp only [iL_f, evC_known (E_cfail (n := n) c i 15), dTup_k, dNil_k, dCS]; rfl
 ·rfl
theorem E_cfind {n : Nat} (c : CS) (s : List Nat) : evFn lay0.tab (n + 1) 268 [.box 0 0, .p (.str s)] c.k.hp = some (.tup [.p ((findS c s).getD ⟨0, 0, false⟩).e, .p (.bool (findS c s).isSome)], c.k.hp) := by
 apply T_cfind n c.k s
 unfold F_cfind findS
 simp only [CS.k, lkS, dVr]
 cases getS c.fs s with
 | some v => rfl
 | none => cases getS c.sc s <;> rfl
theorem E_cuse {n : Nat} (c : CS) (i : Int) (s : List Nat) : evFn lay0.tab (n + 2) 233 [.box 0 0, .p (.int .i64 i), .p (.str s)] c.k.hp = some (.p (useS c i s).1.e, (useS c i s).2.k.hp) := by
 apply T_cuse (n + 1) c.k i s
 unfold F_cuse useS
 simp only [evC_known (E_cfind (n := n) c s), dTup_k, dCons_k, dNil_k, dP_k, dVr, dBool_k, dSame_k]
 cases findS c s with
 | none => simp only [Option.isSome_none, iL_f, evC_known (E_cfail (n := n) c i 14), dTup_k, dNil_k, dCS]; rfl
 | some v =>
  simp only [Option.isSome_some, iL_t, Option.getD_some]
  exact upI c.va i Vr.e v fun ks vs => some (.p v.e, Ckr.hp {c.k with vk := ks, vv := vs})
theorem bigL_ok {n b : Nat} (h : n < 1000001) (hb : b ≤ 1000) : bigL n b = true := by
 unfold bigL
 rw [Bool.and_eq_true, Nat.ble_eq, Nat.ble_eq]
 constructor
 ·calc (2 * n + 192) * b ≤ (2 * 1000001 + 192) * 1000 := Nat.mul_le_mul (by omega) hb
   _ ≤ 281474976710656 := by decide
 ·omega
theorem upS2 {β γ : Type} (l : List (List Nat × β)) (m : List (List Nat × γ)) (s : List Nat) (e : β → Da) (v : β) (e' : γ → Da) (w : γ) (G : List Da → List Da → List Da → List Da → R) :
  (cL (findK .string (.str s) (l.map fun p => .str p.1) 0) fun y => optN y
   (cL (findK .string (.str s) (m.map fun p => .str p.1) 0) fun y => optN y
    (G ((l.map fun p => .str p.1) ++ [.str s]) ((l.map fun p => e p.2) ++ [e v]) ((m.map fun p => .str p.1) ++ [.str s]) ((m.map fun p => e' p.2) ++ [e' w])) fun n =>
    G ((l.map fun p => .str p.1) ++ [.str s]) ((l.map fun p => e p.2) ++ [e v]) (m.map fun p => .str p.1) ((m.map fun p => e' p.2).set n (e' w))) fun n =>
   (cL (findK .string (.str s) (m.map fun p => .str p.1) 0) fun y => optN y
    (G (l.map fun p => .str p.1) ((l.map fun p => e p.2).set n (e v)) ((m.map fun p => .str p.1) ++ [.str s]) ((m.map fun p => e' p.2) ++ [e' w])) fun n' =>
    G (l.map fun p => .str p.1) ((l.map fun p => e p.2).set n (e v)) (m.map fun p => .str p.1) ((m.map fun p => e' p.2).set n' (e' w)))) =
  G ((putS l s v).map fun p => .str p.1) ((putS l s v).map fun p => e p.2) ((putS m s w).map fun p => .str p.1) ((putS m s w).map fun p => e' p.2) := by
 have h1 := fun a b => upS m s e' w (G a b)
 simp only [h1]
 exact upS l s e v fun a b => G a b _ _
theorem E_cdeclare {n : Nat} (c c' : CS) (s : List Nat) (k : Int) (h : declS c s k = some c') : evFn lay0.tab (n + 1) 127 [.box 0 0, .p (.str s), .p (.int .i64 k)] c.k.hp = some (.tup [], c'.k.hp) := by
 apply T_cdeclare n c.k s k
 unfold declS at h
 by_cases hl : c.lo.length < 1000000
 ·rw [if_pos hl] at h
  simp only [Option.some.injEq] at h
  subst h
  unfold F_cdeclare
  have hb : bigL (c.k.lo.length + List.length [Da.agg [Da.str s, Da.int .i64 k]]) 24 = true := bigL_ok (by simp [CS.k]; omega) (by decide)
  have hn : Nat.beq c.k.ln c.k.lo.length = true := by simp [CS.k]
  simp only [hb, hn, iL_t]
  refine (upS2 c.sc c.le s Vr.e ⟨k, c.lo.length, false⟩ Da.bool true fun a b d e => some (.tup [], Ckr.hp {c.k with ln := (c.k.lo ++ [Da.agg [Da.str s, Da.int .i64 k]]).length, sk := a, sv := b, lk := d, lv := e, lo := c.k.lo ++ [Da.agg [Da.str s, Da.int .i64 k]]})).trans ?_
  simp only [CS.k, List.length_append, List.length_map, List.length_cons, List.length_nil, List.map_append, List.map_cons, List.map_nil]
  rfl
 ·rw [if_neg hl] at h; cases h
theorem E_clet {n : Nat} (c c' : CS) (i : Int) (x : No) (k : Int) (h : letS c i x k = some c') : evFn lay0.tab (n + 3) 236 [.box 0 0, .p (.int .i64 i), .p x.e, .p (.int .i64 k)] c.k.hp = some (.tup [], c'.k.hp) := by
 apply T_clet (n + 2) c.k i x.r k
 unfold letS at h
 split at h
 ·rename_i c3 h3
  simp only [Option.some.injEq] at h
  subst h
  have tail : (evC lay0.tab (n + 2) 184 [.box 0 0, .p (.int .i64 i), .p (.bool (eqI k x.r.Value_Kind))] (let1 c i x).k.hp fun d o => dTup d fun r => dNil r <| d_Ckr o fun u => evC lay0.tab (n + 2) 127 [.box 0 0, .p (.str x.r.Name), .p (.int .i64 x.r.Value_Kind)] u.hp fun d o => dTup d fun r => dNil r <| d_Ckr o fun u => evC lay0.tab (n + 2) 233 [.box 0 0, .p (.int .i64 i), .p (.str x.r.Name)] u.hp fun d o => dP d fun y => d_types_variable y fun v => d_Ckr o fun u => some (.tup [], u.hp)) = some (.tup [], (useS c3 i x.name).2.k.hp) := by
   have e1 : eqI k x.r.Value_Kind = decide (k = x.v.k) := eqI_d _ _
   rw [e1]
   simp only [evC_known (E_cwant (n := n) (let1 c i x) i _), dTup_k, dNil_k, dCS]
   have e2 : evFn lay0.tab (n + 2) 127 [.box 0 0, .p (.str x.r.Name), .p (.int .i64 x.r.Value_Kind)] (wantS (let1 c i x) i (decide (k = x.v.k))).k.hp = some (.tup [], c3.k.hp) := E_cdeclare _ _ _ _ h3
   simp only [evC_known e2, dTup_k, dNil_k, dCS]
   have e3 : evFn lay0.tab (n + 2) 233 [.box 0 0, .p (.int .i64 i), .p (.str x.r.Name)] c3.k.hp = some (.p (useS c3 i x.name).1.e, (useS c3 i x.name).2.k.hp) := E_cuse (n := n) _ _ _
   simp only [evC_known e3, dP_k, dVr, dCS]
  have f7 := E_cfail (n := n + 1) c i 7
  have f5 := E_cfail (n := n + 1) c i 5
  unfold let1 at tail
  have e0 : eqI (↑c.k.ln) 8 = decide (c.lo.length = 8) := by
   rw [eqI_d]; show decide ((c.lo.length : Int) = 8) = _
   rw [Bool.eq_iff_iff, decide_eq_true_eq, decide_eq_true_eq]; omega
  unfold F_clet
  unfold dupS at tail
  rw [e0]
  have hfs : ∀ (E : R) (K : Da → R), (cL (findK TypeDesc.string (Da.str x.r.Name) c.k.fk 0) fun y => optN y E fun n => cL c.k.fv[n]? K) = mO (getS c.fs x.name) E fun v => K v.e := fun E K => lkS c.fs x.name Vr.e E K
  have hle : ∀ (E : R) (K : Da → R), (cL (findK TypeDesc.string (Da.str x.r.Name) c.k.lk 0) fun y => optN y E fun n => cL c.k.lv[n]? K) = mO (getS c.le x.name) E fun v => K (.bool v) := fun E K => lkS c.le x.name Da.bool E K
  rw [hle, hfs]
  cases hg : getS c.fs x.name with
  | some v =>
   simp only [hg, if_true] at tail
   simp only [mO_s, dVr, evC_known f7, dTup_k, dNil_k, dCS]
   exact tail
  | none =>
   simp only [hg] at tail
   simp only [mO_n]
   cases hh : getS c.le x.name with
   | some b =>
    simp only [hh] at tail
    simp only [mO_s, dBool_k]
    cases b
    ·simp only [Bool.false_eq_true, if_false] at tail
     simp only [iL_f, iL_dec]
     by_cases h8 : c.lo.length = 8
     ·rw [if_pos h8] at tail ⊢
      simp only [evC_known f5, dTup_k, dNil_k, dCS]
      exact tail
     ·rw [if_neg h8] at tail ⊢
      exact tail
    ·simp only [if_true] at tail
     simp only [iL_t, evC_known f7, dTup_k, dNil_k, dCS]
     exact tail
   | none =>
    simp only [hh, Bool.false_eq_true, if_false] at tail
    simp only [mO_n, iL_dec]
    by_cases h8 : c.lo.length = 8
    ·rw [if_pos h8] at tail ⊢
     simp only [evC_known f5, dTup_k, dNil_k, dCS]
     exact tail
    ·rw [if_neg h8] at tail ⊢
     exact tail
 ·cases h
end
end Go.Ab
end
/- Look-ups of methods, calls, operators. -/
section
namespace Go.Ab
open Go
noncomputable section
def lookS (pr : List Ac) (t m : List Nat) : Option Me := match pr.find? fun a => decide (a.name = t) with
 | some a => a.methods.find? fun x => decide (x.name = m)
 | none => none
theorem E_tlookup1 {n : Nat} (a : Ac) (s : List Nat) : evFn lay0.tab (n + 1) 89 [.p a.e, .box 0 0] [.box [.p (.str s)]] = some (.p (.bool (decide (a.name = s))), [.box [.p (.str s)]]) := by
 apply T_tlookup1 n a.r s
 unfold F_tlookup1
 show iL (eqS a.name s) _ _ = _
 rw [eqS_d]
 cases decide (a.name = s) <;> rfl
theorem E_tlookup2 {n : Nat} (a : Me) (s : List Nat) : evFn lay0.tab (n + 1) 91 [.p a.e, .box 0 0] [.box [.p (.str s)]] = some (.p (.bool (decide (a.name = s))), [.box [.p (.str s)]]) := by
 apply T_tlookup2 n a.r s
 unfold F_tlookup2
 show iL (eqS a.name s) _ _ = _
 rw [eqS_d]
 cases decide (a.name = s) <;> rfl
theorem E_sIndexT {n : Nat} (ts : List Ac) (s : List Nat) (h : ts.length < 1000) : evFn lay0.tab (n + 1002) 81 [.p (.slice 3 (ts.map Ac.e)), .fn 89 [.box 0 0]] [.box [.p (.str s)]] = some (.p (.int .i64 (ixOf (ts.findIdx? fun t => decide (t.name = s)))), [.box [.p (.str s)]]) := by
 apply T_sIndexT (n + 1001) (ts.map Ac.e) s
 unfold F_sIndexT
 rw [List.length_map]
 refine (loop_list ts (fun q i => L_sIndexT_1 _ (n + 1001) _ _ q (ts.map Ac.e, (ts.length : Int), i, s)) (fun t => decide (t.name = s)) (fun i => some (.p (.int .i64 i), [.box [.p (.str s)]])) (some (.p (.int .i64 (-1)), [.box [.p (.str s)]])) (fun q i hi => ?_) (fun q => ?_) (by omega)).trans ?_
 ·rw [Ls_sIndexT_1]
  simp only [S_sIndexT_1, ltT (show ((i : Int) < (ts.length : Int)) by omega), iL_t, at_mapT, cL_map, atT_lt hi, cL_s, dAc, wS (show i < big by unfold big; omega)]
  have := E_tlookup1 (n := n + 1000) ts[i] s
  simp only [Ac.e] at this
  simp only [evC_known this, dP_k, dBool_k, dSame_k]
  exact iL_if _ _ _
 ·rw [Ls_sIndexT_1]
  simp only [S_sIndexT_1, ltII, iL_f]
 ·cases ts.findIdx? fun t => decide (t.name = s) <;> rfl
theorem E_sIndexM {n : Nat} (ts : List Me) (s : List Nat) (h : ts.length < 1000) : evFn lay0.tab (n + 1002) 90 [.p (.slice 4 (ts.map Me.e)), .fn 91 [.box 0 0]] [.box [.p (.str s)]] = some (.p (.int .i64 (ixOf (ts.findIdx? fun t => decide (t.name = s)))), [.box [.p (.str s)]]) := by
 apply T_sIndexM (n + 1001) (ts.map Me.e) s
 unfold F_sIndexM
 rw [List.length_map]
 refine (loop_list ts (fun q i => L_sIndexM_1 _ (n + 1001) _ _ q (ts.map Me.e, (ts.length : Int), i, s)) (fun t => decide (t.name = s)) (fun i => some (.p (.int .i64 i), [.box [.p (.str s)]])) (some (.p (.int .i64 (-1)), [.box [.p (.str s)]])) (fun q i hi => ?_) (fun q => ?_) (by omega)).trans ?_
 ·rw [Ls_sIndexM_1]
  simp only [S_sIndexM_1, ltT (show ((i : Int) < (ts.length : Int)) by omega), iL_t, at_mapT, cL_map, atT_lt hi, cL_s, dMe, wS (show i < big by unfold big; omega)]
  have := E_tlookup2 (n := n + 1000) ts[i] s
  simp only [Me.e] at this
  simp only [evC_known this, dP_k, dBool_k, dSame_k]
  exact iL_if _ _ _
 ·rw [Ls_sIndexM_1]
  simp only [S_sIndexM_1, ltII, iL_f]
 ·cases ts.findIdx? fun t => decide (t.name = s) <;> rfl
theorem E_tlookup {n : Nat} (pr : List Ac) (t m : List Nat) (h : pr.length < 1000) (hm : ∀ a ∈ pr, a.methods.length < 1000) : evFn lay0.tab (n + 1003) 54 [.p (.agg [.slice 3 (pr.map Ac.e)]), .p (.str t), .p (.str m)] [] = some (.tup [.p ((lookS pr t m).getD ⟨[], [], 0, []⟩).e, .p (.bool (lookS pr t m).isSome)], []) := by
 apply T_tlookup (n + 1002) ⟨pr.map Ac.e⟩ t m
 unfold F_tlookup lookS
 simp only [evC_known (E_sIndexT (n := n) pr t h), dP_k, dI, dSame_k, dInt_k]
 rw [← find_idx]
 cases ht : pr.findIdx? (fun a => decide (a.name = t)) with
 | none => rfl
 | some j =>
  have hj : j < pr.length := (List.findIdx?_eq_some_iff_getElem.1 ht).1
  simp only [ixOf, List.getElem?_eq_getElem hj]
  rw [ltF (by omega : ¬ (j : Int) < 0), iL_f]
  simp only [at_mapT, cL_map, atT_lt hj, cL_s, dAc]
  have hml := hm _ (List.getElem_mem hj)
  have h2 := E_sIndexM (n := n) pr[j].methods m hml
  simp only [Ac.r]
  simp only [evC_known h2, dP_k, dInt_k, dSame_k]
  rw [← find_idx]
  cases hk : pr[j].methods.findIdx? (fun a => decide (a.name = m)) with
  | none => rfl
  | some k =>
   have hk' : k < pr[j].methods.length := (List.findIdx?_eq_some_iff_getElem.1 hk).1
   simp only [ixOf, List.getElem?_eq_getElem hk']
   rw [ltF (by omega : ¬ (k : Int) < 0), iL_f]
   simp only [at_mapT, cL_map, atT_lt hk', cL_s, dMe, Option.getD_some, Option.isSome_some]
   rfl
theorem zip_find (p : Int → Int → Bool) {xs ys : List Int} (hl : xs.length = ys.length) (hp : ∀ x y, p x y = decide (x = y)) : (xs.zip ys).findIdx? (fun t => !p t.1 t.2) = none ↔ xs = ys := by
 induction xs generalizing ys with
 | nil => cases ys with
  | nil => simp
  | cons y ys => simp at hl
 | cons x xs ih => cases ys with
  | nil => simp at hl
  | cons y ys =>
   simp only [List.length_cons, Nat.add_right_cancel_iff] at hl
   simp only [List.zip_cons_cons, List.findIdx?_cons, hp, List.cons.injEq]
   by_cases hxy : x = y
   ·simp only [hxy, decide_true, Bool.not_true, Bool.false_eq_true, if_false, true_and, Option.map_eq_none_iff]
    have := ih hl
    simp only [hp] at this
    exact this
   ·simp [hxy]
theorem E_sEqual {n : Nat} (xs ys : List Int) (h : xs.length < 1000) : evFn lay0.tab (n + 1002) 48 [.p (.slice 1 (xs.map iE)), .p (.slice 1 (ys.map iE))] [] = some (.p (.bool (decide (xs = ys))), []) := by
 apply T_sEqual (n + 1001) (xs.map iE) (ys.map iE)
 simp only [F_sEqual, List.length_map, eqI_d, iL_ndec]
 by_cases hl : xs.length = ys.length
 ·rw [if_pos (by omega)]
  refine (loop_list (xs.zip ys) (fun q i => L_sEqual_1 _ (n + 1001) _ _ q (xs.map iE, ys.map iE, (xs.length : Int), i)) (fun t => !eqI t.1 t.2) (fun i => some (.p (.bool false), [])) (some (.p (.bool true), [])) (fun q i hi => ?_) (fun q => ?_) (by simp [List.length_zip]; omega)).trans ?_
  ·simp only [List.length_zip] at hi
   rw [Ls_sEqual_1]
   simp only [S_sEqual_1, ltT (show ((i : Int) < (xs.length : Int)) by omega), iL_t, at_mapT, cL_map, atT_lt (show i < xs.length by omega), atT_lt (show i < ys.length by omega), cL_s, dI, wS (show i < big by unfold big; omega), List.getElem_zip]
   exact iL_if _ _ _
  ·rw [Ls_sEqual_1]
   simp only [S_sEqual_1, List.length_zip, hl, Nat.min_self, ltII, iL_f]
  ·have key := zip_find eqI hl eqI_d
   cases hf : (xs.zip ys).findIdx? (fun t => !eqI t.1 t.2) with
   | none => simp [key.1 hf]
   | some j =>
    have : ¬ xs = ys := fun e => by rw [key.2 e] at hf; cases hf
    simp [this]
 ·rw [if_neg (by omega)]
  have : ¬ xs = ys := fun e => hl (by rw [e])
  simp [this]
theorem E_ccall1 {n : Nat} (k : Int) (p : Pa) : evFn lay0.tab (n + 1) 232 [.p (.int .i64 k), .p p.e] [] = some (.p (.bool (decide (k = p.kind))), []) := by
 apply T_ccall1 n k p.r
 unfold F_ccall1
 show iL (eqI k p.kind) _ _ = _
 rw [eqI_d]
 cases decide (k = p.kind) <;> rfl
theorem zipKind {xs : List Int} {ps : List Pa} {i : Nat} (hi : i < (xs.zip (ps.map (·.kind))).length) (h1 : i < xs.length) (h2 : i < ps.length) : (xs.zip (ps.map (·.kind)))[i] = (xs[i], ps[i].kind) := by simp
theorem E_sEqualFunc {n : Nat} (xs : List Int) (ps : List Pa) (h : xs.length < 1000) : evFn lay0.tab (n + 1002) 231 [.p (.slice 1 (xs.map iE)), .p (.slice 2 (ps.map Pa.e)), .p (.fn 232 [])] [] = some (.p (.bool (decide (xs = ps.map (·.kind)))), []) := by
 apply T_sEqualFunc (n + 1001) (xs.map iE) (ps.map Pa.e)
 simp only [F_sEqualFunc, List.length_map, eqI_d, iL_ndec]
 by_cases hl : xs.length = ps.length
 ·rw [if_pos (by omega)]
  refine (loop_list (xs.zip (ps.map (·.kind))) (fun q i => L_sEqualFunc_1 _ (n + 1001) _ _ q (ps.map Pa.e, xs.map iE, (xs.length : Int), i)) (fun t => !eqI t.1 t.2) (fun i => some (.p (.bool false), [])) (some (.p (.bool true), [])) (fun q i hi => ?_) (fun q => ?_) (by simp [List.length_zip]; omega)).trans ?_
  ·have hi' := hi
   simp only [List.length_zip, List.length_map] at hi
   rw [Ls_sEqualFunc_1]
   have h1 : i < xs.length := by omega
   have h2 : i < ps.length := by omega
   simp only [S_sEqualFunc_1, ltT (show ((i : Int) < (xs.length : Int)) by omega), iL_t, at_mapT, cL_map, atT_lt h1, atT_lt h2, cL_s, dI, dPa, wS (show i < big by unfold big; omega)]
   have := E_ccall1 (n := n + 1000) xs[i] ps[i]
   simp only [Pa.e] at this
   simp only [evC_known this, dP_k, dBool_k, dSame_k, zipKind hi' h1 h2, eqI_d]
   cases decide (xs[i] = ps[i].kind) <;> rfl
  ·rw [Ls_sEqualFunc_1]
   simp only [S_sEqualFunc_1, List.length_zip, List.length_map, hl, Nat.min_self, ltII, iL_f]
  ·have key := zip_find eqI (ys := ps.map (·.kind)) (by simpa using hl) eqI_d
   cases hf : (xs.zip (ps.map (·.kind))).findIdx? (fun t => !eqI t.1 t.2) with
   | none => simp [key.1 hf]
   | some j =>
    have : ¬ xs = ps.map (·.kind) := fun e => by rw [key.2 e] at hf; cases hf
    simp [this]
 ·rw [if_neg (by omega)]
  have : ¬ xs = ps.map (·.kind) := fun e => hl (by rw [e]; simp)
  simp [this]
def calT (c : CS) (i : Int) (x : No) (ks : List Int) : Option (Int × CS) := match lookS c.pr x.name x.v.s with
 | none => some (0, failS c i 14)
 | some m => match ks with
  | [] => none
  | k :: r => some (m.result, wantS c i (decide (k = 3) && decide (r = m.params.map (·.kind))))
theorem E_ccall {n : Nat} (c c' : CS) (i k : Int) (x : No) (ks : List Int) (h : calT c i x ks = some (k, c')) (hl : ks.length < 1000) (h1 : c.pr.length < 1000) (h2 : ∀ a ∈ c.pr, a.methods.length < 1000) : evFn lay0.tab (n + 1004) 181 [.box 0 0, .p (.int .i64 i), .p x.e, .p (.slice 1 (ks.map iE))] c.k.hp = some (.p (.int .i64 k), c'.k.hp) := by
 apply T_ccall (n + 1003) c.k i x.r (ks.map iE)
 unfold F_ccall
 have h3 := E_tlookup (n := n) c.pr x.name x.v.s h1 h2
 show (evC lay0.tab (n + 1003) 54 [.p (.agg [.slice 3 (c.pr.map Ac.e)]), .p (.str x.name), .p (.str x.v.s)] [] _) = _
 simp only [evC_known h3, dTup_k, dCons_k, dNil_k, dP_k, dMe, dBool_k, dSame_k]
 unfold calT at h
 cases hq : lookS c.pr x.name x.v.s with
 | none =>
  rw [hq] at h
  simp only [Option.some.injEq, Prod.mk.injEq] at h
  obtain ⟨rfl, rfl⟩ := h
  have f := E_cfail (n := n + 1002) c i 14
  simp only [Option.isSome_none, iL_f, evC_known f, dTup_k, dNil_k, dCS]
 | some m =>
  rw [hq] at h
  simp only [Option.isSome_some, iL_t, Option.getD_some]
  cases ks with
  | nil => cases h
  | cons k0 r =>
   simp only [Option.some.injEq, Prod.mk.injEq] at h
   obtain ⟨rfl, rfl⟩ := h
   have hle : leI 1 (((k0 :: r).map iE).length : Int) = true := by rw [leI_d]; simp; omega
   have hsl : List.take (((k0 :: r).map iE).length - Int.toNat 1) (List.drop (Int.toNat 1) ((k0 :: r).map iE)) = r.map iE := by
    show List.take ((r.map iE).length + 1 - 1) (r.map iE) = _
    rw [Nat.add_sub_cancel, List.take_length]
   rw [hle, hsl, iL_t]
   have hr : r.length < 1000 := by simp only [List.length_cons] at hl; omega
   have q := E_sEqualFunc (n := n + 1) r m.params hr
   have at0 : at? ((k0 :: r).map iE) 0 = some (iE k0) := rfl
   rw [at0]
   simp only [cL_s, dI, Me.r]
   simp only [evC_known q, dP_k, dBool_k, dSame_k, eqI_d]
   have w := fun b => E_cwant (n := n + 1001) c i b
   simp only [evC_known (w _), dTup_k, dNil_k, dCS]
   cases decide (k0 = 3) <;> cases decide (r = m.params.map (·.kind)) <;> rfl
def binT (s : List Nat) (x y : Int) : Int × Bool :=
 bif eqS s [38, 38] then (2, eqI x y && eqI x 2) else bif eqS s [124, 124] then (2, eqI x y && eqI x 2) else
 bif eqS s [60] then (2, eqI x y && (eqI x 1 || eqI x 3)) else bif eqS s [60, 61] then (2, eqI x y && (eqI x 1 || eqI x 3)) else
 bif eqS s [62] then (2, eqI x y && (eqI x 1 || eqI x 3)) else bif eqS s [62, 61] then (2, eqI x y && (eqI x 1 || eqI x 3)) else
 bif eqS s [43] then (x, eqI x y && (eqI x 1 || eqI x 3)) else
 bif eqS s [45] then (1, eqI x y && eqI x 1) else bif eqS s [42] then (1, eqI x y && eqI x 1) else bif eqS s [47] then (1, eqI x y && eqI x 1) else bif eqS s [37] then (1, eqI x y && eqI x 1) else (2, eqI x y)
theorem E_cbinary {n : Nat} (c : CS) (i : Int) (s : List Nat) (x y : Int) : evFn lay0.tab (n + 3) 234 [.box 0 0, .p (.int .i64 i), .p (.str s), .p (.int .i64 x), .p (.int .i64 y)] c.k.hp = some (.p (.int .i64 (binT s x y).1), (wantS c i (binT s x y).2).k.hp) := by
 apply T_cbinary (n + 2) c.k i s x y
 unfold F_cbinary binT
 have w := fun (c : CS) (b : Bool) => E_cwant (n := n) c i b
 have wt := w c true
 have wf := w c false
 simp only [S_cbinary_1, S_cbinary_2, S_cbinary_3, S_cbinary_4, evC_known wt, evC_known wf, dTup_k, dNil_k, dCS]
 cases eqS s [38, 38]
 rotate_left
 ·cases eqI x y <;> cases eqI x 2 <;> rfl
 cases eqS s [124, 124]
 rotate_left
 ·cases eqI x y <;> cases eqI x 2 <;> rfl
 cases eqS s [60]
 rotate_left
 ·cases eqI x y <;> cases eqI x 1 <;> cases eqI x 3 <;> rfl
 cases eqS s [60, 61]
 rotate_left
 ·cases eqI x y <;> cases eqI x 1 <;> cases eqI x 3 <;> rfl
 cases eqS s [62]
 rotate_left
 ·cases eqI x y <;> cases eqI x 1 <;> cases eqI x 3 <;> rfl
 cases eqS s [62, 61]
 rotate_left
 ·cases eqI x y <;> cases eqI x 1 <;> cases eqI x 3 <;> rfl
 cases eqS s [43]
 rotate_left
 ·cases eqI x y <;> cases eqI x 1 <;> cases eqI x 3 <;> rfl
 cases eqS s [45]
 rotate_left
 ·cases eqI x y <;> cases eqI x 1 <;> rfl
 cases eqS s [42]
 rotate_left
 ·cases eqI x y <;> cases eqI x 1 <;> rfl
 cases eqS s [47]
 rotate_left
 ·cases eqI x y <;> cases eqI x 1 <;> rfl
 cases eqS s [37]
 rotate_left
 ·cases eqI x y <;> cases eqI x 1 <;> rfl
 cases eqI x y <;> rfl
end
end Go.Ab
end
/- Names and values, as the validator sees them. -/
section
namespace Go.Ab
open Go
set_option maxRecDepth 100000
noncomputable section
def letC (c : Int) : Bool := (leI 97 c && leI c 122) || ((leI 65 c && leI c 90) || eqI c 95)
def digC (c : Int) : Bool := leI 48 c && leI c 57
def worC (c : Int) : Bool := letC c || digC c
def keyS (s : List Nat) : Bool := [[97, 99, 116, 111, 114], [115, 116, 97, 116, 101], [109, 101, 116, 104, 111, 100], [108, 101, 116], [105, 102], [101, 108, 115, 101], [119, 104, 105, 108, 101], [114, 101, 116, 117, 114, 110], [102, 97, 105, 108], [99, 97, 108, 108], [101, 109, 105, 116], [114, 101, 109, 105, 110, 100], [99, 97, 110, 99, 101, 108], [115, 101, 108, 102], [116, 114, 117, 101], [102, 97, 108, 115, 101], [105, 110, 116], [98, 111, 111, 108], [115, 116, 114, 105, 110, 103], [105, 110, 116, 115], [115, 116, 114, 105, 110, 103, 115]].any fun t => eqS s t
theorem iL_ans (a x y : Bool) : iL a (some ((.p (.bool x)), [])) (some ((.p (.bool y)), [])) = some ((.p (.bool (bif a then x else y))), []) := by cases a <;> rfl
theorem c_tf (a : Bool) : (bif a then true else false) = a := by cases a <;> rfl
theorem c_ft (a : Bool) : (bif a then false else true) = !a := by cases a <;> rfl
theorem c_xf (a b : Bool) : (bif a then b else false) = (a && b) := by cases a <;> rfl
theorem c_tx (a b : Bool) : (bif a then true else b) = (a || b) := by cases a <;> rfl
theorem c_fx (a b : Bool) : (bif a then false else b) = (!a && b) := by cases a <;> rfl
theorem all_find {α : Type} (l : List α) (p : α → Bool) : (l.all fun x => !p x) = (l.findIdx? p).isNone := by
 rw [Bool.eq_iff_iff, List.all_eq_true, Option.isNone_iff_eq_none, List.findIdx?_eq_none_iff]
 simp
theorem dStr_m (s : List Nat) (K : List Nat → R) : dStr (Da.str s) K = K s := rfl
theorem E_ldigit {n : Nat} (c : Int) : evFn lay0.tab (n + 1) 165 [.p (.int .u8 c)] [] = some (.p (.bool (digC c)), []) := by
 apply T_ldigit n c
 simp only [F_ldigit, iL_ans, c_tf, c_xf, Bool.and_true, digC]
theorem E_lletter {n : Nat} (c : Int) : evFn lay0.tab (n + 1) 204 [.p (.int .u8 c)] [] = some (.p (.bool (letC c)), []) := by
 apply T_lletter n c
 unfold F_lletter letC
 cases leI 97 c <;> cases leI c 122 <;> cases leI 65 c <;> cases leI c 90 <;> cases eqI c 95 <;> rfl
theorem E_lword1 {n : Nat} (c : Int) : evFn lay0.tab (n + 2) 205 [.p (.int .u8 c)] [] = some (.p (.bool (worC c)), []) := by
 apply T_lword1 (n + 1) c
 simp only [F_lword1, evC_known (E_lletter (n := n) c), evC_known (E_ldigit (n := n) c), dP_k, dBool_k, dNil_k, iL_ans, c_tf, c_tx, Bool.or_false, worC]
theorem E_lIsKeyword {n : Nat} (s : List Nat) : evFn lay0.tab (n + 1) 164 [.p (.str s)] [] = some (.p (.bool (keyS s)), []) := by
 apply T_lIsKeyword n s
 simp only [F_lIsKeyword, iL_ans, c_tf, c_tx, keyS, List.any_cons, List.any_nil, Bool.or_false]
def nwC (c : Nat) : Bool := !worC (c : Int)
def runS (s : List Nat) : Nat := (s.findIdx? nwC).getD s.length
theorem E_lrun {n : Nat} (s : List Nat) (h : s.length < 1000) : evFn lay0.tab (n + 1003) 161 [.p (.str s), .p (.fn 205 [])] [] = some (.p (.int .i64 (runS s)), []) := by
 apply T_lrun (n + 1002) s
 unfold F_lrun runS
 refine (loop_list s (fun q i => L_lrun_1 _ (n + 1002) _ q (s, i)) nwC (fun i => some (.p (.int .i64 i), [])) (some (.p (.int .i64 s.length), [])) (fun q i hi => ?_) (fun q => ?_) (by omega)).trans ?_
 ·rw [Ls_lrun_1]
  simp only [S_lrun_1, ltT (show ((i : Int) < (s.length : Int)) by omega), iL_t, leI_d, show (0 : Int) ≤ (i : Int) by omega, decide_true, cond_true, Int.toNat_natCast, List.getElem?_eq_getElem hi, cL_s, wS (show i < big by unfold big; omega), show ∀ k : Nat, Int.ofNat k = (k : Int) from fun _ => rfl, evC_known (E_lword1 (n := n + 1000) _), dP_k, dBool_k, dSame_k]
  unfold nwC
  cases worC (s[i] : Int) <;> rfl
 ·rw [Ls_lrun_1]
  simp only [S_lrun_1, ltII, iL_f]
 ·cases s.findIdx? nwC <;> rfl
def wordS (s : List Nat) : Nat := bif letC ((s.headD 0 : Nat) : Int) then runS s else 0
theorem E_lword {n : Nat} (s : List Nat) (h : s.length < 1000) : evFn lay0.tab (n + 1004) 163 [.p (.str s)] [] = some (.p (.int .i64 (wordS s)), []) := by
 apply T_lword (n + 1003) s
 unfold F_lword wordS
 cases s with
 | nil => rfl
 | cons c r =>
  simp only [show eqS (c :: r) [] = false from rfl, iL_f, show leI 0 0 = true from rfl, cond_true, Int.toNat_zero, List.getElem?_cons_zero, cL_s, show ∀ k : Nat, Int.ofNat k = (k : Int) from fun _ => rfl, evC_known (E_lletter (n := n + 1002) _), evC_known (E_lrun (n := n) _ h), dP_k, dBool_k, dInt_k, dNil_k, List.headD_cons]
  cases letC (c : Int) <;> rfl
def nameS (s : List Nat) : Bool := !eqS s [] && (leI s.length 32 && (eqI (wordS s) s.length && !keyS s))
theorem E_lIsName {n : Nat} (s : List Nat) : evFn lay0.tab (n + 1005) 121 [.p (.str s)] [] = some (.p (.bool (nameS s)), []) := by
 apply T_lIsName (n + 1004) s
 by_cases h : s.length < 1000
 ·simp only [F_lIsName, evC_known (E_lword (n := n) _ h), evC_known (E_lIsKeyword (n := n + 1003) s), dP_k, dBool_k, dInt_k, dNil_k, iL_ans, c_ft, c_xf, nameS]
 ·have : leI (s.length : Int) 32 = false := by rw [leI_d]; simp only [decide_eq_false_iff_not]; omega
  simp only [F_lIsName, nameS, this, iL_f, Bool.false_and, Bool.and_false]
  cases eqS s [] <;> rfl
def kindT (k : Int) : Bool := leI 1 k && leI k 5
theorem E_skindOf {n : Nat} (k : Int) : evFn lay0.tab (n + 1) 174 [.p (.int .i64 k)] [] = some (.p (.bool (kindT k)), []) := by
 apply T_skindOf n k
 simp only [F_skindOf, iL_ans, c_tf, c_xf, kindT, Bool.and_true]
theorem E_wsameI {n : Nat} (xs ys : List Int) (h : xs.length < 1000) : evFn lay0.tab (n + 1002) 292 [.p (.slice 1 (xs.map iE)), .p (.slice 1 (ys.map iE))] [] = some (.p (.bool (decide (xs = ys))), []) := by
 apply T_wsameI (n + 1001) (xs.map iE) (ys.map iE)
 unfold F_wsameI
 simp only [List.length_map, eqI_d, iL_ndec]
 by_cases hl : (xs.length : Int) = ys.length
 ·rw [if_pos hl]
  have hl' : xs.length = ys.length := by omega
  refine (loop_list (xs.zip ys) (fun q i => L_wsameI_1 _ (n + 1001) _ _ q (xs.map iE, ys.map iE, (xs.length : Int), i)) (fun p => !decide (p.1 = p.2)) (fun i => some (.p (.bool false), [])) (some (.p (.bool true), [])) (fun q i hi => ?_) (fun q => ?_) (by simp; omega)).trans ?_
  ·have hx : i < xs.length := by simp at hi; omega
   have hy : i < ys.length := by omega
   rw [Ls_wsameI_1]
   simp only [S_wsameI_1, ltT (show ((i : Int) < (xs.length : Int)) by omega), iL_t, at_mapT, cL_map, atT_lt hx, atT_lt hy, cL_s, dI, wS (show i < big by unfold big; omega), List.getElem_zip, eqI_d]
   exact iL_if _ _ _
  ·rw [Ls_wsameI_1]
   simp only [S_wsameI_1, show ((xs.zip ys).length : Int) = xs.length by simp; omega, ltII, iL_f]
  ·have : decide (xs = ys) = ((xs.zip ys).all fun p => !(!decide (p.1 = p.2))) := by
    rw [Bool.eq_iff_iff, List.all_eq_true, decide_eq_true_eq]
    constructor
    ·rintro rfl p hp
     obtain ⟨i, hi, rfl⟩ := List.getElem_of_mem hp
     simp
    ·intro ha
     refine List.ext_getElem hl' fun i h1 h2 => ?_
     have := ha (xs[i], ys[i]) (by rw [← List.getElem_zip (h := by simp; omega)]; exact List.getElem_mem _)
     simpa using this
   rw [this, all_find]
   cases (xs.zip ys).findIdx? fun p => !decide (p.1 = p.2) <;> rfl
 ·rw [if_neg hl]
  rw [decide_eq_false (by rintro rfl; exact hl rfl)]
theorem E_wsameS {n : Nat} (xs ys : List (List Nat)) (h : xs.length < 1000) : evFn lay0.tab (n + 1002) 293 [.p (.slice 1 (xs.map .str)), .p (.slice 1 (ys.map .str))] [] = some (.p (.bool (decide (xs = ys))), []) := by
 apply T_wsameS (n + 1001) (xs.map .str) (ys.map .str)
 unfold F_wsameS
 simp only [List.length_map, eqI_d, iL_ndec]
 by_cases hl : (xs.length : Int) = ys.length
 ·rw [if_pos hl]
  have hl' : xs.length = ys.length := by omega
  refine (loop_list (xs.zip ys) (fun q i => L_wsameS_1 _ (n + 1001) _ _ q (xs.map .str, ys.map .str, (xs.length : Int), i)) (fun p => !decide (p.1 = p.2)) (fun i => some (.p (.bool false), [])) (some (.p (.bool true), [])) (fun q i hi => ?_) (fun q => ?_) (by simp; omega)).trans ?_
  ·have hx : i < xs.length := by simp at hi; omega
   have hy : i < ys.length := by omega
   rw [Ls_wsameS_1]
   simp only [S_wsameS_1, ltT (show ((i : Int) < (xs.length : Int)) by omega), iL_t, at_mapT, cL_map, atT_lt hx, atT_lt hy, cL_s, dStr_m, wS (show i < big by unfold big; omega), List.getElem_zip, eqS_d]
   exact iL_if _ _ _
  ·rw [Ls_wsameS_1]
   simp only [S_wsameS_1, show ((xs.zip ys).length : Int) = xs.length by simp; omega, ltII, iL_f]
  ·have : decide (xs = ys) = ((xs.zip ys).all fun p => !(!decide (p.1 = p.2))) := by
    rw [Bool.eq_iff_iff, List.all_eq_true, decide_eq_true_eq]
    constructor
    ·rintro rfl p hp
     obtain ⟨i, hi, rfl⟩ := List.getElem_of_mem hp
     simp
    ·intro ha
     refine List.ext_getElem hl' fun i h1 h2 => ?_
     have := ha (xs[i], ys[i]) (by rw [← List.getElem_zip (h := by simp; omega)]; exact List.getElem_mem _)
     simpa using this
   rw [this, all_find]
   cases (xs.zip ys).findIdx? fun p => !decide (p.1 = p.2) <;> rfl
 ·rw [if_neg hl]
  rw [decide_eq_false (by rintro rfl; exact hl rfl)]
def lenI {α : Type} (l : List α) : Int := (l.length : Int)
def badV1 (v : Va) : Bool := ltI v.k 0 || ltI 5 v.k
def badV2 (v : Va) : Bool := !eqI v.n 0 && (!eqI v.k 1 && (!eqI v.k 2 || !eqI v.n 1))
def badV3 (v : Va) : Bool := (!eqS v.s [] && !eqI v.k 3) || ((ltI 0 (lenI v.I) && !eqI v.k 4) || (ltI 0 (lenI v.L) && !eqI v.k 5))
def badV4 (v : Va) : Bool := ltI 64 (lenI v.s) || (ltI 16 (lenI v.I) || ltI 16 (lenI v.L))
def valV (v : Va) : Bool := !badV1 v && (!badV2 v && (!badV3 v && (!badV4 v && v.L.all fun t => !ltI 64 (lenI t))))
def Va.c (v : Va) : List Da := [.int .i64 v.k, .int .i64 v.n, .str v.s, .slice 1 (v.I.map iE), .slice 1 (v.L.map .str)]
def sameV (a b : Va) : Bool := eqI a.k b.k && (eqI a.n b.n && (eqS a.s b.s && (decide (a.I = b.I) && decide (a.L = b.L))))
def Va.r (v : Va) : api_Value := ⟨v.k, v.n, v.s, v.I.map iE, v.L.map .str⟩
theorem E_wSame {n : Nat} (a b : Va) (hi : a.I.length < 1000) (hl : a.L.length < 1000) : evFn lay0.tab (n + 1003) 264 [.p (.agg a.c), .p (.agg b.c)] [] = some (.p (.bool (sameV a b)), []) := by
 apply T_wSame (n + 1002) a.r b.r
 unfold F_wSame
 show iL (eqI a.k b.k) _ _ = _
 have h1 := evC_known (E_wsameI (n := n) a.I b.I hi)
 have h2 := evC_known (E_wsameS (n := n) a.L b.L hl)
 simp only [Va.r, h1, h2, dP_k, dBool_k, dNil_k, iL_ans, c_tf, c_xf, sameV, Bool.and_true]
theorem E_ssame {n : Nat} (a b : Va) (hi : a.I.length < 1000) (hl : a.L.length < 1000) : evFn lay0.tab (n + 1004) 226 [.p (.agg a.c), .p (.agg b.c)] [] = some (.p (.bool (sameV a b)), []) := by
 apply T_ssame (n + 1003) a.r b.r
 unfold F_ssame
 have h := evC_known (E_wSame (n := n) a b hi hl)
 simp only [Va.c] at h
 show evC lay0.tab (n + 1003) 264 [.p (.agg _), .p (.agg _)] [] _ = _
 simp only [Va.r] at h ⊢
 simp only [h, dP_k, dBool_k, dNil_k, iL_ans, c_tf]
section
variable (cc : CallC) (n : Nat) (k0 : Bool × api_Value → R) (v : Va)
theorem vw1 : S_wValid_1 cc n k0 v.r = k0 (badV1 v, v.r) := by
 unfold S_wValid_1 badV1
 show iL (ltI v.k 0) _ (iL (ltI 5 v.k) _ _) = _
 cases ltI v.k 0 <;> cases ltI 5 v.k <;> rfl
theorem vw2 : S_wValid_2 cc n k0 v.r = k0 (badV2 v, v.r) := by
 unfold S_wValid_2 badV2
 show iL (!eqI v.n 0) (iL (!eqI v.k 1) (iL (!eqI v.k 2) _ (iL (!eqI v.n 1) _ _)) _) _ = _
 cases eqI v.n 0 <;> cases eqI v.k 1 <;> cases eqI v.k 2 <;> cases eqI v.n 1 <;> rfl
theorem vw3 : S_wValid_3 cc n k0 v.r = k0 (!eqS v.s [] && !eqI v.k 3, v.r) := by
 unfold S_wValid_3
 show iL (!eqS v.s []) (iL (!eqI v.k 3) _ _) _ = _
 cases eqS v.s [] <;> cases eqI v.k 3 <;> rfl
theorem vw4 : S_wValid_4 cc n k0 v.r = k0 (badV4 v, v.r) := by
 unfold S_wValid_4 badV4 lenI
 show iL (ltI 64 (v.s.length : Int)) _ (iL (ltI 16 ((v.I.map iE).length : Int)) _ (iL (ltI 16 ((v.L.map Da.str).length : Int)) _ _)) = _
 simp only [List.length_map]
 cases ltI 64 (v.s.length : Int) <;> cases ltI 16 (v.I.length : Int) <;> cases ltI 16 (v.L.length : Int) <;> rfl
theorem vw6 : S_wValid_6 cc n k0 v.r = k0 (ltI 0 (lenI v.I) && !eqI v.k 4, v.r) := by
 unfold S_wValid_6 lenI
 show iL (ltI 0 ((v.I.map iE).length : Int)) (iL (!eqI v.k 4) _ _) _ = _
 simp only [List.length_map]
 cases ltI 0 (v.I.length : Int) <;> cases eqI v.k 4 <;> rfl
theorem vw7 : S_wValid_7 cc n k0 v.r = k0 (ltI 0 (lenI v.L) && !eqI v.k 5, v.r) := by
 unfold S_wValid_7 lenI
 show iL (ltI 0 ((v.L.map Da.str).length : Int)) (iL (!eqI v.k 5) _ _) _ = _
 simp only [List.length_map]
 cases ltI 0 (v.L.length : Int) <;> cases eqI v.k 5 <;> rfl
end
theorem E_wValid {n : Nat} (v : Va) (h : v.L.length < 1000) : evFn lay0.tab (n + 1002) 71 [.p (.agg v.c)] [] = some (.p (.bool (valV v)), []) := by
 apply T_wValid (n + 1001) v.r
 have hl : L_wValid_5 (evC lay0.tab (n + 1001)) (n + 1001) (some (.p (.bool false), [])) (fun (l18, i19, i20) => some (.p (.bool true), [])) (n + 1001) (v.L.map .str, (v.L.length : Int), 0) = some (.p (.bool (v.L.all fun t => !ltI 64 (lenI t))), []) := by
  refine (loop_list v.L (fun q i => L_wValid_5 _ (n + 1001) _ _ q (v.L.map .str, (v.L.length : Int), i)) (fun t => ltI 64 (lenI t)) (fun i => some (.p (.bool false), [])) (some (.p (.bool true), [])) (fun q i hi => ?_) (fun q => ?_) (by omega)).trans ?_
  ·rw [Ls_wValid_5]
   simp only [S_wValid_5, ltT (show ((i : Int) < (v.L.length : Int)) by omega), iL_t, at_mapT, cL_map, atT_lt hi, cL_s, dStr_m, wS (show i < big by unfold big; omega)]
   exact iL_if _ _ _
  ·rw [Ls_wValid_5]
   simp only [S_wValid_5, ltII, iL_f]
  ·rw [all_find]
   cases v.L.findIdx? fun t => ltI 64 (lenI t) <;> rfl
 unfold F_wValid valV badV3
 simp only [vw1, vw2, vw3, vw4, vw6, vw7]
 show iL _ _ (iL _ _ (iL _ (iL _ _ (iL _ _ (L_wValid_5 _ _ _ _ _ (v.L.map .str, ((v.L.map Da.str).length : Int), 0)))) (iL _ (iL _ _ (iL _ _ (L_wValid_5 _ _ _ _ _ (v.L.map .str, ((v.L.map Da.str).length : Int), 0)))) (iL _ _ (iL _ _ (L_wValid_5 _ _ _ _ _ (v.L.map .str, ((v.L.map Da.str).length : Int), 0))))))) = _
 rw [List.length_map, hl]
 cases badV1 v <;> cases badV2 v <;> cases (!eqS v.s [] && !eqI v.k 3) <;> cases (ltI 0 (lenI v.I) && !eqI v.k 4) <;> cases (ltI 0 (lenI v.L) && !eqI v.k 5) <;> cases badV4 v <;> rfl
theorem E_sContI {n : Nat} (xs : List Int) (y : Int) (h : xs.length < 1000) : evFn lay0.tab (n + 1003) 175 [.p (.slice 1 (xs.map iE)), .p (.int .i64 y)] [] = some (.p (.bool (xs.any fun x => eqI y x)), []) := by
 have hi : evFn lay0.tab (n + 1002) 218 [.p (.slice 1 (xs.map iE)), .p (.int .i64 y)] [] = some (.p (.int .i64 (ixOf (xs.findIdx? fun x => eqI y x))), []) := by
  apply T_sIndI (n + 1001) (xs.map iE) y
  unfold F_sIndI
  rw [List.length_map]
  refine (loop_list xs (fun q i => L_sIndI_1 _ (n + 1001) _ _ q (xs.map iE, y, (xs.length : Int), i)) (fun x => eqI y x) (fun i => some (.p (.int .i64 i), [])) (some (.p (.int .i64 (-1)), [])) (fun q i hi => ?_) (fun q => ?_) (by omega)).trans ?_
  ·rw [Ls_sIndI_1]
   simp only [S_sIndI_1, ltT (show ((i : Int) < (xs.length : Int)) by omega), iL_t, at_mapT, cL_map, atT_lt hi, cL_s, dI, wS (show i < big by unfold big; omega)]
   exact iL_if _ _ _
  ·rw [Ls_sIndI_1]
   simp only [S_sIndI_1, ltII, iL_f]
  ·cases xs.findIdx? fun x => eqI y x <;> rfl
 apply T_sContI (n + 1002) (xs.map iE) y
 unfold F_sContI
 simp only [evC_known hi, dP_k, dInt_k, dNil_k]
 rw [← List.findIdx?_isSome]
 cases xs.findIdx? fun x => eqI y x with
 | none => rfl
 | some j => simp [ixOf, leI_d, iL_t]
theorem E_sContS {n : Nat} (xs : List (List Nat)) (y : List Nat) (h : xs.length < 1000) : evFn lay0.tab (n + 1003) 227 [.p (.slice 1 (xs.map .str)), .p (.str y)] [] = some (.p (.bool (xs.any fun x => eqS y x)), []) := by
 have hi : evFn lay0.tab (n + 1002) 265 [.p (.slice 1 (xs.map .str)), .p (.str y)] [] = some (.p (.int .i64 (ixOf (xs.findIdx? fun x => eqS y x))), []) := by
  apply T_sIndS (n + 1001) (xs.map .str) y
  unfold F_sIndS
  rw [List.length_map]
  refine (loop_list xs (fun q i => L_sIndS_1 _ (n + 1001) _ _ q (xs.map .str, y, (xs.length : Int), i)) (fun x => eqS y x) (fun i => some (.p (.int .i64 i), [])) (some (.p (.int .i64 (-1)), [])) (fun q i hi => ?_) (fun q => ?_) (by omega)).trans ?_
  ·rw [Ls_sIndS_1]
   simp only [S_sIndS_1, ltT (show ((i : Int) < (xs.length : Int)) by omega), iL_t, at_mapT, cL_map, atT_lt hi, cL_s, dStr_m, wS (show i < big by unfold big; omega)]
   exact iL_if _ _ _
  ·rw [Ls_sIndS_1]
   simp only [S_sIndS_1, ltII, iL_f]
  ·cases xs.findIdx? fun x => eqS y x <;> rfl
 apply T_sContS (n + 1002) (xs.map .str) y
 unfold F_sContS
 simp only [evC_known hi, dP_k, dInt_k, dNil_k]
 rw [← List.findIdx?_isSome]
 cases xs.findIdx? fun x => eqS y x with
 | none => rfl
 | some j => simp [ixOf, leI_d, iL_t]
end
end Go.Ab
end
/- Applied builtins, expressions, statements. -/
section
namespace Go.Ab
open Go
set_option maxRecDepth 100000
noncomputable section
theorem want_want (c : CS) (i : Int) (a b : Bool) : wantS (wantS c i a) i b = wantS c i (a && b) := by
 cases a
 ·cases b
  ·simp only [wantS, Bool.false_and, Bool.false_eq_true, if_false, failS]
   by_cases h : c.er = 0
   ·simp only [if_pos h]; rfl
   ·simp only [if_neg h]
  ·rfl
 ·rfl
abbrev Sg := List Int × Int
def sgE (g : Sg) : Da := .agg [.slice 1 (g.1.map iE), .int .i64 g.2]
def tblT (s : List Nat) : Option (List Sg) :=
 bif eqS s [108, 101, 110] then some [([3], 1), ([4], 1), ([5], 1)] else
 bif eqS s [97, 116] then some [([4, 1], 1), ([5, 1], 3)] else
 bif eqS s [97, 112, 112, 101, 110, 100] then some [([4, 1], 4), ([5, 3], 5)] else
 bif eqS s [115, 101, 116] then some [([4, 1, 1], 4), ([5, 1, 3], 5)] else
 bif eqS s [115, 116, 114] then some [([1], 3)] else none
def sigT (ks : List Int) (o : Option (List Sg)) : Int × Int := match o with
 | none => (0, 14)
 | some l => match l.find? fun g => decide (g.1 = ks) with
  | some g => (g.2, 0)
  | none => (0, 15)
def applyT (s : List Nat) (ks : List Int) : Int × Int :=
 bif eqS s [105, 110, 116, 115] then (4, if (ks.all fun k => eqI k 1) = true then 0 else 15) else
 bif eqS s [115, 116, 114, 105, 110, 103, 115] then (5, if (ks.all fun k => eqI k 3) = true then 0 else 15) else sigT ks (tblT s)
def errS (c : CS) (i e : Int) : CS := if e = 0 then c else failS c i e
theorem want_err (c : CS) (i : Int) (b : Bool) : errS c i (if b = true then 0 else 15) = wantS c i b := by cases b <;> rfl
theorem apply1 {n : Nat} (k0 : H_capply_1 → R) (i el kd : Int) (ks : List Int) (hl : ks.length < 1000) : ∀ (d q j : Nat) (c : CS), j + d = ks.length → d < q → L_capply_1 (evC lay0.tab (n + 2)) (n + 2) k0 q (i, el, kd, ks.map iE, (ks.length : Int), (j : Int), c.k) = k0 (i, el, kd, ks.map iE, (ks.length : Int), (ks.length : Int), (wantS c i ((ks.drop j).all fun k => eqI k el)).k)
 | 0, q + 1, j, c, h, _ => by
  obtain rfl : j = ks.length := by omega
  rw [Ls_capply_1]
  simp only [S_capply_1, ltII, iL_f, List.drop_length, List.all_nil]
  rfl
 | d + 1, q + 1, j, c, h, hq => by
  have hj : j < ks.length := by omega
  rw [Ls_capply_1]
  have w := fun b => E_cwant (n := n) c i b
  simp only [S_capply_1, ltT (show ((j : Int) < (ks.length : Int)) by omega), iL_t, at_mapT, cL_map, atT_lt hj, cL_s, dI, wS (show j < big by unfold big; omega), evC_known (w true), evC_known (w false), dTup_k, dNil_k, dCS]
  rw [List.drop_eq_getElem_cons hj, List.all_cons, ← want_want]
  rw [apply1 k0 i el kd ks hl d q (j + 1) _ (by omega) (by omega), apply1 k0 i el kd ks hl d q (j + 1) _ (by omega) (by omega)]
  cases eqI ks[j] el <;> rfl
theorem dSg (g : Sg) (K : types_signature → R) : d_types_signature (sgE g) K = K ⟨g.1.map iE, g.2⟩ := rfl
theorem apply2 {n : Nat} (c : CS) (i : Int) (ks : List Int) (gs : List Sg) (hg : ∀ g ∈ gs, g.1.length < 1000) (hl : gs.length < 1000) (k0 : Int × Ckr × types_signature → R) (k1 : H_capply_2 → R) : L_capply_2 (evC lay0.tab (n + 1002)) (n + 1002) k0 k1 (n + 1002) (i, ks.map iE, gs.map sgE, (gs.length : Int), 0, c.k) = match gs.find? fun g => decide (g.1 = ks) with
  | some g => k0 (g.2, c.k, ⟨g.1.map iE, g.2⟩)
  | none => k1 (i, ks.map iE, gs.map sgE, (gs.length : Int), (gs.length : Int), c.k) := by
 refine (loop_list gs (fun q j => L_capply_2 _ (n + 1002) k0 k1 q (i, ks.map iE, gs.map sgE, (gs.length : Int), j, c.k)) (fun g => decide (g.1 = ks)) (fun j => match gs[j]? with | some g => k0 (g.2, c.k, ⟨g.1.map iE, g.2⟩) | none => none) (k1 (i, ks.map iE, gs.map sgE, (gs.length : Int), (gs.length : Int), c.k)) (fun q j hj => ?_) (fun q => ?_) (by omega)).trans ?_
 ·rw [Ls_capply_2]
  simp only [S_capply_2, ltT (show ((j : Int) < (gs.length : Int)) by omega), iL_t, at_mapT, cL_map, atT_lt hj, cL_s, dSg, wS (show j < big by unfold big; omega)]
  have e := E_sEqual (n := n) gs[j].1 ks (hg _ (List.getElem_mem hj))
  simp only [evC_known e, dP_k, dBool_k, dSame_k, List.getElem?_eq_getElem hj]
  exact iL_if _ _ _
 ·rw [Ls_capply_2]
  simp only [S_capply_2, ltII, iL_f]
 ·rw [← find_idx]
  cases h : gs.findIdx? (fun g => decide (g.1 = ks)) with
  | none => rfl
  | some j =>
   have hj : j < gs.length := (List.findIdx?_eq_some_iff_getElem.1 h).1
   simp only [List.getElem?_eq_getElem hj]
theorem E_builtins {n : Nat} : evFn lay0.tab (n + 1) 269 [] [] = some (bltD, []) := T_builtins n _ rfl
theorem E_capply {n : Nat} (c : CS) (i : Int) (s : List Nat) (ks : List Int) (hl : ks.length < 1000) : evFn lay0.tab (n + 1003) 235 [.box 0 0, .p (.int .i64 i), .p (.str s), .p (.slice 1 (ks.map iE))] c.k.hp = some (.p (.int .i64 (applyT s ks).1), (errS c i (applyT s ks).2).k.hp) := by
 apply T_capply (n + 1002) c.k i s (ks.map iE)
 unfold F_capply applyT
 have a1 := fun (el kd : Int) (k0 : H_capply_1 → R) => apply1 (n := n + 1000) k0 i el kd ks hl ks.length (n + 1002) 0 c (by omega) (by omega)
 simp only [List.drop_zero, Int.ofNat_zero, show ((0 : Nat) : Int) = 0 from rfl] at a1
 have f14 := E_cfail (n := n + 1001) c i 14
 have f15 := E_cfail (n := n + 1001) c i 15
 have a2 := fun (gs : List Sg) (hg : ∀ g ∈ gs, g.1.length < 1000) (hl : gs.length < 1000) => apply2 (n := n) c i ks gs hg hl
 have fin : ∀ (gs : List Sg) (hg : ∀ g ∈ gs, g.1.length < 1000) (hl : gs.length < 1000) (k1 : H_capply_2 → R), (∀ x, k1 (i, ks.map iE, gs.map sgE, x, x, c.k) = some (.p (.int .i64 0), (failS c i 15).k.hp)) → L_capply_2 (evC lay0.tab (n + 1002)) (n + 1002) (fun (i60, u61, u62) => some ((.p (.int .i64 i60)), u61.hp)) k1 (n + 1002) (i, ks.map iE, gs.map sgE, (gs.length : Int), 0, c.k) = some (.p (.int .i64 (sigT ks (some gs)).1), (errS c i (sigT ks (some gs)).2).k.hp) := by
  intro gs hg hl k1 hk
  rw [a2 gs hg hl]
  unfold sigT
  simp only
  cases gs.find? (fun g => decide (g.1 = ks)) with
  | some g => rfl
  | none => exact hk _
 rw [List.length_map]
 cases h1 : eqS s [105, 110, 116, 115]
 ·simp only [iL_f, cond_false]
  cases h2 : eqS s [115, 116, 114, 105, 110, 103, 115]
  ·simp only [iL_f, cond_false, evC_known (E_builtins (n := n + 1001)), bltD, dSameD_k, dSame_k]
   unfold tblT
   cases eqS s [108, 101, 110]
   rotate_left
   ·exact fin [([3], 1), ([4], 1), ([5], 1)] (by decide) (by decide) _ fun x => by simp only [evC_known f15, dTup_k, dNil_k, dCS]
   cases eqS s [97, 116]
   rotate_left
   ·exact fin [([4, 1], 1), ([5, 1], 3)] (by decide) (by decide) _ fun x => by simp only [evC_known f15, dTup_k, dNil_k, dCS]
   cases eqS s [97, 112, 112, 101, 110, 100]
   rotate_left
   ·exact fin [([4, 1], 4), ([5, 3], 5)] (by decide) (by decide) _ fun x => by simp only [evC_known f15, dTup_k, dNil_k, dCS]
   cases eqS s [115, 101, 116]
   rotate_left
   ·exact fin [([4, 1, 1], 4), ([5, 1, 3], 5)] (by decide) (by decide) _ fun x => by simp only [evC_known f15, dTup_k, dNil_k, dCS]
   cases eqS s [115, 116, 114]
   rotate_left
   ·exact fin [([1], 3)] (by decide) (by decide) _ fun x => by simp only [evC_known f15, dTup_k, dNil_k, dCS]
   simp only [iL_f, cond_false, evC_known f14, dTup_k, dNil_k, dCS]
   rfl
  ·simp only [iL_t, cond_true, a1, want_err]
 ·have hs : s = [105, 110, 116, 115] := by rw [eqS_d] at h1; exact of_decide_eq_true h1
  subst hs
  have h2 : eqS [105, 110, 116, 115] [115, 116, 114, 105, 110, 103, 115] = false := rfl
  simp only [iL_t, cond_true, h2, iL_f, a1, want_err]
def exprT (c : CS) (i : Int) (x : No) (ks : List Int) : Option (Int × CS) :=
 if x.op = 1 then some (x.v.k, c) else
 if x.op = 3 then some (3, c) else
 if x.op = 2 then some ((useS c i x.name).1.kind, (useS c i x.name).2) else
 if x.op = 4 then (match ks with
  | [] => none
  | k :: _ => some (bif eqS x.name [33] then 2 else 1, wantS c i (eqI k (bif eqS x.name [33] then 2 else 1)))) else
 if x.op = 5 then (match ks with
  | k :: k' :: _ => some ((binT x.name k k').1, wantS c i (binT x.name k k').2)
  | _ => none) else
 some ((applyT x.name ks).1, errS c i (applyT x.name ks).2)
theorem E_cexpression {n : Nat} (c c' : CS) (i k : Int) (x : No) (ks : List Int) (h : exprT c i x ks = some (k, c')) (hl : ks.length < 1000) : evFn lay0.tab (n + 1004) 182 [.box 0 0, .p (.int .i64 i), .p x.e, .p (.slice 1 (ks.map iE))] c.k.hp = some (.p (.int .i64 k), c'.k.hp) := by
 apply T_cexpression (n + 1003) c.k i x.r (ks.map iE)
 unfold exprT at h
 unfold F_cexpression
 have hop : x.r.Op = x.op := rfl
 have hnm : x.r.Name = x.name := rfl
 simp only [eqI_d, iL_dec, hop, hnm]
 by_cases h1 : x.op = 1
 ·rw [if_pos h1] at h ⊢
  simp only [Option.some.injEq, Prod.mk.injEq] at h
  obtain ⟨rfl, rfl⟩ := h
  rfl
 rw [if_neg h1] at h ⊢
 by_cases h3 : x.op = 3
 ·rw [if_pos h3] at h ⊢
  simp only [Option.some.injEq, Prod.mk.injEq] at h
  obtain ⟨rfl, rfl⟩ := h
  rfl
 rw [if_neg h3] at h ⊢
 by_cases h2 : x.op = 2
 ·rw [if_pos h2] at h ⊢
  simp only [Option.some.injEq, Prod.mk.injEq] at h
  obtain ⟨rfl, rfl⟩ := h
  have u := E_cuse (n := n + 1001) c i x.name
  simp only [evC_known u, dP_k, dVr, dCS]
  rfl
 rw [if_neg h2] at h ⊢
 by_cases h4 : x.op = 4
 ·rw [if_pos h4] at h ⊢
  cases ks with
  | nil => cases h
  | cons k0 r =>
   simp only [Option.some.injEq, Prod.mk.injEq] at h
   obtain ⟨rfl, rfl⟩ := h
   have at0 : at? ((k0 :: r).map iE) 0 = some (iE k0) := rfl
   have w := fun b => E_cwant (n := n + 1001) c i b
   simp only [at0, cL_s, dI, evC_known (w true), evC_known (w false), dTup_k, dNil_k, dCS, eqI_d]
   cases eqS x.name [33]
   ·simp only [iL_f, cond_false]
    by_cases hk : k0 = 1
    ·rw [if_pos hk, decide_eq_true hk]
    ·rw [if_neg hk, decide_eq_false hk]
   ·simp only [iL_t, cond_true]
    by_cases hk : k0 = 2
    ·rw [if_pos hk, decide_eq_true hk]
    ·rw [if_neg hk, decide_eq_false hk]
 rw [if_neg h4] at h ⊢
 by_cases h5 : x.op = 5
 ·rw [if_pos h5] at h ⊢
  match ks, h with
  | k0 :: k1 :: r, h =>
   simp only [Option.some.injEq, Prod.mk.injEq] at h
   obtain ⟨rfl, rfl⟩ := h
   have at0 : at? ((k0 :: k1 :: r).map iE) 0 = some (iE k0) := rfl
   have at1 : at? ((k0 :: k1 :: r).map iE) 1 = some (iE k1) := rfl
   have b := E_cbinary (n := n + 1000) c i x.name k0 k1
   simp only [at0, at1, cL_s, dI, evC_known b, dP_k, dInt_k, dCS]
 rw [if_neg h5] at h ⊢
 simp only [Option.some.injEq, Prod.mk.injEq] at h
 obtain ⟨rfl, rfl⟩ := h
 have a := E_capply (n := n) c i x.name ks hl
 simp only [evC_known a, dP_k, dInt_k, dCS]
end
end Go.Ab
end
/- Statements, ends, the walk over a method's tree. -/
section
namespace Go.Ab
open Go
set_option maxRecDepth 100000
noncomputable section
def stmtT (c : CS) (i : Int) (x : No) (ks : List Int) : Option CS :=
 if x.op = 8 then (match ks with
  | [] => none
  | k :: _ => letS c i x k) else
 if x.op = 9 then (match ks with
  | [] => none
  | k :: _ => some (wantS (useS c i x.name).2 i (decide ((useS c i x.name).1.kind = k)))) else
 if x.op = 11 ∨ x.op = 12 then (match ks with
  | [] => none
  | k :: _ => some (wantS c i (decide (k = 2)))) else
 if x.op = 13 then (match ks with
  | [] => some (wantS c i (false == !decide (c.re = 0)))
  | k :: _ => some (wantS (wantS c i (true == !decide (c.re = 0))) i (decide (k = c.re)))) else
 if x.op = 15 then some (wantS c i (decide (ks = [3, 1]))) else
 if x.op = 16 then some (wantS c i (decide (ks = [3, 1, 1]))) else
 if x.op = 17 then (match ks with
  | [] => none
  | k :: _ => some (wantS c i (decide (k = 3)))) else some c
theorem want_re (c : CS) (i : Int) (b : Bool) : (wantS c i b).re = c.re := by
 unfold wantS failS
 split <;> (try rfl)
 split <;> rfl
theorem E_cstatement {n : Nat} (c c' : CS) (i : Int) (x : No) (ks : List Int) (h : stmtT c i x ks = some c') (hl : ks.length < 1000) : evFn lay0.tab (n + 1004) 183 [.box 0 0, .p (.int .i64 i), .p x.e, .p (.slice 1 (ks.map iE))] c.k.hp = some (.tup [], c'.k.hp) := by
 apply T_cstatement (n + 1003) c.k i x.r (ks.map iE)
 unfold stmtT at h
 unfold F_cstatement
 have hop : x.r.Op = x.op := rfl
 have hnm : x.r.Name = x.name := rfl
 have w := fun (c : CS) b => E_cwant (n := n + 1001) c i b
 have at0 : ∀ k r, at? ((k :: r : List Int).map iE) 0 = some (iE k) := fun k r => rfl
 have hre : c.k.re = c.re := rfl
 simp only [eqI_d, iL_dec, hop, hnm]
 by_cases h8 : x.op = 8
 ·rw [if_pos h8] at h ⊢
  cases ks with
  | nil => cases h
  | cons k r =>
   have e := E_clet (n := n + 1000) c c' i x k h
   simp only [No.e] at e
   simp only [at0, cL_s, dI, evC_known e, dTup_k, dNil_k, dCS]
 rw [if_neg h8] at h ⊢
 by_cases h9 : x.op = 9
 ·rw [if_pos h9] at h ⊢
  cases ks with
  | nil => cases h
  | cons k r =>
   simp only [Option.some.injEq] at h; subst h
   have u := E_cuse (n := n + 1001) c i x.name
   simp only [at0, cL_s, dI, evC_known u, dP_k, dVr, dCS, evC_known (w _ _), dTup_k, dNil_k, Vr.r]
   rfl
 rw [if_neg h9] at h ⊢
 have t48 : ∀ ys : List Int, evFn lay0.tab (n + 1003) 48 [.p (.slice 1 (ks.map iE)), .p (.slice 1 (ys.map iE))] [] = some (.p (.bool (decide (ks = ys))), []) := fun ys => E_sEqual (n := n + 1) ks ys hl
 have t2 := t48 [3, 1]
 have t3 := t48 [3, 1, 1]
 simp only [List.map_cons, List.map_nil, iE] at t2 t3
 by_cases h11 : x.op = 11
 ·rw [if_pos (.inl h11)] at h
  rw [if_pos h11, if_pos h11]
  cases ks with
  | nil => cases h
  | cons k r =>
   simp only [Option.some.injEq] at h; subst h
   simp only [at0, cL_s, dI, evC_known (w _ _), dTup_k, dNil_k, dCS]
 rw [if_neg h11]
 by_cases h12 : x.op = 12
 ·rw [if_pos (.inr h12)] at h
  rw [if_pos h12]
  cases ks with
  | nil => cases h
  | cons k r =>
   simp only [Option.some.injEq] at h; subst h
   simp only [at0, cL_s, dI, evC_known (w _ _), dTup_k, dNil_k, dCS]
 rw [if_neg (by rintro (h | h) <;> contradiction)] at h
 rw [if_neg h12]
 by_cases h13 : x.op = 13
 ·rw [if_pos h13] at h ⊢
  cases ks with
  | nil =>
   simp only [Option.some.injEq] at h; subst h
   have e0 : (ltI 0 (↑(List.map iE ([] : List Int)).length) == !decide (c.k.re = 0)) = (false == !decide (c.re = 0)) := rfl
   simp only [e0, evC_known (w _ _), dTup_k, dNil_k, dCS]
   rw [if_pos (by simp)]; rfl
  | cons k r =>
   simp only [Option.some.injEq] at h; subst h
   have e0 : ltI 0 (↑(List.map iE (k :: r)).length) = true := by rw [ltI_d]; simp
   simp only [e0, hre, evC_known (w _ _), dTup_k, dNil_k, dCS]
   rw [if_neg (by simp; omega)]
   simp only [at0, cL_s, dI]
   have e1 : (wantS c i (true == !decide (c.re = 0))).k.re = c.re := want_re c i _
   rw [e1]
 rw [if_neg h13] at h ⊢
 by_cases h15 : x.op = 15
 ·rw [if_pos h15] at h ⊢
  simp only [Option.some.injEq] at h; subst h
  simp only [evC_known t2, dP_k, dBool_k, dSame_k, evC_known (w _ _), dTup_k, dNil_k, dCS]
 rw [if_neg h15] at h ⊢
 by_cases h16 : x.op = 16
 ·rw [if_pos h16] at h ⊢
  simp only [Option.some.injEq] at h; subst h
  simp only [evC_known t3, dP_k, dBool_k, dSame_k, evC_known (w _ _), dTup_k, dNil_k, dCS]
 rw [if_neg h16] at h ⊢
 by_cases h17 : x.op = 17
 ·rw [if_pos h17] at h ⊢
  cases ks with
  | nil => cases h
  | cons k r =>
   simp only [Option.some.injEq] at h; subst h
   simp only [at0, cL_s, dI, evC_known (w _ _), dTup_k, dNil_k, dCS]
 rw [if_neg h17] at h ⊢
 simp only [Option.some.injEq] at h; subst h
 rfl
def endsF : Nat → List No → Int → Bool
 | 0, _, _ => false
 | f + 1, ns, i => match atT ns i with
  | none => false
  | some x =>
   if x.op = 13 then true else if x.op = 14 then true else
   if x.op = 11 then (decide (x.kids.length = 3) && ((match x.kids[1]? with | some k => decide (k < i) && endsF f ns k | none => false) && (match x.kids[2]? with | some k => decide (k < i) && endsF f ns k | none => false))) else
   if x.op = 18 then (match x.kids.getLast? with | some k => decide (k < i) && endsF f ns k | none => false) else false
theorem atT_none {α : Type} {l : List α} {i : Int} (h : i < 0 ∨ (l.length : Int) ≤ i) : atT l i = none := by
 unfold atT
 by_cases h0 : 0 ≤ i
 ·rw [if_pos h0, List.getElem?_eq_none (by omega)]
 ·rw [if_neg h0]
theorem atT_some {α : Type} {l : List α} {i : Int} {x : α} (h : atT l i = some x) : ∃ j : Nat, ∃ hj : j < l.length, i = (j : Int) ∧ l[j] = x := by
 unfold atT at h
 by_cases h0 : 0 ≤ i
 ·rw [if_pos h0] at h
  have hj : i.toNat < l.length := by
   rcases Nat.lt_or_ge i.toNat l.length with h1 | h1
   ·exact h1
   ·rw [List.getElem?_eq_none h1] at h; cases h
  rw [List.getElem?_eq_getElem hj] at h
  exact ⟨i.toNat, hj, by omega, by simpa using h⟩
 ·rw [if_neg h0] at h; cases h
theorem endsF_out {f : Nat} {ns : List No} {i : Int} (h : atT ns i = none) : endsF f ns i = false := by
 cases f with
 | zero => rfl
 | succ f => simp only [endsF, h]
theorem E_tEnds1 {n : Nat} {f : Nat} {ns : List No} (he : ∀ k : Int, k < f → evFn lay0.tab n 229 [.p (.slice 8 (ns.map No.e)), .p (.int .i64 k)] [] = some (.p (.bool (endsF f ns k)), [])) (x : No) (j : Int) (i : Int) {k : Int} (hk : atT x.kids j = some k) (hi : i ≤ f) : evFn lay0.tab (n + 1) 267 [.p (.int .i64 j), .box 0 0, .box 1 0, .box 2 0] [x.r.b, .box [.p (.int .i64 i)], .box [.p (.slice 8 (ns.map No.e))]] = some (.p (.bool (decide (k < i) && endsF f ns k)), [x.r.b, .box [.p (.int .i64 i)], .box [.p (.slice 8 (ns.map No.e))]]) := by
 apply T_tEnds1 n x.r j i (ns.map No.e)
 unfold F_tEnds1
 have hk' : at? x.r.Kids j = some (iE k) := by
  show at? (x.kids.map iE) j = _
  rw [at_mapT, hk]; rfl
 simp only [hk', cL_s, dI, ltI_d, iL_dec]
 by_cases hlt : k < i
 ·rw [if_pos hlt, decide_eq_true hlt]
  simp only [evC_known (he k (by omega)), dP_k, dBool_k, dNil_k, Bool.true_and]
  cases endsF f ns k <;> rfl
 ·rw [if_neg hlt, decide_eq_false hlt]
  rfl
theorem last_at (l : List Int) {a : Int} {r : List Int} (h : l = a :: r) : atT l (((l.length : Int)) - 1) = l.getLast? ∧ wrapF .i64 ((l.length : Int) - 1) = (l.length : Int) - 1 ∨ 1000000 ≤ l.length := by
 by_cases hb : 1000000 ≤ l.length
 ·exact .inr hb
 ·left
  have hl : 0 < l.length := by rw [h]; simp
  refine ⟨?_, wrapI (by omega) (by omega)⟩
  have : ((l.length : Int) - 1) = ((l.length - 1 : Nat) : Int) := by omega
  rw [this, atT_nat, List.getLast?_eq_getElem?]
theorem E_tEnds : ∀ (f : Nat) (n : Nat) (ns : List No) (i : Int), i < f → (∀ x ∈ ns, x.kids.length < 1000) → evFn lay0.tab (n + 2 * f + 1) 229 [.p (.slice 8 (ns.map No.e)), .p (.int .i64 i)] [] = some (.p (.bool (endsF f ns i)), [])
 | 0, n, ns, i, hi, hb => by
  apply T_tEnds _ (ns.map No.e) i
  unfold F_tEnds
  rw [ltT (by omega : i < 0)]
  rfl
 | f + 1, n, ns, i, hi, hb => by
  have he := fun k hk => E_tEnds f n ns k hk hb
  have key := fun x j k hk => E_tEnds1 he x j i (k := k) hk (by omega)
  rw [show n + 2 * (f + 1) + 1 = n + 2 * f + 1 + 1 + 1 by omega]
  apply T_tEnds _ (ns.map No.e) i
  unfold F_tEnds
  cases ha : atT ns i with
  | none =>
   rw [endsF_out ha, ltI_d, iL_dec, leI_d, iL_dec]
   by_cases h0 : i < 0
   ·rw [if_pos h0]
   ·rw [if_neg h0]
    by_cases h1 : (((ns.map No.e).length : Int)) ≤ i
    ·rw [if_pos h1]
    ·exfalso
     rw [List.length_map] at h1
     have hj : i.toNat < ns.length := by omega
     have : i = (i.toNat : Int) := by omega
     rw [this, atT_lt hj] at ha; cases ha
  | some x =>
   obtain ⟨j, hj, rfl, hx⟩ := atT_some ha
   rw [ltF (by omega), iL_f, leI_d, List.length_map, decide_eq_false (by omega), iL_f, at_mapT, ha]
   have hxb : x.kids.length < 1000 := hb x (hx ▸ List.getElem_mem hj)
   simp only [Option.map_some, cL_s, dNo, endsF, ha, eqI_d, iL_dec]
   have hop : x.r.Op = x.op := rfl
   simp only [hop]
   by_cases h13 : x.op = 13
   ·rw [if_pos h13, if_pos h13]
   rw [if_neg h13, if_neg h13]
   by_cases h14 : x.op = 14
   ·rw [if_pos h14, if_pos h14]
   rw [if_neg h14, if_neg h14]
   by_cases h11 : x.op = 11
   ·rw [if_pos h11, if_pos h11]
    have hlk : (x.r.Kids.length : Int) = (x.kids.length : Int) := by
     show ((x.kids.map iE).length : Int) = _
     rw [List.length_map]
    rw [hlk]
    by_cases h3 : x.kids.length = 3
    ·rw [if_pos (by omega), decide_eq_true h3, Bool.true_and]
     have e1 : x.kids[1]? = some x.kids[1] := List.getElem?_eq_getElem (by omega)
     have e2 : x.kids[2]? = some x.kids[2] := List.getElem?_eq_getElem (by omega)
     have k1 := key x 1 x.kids[1] (atT_lt (j := 1) (by omega))
     have k2 := key x 2 x.kids[2] (atT_lt (j := 2) (by omega))
     simp only [evC_known k1, evC_known k2, dP_k, dBool_k, dSame_k, e1, e2]
     cases (decide (x.kids[1] < (j : Int)) && endsF f ns x.kids[1]) <;> cases (decide (x.kids[2] < (j : Int)) && endsF f ns x.kids[2]) <;> rfl
    ·rw [if_neg (by omega), decide_eq_false h3, Bool.false_and]
   rw [if_neg h11, if_neg h11]
   by_cases h18 : x.op = 18
   ·rw [if_pos h18, if_pos h18]
    have hlk : (x.r.Kids.length : Int) = (x.kids.length : Int) := by
     show ((x.kids.map iE).length : Int) = _
     rw [List.length_map]
    rw [hlk]
    cases hk : x.kids with
    | nil => rw [ltF (by simp)]; rfl
    | cons a r =>
     rw [← hk]
     rcases last_at x.kids hk with ⟨l1, l2⟩ | l3
     ·rw [ltT (by rw [hk]; simp), iL_t, l2]
      cases hg : x.kids.getLast? with
      | none => rw [hk] at hg; simp at hg
      | some k =>
       have k1 := key x ((x.kids.length : Int) - 1) k (by rw [l1, hg])
       simp only [evC_known k1, dP_k, dBool_k, dSame_k]
       cases (decide (k < (j : Int)) && endsF f ns k) <;> rfl
     ·omega
   rw [if_neg h18, if_neg h18]
end
end Go.Ab
end
/- The walk over a method's tree; a method; a program. -/
section
namespace Go.Ab
open Go
set_option maxRecDepth 100000
noncomputable section
def endsT (ns : List No) (i : Int) : Bool := endsF 1000 ns i
def kidsM (v : CS → Int → Option (Int × CS)) : CS → List Int → Option (List Int × CS)
 | c, [] => some ([], c)
 | c, k :: r => match v c k with
  | none => none
  | some (x, c1) => match kidsM v c1 r with
   | none => none
   | some (xs, c2) => some (x :: xs, c2)
def blkM (v : CS → Int → Bool → Option (Int × CS)) : CS → List Int → Bool → Option CS
 | c, [], _ => some c
 | c, k :: r, d => match v c k d with
  | none => none
  | some (_, c1) => blkM v c1 r (d || endsT c1.ns k)
def opT (c : CS) (i : Int) (x : No) (ks : List Int) : Option (Int × CS) :=
 if x.op = 7 then calT c i x ks else if x.op ≤ 6 then exprT c i x ks else match stmtT c i x ks with
  | some c => some (0, c)
  | none => none
def noteT (c : CS) (i : Int) (x : No) (k : Int) : CS := if x.op ≤ 7 then {c with ki := putI c.ki i k} else c
def blockT (v : CS → Int → Bool → Option (Int × CS)) (c : CS) (i : Int) (x : No) : Option CS := match blkM v c x.kids false with
 | none => none
 | some c1 => some (if i = (c1.ns.length : Int) - 1 then wantS {c1 with sc := c.sc} i (decide (c1.re = 0) || endsT c1.ns i) else {c1 with sc := c.sc})
def visT : Nat → CS → Int → Bool → Option (Int × CS)
 | 0, _, _, _ => none
 | f + 1, c, i, d => match atT c.ns i with
  | none => none
  | some x =>
   if x.op = 18 then (match blockT (visT f) c i x with
    | none => none
    | some c1 => some (0, c1))
   else match kidsM (fun c k => visT f c k false) c x.kids with
    | none => none
    | some (ks, c1) => if c1.er = 0 then (match opT c1 i x ks with
     | none => none
     | some (k, c2) => some (k, noteT (wantS c2 i (!d)) i x k)) else some (0, c1)
structure Stat (c c' : CS) : Prop where
 pr : c'.pr = c.pr
 ns : c'.ns = c.ns
 re : c'.re = c.re
 fs : c'.fs = c.fs
theorem Stat.refl (c : CS) : Stat c c := ⟨rfl, rfl, rfl, rfl⟩
theorem Stat.trans {a b c : CS} (h : Stat a b) (k : Stat b c) : Stat a c := ⟨k.pr.trans h.pr, k.ns.trans h.ns, k.re.trans h.re, k.fs.trans h.fs⟩
theorem fail_stat (c : CS) (i e : Int) : Stat c (failS c i e) := by unfold failS; split <;> exact ⟨rfl, rfl, rfl, rfl⟩
theorem want_stat (c : CS) (i : Int) (b : Bool) : Stat c (wantS c i b) := by
 unfold wantS; split
 ·exact Stat.refl c
 ·exact fail_stat _ _ _
theorem use_stat (c : CS) (i : Int) (s : List Nat) : Stat c (useS c i s).2 := by
 unfold useS; split
 ·exact ⟨rfl, rfl, rfl, rfl⟩
 ·exact fail_stat _ _ _
theorem decl_stat {c c' : CS} {s : List Nat} {k : Int} (h : declS c s k = some c') : Stat c c' := by
 unfold declS at h
 split at h
 ·simp only [Option.some.injEq] at h; subst h; exact ⟨rfl, rfl, rfl, rfl⟩
 ·cases h
theorem let1_stat (c : CS) (i : Int) (x : No) : Stat c (let1 c i x) := by
 unfold let1
 split
 ·exact fail_stat _ _ _
 split
 ·exact fail_stat _ _ _
 ·exact Stat.refl _
theorem let_stat {c c' : CS} {i k : Int} {x : No} (h : letS c i x k = some c') : Stat c c' := by
 unfold letS at h
 split at h
 ·rename_i c3 h3
  simp only [Option.some.injEq] at h; subst h
  exact (let1_stat _ _ _).trans ((want_stat _ _ _).trans ((decl_stat h3).trans (use_stat _ _ _)))
 ·cases h
theorem err_stat (c : CS) (i e : Int) : Stat c (errS c i e) := by 
 unfold errS; split
 ·exact Stat.refl c
 ·exact fail_stat _ _ _
theorem op_stat {c c' : CS} {i k : Int} {x : No} {ks : List Int} (h : opT c i x ks = some (k, c')) : Stat c c' := by
 unfold opT at h
 split at h
 ·unfold calT at h
  split at h
  ·simp only [Option.some.injEq, Prod.mk.injEq] at h; rw [← h.2]; exact fail_stat _ _ _
  ·split at h
   ·cases h
   ·simp only [Option.some.injEq, Prod.mk.injEq] at h; rw [← h.2]; exact want_stat _ _ _
 ·split at h
  ·unfold exprT at h
   repeat' split at h
   all_goals first
    | (cases h; done)
    | (
      simp only [Option.some.injEq, Prod.mk.injEq] at h
      rw [← h.2]
      first | exact Stat.refl _ | exact use_stat _ _ _ | exact want_stat _ _ _ | exact err_stat _ _ _)
  ·split at h
   ·rename_i c1 hs
    simp only [Option.some.injEq, Prod.mk.injEq] at h
    rw [← h.2]
    unfold stmtT at hs
    repeat' split at hs
    all_goals first
     | (cases hs; done)
     | exact let_stat hs
     | (
       simp only [Option.some.injEq] at hs
       rw [← hs]
       first | exact Stat.refl _ | exact want_stat _ _ _ | exact (use_stat _ _ _).trans (want_stat _ _ _) | exact (want_stat _ _ _).trans (want_stat _ _ _))
   ·cases h
theorem note_stat (c : CS) (i : Int) (x : No) (k : Int) : Stat c (noteT c i x k) := by unfold noteT; split <;> exact ⟨rfl, rfl, rfl, rfl⟩
theorem kids_stat {v : CS → Int → Option (Int × CS)} (hv : ∀ c k r, v c k = some r → Stat c r.2) : ∀ (l : List Int) (c : CS) {r : List Int × CS}, kidsM v c l = some r → Stat c r.2
 | [], c, r, h => by simp only [kidsM, Option.some.injEq] at h; rw [← h]; exact Stat.refl _
 | k :: l, c, r, h => by
  simp only [kidsM] at h
  split at h
  ·cases h
  ·rename_i x c1 h1
   split at h
   ·cases h
   ·rename_i xs c2 h2
    simp only [Option.some.injEq] at h
    rw [← h]
    have a := hv _ _ _ h1
    have b := kids_stat hv l c1 h2
    exact a.trans b
theorem blk_stat {v : CS → Int → Bool → Option (Int × CS)} (hv : ∀ c k d r, v c k d = some r → Stat c r.2) : ∀ (l : List Int) (c : CS) (d : Bool) {r : CS}, blkM v c l d = some r → Stat c r
 | [], c, d, r, h => by simp only [blkM, Option.some.injEq] at h; rw [← h]; exact Stat.refl _
 | k :: l, c, d, r, h => by
  simp only [blkM] at h
  split at h
  ·cases h
  ·rename_i x c1 h1
   exact (hv _ _ _ _ h1).trans (blk_stat hv l c1 _ h)
theorem block_stat {v : CS → Int → Bool → Option (Int × CS)} (hv : ∀ c k d r, v c k d = some r → Stat c r.2) {c : CS} {i : Int} {x : No} {r : CS} (h : blockT v c i x = some r) : Stat c r := by
 unfold blockT at h
 split at h
 ·cases h
 ·rename_i c1 h1
  simp only [Option.some.injEq] at h
  have h2 := blk_stat hv _ _ _ h1
  have h3 : Stat c {c1 with sc := c.sc} := ⟨h2.pr, h2.ns, h2.re, h2.fs⟩
  rw [← h]
  split
  ·exact h3.trans (want_stat _ _ _)
  ·exact h3
theorem vis_stat : ∀ (f : Nat) (c : CS) (i : Int) (d : Bool) (r : Int × CS), visT f c i d = some r → Stat c r.2
 | 0, c, i, d, r, h => by simp only [visT] at h; cases h
 | f + 1, c, i, d, r, h => by
  simp only [visT] at h
  split at h
  ·cases h
  ·split at h
   ·split at h
    ·cases h
    ·rename_i c1 h1
     simp only [Option.some.injEq] at h
     rw [← h]
     exact block_stat (vis_stat f) h1
   ·split at h
    ·cases h
    ·rename_i ks c1 h1
     have s1 := kids_stat (fun c k r => vis_stat f c k false r) _ _ h1
     split at h
     ·split at h
      ·cases h
      ·rename_i k c2 h2
       simp only [Option.some.injEq] at h
       rw [← h]
       exact s1.trans ((op_stat h2).trans ((want_stat _ _ _).trans (note_stat _ _ _ _)))
     ·simp only [Option.some.injEq] at h
      rw [← h]; exact s1
structure Sz (c : CS) : Prop where
 pr : c.pr.length < 1000
 me : ∀ a ∈ c.pr, a.methods.length < 1000
 ns : c.ns.length < 1000
 ks : ∀ x ∈ c.ns, x.kids.length < 1000
theorem Sz.of {c c' : CS} (h : Sz c) (s : Stat c c') : Sz c' := ⟨s.pr ▸ h.pr, s.pr ▸ h.me, s.ns ▸ h.ns, s.ns ▸ h.ks⟩
def VisOk (v : CS → Int → Bool → Option (Int × CS)) (m : Nat) : Prop := ∀ (c : CS) (i : Int) (d : Bool) (k : Int) (c' : CS), v c i d = some (k, c') → Sz c → evFn lay0.tab m 128 [.box 0 0, .p (.int .i64 i), .p (.bool d)] c.k.hp = some (.p (.int .i64 k), c'.k.hp)
theorem kids_loop {v : CS → Int → Bool → Option (Int × CS)} {m : Nat} (hs : ∀ c k d r, v c k d = some r → Stat c r.2) (hv : VisOk v m) (k0 : Int × Bool × Nat × LD × Int × Int × Bool × Ckr × api_Node × LD → R) (i : Int) (d : Bool) (l : List Int) (x : api_Node) (hl : l.length < 1000) : ∀ (e q j : Nat) (c : CS) (acc ks : List Int) (c' : CS), j + e = l.length → e < q → acc.length = j → kidsM (fun c k => v c k false) c (l.drop j) = some (ks, c') → Sz c →
  L_cvisit_1 (evC lay0.tab m) m k0 q (i, d, acc.length, l.map iE, (l.length : Int), (j : Int), c.k, x, acc.map iE) = k0 (i, d, (acc ++ ks).length, l.map iE, (l.length : Int), (l.length : Int), false, c'.k, x, (acc ++ ks).map iE)
 | 0, q + 1, j, c, acc, ks, c', h, _, ha, hk, hz => by
  obtain rfl : j = l.length := by omega
  rw [List.drop_length] at hk
  simp only [kidsM, Option.some.injEq, Prod.mk.injEq] at hk
  obtain ⟨rfl, rfl⟩ := hk
  rw [Ls_cvisit_1]
  simp only [S_cvisit_1, ltII, iL_f, List.append_nil]
 | e + 1, q + 1, j, c, acc, ks, c', h, hq, ha, hk, hz => by
  have hj : j < l.length := by omega
  rw [List.drop_eq_getElem_cons hj] at hk
  simp only [kidsM] at hk
  split at hk
  ·cases hk
  ·rename_i y c1 h1
   split at hk
   ·cases hk
   ·rename_i ys c2 h2
    simp only [Option.some.injEq, Prod.mk.injEq] at hk
    obtain ⟨rfl, rfl⟩ := hk
    rw [Ls_cvisit_1]
    have hc := hv _ _ _ _ _ h1 hz
    have hlen : Nat.beq acc.length (acc.map iE).length = true := by simp
    have hbig : bigL ((acc.map iE).length + [Da.int .i64 y].length) 8 = true := bigL_ok (by simp; omega) (by decide)
    simp only [S_cvisit_1, ltT (show ((j : Int) < (l.length : Int)) by omega), iL_t, at_mapT, cL_map, atT_lt hj, cL_s, dI, wS (show j < big by unfold big; omega), evC_known hc, dP_k, dInt_k, dCS, hlen, hbig]
    have e1 : acc.map iE ++ [Da.int .i64 y] = (acc ++ [y]).map iE := by simp [iE]
    rw [e1, List.length_map]
    have := kids_loop hs hv k0 i d l x hl e q (j + 1) c1 (acc ++ [y]) ys c2 (by omega) (by omega) (by simp; omega) h2 (hz.of (hs _ _ _ _ h1))
    rw [this]
    simp only [List.append_assoc, List.cons_append, List.nil_append]
theorem blk_loop {v : CS → Int → Bool → Option (Int × CS)} {m : Nat} (hs : ∀ c k d r, v c k d = some r → Stat c r.2) (hv : VisOk v m) (hm : 2001 ≤ m) (i : Int) (l : List Int) (sk sv : LD) (hl : l.length < 1000) : ∀ (e q j : Nat) (c : CS) (d : Bool) (c' : CS), j + e = l.length → e < q → blkM v c (l.drop j) d = some c' → Sz c →
  ∃ d', ∀ k0 : H_cblock_1 → R, L_cblock_1 (evC lay0.tab m) m k0 q (i, d, l.map iE, (l.length : Int), (j : Int), c.k, sk, sv) = k0 (i, d', l.map iE, (l.length : Int), (l.length : Int), c'.k, sk, sv)
 | 0, q + 1, j, c, d, c', h, _, hk, hz => by
  obtain rfl : j = l.length := by omega
  rw [List.drop_length] at hk
  simp only [blkM, Option.some.injEq] at hk
  subst hk
  refine ⟨d, fun k0 => ?_⟩
  rw [Ls_cblock_1]
  simp only [S_cblock_1, ltII, iL_f]
 | e + 1, q + 1, j, c, d, c', h, hq, hk, hz => by
  have hj : j < l.length := by omega
  rw [List.drop_eq_getElem_cons hj] at hk
  simp only [blkM] at hk
  split at hk
  ·cases hk
  ·rename_i y c1 h1
   have hc := hv _ _ _ _ _ h1 hz
   have hz1 : Sz c1 := hz.of (hs _ _ _ _ h1)
   obtain ⟨d', ih⟩ := blk_loop hs hv hm i l sk sv hl e q (j + 1) c1 _ c' (by omega) (by omega) hk hz1
   refine ⟨d', fun k0 => ?_⟩
   rw [← ih k0, Ls_cblock_1]
   have hen : evFn lay0.tab m 229 [.p (.slice 8 c1.k.ns), .p (.int .i64 l[j])] [] = some (.p (.bool (endsT c1.ns l[j])), []) := by
    by_cases hlt : l[j] < (1000 : Nat)
    ·obtain ⟨m', rfl⟩ : ∃ m', m = m' + 2 * 1000 + 1 := ⟨m - 2001, by omega⟩
     exact E_tEnds 1000 m' c1.ns l[j] hlt hz1.ks
    ·have hn : atT c1.ns l[j] = none := atT_none (.inr (by have := hz1.ns; omega))
     obtain ⟨m', rfl⟩ : ∃ m', m = m' + 1 := ⟨m - 1, by omega⟩
     unfold endsT
     rw [endsF_out hn]
     apply T_tEnds m' (c1.ns.map No.e) l[j]
     unfold F_tEnds
     rw [ltF (by omega), iL_f, leI_d, List.length_map, decide_eq_true (by have := hz1.ns; omega), iL_t]
   simp only [S_cblock_1, ltT (show ((j : Int) < (l.length : Int)) by omega), iL_t, at_mapT, cL_map, atT_lt hj, cL_s, dI, wS (show j < big by unfold big; omega)]
   cases d
   ·simp only [iL_f, evC_known hc, dP_k, dInt_k, dCS, evC_known hen, dBool_k, dNil_k, Bool.false_or]
    cases endsT c1.ns l[j] <;> rfl
   ·simp only [iL_t, evC_known hc, dP_k, dInt_k, dCS, Bool.true_or]
theorem E_cblock {v : CS → Int → Bool → Option (Int × CS)} {m : Nat} (hs : ∀ c k d r, v c k d = some r → Stat c r.2) (hv : VisOk v m) (hm : 2010 ≤ m) (c c' : CS) (i : Int) (x : No) (hl : x.kids.length < 1000) (h : blockT v c i x = some c') (hz : Sz c) (hi : i < 1000) : evFn lay0.tab (m + 1) 180 [.box 0 0, .p (.int .i64 i), .p x.e] c.k.hp = some (.tup [], c'.k.hp) := by
 apply T_cblock m c.k i x.r
 unfold F_cblock
 unfold blockT at h
 split at h
 ·cases h
 ·rename_i c1 h1
  simp only [Option.some.injEq] at h
  obtain ⟨m1, rfl⟩ : ∃ m1, m = m1 + 1 := ⟨m - 1, by omega⟩
  have hcl : evFn lay0.tab (m1 + 1) 228 [.map 0] [.map c.k.sk c.k.sv] = some (.map 1, [.map c.k.sk c.k.sv, .map c.k.sk c.k.sv]) := T_mClone m1 _ _ _ rfl
  simp only [evC_known hcl]
  have hz1 := hz.of (blk_stat hs _ _ _ h1)
  obtain ⟨d', hloop⟩ := blk_loop hs hv (by omega) i x.kids c.k.sk c.k.sv hl x.kids.length (m1 + 1) 0 c false c1 (by omega) (by omega) (by rw [List.drop_zero]; exact h1) hz
  have hlk : (List.length x.r.Kids : Int) = x.kids.length := by show ((x.kids.map iE).length : Int) = _; rw [List.length_map]
  have hgen : ∀ k0 : H_cblock_1 → R, (dMp 1 (.map 1) <| dSame [(.map c.k.sk c.k.sv), (.map c.k.sk c.k.sv)] [(.map c.k.sk c.k.sv), (.map c.k.sk c.k.sv)] <| L_cblock_1 (evC lay0.tab (m1 + 1)) (m1 + 1) k0 (m1 + 1) (i, false, x.r.Kids, (x.r.Kids.length : Int), 0, c.k, c.k.sk, c.k.sv)) = k0 (i, d', x.kids.map iE, (x.kids.length : Int), (x.kids.length : Int), c1.k, c.k.sk, c.k.sv) := fun k0 => by
   rw [dSame_k, hlk]
   exact hloop k0
  rw [hgen]
  ·show (iL (eqI i (wrapF .i64 (↑(List.length c1.k.ns) - 1)))
    (iL (eqI c1.k.re 0)
     (evC lay0.tab (m1 + 1) 184 [.box 0 0, .p (.int .i64 i), .p (.bool true)] ({c1 with sc := c.sc} : CS).k.hp fun d o => dTup d fun r => dNil r <| d_Ckr o fun u => some (.tup [], u.hp))
     (evC lay0.tab (m1 + 1) 229 [.p (.slice 8 c1.k.ns), .p (.int .i64 i)] [] fun d o => dP d fun x => dBool x fun b => dNil o <| iL b
      (evC lay0.tab (m1 + 1) 184 [.box 0 0, .p (.int .i64 i), .p (.bool true)] ({c1 with sc := c.sc} : CS).k.hp fun d o => dTup d fun r => dNil r <| d_Ckr o fun u => some (.tup [], u.hp))
      (evC lay0.tab (m1 + 1) 184 [.box 0 0, .p (.int .i64 i), .p (.bool false)] ({c1 with sc := c.sc} : CS).k.hp fun d o => dTup d fun r => dNil r <| d_Ckr o fun u => some (.tup [], u.hp))))
    (some (.tup [], ({c1 with sc := c.sc} : CS).k.hp))) = _
   have e2 : wrapF .i64 (↑(List.length c1.k.ns) - 1) = (c1.ns.length : Int) - 1 := by
    have : (List.length c1.k.ns : Int) = c1.ns.length := by show ((c1.ns.map No.e).length : Int) = _; rw [List.length_map]
    rw [this]
    have := hz1.ns
    exact wrapI (by omega) (by omega)
   have e3 : c1.k.re = c1.re := rfl
   simp only [e2, e3, eqI_d, iL_dec]
   subst h
   by_cases hr : i = (c1.ns.length : Int) - 1
   ·rw [if_pos hr, if_pos hr]
    obtain ⟨m2, rfl⟩ : ∃ m2, m1 = m2 + 1 := ⟨m1 - 1, by omega⟩
    have w := fun b => E_cwant (n := m2) ({c1 with sc := c.sc} : CS) i b
    simp only [evC_known (w true), evC_known (w false), dTup_k, dNil_k, dCS]
    have hen : evFn lay0.tab (m2 + 1 + 1) 229 [.p (.slice 8 c1.k.ns), .p (.int .i64 i)] [] = some (.p (.bool (endsT c1.ns i)), []) := by
     obtain ⟨m', hm'⟩ : ∃ m', m2 + 1 + 1 = m' + 2 * 1000 + 1 := ⟨m2 + 2 - 2001, by omega⟩
     rw [hm']
     exact E_tEnds 1000 m' c1.ns i (by omega) hz1.ks
    simp only [evC_known hen, dP_k, dBool_k, dNil_k]
    by_cases h0 : c1.re = 0
    ·rw [if_pos h0, decide_eq_true h0]; rfl
    ·rw [if_neg h0, decide_eq_false h0]
     cases endsT c1.ns i <;> rfl
   ·rw [if_neg hr, if_neg hr]
end
end Go.Ab
end
