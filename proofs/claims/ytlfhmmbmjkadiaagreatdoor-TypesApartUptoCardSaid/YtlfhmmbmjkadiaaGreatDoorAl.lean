/- The evaluator and its laws, part Al: AbL AbL2 AbL3 AbK0 -/
import Derived.Test.YtlfhmmbmjkadiaaGreatDoorAm3
set_option linter.all false
/- The evaluator on letters: tests stay open, loops and calls are handed to what is known of them; what is found here, the evaluator finds. -/
section
namespace Go.Ab
open Go
noncomputable section
abbrev LD := List Da
abbrev LN := List Nat
def Le (a b : R) : Prop := ∀ r, a = some r → b = some r
theorem Le.refl (a : R) : Le a a := fun _ h => h
theorem Le.no (b : R) : Le none b := fun _ h => by cases h
theorem Le.trans {a b c : R} (h : Le a b) (g : Le b c) : Le a c := fun r e => g r (h r e)
theorem Le.of_eq {a b : R} (h : a = b) : Le a b := by rw [h]; exact Le.refl b
def iL (b : Bool) (t e : R) : R := Bool.rec (motive := fun _ => R) e t b
def cL {α : Type} (o : Option α) (k : α → R) : R := Option.rec (motive := fun _ => R) none (fun x => k x) o
theorem Le.grd {b : Bool} {t t' : R} (h : b = true → Le t t') : Le (iL b t none) t' := by
 cases b
 ·exact Le.no _
 ·exact h rfl
theorem Le.two {b : Bool} {t e x : R} (h : b = true → Le t x) (g : b = false → Le e x) : Le (iL b t e) x := by
 cases b
 ·exact g rfl
 ·exact h rfl
theorem Le.opt {α : Type} {o : Option α} {k : α → R} {x : R} (h : ∀ a, o = some a → Le (k a) x) : Le (cL o k) x := by
 cases o
 ·exact Le.no _
 ·exact h _ rfl
/- Readings: a datum of a known form, or nothing. -/
def dInt (i : IntKind) (x : Da) (k : Int → R) : R := match x with | .int j n => iL (Nat.beq (kc j) (kc i)) (k n) none | _ => none
def dStr (x : Da) (k : List Nat → R) : R := match x with | .str s => k s | _ => none
def dBool (x : Da) (k : Bool → R) : R := match x with | .bool b => k b | _ => none
def dSl (z : Nat) (x : Da) (k : List Da → R) : R := match x with | .slice y es => iL (Nat.beq y z) (k es) none | _ => none
def dAgg (x : Da) (k : List Da → R) : R := match x with | .agg cs => k cs | _ => none
def dMap (x : Da) (k : List Da → List Da → R) : R := match x with | .map ks vs => k ks vs | _ => none
def dCons {α : Type} (l : List α) (k : α → List α → R) : R := match l with | x :: r => k x r | [] => none
def dNil {α : Type} (l : List α) (k : R) : R := match l with | _ :: _ => none | [] => k
def dP (d : D) (k : Da → R) : R := match d with | .p x => k x | _ => none
def dTup (d : D) (k : List D → R) : R := match d with | .tup ds => k ds | _ => none
def dBox (id off : Nat) (d : D) (k : R) : R := match d with | .box i o => iL (Nat.beq i id) (iL (Nat.beq o off) k none) none | _ => none
def dArr (id z : Nat) (d : D) (k : Nat → R) : R := match d with | .arr i lo len y => iL (Nat.beq i id) (iL (Nat.beq lo 0) (iL (Nat.beq y z) (k len) none) none) none | _ => none
def dArrV (id z : Nat) (d : D) (k : Nat → Nat → R) : R := match d with | .arr i lo len y => iL (Nat.beq i id) (iL (Nat.beq y z) (k lo len) none) none | _ => none
def dMp (id : Nat) (d : D) (k : R) : R := match d with | .map i => iL (Nat.beq i id) k none | _ => none
def dNl (z : Nat) (d : D) (k : R) : R := match d with | .sl .nil y [] => iL (Nat.beq y z) k none | _ => none
def dEx (z : Nat) (d : D) (k : List Da → R) : R := match d with | .sl .exact y es => iL (Nat.beq y z) (k es) none | _ => none
def dFn (f : Nat) (d : D) (k : List D → R) : R := match d with | .fn g cs => iL (Nat.beq g f) (k cs) none | _ => none
def oBox (o : Ob) (k : List D → R) : R := match o with | .box cs => k cs | _ => none
def oArr (o : Ob) (k : List Da → R) : R := match o with | .arr es => k es | _ => none
def oFz (o : Ob) (k : List Da → R) : R := match o with | .fz es => k es | _ => none
def oMap (o : Ob) (k : List Da → List Da → R) : R := match o with | .map ks vs => k ks vs | _ => none
def oFzm (o : Ob) (k : List Da → List Da → R) : R := match o with | .fzm ks vs => k ks vs | _ => none
def oDead (o : Ob) (k : R) : R := match o with | .dead => k | _ => none
def dIntC (i : IntKind) (c : Int) (x : Da) (k : R) : R := match x with | .int j n => iL (Nat.beq (kc j) (kc i)) (iL (eqI n c) k none) none | _ => none
def dBoolC (c : Bool) (x : Da) (k : R) : R := match x, c with | .bool true, true => k | .bool false, false => k | _, _ => none
def dAgD (d : D) (k : List D → R) : R := match d with | .agg cs => k cs | _ => none
def dNp (x : Da) (k : R) : R := match x with | .nilptr => k | _ => none
def dNm (x : Da) (k : R) : R := match x with | .nilmap => k | _ => none
def dFnP (f : Nat) (x : Da) (k : List Da → R) : R := match x with | .fn g cs => iL (Nat.beq g f) (k cs) none | _ => none
def tCons (s : Nat) (tm : Tm) (k : D → Tm → R) : R := match tm with | .cons t d r => iL (Nat.beq t s) (k d r) none | .nil => none
def tNil (tm : Tm) (k : R) : R := match tm with | .cons _ _ _ => none | .nil => k
section
variable {x : Da} {d : D} {o : Ob} {tm : Tm} {z : Nat} {Z : R}
theorem kc_inj {i j : IntKind} (h : Nat.beq (kc j) (kc i) = true) : j = i := by
 rw [kc_eq, decide_eq_true_eq] at h; exact h
theorem eqI_true {a b : Int} (h : eqI a b = true) : a = b := by
 cases a <;> cases b <;> simp only [eqI, Bool.false_eq_true] at h
 ·rw [Nat.eq_of_beq_eq_true h]
 ·rw [Nat.eq_of_beq_eq_true h]
theorem dInt_le {i : IntKind} {k : Int → R} (h : ∀ n, x = .int i n → Le (k n) Z) : Le (dInt i x k) Z := by
 cases x <;> first | exact Le.no _ | skip
 exact Le.grd fun e0 => h _ (by rw [kc_inj e0])
theorem dStr_le {k : List Nat → R} (h : ∀ s, x = .str s → Le (k s) Z) : Le (dStr x k) Z := by
 cases x <;> first | exact Le.no _ | exact h _ rfl
theorem dBool_le {k : Bool → R} (h : ∀ s, x = .bool s → Le (k s) Z) : Le (dBool x k) Z := by
 cases x <;> first | exact Le.no _ | exact h _ rfl
theorem dSl_le {k : List Da → R} (h : ∀ s, x = .slice z s → Le (k s) Z) : Le (dSl z x k) Z := by
 cases x <;> first | exact Le.no _ | skip
 exact Le.grd fun e0 => h _ (by rw [Nat.eq_of_beq_eq_true e0])
theorem dAgg_le {k : List Da → R} (h : ∀ s, x = .agg s → Le (k s) Z) : Le (dAgg x k) Z := by
 cases x <;> first | exact Le.no _ | exact h _ rfl
theorem dMap_le {k : List Da → List Da → R} (h : ∀ s t, x = .map s t → Le (k s t) Z) : Le (dMap x k) Z := by
 cases x <;> first | exact Le.no _ | exact h _ _ rfl
theorem dCons_le {α : Type} {l : List α} {k : α → List α → R} (h : ∀ a r, l = a :: r → Le (k a r) Z) : Le (dCons l k) Z := by
 cases l <;> first | exact Le.no _ | exact h _ _ rfl
theorem dNil_le {α : Type} {l : List α} {k : R} (h : l = [] → Le k Z) : Le (dNil l k) Z := by
 cases l <;> first | exact Le.no _ | exact h rfl
theorem dP_le {k : Da → R} (h : ∀ y, d = .p y → Le (k y) Z) : Le (dP d k) Z := by
 cases d <;> first | exact Le.no _ | exact h _ rfl
theorem dTup_le {k : List D → R} (h : ∀ y, d = .tup y → Le (k y) Z) : Le (dTup d k) Z := by
 cases d <;> first | exact Le.no _ | exact h _ rfl
theorem dBox_le {id off : Nat} {k : R} (h : d = .box id off → Le k Z) : Le (dBox id off d k) Z := by
 cases d <;> first | exact Le.no _ | skip
 exact Le.grd fun e0 => Le.grd fun e1 => h  (by rw [Nat.eq_of_beq_eq_true e0, Nat.eq_of_beq_eq_true e1])
theorem dArr_le {id : Nat} {k : Nat → R} (h : ∀ len, d = .arr id 0 len z → Le (k len) Z) : Le (dArr id z d k) Z := by
 cases d <;> first | exact Le.no _ | skip
 exact Le.grd fun e0 => Le.grd fun e1 => Le.grd fun e2 => h _ (by rw [Nat.eq_of_beq_eq_true e0, Nat.eq_of_beq_eq_true e1, Nat.eq_of_beq_eq_true e2])
theorem dArrV_le {id : Nat} {k : Nat → Nat → R} (h : ∀ lo len, d = .arr id lo len z → Le (k lo len) Z) : Le (dArrV id z d k) Z := by
 cases d <;> first | exact Le.no _ | skip
 exact Le.grd fun e0 => Le.grd fun e1 => h _ _ (by rw [Nat.eq_of_beq_eq_true e0, Nat.eq_of_beq_eq_true e1])
theorem dMp_le {id : Nat} {k : R} (h : d = .map id → Le k Z) : Le (dMp id d k) Z := by
 cases d <;> first | exact Le.no _ | skip
 exact Le.grd fun e0 => h  (by rw [Nat.eq_of_beq_eq_true e0])
theorem dNl_le {k : R} (h : d = .sl .nil z [] → Le k Z) : Le (dNl z d k) Z := by
 unfold dNl
 split
 ·exact Le.grd fun e => h (by rw [Nat.eq_of_beq_eq_true e])
 ·exact Le.no _
theorem dEx_le {k : List Da → R} (h : ∀ es, d = .sl .exact z es → Le (k es) Z) : Le (dEx z d k) Z := by
 unfold dEx
 split
 ·exact Le.grd fun e => h _ (by rw [Nat.eq_of_beq_eq_true e])
 ·exact Le.no _
theorem dFn_le {f : Nat} {k : List D → R} (h : ∀ es, d = .fn f es → Le (k es) Z) : Le (dFn f d k) Z := by
 cases d <;> first | exact Le.no _ | skip
 exact Le.grd fun e0 => h _ (by rw [Nat.eq_of_beq_eq_true e0])
theorem oBox_le {k : List D → R} (h : ∀ y, o = .box y → Le (k y) Z) : Le (oBox o k) Z := by
 cases o <;> first | exact Le.no _ | exact h _ rfl
theorem oArr_le {k : List Da → R} (h : ∀ y, o = .arr y → Le (k y) Z) : Le (oArr o k) Z := by
 cases o <;> first | exact Le.no _ | exact h _ rfl
theorem oFz_le {k : List Da → R} (h : ∀ y, o = .fz y → Le (k y) Z) : Le (oFz o k) Z := by
 cases o <;> first | exact Le.no _ | exact h _ rfl
theorem oMap_le {k : List Da → List Da → R} (h : ∀ s t, o = .map s t → Le (k s t) Z) : Le (oMap o k) Z := by
 cases o <;> first | exact Le.no _ | exact h _ _ rfl
theorem oFzm_le {k : List Da → List Da → R} (h : ∀ s t, o = .fzm s t → Le (k s t) Z) : Le (oFzm o k) Z := by
 cases o <;> first | exact Le.no _ | exact h _ _ rfl
theorem oDead_le {k : R} (h : o = .dead → Le k Z) : Le (oDead o k) Z := by
 cases o <;> first | exact Le.no _ | exact h  rfl
theorem dIntC_le {i : IntKind} {c : Int} {k : R} (h : x = .int i c → Le k Z) : Le (dIntC i c x k) Z := by
 cases x <;> first | exact Le.no _ | skip
 exact Le.grd fun e0 => Le.grd fun e1 => h  (by rw [kc_inj e0, eqI_true e1])
theorem dBoolC_le {c : Bool} {k : R} (h : x = .bool c → Le k Z) : Le (dBoolC c x k) Z := by
 cases x <;> first | exact Le.no _ | skip
 rename_i b
 cases b <;> cases c <;> first | exact Le.no _ | exact h rfl
theorem dAgD_le {k : List D → R} (h : ∀ y, d = .agg y → Le (k y) Z) : Le (dAgD d k) Z := by
 cases d <;> first | exact Le.no _ | exact h _ rfl
theorem dNp_le {k : R} (h : x = .nilptr → Le k Z) : Le (dNp x k) Z := by
 cases x <;> first | exact Le.no _ | exact h  rfl
theorem dNm_le {k : R} (h : x = .nilmap → Le k Z) : Le (dNm x k) Z := by
 cases x <;> first | exact Le.no _ | exact h  rfl
theorem dFnP_le {f : Nat} {k : List Da → R} (h : ∀ es, x = .fn f es → Le (k es) Z) : Le (dFnP f x k) Z := by
 cases x <;> first | exact Le.no _ | skip
 exact Le.grd fun e0 => h _ (by rw [Nat.eq_of_beq_eq_true e0])
theorem tCons_le {s : Nat} {k : D → Tm → R} (h : ∀ d r, tm = .cons s d r → Le (k d r) Z) : Le (tCons s tm k) Z := by
 cases tm <;> first | exact Le.no _ | skip
 exact Le.grd fun e => h _ _ (by rw [Nat.eq_of_beq_eq_true e])
theorem tNil_le {k : R} (h : tm = .nil → Le k Z) : Le (tNil tm k) Z := by
 cases tm <;> first | exact Le.no _ | exact h rfl
end
/- Readings after a sample: the same form, other scalars. -/
mutual
def likeDa : Da → Da → (Da → R) → R
 | .int i _, x, k => dInt i x fun n => k (.int i n)
 | .str _, x, k => dStr x fun s => k (.str s)
 | .bool _, x, k => dBool x fun b => k (.bool b)
 | .slice z _, x, k => dSl z x fun l => k (.slice z l)
 | .map _ _, x, k => dMap x fun a b => k (.map a b)
 | .agg cs, x, k => dAgg x fun ds => likeDas cs ds fun es => k (.agg es)
 | .nilptr, x, k => dNp x (k .nilptr)
 | .nilmap, x, k => dNm x (k .nilmap)
 | _, x, k => k x
def likeDas : List Da → List Da → (List Da → R) → R
 | [], l, k => dNil l (k [])
 | s :: r, l, k => dCons l fun x t => likeDa s x fun x => likeDas r t fun t => k (x :: t)
end
mutual
def likeD : D → D → (D → R) → R
 | .p s, d, k => dP d fun x => likeDa s x fun x => k (.p x)
 | .box i o, d, k => dBox i o d (k (.box i o))
 | .arr i 0 _ z, d, k => dArr i z d fun n => k (.arr i 0 n z)
 | .map i, d, k => dMp i d (k (.map i))
 | .sl .nil z [], d, k => dNl z d (k (.sl .nil z []))
 | .fn f cs, d, k => dFn f d fun ds => likeDs cs ds fun es => k (.fn f es)
 | .agg cs, d, k => dAgD d fun ds => likeDs cs ds fun es => k (.agg es)
 | _, d, k => k d
def likeDs : List D → List D → (List D → R) → R
 | [], l, k => dNil l (k [])
 | s :: r, l, k => dCons l fun x t => likeD s x fun x => likeDs r t fun t => k (x :: t)
end
def likeOb (s o : Ob) (k : Ob → R) : R :=
 match s with
 | .box cs => oBox o fun ds => likeDs cs ds fun es => k (.box es)
 | .arr _ => oArr o fun l => k (.arr l)
 | .fz _ => oFz o fun l => k (.fz l)
 | .map _ _ => oMap o fun a b => k (.map a b)
 | .fzm _ _ => oFzm o fun a b => k (.fzm a b)
 | .dead => oDead o (k .dead)
 | _ => k o
def likeHp : List Ob → List Ob → (List Ob → R) → R
 | [], l, k => dNil l (k [])
 | s :: r, l, k => dCons l fun x t => likeOb s x fun x => likeHp r t fun t => k (x :: t)
mutual
theorem likeDa_le : ∀ (s x : Da) {k : Da → R} {Z : R}, Le (k x) Z → Le (likeDa s x k) Z
 | .int i _, x, k, Z, h => by simp only [likeDa]; exact dInt_le fun n e => by subst e; exact h
 | .str _, x, k, Z, h => by simp only [likeDa]; exact dStr_le fun n e => by subst e; exact h
 | .bool _, x, k, Z, h => by simp only [likeDa]; exact dBool_le fun n e => by subst e; exact h
 | .slice z _, x, k, Z, h => by simp only [likeDa]; exact dSl_le fun n e => by subst e; exact h
 | .map _ _, x, k, Z, h => by simp only [likeDa]; exact dMap_le fun a b e => by subst e; exact h
 | .agg cs, x, k, Z, h => by simp only [likeDa]; exact dAgg_le fun ds e => by subst e; exact likeDas_le cs ds h
 | .nilptr, x, k, Z, h => by simp only [likeDa]; exact dNp_le fun e => by subst e; exact h
 | .ptr _, x, k, Z, h => by simp only [likeDa]; exact h
 | .nilmap, x, k, Z, h => by simp only [likeDa]; exact dNm_le fun e => by subst e; exact h
 | .fn _ _, x, k, Z, h => by simp only [likeDa]; exact h
 | .nilfn, x, k, Z, h => by simp only [likeDa]; exact h
 | .iface _ _, x, k, Z, h => by simp only [likeDa]; exact h
 | .nilif, x, k, Z, h => by simp only [likeDa]; exact h
 | .sliceE _ _, x, k, Z, h => by simp only [likeDa]; exact h
 | .sym _ _, x, k, Z, h => by simp only [likeDa]; exact h
theorem likeDas_le : ∀ (s l : List Da) {k : List Da → R} {Z : R}, Le (k l) Z → Le (likeDas s l k) Z
 | [], l, k, Z, h => by simp only [likeDas]; exact dNil_le fun e => by subst e; exact h
 | s :: r, l, k, Z, h => by simp only [likeDas]; exact dCons_le fun x t e => by subst e; exact likeDa_le s x (likeDas_le r t h)
end
mutual
theorem likeD_le : ∀ (s d : D) {k : D → R} {Z : R}, Le (k d) Z → Le (likeD s d k) Z
 | .p s, d, k, Z, h => by simp only [likeD]; exact dP_le fun n e => by subst e; exact likeDa_le s n h
 | .box i o, d, k, Z, h => by simp only [likeD]; exact dBox_le fun e => by subst e; exact h
 | .arr i 0 _ z, d, k, Z, h => by simp only [likeD]; exact dArr_le fun n e => by subst e; exact h
 | .arr i (_ + 1) _ z, d, k, Z, h => by simp only [likeD]; exact h
 | .map i, d, k, Z, h => by simp only [likeD]; exact dMp_le fun e => by subst e; exact h
 | .sl g z es, d, k, Z, h => by
  unfold likeD
  split <;> first
   | contradiction
   | exact h
   | (rename_i e; cases e; exact dNl_le fun e => by subst e; exact h)
 | .fn f cs, d, k, Z, h => by simp only [likeD]; exact dFn_le fun ds e => by subst e; exact likeDs_le cs ds h
 | .agg cs, d, k, Z, h => by simp only [likeD]; exact dAgD_le fun ds e => by subst e; exact likeDs_le cs ds h
 | .tup _, d, k, Z, h => by simp only [likeD]; exact h
 | .el _ _ _, d, k, Z, h => by simp only [likeD]; exact h
 | .ip _ _, d, k, Z, h => by simp only [likeD]; exact h
 | .iface _ _, d, k, Z, h => by simp only [likeD]; exact h
 | .junk, d, k, Z, h => by simp only [likeD]; exact h
theorem likeDs_le : ∀ (s l : List D) {k : List D → R} {Z : R}, Le (k l) Z → Le (likeDs s l k) Z
 | [], l, k, Z, h => by simp only [likeDs]; exact dNil_le fun e => by subst e; exact h
 | s :: r, l, k, Z, h => by simp only [likeDs]; exact dCons_le fun x t e => by subst e; exact likeD_le s x (likeDs_le r t h)
end
theorem likeOb_le (s o : Ob) {k : Ob → R} {Z : R} (h : Le (k o) Z) : Le (likeOb s o k) Z := by
 cases s <;> first
  | exact h
  | exact oBox_le fun ds e => by subst e; exact likeDs_le _ ds h
  | exact oArr_le fun n e => by subst e; exact h
  | exact oFz_le fun n e => by subst e; exact h
  | exact oMap_le fun a b e => by subst e; exact h
  | exact oFzm_le fun a b e => by subst e; exact h
  | exact oDead_le fun e => by subst e; exact h
theorem likeHp_le : ∀ (s l : List Ob) {k : List Ob → R} {Z : R}, Le (k l) Z → Le (likeHp s l k) Z
 | [], l, k, Z, h => by simp only [likeHp]; exact dNil_le fun e => by subst e; exact h
 | s :: r, l, k, Z, h => by simp only [likeHp]; exact dCons_le fun x t e => by subst e; exact likeOb_le s x (likeHp_le r t h)
structure Dec where
 el : Nat → Da → (Da → R) → R
 ca : Nat → List Ob → D → List Ob → KV → R
 mv : D → Da → (Da → R) → R
 keys : Bool
 spl : Bool
structure Dec.Ok (dc : Dec) : Prop where
 el : ∀ z x k, Le (dc.el z x k) (k x)
 ca : ∀ f hi v hp k, Le (dc.ca f hi v hp k) (k v hp)
 mv : ∀ z x k, Le (dc.mv z x k) (k x)
abbrev CallC := Nat → List D → List Ob → KV → R
def CcOk (cc : CallC) (call : CallF) : Prop := ∀ f vs hp (k k' : KV), (∀ v out, Le (k v out) (k' v out)) → Le (cc f vs hp k) (cL (call f vs hp) fun p => k' p.1 p.2)
abbrev KE := D → List (Nat × Ob) → List Ob → R
def effL (o : Option Eff) (k : KE) : R := cL o fun e => k e.1 e.2.1 e.2.2
/- The operations that a letter may stop. -/
def pickL (vs : List D) (k : KE) : R := match vs with | [.p (.bool c), a, b] => iL c (k a [] []) (k b [] []) | _ => none
def binL (op : BinOp) (vs : List D) (k : KE) : R :=
 match vs with
 | [.p (.int i a), .p (.int j b)] => match op with
  | .quo => iL (eqI b 0) none (effL (valP (bin .quo (.p (.int i a)) (.p (.int j b)))) k)
  | .rem => iL (eqI b 0) none (effL (valP (bin .rem (.p (.int i a)) (.p (.int j b)))) k)
  | .shl => iL (ltI b 0) none (k (.p (.int i (wrapF i (a * 2 ^ (min b.toNat i.bits))))) [] [])
  | .shr => iL (ltI b 0) none (k (.p (.int i (a.fdiv (2 ^ (min b.toNat i.bits))))) [] [])
  | op => effL (valP (bin op (.p (.int i a)) (.p (.int j b)))) k
 | [.p (.str a), .p (.str b)] => match op with
  | .add => iL (Nat.ble (a.length + b.length) wordMax) (k (.p (.str (a ++ b))) [] []) none
  | op => effL (valP (bin op (.p (.str a)) (.p (.str b)))) k
 | [x, y] => effL (valP (bin op x y)) k
 | _ => none
def eqCellsL : List Nat → List Da → List Da → (Bool → R) → R
 | [], _, _, k => k true
 | c :: ks, x :: xs, y :: ys, k => cL (eqCell c x y) fun b => iL b (eqCellsL ks xs ys k) (k false)
 | _, _, _, _ => none
def binSL (ks : List Nat) (op : BinOp) (vs : List D) (k : KE) : R :=
 match vs with
 | [.p (.agg xs), .p (.agg ys)] => match op with
  | .eql => eqCellsL ks xs ys fun b => k (.p (.bool b)) [] []
  | .neq => eqCellsL ks xs ys fun b => k (.p (.bool (!b))) [] []
  | _ => none
 | _ => none
def iaL (dc : Dec) (esz : Nat) (vs : List D) (k : KE) : R :=
 match vs with
 | [.p (.slice z es), .p (.int _ i)] => iL (Nat.beq z esz) (cL (at? es i) fun x => dc.el esz x fun x => k (.ip x 0) [] []) none
 | [.p (.sliceE z es), .p (.int _ i)] => iL (Nat.beq z esz) (cL (at? es i) fun x => dc.el esz x fun x => k (.ip x 0) [] []) none
 | [.sl _ z es, .p (.int _ i)] => iL (Nat.beq z esz) (cL (at? es i) fun x => dc.el esz x fun x => k (.ip x 0) [] []) none
 | [.arr id lo len z, .p (.int _ i)] => iL (Nat.beq z esz) (iL (leI 0 i) (iL (ltI i len) (k (.el id (lo + i.toNat) 0) [] []) none) none) none
 | _ => none
def ixL (vs : List D) (k : KE) : R :=
 match vs with
 | [.p (.str s), .p (.int _ i)] => cL (bif leI 0 i then s[i.toNat]? else none) fun b => k (.p (.int .u8 (Int.ofNat b))) [] []
 | _ => none
def boundL (x : D) (y : Nat) (k : Nat → R) : R := match x with | .p (.int _ i) => iL (leI 0 i) (iL (leI i y) (k i.toNat) none) none | _ => none
def boundsL (lo hi mx : Bool) (len : Nat) (xs : List D) (k : Nat → Nat → Nat → R) : R :=
 match lo, hi, mx, xs with
 | false, false, false, [] => k 0 len len
 | true, false, false, [a] => boundL a len fun l => k l len len
 | false, true, false, [b] => boundL b len fun h => k 0 h len
 | true, true, false, [a, b] => boundL b len fun h => boundL a h fun l => k l h len
 | false, true, true, [b, c] => boundL c len fun m => boundL b m fun h => k 0 h m
 | true, true, true, [a, b, c] => boundL c len fun m => boundL b m fun h => boundL a h fun l => k l h m
 | _, _, _, _ => none
theorem boundL_le {x : D} {y : Nat} {k : Nat → R} {Z : R} (h : ∀ n, bound x y = some n → Le (k n) Z) : Le (boundL x y k) Z := by
 unfold boundL
 split
 ·refine Le.grd fun h1 => Le.grd fun h2 => h _ ?_
  simp only [bound, h1, h2, Bool.and_self, cond_true]
 ·exact Le.no _
theorem boundsL_le {lo hi mx : Bool} {len : Nat} {xs : List D} {k : Nat → Nat → Nat → R} {Z : R} (h : ∀ l a m, bounds lo hi mx len xs = some (l, a, m) → Le (k l a m) Z) : Le (boundsL lo hi mx len xs k) Z := by
 unfold boundsL
 split
 ·exact h _ _ _ rfl
 ·exact boundL_le fun l h1 => h _ _ _ (by simp only [bounds, h1])
 ·exact boundL_le fun l h1 => h _ _ _ (by simp only [bounds, h1])
 ·exact boundL_le fun l h1 => boundL_le fun l' h2 => h _ _ _ (by simp only [bounds, h1, h2])
 ·exact boundL_le fun l h1 => boundL_le fun l' h2 => h _ _ _ (by simp only [bounds, h1, h2])
 ·exact boundL_le fun l h1 => boundL_le fun l' h2 => boundL_le fun l'' h3 => h _ _ _ (by simp only [bounds, h1, h2, h3])
 ·exact Le.no _
def slStrL (lo hi : Bool) (vs : List D) (k : KE) : R :=
 match vs with
 | .p (.str s) :: xs => boundsL lo hi false s.length xs fun l h _ => k (.p (.str ((s.drop l).take (h - l)))) [] []
 | _ => none
def tailL (lo hi : Bool) (l h lo0 : Nat) (n : Option Nat) (e v : R) : R :=
 match lo, hi, n with
 | true, false, some n => iL (Nat.beq l h) (iL (Nat.blt lo0 n) e v) v
 | _, _, _ => v
theorem tailL_eq (lo hi : Bool) (l h lo0 : Nat) (os : List (Nat × Ob)) (id : Nat) (e v : R) : tailL lo hi l h lo0 (extOf os id) e v = bif lo && !hi && (Nat.beq l h && fullAt os id lo0) then e else v := by
 have hf : fullAt os id lo0 = match extOf os id with | some n => Nat.blt lo0 n | none => false := by
  unfold fullAt extOf
  cases look os id <;> rfl
 rw [hf]
 cases lo <;> cases hi <;> cases extOf os id <;> simp only [tailL, Bool.false_and, Bool.true_and, Bool.not_false, Bool.not_true, Bool.and_false, cond_false]
 cases Nat.beq l h <;> cases Nat.blt lo0 _ <;> rfl
def slSlL (esz : Nat) (lo hi mx : Bool) (vs : List D) (ids : List Nat) (obs : List Ob) (k : KE) : R :=
 match mx, vs with
 | false, .p (.slice z es) :: xs => iL (zOk z esz es) (boundsL lo hi false es.length xs fun l h _ => k (.p (.slice z ((es.drop l).take (h - l)))) [] []) none
 | false, .sl .nil z es :: xs => iL (zOk z esz es) (boundsL lo hi false es.length xs fun _ _ _ => k (.sl .nil z []) [] []) none
 | false, .arr id lo0 len0 z :: xs => iL (Nat.beq z esz) (boundsL lo hi false len0 xs fun l h _ => tailL lo hi l h lo0 (extOf (ids.zip obs) id) (k (.sl .some z []) [] []) (k (.arr id (lo0 + l) (h - l) z) [] [])) none
 | true, .p (.slice z es) :: xs => iL (zOk z esz es) (boundsL lo hi true es.length xs fun l h m => iL (Nat.beq h m) (k (.sl .exact z ((es.drop l).take (h - l))) [] []) (k (.p (.slice z ((es.drop l).take (h - l)))) [] [])) none
 | mx, vs => effL (aSlSl esz lo hi mx vs ids obs) k
def cellL (n off : Nat) (agg : Bool) (e : Da) (k : KE) : R := cL (sub (cells e) off n) fun ds => cL (pick1 agg (ds.map .p)) fun d => k d [] []
def loadL (dc : Dec) (n : Nat) (agg : Bool) (vs : List D) (obs : List Ob) (k : KE) : R :=
 match vs with
 | [.el _ i off] => match obs with
  | [.arr es] => cL es[i]? fun e => dc.el 0 e fun e => cellL n off agg e k
  | [.fz es] => cL es[i]? fun e => dc.el 0 e fun e => cellL n off agg e k
  | _ => none
 | vs => effL (aLoad n agg vs obs) k
def storeL (n : Nat) (vs : List D) (ids : List Nat) (obs : List Ob) (k : KE) : R :=
 match vs with
 | [.el id i 0, d] => match look (ids.zip obs) id with
  | .arr es => cL es[i]? fun e => cL (pur ((ids.zip obs).filter fun p => !Nat.beq p.1 id) d) fun x => iL (Nat.beq (cells x).length n) (iL (Nat.beq (cells e).length n) (cL (rebuild e (cells x)) fun e' => k .junk (fzAll ((ids.zip obs).filter fun p => !Nat.beq p.1 id) ++ [(id, .arr (es.set i e'))]) []) none) none
  | _ => none
 | vs => effL (aStore n vs ids obs) k
def findL (kt : TypeDesc) (x : Da) : List Da → Nat → (Option Nat → R) → R
 | [], _, k => k none
 | y :: r, i, k => cL (keyEq kt x y) fun b => iL b (k (some i)) (findL kt x r (i + 1) k)
def findM (keys : Bool) (kt : TypeDesc) (x : Da) (ks : List Da) (k : Option Nat → R) : R :=
 match keys with
 | true => findL kt x ks 0 k
 | false => cL (findK kt x ks 0) k
def optN (o : Option Nat) (e : R) (k : Nat → R) : R := match o with | none => e | some i => k i
def lkpL (dc : Dec) (kt : TypeDesc) (z : D) (ok : Bool) (vs : List D) (ids : List Nat) (obs : List Ob) (k : KE) : R :=
 match vs with
 | [d, .p x] =>
  match (match d with
   | .p .nilmap => some ([], [])
   | .p (.map ks ws) => some (ks, ws)
   | .map id => match look (ids.zip obs) id with
    | .map ks ws => some (ks, ws)
    | .fzm ks ws => some (ks, ws)
    | _ => none
   | _ => none : Option (List Da × List Da)) with
  | some (ks, ws) => findM dc.keys kt x ks fun o => optN o (k (bif ok then .tup [z, .p (.bool false)] else z) [] []) fun i => cL ws[i]? fun v => dc.mv z v fun v => k (bif ok then .tup [.p v, .p (.bool true)] else .p v) [] []
  | none => effL (aLkp kt z ok vs ids obs) k
 | vs => effL (aLkp kt z ok vs ids obs) k
def mupdL (keys : Bool) (kt : TypeDesc) (vs : List D) (ids : List Nat) (obs : List Ob) (k : KE) : R :=
 match vs with
 | [.map id, .p x, d] =>
  match look (ids.zip obs) id with
  | .map ks ws => match pur ((ids.zip obs).filter fun p => !Nat.beq p.1 id) d with
   | some y => findM keys kt x ks fun o => optN o (k .junk (fzAll ((ids.zip obs).filter fun p => !Nat.beq p.1 id) ++ [(id, .map (ks ++ [x]) (ws ++ [y]))]) []) fun i => k .junk (fzAll ((ids.zip obs).filter fun p => !Nat.beq p.1 id) ++ [(id, .map ks (ws.set i y))]) []
   | none => effL (aMupd kt vs ids obs) k
  | _ => effL (aMupd kt vs ids obs) k
 | vs => effL (aMupd kt vs ids obs) k
def mkslL (esz : Nat) (z : Da) (bytes base kk : Nat) (vs : List D) (k : KE) : R :=
 match vs with
 | [.p (.int _ l), .p (.int _ c)] => iL (leI 0 l && leI l c && Nat.ble (c.toNat * bytes) 281474976710656 && leI c 9223372036854775807) (k (.arr (base + kk) 0 l.toNat esz) [(base + kk, .arr (List.replicate l.toNat z))] []) none
 | _ => none
def bigL (n bytes : Nat) : Bool := Nat.ble ((2 * n + 192) * bytes) 281474976710656 && Nat.ble (2 * n + 192) 9223372036854775807
def appL (tr : Bool) (esz bytes base kk : Nat) (vs : List D) (ids : List Nat) (obs : List Ob) (k : KE) : R :=
 match vs with
 | [.arr id 0 len z, b] => match look (ids.zip obs) id with
  | .arr es => match tr with
   | true => iL (Nat.beq z esz) (cL (elems esz (ids.zip obs) b) fun ys => iL (bigL ((es.take len).length + ys.length) bytes) (k (.arr (base + kk) 0 (es.take len ++ ys).length esz) [(id, .dead), (base + kk, .arr (es.take len ++ ys))] []) none) none
   | false => iL (Nat.beq z esz) (iL (Nat.beq len es.length) (cL (elems esz (ids.zip obs) b) fun ys => iL (bigL (es.length + ys.length) bytes) (k (.arr (base + kk) 0 (es ++ ys).length esz) [(id, .dead), (base + kk, .arr (es ++ ys))] []) none) none) none
  | _ => none
 | [.sl .nil z es, b] => cL (elems esz (ids.zip obs) b) fun ys => iL (bigL (0 + ys.length) bytes) (k (.arr (base + kk) 0 ys.length esz) [(base + kk, .arr ys)] []) none
 | [.sl .exact z [], b] => cL (elems esz (ids.zip obs) b) fun ys => iL (bigL (0 + ys.length) bytes) (k (.arr (base + kk) 0 ys.length esz) [(base + kk, .arr ys)] []) none
 | [.sl .exact z es, b] => iL (zOk z esz es) (cL (elems esz (ids.zip obs) b) fun ys => iL (!es.isEmpty && ys.isEmpty) (k (.sl .exact z es) [] []) (iL (bigL (es.length + ys.length) bytes) (k (.arr (base + kk) 0 (es ++ ys).length esz) [(base + kk, .arr (es ++ ys))] []) none)) none
 | vs => effL (aApp esz bytes base kk vs ids obs) k
def b2sL (vs : List D) (ids : List Nat) (obs : List Ob) (k : KE) : R :=
 match vs with
 | [d] => cL (elems 1 (ids.zip obs) d) fun es => cL (bytesOf es) fun s => k (.p (.str s)) [] []
 | _ => none
def callL (dc : Dec) (cc : CallC) (f : Nat) (args : List D) (ids : List Nat) (obs : List Ob) (len : Nat) (k : KE) : R :=
 cc f (mapDLF (idxF ids) args) (mapsF (idxF ids) obs) fun r out => dc.ca f (mapsF (idxF ids) obs) r out fun r out => iL (Nat.ble ids.length out.length) (k (mapDF (back ids.length len ids out.length) r) (ids.zip (mapsF (back ids.length len ids out.length) out)) ((mapsF (back ids.length len ids out.length) out).drop ids.length)) none
def callML [Mv] (dc : Dec) (cc : CallC) (f : Nat) (args : List D) (ids : List Nat) (obs : List Ob) (len : Nat) (k : KE) : R :=
 match Mv.mv f with
 | true => cc f (mapDLF (idxF ids) args) (mapsF (idxF ids) obs) fun r out => dc.ca f (mapsF (idxF ids) obs) r out fun r out => iL (Nat.ble (keepN f (mapDLF (idxF ids) args) ids.length) out.length) (k (mapDF (back (keepN f (mapDLF (idxF ids) args) ids.length) len ids out.length) r) ((ids.take (keepN f (mapDLF (idxF ids) args) ids.length)).zip (mapsF (back (keepN f (mapDLF (idxF ids) args) ids.length) len ids out.length) out) ++ (ids.drop (keepN f (mapDLF (idxF ids) args) ids.length)).map fun i => (i, .dead)) ((mapsF (back (keepN f (mapDLF (idxF ids) args) ids.length) len ids out.length) out).drop (keepN f (mapDLF (idxF ids) args) ids.length))) none
 | false => callL dc cc f args ids obs len k
def callvL [Mv] (dc : Dec) (cc : CallC) (vs : List D) (ids : List Nat) (obs : List Ob) (len : Nat) (k : KE) : R :=
 match vs with
 | .p (.fn f caps) :: args => match Mv.mv (fnF f) with
  | true => none
  | false => callL dc cc (fnF f) (fnArgs f (caps.map .p) (args.map norm)) ids obs len k
 | .fn f caps :: args => match Mv.mv (fnF f) with
  | true => none
  | false => callL dc cc (fnF f) (fnArgs f caps (args.map norm)) ids obs len k
 | _ => none
def actL [Mv] (dc : Dec) (cc : CallC) (base : Nat) (o : O) (kk : Nat) (vs : List D) (ids : List Nat) (obs : List Ob) (len : Nat) (k : KE) : R :=
 match o with
 | .pick => pickL vs k
 | .bin op => binL op vs k
 | .binS ks op => binSL ks op vs k
 | .ia esz => iaL dc esz vs k
 | .ix => ixL vs k
 | .slStr lo hi => slStrL lo hi vs k
 | .slSl esz lo hi mx => slSlL esz lo hi mx vs ids obs k
 | .load n agg => loadL dc n agg vs obs k
 | .store n => storeL n vs ids obs k
 | .lkp kt z ok => lkpL dc kt z ok vs ids obs k
 | .mupd kt => mupdL dc.keys kt vs ids obs k
 | .mksl esz z bytes => mkslL esz z bytes base kk vs k
 | .app esz bytes => appL dc.keys esz bytes base kk vs ids obs k
 | .b2s => b2sL vs ids obs k
 | .call f raw => callML dc cc f (bif raw then vs else vs.map norm) ids obs len k
 | .callv => callvL dc cc vs ids obs len k
 | o => effL (act (fun _ _ _ => none) base o kk vs ids obs len) k
section laws
variable {k k' : KE} (hk : ∀ v u n, Le (k v u n) (k' v u n))
include hk
theorem effL_le (o : Option Eff) : Le (effL o k) (effL o k') := Le.opt fun e h => by subst h; exact hk _ _ _
theorem pickL_le (vs : List D) : Le (pickL vs k) (effL (aPick vs) k') := by
 unfold pickL
 split
 ·exact Le.two (fun h => by subst h; exact hk _ _ _) (fun h => by subst h; exact hk _ _ _)
 ·exact Le.no _
theorem binL_le (op : BinOp) (vs : List D) : Le (binL op vs k) (effL (aBin op vs) k') := by
 unfold binL
 split
 ·rename_i i a j b
  split
  ·exact Le.two (fun _ => Le.no _) (fun _ => effL_le hk _)
  ·exact Le.two (fun _ => Le.no _) (fun _ => effL_le hk _)
  ·refine Le.two (fun _ => Le.no _) (fun h => ?_)
   simp only [aBin, bin, isShift, cond_true, shiftInt, h, cond_false, valP]
   exact hk _ _ _
  ·refine Le.two (fun _ => Le.no _) (fun h => ?_)
   simp only [aBin, bin, isShift, cond_true, shiftInt, h, cond_false, valP]
   exact hk _ _ _
  ·exact effL_le hk _
 ·split
  ·refine Le.grd fun h => ?_
   simp only [aBin, bin, binStr, h, cond_true, valP]
   exact hk _ _ _
  ·exact effL_le hk _
 ·exact effL_le hk _
 ·exact Le.no _
omit hk in
theorem eqCellsL_le {q : Bool → R} {x : R} : ∀ (ks : List Nat) (xs ys : List Da), (∀ b, eqCells ks xs ys = some b → Le (q b) x) → Le (eqCellsL ks xs ys q) x
 | [], xs, ys, h => by unfold eqCellsL; exact h true (by simp [eqCells])
 | c :: ks, [], ys, h => by unfold eqCellsL; exact Le.no _
 | c :: ks, x :: xs, [], h => by unfold eqCellsL; exact Le.no _
 | c :: ks, x :: xs, y :: ys, h => by
  unfold eqCellsL
  refine Le.opt fun b hb => Le.two (fun e => ?_) (fun e => ?_)
  ·exact eqCellsL_le ks xs ys fun b' h' => h b' (by simp only [eqCells, hb, e, cond_true, h'])
  ·exact h false (by simp only [eqCells, hb, e, cond_false])
theorem binSL_le (ks : List Nat) (op : BinOp) (vs : List D) : Le (binSL ks op vs k) (effL (aBinS ks op vs) k') := by
 unfold binSL
 split
 ·split
  ·refine eqCellsL_le _ _ _ fun b hb => ?_
   simp only [aBinS, binS, hb, valP]; exact hk _ _ _
  ·refine eqCellsL_le _ _ _ fun b hb => ?_
   simp only [aBinS, binS, hb, valP]; exact hk _ _ _
  ·exact Le.no _
 ·exact Le.no _
theorem iaL_le {dc : Dec} (hd : dc.Ok) (esz : Nat) (vs : List D) : Le (iaL dc esz vs k) (effL (aIa esz vs) k') := by
 unfold iaL
 split
 ·refine Le.grd fun h => Le.opt fun x hx => (hd.el _ _ _).trans ?_
  simp only [aIa, h, cond_true, hx]; exact hk _ _ _
 ·refine Le.grd fun h => Le.opt fun x hx => (hd.el _ _ _).trans ?_
  simp only [aIa, h, cond_true, hx]; exact hk _ _ _
 ·refine Le.grd fun h => Le.opt fun x hx => (hd.el _ _ _).trans ?_
  simp only [aIa, h, cond_true, hx]; exact hk _ _ _
 ·refine Le.grd fun h => Le.grd fun h1 => Le.grd fun h2 => ?_
  simp only [aIa, h, h1, h2, Bool.and_self, cond_true]; exact hk _ _ _
 ·exact Le.no _
theorem ixL_le (vs : List D) : Le (ixL vs k) (effL (aIx vs) k') := by
 unfold ixL
 split
 ·refine Le.opt fun x hx => ?_
  simp only [aIx, hx]; exact hk _ _ _
 ·exact Le.no _
theorem slStrL_le (lo hi : Bool) (vs : List D) : Le (slStrL lo hi vs k) (effL (aSlStr lo hi vs) k') := by
 unfold slStrL
 split
 ·refine boundsL_le fun l h m hp => ?_
  simp only [aSlStr, hp]; exact hk _ _ _
 ·exact Le.no _
theorem slSlL_le (esz : Nat) (lo hi mx : Bool) (vs : List D) (ids : List Nat) (obs : List Ob) : Le (slSlL esz lo hi mx vs ids obs k) (effL (aSlSl esz lo hi mx vs ids obs) k') := by
 unfold slSlL
 split
 ·refine Le.grd fun h => boundsL_le fun l h' m hp => ?_
  simp only [aSlSl, h, hp, cond_true, Bool.false_and, cond_false]; exact hk _ _ _
 ·refine Le.grd fun h => boundsL_le fun l h' m hp => ?_
  simp only [aSlSl, h, hp, cond_true]; exact hk _ _ _
 ·refine Le.grd fun h => boundsL_le fun l h' m hp => ?_
  rw [tailL_eq]
  simp only [aSlSl, h, hp, cond_true, cond_false]
  cases lo && !hi && (Nat.beq l h' && fullAt (ids.zip obs) _ _) <;> exact hk _ _ _
 ·refine Le.grd fun h => boundsL_le fun l h' m hp => Le.two (fun h1 => ?_) (fun h1 => ?_)
  ·simp only [aSlSl, h, hp, cond_true, Bool.true_and, h1]; exact hk _ _ _
  ·simp only [aSlSl, h, hp, cond_true, cond_false, Bool.true_and, h1]; exact hk _ _ _
 ·exact effL_le hk _
theorem loadL_le {dc : Dec} (hd : dc.Ok) (n : Nat) (agg : Bool) (vs : List D) (obs : List Ob) : Le (loadL dc n agg vs obs k) (effL (aLoad n agg vs obs) k') := by
 unfold loadL
 split
 ·split
  ·refine Le.opt fun e he => (hd.el _ _ _).trans (Le.opt fun ds hds => Le.opt fun d hd => ?_)
   simp only [aLoad, he, hds, hd]; exact hk _ _ _
  ·refine Le.opt fun e he => (hd.el _ _ _).trans (Le.opt fun ds hds => Le.opt fun d hd => ?_)
   simp only [aLoad, he, hds, hd]; exact hk _ _ _
  ·exact Le.no _
 ·exact effL_le hk _
theorem storeL_le (n : Nat) (vs : List D) (ids : List Nat) (obs : List Ob) : Le (storeL n vs ids obs k) (effL (aStore n vs ids obs) k') := by
 unfold storeL
 split
 ·rename_i id i d
  split
  ·rename_i es hl
   refine Le.opt fun e he => Le.opt fun x hx => Le.grd fun h1 => Le.grd fun h2 => Le.opt fun e' he' => ?_
   have hb := Nat.eq_of_beq_eq_true h1
   have hb2 := Nat.eq_of_beq_eq_true h2
   have hs : splice (cells e) 0 (cells x) = cells x := by simp [splice, hb, hb2.symm ▸ List.drop_length]
   have hle : Nat.ble (0 + n) (cells e).length = true := by rw [Nat.ble_eq]; omega
   simp only [aStore, hl, he, hx, h1, hle, Bool.and_self, cond_true, hs, he']; exact hk _ _ _
  ·exact Le.no _
 ·exact effL_le hk _
omit hk in
theorem findL_le {kt : TypeDesc} {x : Da} {q : Option Nat → R} {y : R} : ∀ (ks : List Da) (i : Nat), (∀ o, findK kt x ks i = some o → Le (q o) y) → Le (findL kt x ks i q) y
 | [], i, h => by unfold findL; exact h none rfl
 | c :: r, i, h => by
  unfold findL
  refine Le.opt fun b hb => Le.two (fun e => ?_) (fun e => ?_)
  ·subst e; exact h _ (by simp only [findK, hb])
  ·subst e; exact findL_le r (i + 1) fun o ho => h o (by simp only [findK, hb, ho])
omit hk in
theorem findM_le {keys : Bool} {kt : TypeDesc} {x : Da} {q : Option Nat → R} {y : R} (ks : List Da) (h : ∀ o, findK kt x ks 0 = some o → Le (q o) y) : Le (findM keys kt x ks q) y := by
 cases keys
 ·exact Le.opt h
 ·exact findL_le ks 0 h
theorem lkpL_le {dc : Dec} (hd : dc.Ok) (kt : TypeDesc) (z : D) (ok : Bool) (vs : List D) (ids : List Nat) (obs : List Ob) : Le (lkpL dc kt z ok vs ids obs k) (effL (aLkp kt z ok vs ids obs) k') := by
 unfold lkpL
 split
 ·rename_i d x
  split
  ·rename_i ks ws he
   refine findM_le ks fun o ho => ?_
   have key : Le (optN o (k (bif ok then .tup [z, .p (.bool false)] else z) [] []) fun i => cL ws[i]? fun v => dc.mv z v fun v => k (bif ok then .tup [.p v, .p (.bool true)] else .p v) [] []) (effL (match findK kt x ks 0 with
    | some (some i) => match ws[i]? with
     | some v => val (bif ok then .tup [.p v, .p (.bool true)] else .p v)
     | none => none
    | some none => val (bif ok then .tup [z, .p (.bool false)] else z)
    | none => none) k') := by
    rw [ho]
    cases o with
    | none => exact hk _ _ _
    | some i =>
     refine Le.opt fun v hv => (hd.mv _ _ _).trans ?_
     simp only [hv]
     exact hk _ _ _
   split at he
   ·simp only [Option.some.injEq, Prod.mk.injEq] at he; obtain ⟨rfl, rfl⟩ := he; exact key
   ·simp only [Option.some.injEq, Prod.mk.injEq] at he; obtain ⟨rfl, rfl⟩ := he; exact key
   ·split at he
    ·rename_i hl
     simp only [Option.some.injEq, Prod.mk.injEq] at he; obtain ⟨rfl, rfl⟩ := he
     simp only [aLkp, hl]; exact key
    ·rename_i hl
     simp only [Option.some.injEq, Prod.mk.injEq] at he; obtain ⟨rfl, rfl⟩ := he
     simp only [aLkp, hl]; exact key
    ·cases he
   ·cases he
  ·exact effL_le hk _
 ·exact effL_le hk _
theorem mupdL_le (keys : Bool) (kt : TypeDesc) (vs : List D) (ids : List Nat) (obs : List Ob) : Le (mupdL keys kt vs ids obs k) (effL (aMupd kt vs ids obs) k') := by
 unfold mupdL
 split
 ·split
  ·rename_i hl
   split
   ·rename_i y hp
    refine findM_le _ fun o ho => ?_
    simp only [aMupd, hl, hp, ho]
    cases o <;> exact hk _ _ _
   ·exact effL_le hk _
  ·exact effL_le hk _
 ·exact effL_le hk _
theorem mkslL_le (esz : Nat) (z : Da) (bytes base kk : Nat) (vs : List D) : Le (mkslL esz z bytes base kk vs k) (effL (aMksl esz z bytes base kk vs) k') := by
 unfold mkslL
 split
 ·refine Le.grd fun h => ?_
  simp only [aMksl, h, cond_true]; exact hk _ _ _
 ·exact Le.no _
theorem appL_le (tr : Bool) (esz bytes base kk : Nat) (vs : List D) (ids : List Nat) (obs : List Ob) : Le (appL tr esz bytes base kk vs ids obs k) (effL (aApp esz bytes base kk vs ids obs) k') := by
 unfold appL
 split
 ·rename_i id len z b
  split
  ·rename_i es hl
   split
   ·refine Le.grd fun h1 => Le.opt fun ys hy => Le.grd fun h3 => ?_
    unfold bigL at h3
    simp only [aApp, base1, hl, h1, cond_true, hy, List.isEmpty_cons, Bool.false_and, cond_false, List.drop_zero, h3, List.length_append, List.cons_append, List.nil_append]
    rw [← List.length_append]; exact hk _ _ _
   refine Le.grd fun h1 => Le.grd fun h2 => Le.opt fun ys hy => Le.grd fun h3 => ?_
   have h2' := Nat.eq_of_beq_eq_true h2
   subst h2'
   unfold bigL at h3
   simp only [aApp, base1, hl, h1, cond_true, hy, List.isEmpty_cons, Bool.false_and, cond_false, List.drop_zero, List.take_length, h3, List.length_append, List.cons_append, List.nil_append]
   rw [← List.length_append]; exact hk _ _ _
  ·exact Le.no _
 ·refine Le.opt fun ys hy => Le.grd fun h3 => ?_
  unfold bigL at h3
  simp only [aApp, base1, hy, List.isEmpty_nil, Bool.not_true, Bool.and_false, cond_false, List.length_nil, h3, cond_true, List.nil_append]
  rw [Nat.zero_add]; exact hk _ _ _
 ·refine Le.opt fun ys hy => Le.grd fun h3 => ?_
  unfold bigL at h3
  simp only [aApp, base1, zOk, List.isEmpty_nil, Bool.or_true, cond_true, hy, Bool.not_true, Bool.and_false, cond_false, List.length_nil, h3, List.nil_append]
  rw [Nat.zero_add]; exact hk _ _ _
 ·refine Le.grd fun h1 => Le.opt fun ys hy => Le.two (fun h2 => ?_) (fun h2 => Le.grd fun h3 => ?_)
  ·rw [Bool.and_eq_true] at h2
   simp only [aApp, base1, h1, cond_true, hy, List.isEmpty_nil, h2.1, h2.2, Bool.and_self]
   exact hk _ _ _
  ·unfold bigL at h3
   rw [Bool.and_comm] at h2
   simp only [aApp, base1, h1, cond_true, hy, List.isEmpty_nil, Bool.true_and, h2, cond_false, h3, List.nil_append]
   rw [← List.length_append]; exact hk _ _ _
 ·exact effL_le hk _
theorem b2sL_le (vs : List D) (ids : List Nat) (obs : List Ob) : Le (b2sL vs ids obs k) (effL (aB2s vs ids obs) k') := by
 unfold b2sL
 split
 ·refine Le.opt fun es he => Le.opt fun s hs => ?_
  simp only [aB2s, he, hs]; exact hk _ _ _
 ·exact Le.no _
theorem callL_le {dc : Dec} (hd : dc.Ok) {cc : CallC} {call : CallF} (hc : CcOk cc call) (f : Nat) (args : List D) (ids : List Nat) (obs : List Ob) (len : Nat) : Le (callL dc cc f args ids obs len k) (effL (doCall call f args ids obs len) k') := by
 unfold callL
 refine (hc f _ _ _ (fun r out => iL (Nat.ble ids.length out.length) (k' (mapD (back ids.length len ids out.length) r) (ids.zip (out.map (mapOb (back ids.length len ids out.length)))) ((out.map (mapOb (back ids.length len ids out.length))).drop ids.length)) none) fun r out => (hd.ca _ _ _ _ _).trans ?_).trans ?_
 ·rw [mapDF_eq, mapsF_eq]
  exact Le.grd fun h => by simp only [h, iL]; exact hk _ _ _
 ·rw [mapDLF_eq, mapsF_eq, idxF_eq]
  unfold doCall effL
  cases call f (mapD.mapDL (idx ids) args) (obs.map (mapOb (idx ids))) with
  | none => exact Le.no _
  | some p =>
   obtain ⟨r, out⟩ := p
   refine Le.grd fun h => ?_
   simp only [h, cond_true]
   exact Le.refl _
theorem callML_le [Mv] {dc : Dec} (hd : dc.Ok) {cc : CallC} {call : CallF} (hc : CcOk cc call) (f : Nat) (args : List D) (ids : List Nat) (obs : List Ob) (len : Nat) : Le (callML dc cc f args ids obs len k) (effL (callM call f args ids obs len) k') := by
 unfold callML callM
 cases Mv.mv f
 ·exact callL_le hk hd hc _ _ _ _ _
 simp only [cond_true]
 generalize hm : keepN f (mapDLF (idxF ids) args) ids.length = m
 refine (hc f _ _ _ (fun r out => iL (Nat.ble m out.length) (k' (mapD (back m len ids out.length) r) ((ids.take m).zip (out.map (mapOb (back m len ids out.length))) ++ (ids.drop m).map fun i => (i, .dead)) ((out.map (mapOb (back m len ids out.length))).drop m)) none) fun r out => (hd.ca _ _ _ _ _).trans ?_).trans ?_
 ·rw [mapDF_eq, mapsF_eq]
  exact Le.grd fun h => by simp only [h, iL]; exact hk _ _ _
 ·rw [mapDLF_eq, idxF_eq] at hm
  rw [mapDLF_eq, mapsF_eq, idxF_eq, hm]
  unfold doCallM effL
  cases call f (mapD.mapDL (idx ids) args) (obs.map (mapOb (idx ids))) with
  | none => exact Le.no _
  | some p =>
   obtain ⟨r, out⟩ := p
   refine Le.grd fun h => ?_
   simp only [h, cond_true]
   exact Le.refl _
theorem callvL_le [Mv] {dc : Dec} (hd : dc.Ok) {cc : CallC} {call : CallF} (hc : CcOk cc call) (vs : List D) (ids : List Nat) (obs : List Ob) (len : Nat) : Le (callvL dc cc vs ids obs len k) (effL (callvM call vs ids obs len) k') := by
 unfold callvL callvM
 split
 ·rename_i f caps args
  simp only
  cases Mv.mv (fnF f)
  ·exact callL_le hk hd hc _ _ _ _ _
  ·exact Le.no _
 ·rename_i f caps args
  simp only
  cases Mv.mv (fnF f)
  ·exact callL_le hk hd hc _ _ _ _ _
  ·exact Le.no _
 ·exact Le.no _
theorem actL_le [Mv] {dc : Dec} (hd : dc.Ok) {cc : CallC} {call : CallF} (hc : CcOk cc call) (base : Nat) (o : O) (kk : Nat) (vs : List D) (ids : List Nat) (obs : List Ob) (len : Nat) : Le (actL dc cc base o kk vs ids obs len k) (effL (actM call base o kk vs ids obs len) k') := by
 unfold actL
 split
 ·exact pickL_le hk _
 ·exact binL_le hk _ _
 ·exact binSL_le hk _ _ _
 ·exact iaL_le hk hd _ _
 ·exact ixL_le hk _
 ·exact slStrL_le hk _ _ _
 ·exact slSlL_le hk _ _ _ _ _ _ _
 ·exact loadL_le hk hd _ _ _ _
 ·exact storeL_le hk _ _ _ _
 ·exact lkpL_le hk hd _ _ _ _ _ _
 ·exact mupdL_le hk _ _ _ _ _
 ·exact mkslL_le hk _ _ _ _ _ _
 ·exact appL_le hk _ _ _ _ _ _ _ _
 ·exact b2sL_le hk _ _ _
 ·exact callML_le hk hd hc _ _ _ _ _
 ·exact callvL_le hk hd hc _ _ _ _
 ·rename_i o' h1 h2 h3 h4 h5 h6 h7 h8 h9 h10 h11 h12 h13 h14 h15 h16
  have e : act (fun _ _ _ => none) base o kk vs ids obs len = actM call base o kk vs ids obs len := by
   cases o <;> first | rfl | exact absurd rfl (h15 _ _) | exact absurd rfl h16
  rw [e]
  exact effL_le hk _
end laws
end
end Go.Ab
end
/- Regions, statements, loops and functions on letters. -/
section
namespace Go.Ab
open Go
noncomputable section
def gdL (x : Opx) (tm : Tm) (t e : R) : R :=
 match x.gd with
 | none => t
 | some (g, w) => match get tm g with
  | .p (.bool b) => match w with
   | true => iL b t e
   | false => iL b e t
  | .tup [] => e
  | _ => none
theorem gdL_le {x : Opx} {tm : Tm} {t e X : R} (ht : guardOf x tm = some true → Le t X) (he : guardOf x tm = some false → Le e X) : Le (gdL x tm t e) X := by
 unfold gdL
 split
 ·rename_i h; exact ht (by simp [guardOf, h])
 ·rename_i g w h
  split
  ·rename_i b hb
   have hg : guardOf x tm = some (b == w) := by simp [guardOf, h, hb]
   cases w
   ·exact Le.two (fun e => he (by rw [hg, e]; rfl)) (fun e => ht (by rw [hg, e]; rfl))
   ·exact Le.two (fun e => ht (by rw [hg, e]; rfl)) (fun e => he (by rw [hg, e]; rfl))
  ·rename_i hb; exact he (by simp [guardOf, h, hb])
  ·exact Le.no _
variable [Mv]
def needF (o : O) (vs : List D) (hp : List Ob) : List Nat :=
 match o with
 | .call f _ => match Mv.mv f with
  | true => closeF hp closeFuel ((dedup (didsLF vs []) []).flatMap fun i => obIds (obAt hp i)) (dedup (didsLF vs []) [])
  | false => closeF hp closeFuel (didsLF vs []) []
 | .callv => closeF hp closeFuel (didsLF vs []) []
 | o => need o vs hp
theorem needF_eq (o : O) (vs : List D) (hp : List Ob) : needF o vs hp = needM o vs hp := by
 cases o <;> first
  | rfl
  | (simp only [needF, closeF_eq, didsLF_eq, List.append_nil, needM, need]; done)
  | (
    rename_i f raw
    simp only [needF, closeF_eq, didsLF_eq, List.append_nil, needM, handed]
    cases Mv.mv f <;> rfl)
def splitB (v : D) (k : D → R) : R := match v with
 | .p (.bool b) => iL b (k (.p (.bool true))) (k (.p (.bool false)))
 | v => k v
theorem splitB_le {v : D} {k : D → R} {X : R} (h : Le (k v) X) : Le (splitB v k) X := by
 unfold splitB
 split
 ·rename_i b
  cases b <;> exact h
 ·exact h
def splitD (s : Bool) (v : D) (k : D → R) : R := match s with
 | true => splitB v k
 | false => k v
theorem splitD_le {s : Bool} {v : D} {k : D → R} {X : R} (h : Le (k v) X) : Le (splitD s v k) X := by
 cases s
 ·exact h
 ·exact splitB_le h
def asked (d : Option Nat) : List Opx → Bool
 | [] => false
 | x :: r => match d with
  | none => false
  | some t => (match x.gd with | some (g, _) => Nat.beq g t | none => false) || ((match x.op, x.as with | .pick, .t g :: _ => Nat.beq g t | _, _ => false) || asked d r)
def opL (dc : Dec) (s : Bool) (cc : CallC) (base : Nat) (x : Opx) (tm : Tm) (hp : List Ob) (k : D → List Ob → FootL → R) : R :=
 iL (!(makes x.op) || isUnborn (obAt hp (base + x.k)))
  (actL dc cc base x.op x.k (x.as.map (ev tm)) (needF x.op (x.as.map (ev tm)) hp) ((needF x.op (x.as.map (ev tm)) hp).map (obAt hp)) hp.length fun v ups new => splitD s v fun v =>
   k v (grow (updAll hp ups) new) ⟨bif makes x.op then (base + x.k) :: needF x.op (x.as.map (ev tm)) hp else needF x.op (x.as.map (ev tm)) hp, wroteL (needF x.op (x.as.map (ev tm)) hp) hp ups, !new.isEmpty, hp.length⟩) none
def nrmL (tm : Tm) (hp : List Ob) (k : K) : R := k tm hp
def opsL (dc : Dec) (cc : CallC) (base : Nat) : List Opx → Tm → List Ob → List FootL → (Tm → List Ob → List FootL → R) → R
 | [], tm, hp, fs, k => k tm hp fs.reverse
 | x :: r, tm, hp, fs, k => nrmL tm hp fun tm hp => gdL x tm (opL dc (dc.spl || asked x.dst r) cc base x tm hp fun v hp f => opsL dc cc base r (put x.dst v tm) hp (f :: fs) k) (opsL dc cc base r (put x.dst (.tup []) tm) hp (⟨[], [], false, 0⟩ :: fs) k)
section
variable {dc : Dec} (hd : dc.Ok) {cc : CallC} {call : CallF} (hc : CcOk cc call) {base : Nat}
include hd hc
theorem opL_le {s : Bool} {x : Opx} {tm : Tm} {hp : List Ob} {k : D → List Ob → FootL → R} {X : R} (h : ∀ v hp' fL, evOp call base x ⟨tm, hp⟩ = some (⟨put x.dst v tm, hp'⟩, toFoot fL) → Le (k v hp' fL) X) : Le (opL dc s cc base x tm hp k) X := by
 unfold opL
 refine Le.grd fun hm => (actL_le (fun _ _ _ => Le.refl _) hd hc _ _ _ _ _ _ _).trans ?_
 unfold effL
 refine Le.opt fun e he => ?_
 obtain ⟨v, ups, new⟩ := e
 refine splitD_le (h v _ _ ?_)
 simp only [needF_eq] at he ⊢
 simp only [evOp, hm, cond_true, he, toFoot, wsOf_wroteL]
theorem opsL_le : ∀ (ops : List Opx) (tm : Tm) (hp : List Ob) (fs : List FootL) (k : Tm → List Ob → List FootL → R) (X : R), (∀ tm' hp' fs', evOpsF call base ops ⟨tm, hp⟩ (fs.map toFoot) = some (⟨tm', hp'⟩, fs'.map toFoot) → Le (k tm' hp' fs') X) → Le (opsL dc cc base ops tm hp fs k) X
 | [], tm, hp, fs, k, X, h => h _ _ _ (by simp only [evOpsF, List.map_reverse])
 | x :: r, tm, hp, fs, k, X, h => by
  unfold opsL nrmL
  refine gdL_le (fun hg => opL_le hd hc fun v hp' fL he => opsL_le r _ _ _ _ _ fun tm' hp'' fs' hr => h _ _ _ ?_) (fun hg => opsL_le r _ _ _ _ _ fun tm' hp'' fs' hr => h _ _ _ ?_)
  ·simp only [evOpsF, hg, he]; exact hr
  ·simp only [evOpsF, hg]; exact hr
end
theorem evOps_of {call : CallF} {base : Nat} : ∀ {ops : List Opx} {st st' : St} {fs fs' : List Foot}, evOpsF call base ops st fs = some (st', fs') → evOps call base ops st = some st'
 | [], st, st', fs, fs', h => by
  simp only [evOpsF, Option.some.injEq, Prod.mk.injEq] at h
  simp only [evOps, h.1]
 | x :: r, st, st', fs, fs', h => by
  simp only [evOpsF] at h
  simp only [evOps]
  split at h
  ·cases h
  ·rename_i hg
   split at h
   ·cases h
   ·rename_i he
    exact evOps_of h
  ·rename_i hg
   exact evOps_of h
abbrev JJ := Ex → Tm → List Ob → R
def outJ (o : Option (Ex × St)) (J : JJ) : R := cL o fun p => J p.1 p.2.tm p.2.hp
def JLe (J J' : JJ) : Prop := ∀ ex tm hp, Le (J ex tm hp) (J' ex tm hp)
def exK (ex : Ex) (n : R) (e : Nat → R) (r : R) : R := Ex.rec (motive := fun _ => R) n (fun i => e i) r ex
def regL (dc : Dec) (cc : CallC) (nal : Nat) (ops : List Opx) (prs : Option (List (Nat × Nat))) (out : List Nat) (tm : Tm) (hp : List Ob) (J : JJ) : R :=
 opsL dc cc hp.length ops tm (grow hp (List.replicate nal .unborn)) [] fun tm hp fs => match prs with
  | none => J .norm (keepTm out id tm) hp
  | some ps => iL (apartAllL fs ps) (J .norm (keepTm out id tm) hp) none
theorem regL_le {dc : Dec} (hd : dc.Ok) {cc : CallC} {call : CallF} (hc : CcOk cc call) (nal : Nat) (ops : List Opx) (prs : Option (List (Nat × Nat))) (out : List Nat) (tm : Tm) (hp : List Ob) {J J' : JJ} (hJ : JLe J J') (n m : Nat) : Le (regL dc cc nal ops prs out tm hp J) (outJ (evCo call n m (.reg nal ops prs out) ⟨tm, hp⟩) J') := by
 unfold regL
 refine opsL_le hd hc _ _ _ _ _ _ fun tm' hp' fs' he => ?_
 split
 ·have h0 := evOps_of he
  simp only [evCo, evReg, h0, outJ, cL]
  exact hJ _ _ _
 ·refine Le.grd fun ha => ?_
  rw [apartAllL_eq] at ha
  simp only [List.map_nil] at he
  simp only [evCo, evReg, he, ha, cond_true, outJ, cL]
  exact hJ _ _ _
def kpL (m : Nat) (live : List Nat) (tm : Tm) (hp : List Ob) (k : K) : R :=
 k (keepTm live (mapDF (idxF (closeF hp closeFuel (didsLF (live.map (get tm)) (takeIds m hp)) (List.range m)))) tm) (shrinkF (closeF hp closeFuel (didsLF (live.map (get tm)) (takeIds m hp)) (List.range m)) hp)
theorem kpL_eq (m : Nat) (live : List Nat) (tm : Tm) (hp : List Ob) : ∃ st, evGh m (.keep live) ⟨tm, hp⟩ = some st ∧ ∀ k, kpL m live tm hp k = k st.tm st.hp := by
 refine ⟨_, rfl, fun k => ?_⟩
 unfold kpL
 have e : mapDF (idxF (closeF hp closeFuel (didsLF (live.map (get tm)) (takeIds m hp)) (List.range m))) = mapD (idx (close hp closeFuel (dids.didsL (live.map (get tm)) ++ (hp.take m).flatMap obIds) (List.range m))) := by
  funext d
  rw [mapDF_eq, idxF_eq, closeF_eq, didsLF_eq, takeIds_eq]
 rw [e, shrinkF_eq, closeF_eq, didsLF_eq, takeIds_eq]
def ghL (m : Nat) (g : Gh) (tm : Tm) (hp : List Ob) (k : K) : R :=
 match g with
 | .keep live => kpL m live tm hp k
 | g => cL (evGh m g ⟨tm, hp⟩) fun st => k st.tm st.hp
def condL (d : D) (t e : R) : R := match d with | .p (.bool b) => iL b t e | _ => none
abbrev LpT := Nat → Bool → Nat → List Nat → Co → Nat → Tm → List Ob → JJ → R
def ghD (lp : LpT) (n m : Nat) (g : Gh) (c : Co) (p : Nat) (tm : Tm) (hp : List Ob) (J : JJ) (k : K) : R :=
 match g with
 | .keep live => lp p false m live c n tm hp J
 | .own s z => ghL m (.own s z) tm hp k
 | .ownc s o z => ghL m (.ownc s o z) tm hp k
 | .frz s => ghL m (.frz s) tm hp k
 | .frzc s o => ghL m (.frzc s o) tm hp k
def denL (lp : LpT) (dc : Dec) (cc : CallC) (n m : Nat) (c : Co) : Nat → Tm → List Ob → JJ → R :=
 Co.rec (motive := fun _ => Nat → Tm → List Ob → JJ → R)
  (fun _ tm hp J => J .norm tm hp)
  (fun nal ops prs out _ tm hp J => regL dc cc nal ops prs out tm hp J)
  (fun _ _ a b p tm hp J => a (4 * p + 1) tm hp fun ex tm hp => exK ex (b (4 * p + 2) tm hp J) (fun i => J (.exit i) tm hp) (J .ret tm hp))
  (fun x _ _ t e p tm hp J => condL (ev tm x) (t (4 * p + 1) tm hp J) (e (4 * p + 2) tm hp J))
  (fun id _ b p tm hp J => b (4 * p + 3) tm hp fun ex tm hp => exK ex (J .norm tm hp) (fun i => iL (Nat.beq i id) (J .norm tm hp) (J (.exit i) tm hp)) (J .ret tm hp))
  (fun live b _ p tm hp J => lp p true m live b n tm hp J)
  (fun id _ tm hp J => J (.exit id) tm hp)
  (fun _ tm hp J => J .ret tm hp)
  (fun g c b p tm hp J => ghD lp n m g c p tm hp J fun tm hp => b (4 * p + 3) tm hp J)
  c
def loopsOf : Co → Nat → List (Nat × List Nat × Co × Bool)
 | .seq a b, p => loopsOf a (4 * p + 1) ++ loopsOf b (4 * p + 2)
 | .cond _ a b, p => loopsOf a (4 * p + 1) ++ loopsOf b (4 * p + 2)
 | .block _ b, p => loopsOf b (4 * p + 3)
 | .loop live b, p => [(p, live, b, true)]
 | .gh (.keep live) b, p => [(p, live, b, false)]
 | .gh _ b, p => loopsOf b (4 * p + 3)
 | _, _ => []
def partC (live : List Nat) (b : Co) (k : Bool) : Co := match k with | true => .loop live b | false => .gh (.keep live) b
def LpOk (lp : LpT) (call : CallF) (n m : Nat) (e : Nat × List Nat × Co × Bool) : Prop :=
 ∀ tm hp J J', JLe J J' → Le (lp e.1 e.2.2.2 m e.2.1 e.2.2.1 n tm hp J) (outJ (evCo call n m (partC e.2.1 e.2.2.1 e.2.2.2) ⟨tm, hp⟩) J')
section
variable {lp : LpT} {dc : Dec} (hd : dc.Ok) {cc : CallC} {call : CallF} (hc : CcOk cc call) {n m : Nat}
include hd hc
theorem denL_le : ∀ (c : Co) (p : Nat) (tm : Tm) (hp : List Ob) (J J' : JJ), (∀ e ∈ loopsOf c p, LpOk lp call n m e) → JLe J J' → Le (denL lp dc cc n m c p tm hp J) (outJ (evCo call n m c ⟨tm, hp⟩) J')
 | .skip, p, tm, hp, J, J', hl, hJ => hJ _ _ _
 | .ret, p, tm, hp, J, J', hl, hJ => hJ _ _ _
 | .exit i, p, tm, hp, J, J', hl, hJ => hJ _ _ _
 | .reg nal ops prs out, p, tm, hp, J, J', hl, hJ => regL_le hd hc nal ops prs out tm hp hJ n m
 | .seq a b, p, tm, hp, J, J', hl, hJ => by
  have hl1 : ∀ e ∈ loopsOf a (4 * p + 1), LpOk lp call n m e := fun e he => hl e (List.mem_append_left _ he)
  have hl2 : ∀ e ∈ loopsOf b (4 * p + 2), LpOk lp call n m e := fun e he => hl e (List.mem_append_right _ he)
  refine (denL_le a (4 * p + 1) tm hp _ (fun ex tm hp => exK ex (outJ (evCo call n m b ⟨tm, hp⟩) J') (fun i => J' (.exit i) tm hp) (J' .ret tm hp)) hl1 ?_).trans ?_
  ·intro ex tm hp
   cases ex with
   | norm => exact denL_le b (4 * p + 2) tm hp J J' hl2 hJ
   | exit i => exact hJ _ _ _
   | ret => exact hJ _ _ _
  ·simp only [evCo, outJ]
   cases evCo call n m a ⟨tm, hp⟩ with
   | none => exact Le.no _
   | some q =>
    obtain ⟨ex, st⟩ := q
    cases ex <;> exact Le.refl _
 | .cond x t e, p, tm, hp, J, J', hl, hJ => by
  have hl1 : ∀ e ∈ loopsOf t (4 * p + 1), LpOk lp call n m e := fun e he => hl e (List.mem_append_left _ he)
  have hl2 : ∀ e' ∈ loopsOf e (4 * p + 2), LpOk lp call n m e' := fun e' he => hl e' (List.mem_append_right _ he)
  show Le (condL (ev tm x) (denL lp dc cc n m t (4 * p + 1) tm hp J) (denL lp dc cc n m e (4 * p + 2) tm hp J)) _
  unfold condL
  simp only [evCo]
  split
  ·rename_i b hb
   refine Le.two (fun h => ?_) (fun h => ?_)
   ·subst h; simp only [hb]; exact denL_le t _ tm hp J J' hl1 hJ
   ·subst h; simp only [hb]; exact denL_le e _ tm hp J J' hl2 hJ
  ·exact Le.no _
 | .block id b, p, tm, hp, J, J', hl, hJ => by
  refine (denL_le b (4 * p + 3) tm hp _ (fun ex tm hp => exK ex (J' .norm tm hp) (fun i => iL (Nat.beq i id) (J' .norm tm hp) (J' (.exit i) tm hp)) (J' .ret tm hp)) hl ?_).trans ?_
  ·intro ex tm hp
   cases ex with
   | norm => exact hJ _ _ _
   | exit i =>
    show Le (iL (Nat.beq i id) _ _) (iL (Nat.beq i id) _ _)
    cases Nat.beq i id <;> exact hJ _ _ _
   | ret => exact hJ _ _ _
  ·simp only [evCo, outJ]
   cases evCo call n m b ⟨tm, hp⟩ with
   | none => exact Le.no _
   | some q =>
    obtain ⟨ex, st⟩ := q
    cases ex with
    | norm => exact Le.refl _
    | ret => exact Le.refl _
    | exit i =>
     simp only [cL, exK]
     cases h : Nat.beq i id <;> simp only [iL, cond_true, cond_false] <;> exact Le.refl _
 | .loop live b, p, tm, hp, J, J', hl, hJ => hl (p, live, b, true) (List.mem_cons_self ..) tm hp J J' hJ
 | .gh (.keep live) b, p, tm, hp, J, J', hl, hJ => hl (p, live, b, false) (List.mem_cons_self ..) tm hp J J' hJ
 | .gh (.own s z) b, p, tm, hp, J, J', hl, hJ => by
  show Le (cL (evGh m (.own s z) ⟨tm, hp⟩) fun st => denL lp dc cc n m b (4 * p + 3) st.tm st.hp J) _
  refine Le.opt fun st hs => ?_
  simp only [evCo, hs]
  exact denL_le b (4 * p + 3) st.tm st.hp J J' hl hJ
 | .gh (.ownc s o z) b, p, tm, hp, J, J', hl, hJ => by
  show Le (cL (evGh m (.ownc s o z) ⟨tm, hp⟩) fun st => denL lp dc cc n m b (4 * p + 3) st.tm st.hp J) _
  refine Le.opt fun st hs => ?_
  simp only [evCo, hs]
  exact denL_le b (4 * p + 3) st.tm st.hp J J' hl hJ
 | .gh (.frz s) b, p, tm, hp, J, J', hl, hJ => by
  show Le (cL (evGh m (.frz s) ⟨tm, hp⟩) fun st => denL lp dc cc n m b (4 * p + 3) st.tm st.hp J) _
  refine Le.opt fun st hs => ?_
  simp only [evCo, hs]
  exact denL_le b (4 * p + 3) st.tm st.hp J J' hl hJ
 | .gh (.frzc s o) b, p, tm, hp, J, J', hl, hJ => by
  show Le (cL (evGh m (.frzc s o) ⟨tm, hp⟩) fun st => denL lp dc cc n m b (4 * p + 3) st.tm st.hp J) _
  refine Le.opt fun st hs => ?_
  simp only [evCo, hs]
  exact denL_le b (4 * p + 3) st.tm st.hp J J' hl hJ
def itL {ST : Type} (S : (ST → R) → ST → R) (k : Nat) (st : ST) : R := Nat.rec (motive := fun _ => ST → R) (fun _ => none) (fun _ ih st => S ih st) k st
theorem loop_le {ST : Type} {live : List Nat} {b : Co} {p : Nat} {dec : Tm → List Ob → (ST → R) → R} {tmO : ST → Tm} {hpO : ST → List Ob} {S : JJ → (ST → R) → ST → R}
  (hdec : ∀ tm hp (Y : ST → R) (X : K), (∀ st, Le (Y st) (X (tmO st) (hpO st))) → Le (dec tm hp Y) (X tm hp))
  (hS : ∀ (J : JJ) (Y : ST → R) st, denL lp dc cc n m b p (tmO st) (hpO st) (fun ex tm hp => exK ex (kpL m live tm hp fun tm hp => dec tm hp Y) (fun i => J (.exit i) tm hp) (J .ret tm hp)) = S J Y st)
  (hin : ∀ e ∈ loopsOf b p, LpOk lp call n m e) {J J' : JJ} (hJ : JLe J J') : ∀ (k : Nat) (tm : Tm) (hp : List Ob),
  Le (kpL m live tm hp fun tm hp => dec tm hp fun st => itL (S J) k st) (outJ (iter m (evCo call n m b) live k ⟨tm, hp⟩) J')
 | 0, tm, hp => by
  obtain ⟨st, _, h2⟩ := kpL_eq m live tm hp
  rw [h2]
  exact (hdec st.tm st.hp _ (fun _ _ => none) fun _ => Le.no _).trans (Le.no _)
 | k + 1, tm, hp => by
  obtain ⟨st, h1, h2⟩ := kpL_eq m live tm hp
  rw [h2]
  have e : outJ (iter m (evCo call n m b) live (k + 1) ⟨tm, hp⟩) J' = outJ (evCo call n m b st) (fun ex tm hp => exK ex (outJ (iter m (evCo call n m b) live k ⟨tm, hp⟩) J') (fun i => J' (.exit i) tm hp) (J' .ret tm hp)) := by
   simp only [iter, h1]
   cases evCo call n m b st with
   | none => rfl
   | some q =>
    obtain ⟨ex, st'⟩ := q
    cases ex <;> rfl
  rw [e]
  refine hdec st.tm st.hp _ (fun tm hp => outJ (evCo call n m b ⟨tm, hp⟩) _) fun s => ?_
  have e2 : itL (S J) (k + 1) s = S J (itL (S J) k) s := rfl
  rw [e2, ← hS]
  refine denL_le hd hc b p _ _ _ _ hin ?_
  intro ex tm hp
  cases ex with
  | norm => exact loop_le hdec hS hin hJ k tm hp
  | exit i => exact hJ _ _ _
  | ret => exact hJ _ _ _
end
def lpAt {ST : Type} (q : Nat) (dec : Tm → List Ob → (ST → R) → R) (S : JJ → (ST → R) → ST → R) (lp : LpT) : LpT := fun p k m live b n tm hp J => iL (Nat.beq p q) (kpL m live tm hp fun tm hp => dec tm hp fun st => itL (S J) n st) (lp p k m live b n tm hp J)
def lpCut {ST : Type} (q : Nat) (dec : Tm → List Ob → (ST → R) → R) (S : JJ → ST → R) (lp : LpT) : LpT := fun p k m live b n tm hp J => iL (Nat.beq p q) (kpL m live tm hp fun tm hp => dec tm hp fun st => S J st) (lp p k m live b n tm hp J)
def lpNo : LpT := fun _ _ _ _ _ _ _ _ _ => none
theorem lpAt_here {ST : Type} {q : Nat} {dec : Tm → List Ob → (ST → R) → R} {S : JJ → (ST → R) → ST → R} {lp : LpT} {call : CallF} {n m : Nat} {live : List Nat} {b : Co}
  (h : ∀ tm hp J J', JLe J J' → Le (kpL m live tm hp fun tm hp => dec tm hp fun st => itL (S J) n st) (outJ (iter m (evCo call n m b) live n ⟨tm, hp⟩) J')) : LpOk (lpAt q dec S lp) call n m (q, live, b, true) := by
 intro tm hp J J' hJ
 have : lpAt q dec S lp q true m live b n tm hp J = kpL m live tm hp fun tm hp => dec tm hp fun st => itL (S J) n st := by
  show iL (Nat.beq q q) _ _ = _
  rw [Nat.beq_refl]; rfl
 show Le (lpAt q dec S lp q true m live b n tm hp J) _
 rw [this]
 exact h tm hp J J' hJ
theorem lpCut_here {ST : Type} {q : Nat} {dec : Tm → List Ob → (ST → R) → R} {tmO : ST → Tm} {hpO : ST → List Ob} {S : JJ → ST → R} {lp : LpT} {dc : Dec} (hd : dc.Ok) {cc : CallC} {call : CallF} (hc : CcOk cc call) {n m : Nat} {live : List Nat} {b : Co}
  (hdec : ∀ tm hp (Y : ST → R) (X : K), (∀ st, Le (Y st) (X (tmO st) (hpO st))) → Le (dec tm hp Y) (X tm hp))
  (hS : ∀ (J : JJ) st, denL lp dc cc n m b (4 * q + 3) (tmO st) (hpO st) J = S J st)
  (hin : ∀ e ∈ loopsOf b (4 * q + 3), LpOk lp call n m e) : LpOk (lpCut q dec S lp) call n m (q, live, b, false) := by
 intro tm hp J J' hJ
 have : lpCut q dec S lp q false m live b n tm hp J = kpL m live tm hp fun tm hp => dec tm hp fun st => S J st := by
  show iL (Nat.beq q q) _ _ = _
  rw [Nat.beq_refl]; rfl
 show Le (lpCut q dec S lp q false m live b n tm hp J) (outJ (evCo call n m (.gh (.keep live) b) ⟨tm, hp⟩) J')
 rw [this]
 obtain ⟨st, h1, h2⟩ := kpL_eq m live tm hp
 rw [h2]
 simp only [evCo, h1]
 refine hdec st.tm st.hp _ (fun tm hp => outJ (evCo call n m b ⟨tm, hp⟩) J') fun s => ?_
 rw [← hS]
 exact denL_le hd hc b _ _ _ _ _ hin hJ
theorem lpAt_there {ST : Type} {q : Nat} {dec : Tm → List Ob → (ST → R) → R} {S : JJ → (ST → R) → ST → R} {lp : LpT} {call : CallF} {n m : Nat} {e : Nat × List Nat × Co × Bool} (hq : Nat.beq e.1 q = false) (h : LpOk lp call n m e) : LpOk (lpAt q dec S lp) call n m e := by
 intro tm hp J J' hJ
 have : lpAt q dec S lp e.1 e.2.2.2 m e.2.1 e.2.2.1 n tm hp J = lp e.1 e.2.2.2 m e.2.1 e.2.2.1 n tm hp J := by
  show iL (Nat.beq e.1 q) _ _ = _
  rw [hq]; rfl
 show Le (lpAt q dec S lp e.1 e.2.2.2 m e.2.1 e.2.2.1 n tm hp J) _
 rw [this]
 exact h tm hp J J' hJ
theorem lpCut_there {ST : Type} {q : Nat} {dec : Tm → List Ob → (ST → R) → R} {S : JJ → ST → R} {lp : LpT} {call : CallF} {n m : Nat} {e : Nat × List Nat × Co × Bool} (hq : Nat.beq e.1 q = false) (h : LpOk lp call n m e) : LpOk (lpCut q dec S lp) call n m e := by
 intro tm hp J J' hJ
 have : lpCut q dec S lp e.1 e.2.2.2 m e.2.1 e.2.2.1 n tm hp J = lp e.1 e.2.2.2 m e.2.1 e.2.2.1 n tm hp J := by
  show iL (Nat.beq e.1 q) _ _ = _
  rw [hq]; rfl
 show Le (lpCut q dec S lp e.1 e.2.2.2 m e.2.1 e.2.2.1 n tm hp J) _
 rw [this]
 exact h tm hp J J' hJ
def finL (m : Nat) (fz : Bool) (res : List Rv) (tm : Tm) (hp : List Ob) : R := cL (evRvs ⟨tm, hp⟩ res) fun ds => Prod.rec (motive := fun _ => R) (fun ds hp => some (mapDF (idxF (closeF hp closeFuel (didsLF ds (takeIds m hp)) (List.range m))) (one ds), shrinkF (closeF hp closeFuel (didsLF ds (takeIds m hp)) (List.range m)) hp)) (bif fz then frzL hp ds else (ds, hp))
def runL (m : Nat) (lp : LpT) (dc : Dec) (cc : CallC) (n : Nat) (x : Fx) (args : List D) (hp : List Ob) : R :=
 denL lp dc cc n m x.body 1 (numbered args 0) hp fun ex tm hp' => exK ex (finL m x.fz x.res tm hp') (fun _ => none) (finL m x.fz x.res tm hp')
theorem finL_eq (m : Nat) (fz : Bool) (res : List Rv) (tm : Tm) (hp : List Ob) : finL m fz res tm hp = match evRvs ⟨tm, hp⟩ res with
  | some ds => some (fin m fz ds hp)
  | none => none := by
 unfold finL
 cases evRvs ⟨tm, hp⟩ res with
 | none => rfl
 | some ds =>
  simp only [cL, fin, mapDF_eq, idxF_eq, closeF_eq, didsLF_eq, takeIds_eq, shrinkF_eq]
theorem runL_le {lp : LpT} {dc : Dec} (hd : dc.Ok) {cc : CallC} {call : CallF} (hc : CcOk cc call) {n : Nat} {x : Fx} {args : List D} {hp : List Ob} {m : Nat} (hl : ∀ e ∈ loopsOf x.body 1, LpOk lp call n m e) : Le (runL m lp dc cc n x args hp) (runFm m call n x args hp) := by
 unfold runL runFm
 refine (denL_le hd hc x.body 1 _ _ _ _ hl fun _ _ _ => Le.refl _).trans ?_
 unfold outJ
 cases evCo call n m x.body ⟨numbered args 0, hp⟩ with
 | none => exact Le.no _
 | some q =>
  obtain ⟨ex, st⟩ := q
  cases ex with
  | norm => exact Le.of_eq (finL_eq _ _ _ _ _)
  | ret => exact Le.of_eq (finL_eq _ _ _ _ _)
  | exit i => exact Le.no _
def evC (tab : Nat → Option Fn) (n : Nat) : CallC := fun f vs hp k => cL (evFn tab n f vs hp) fun p => k p.1 p.2
theorem evC_ok (tab : Nat → Option Fn) (n : Nat) : CcOk (evC tab n) (evFn tab n) := by
 intro f vs hp k k' hk
 unfold evC
 cases evFn tab n f vs hp with
 | none => exact Le.no _
 | some p => exact hk _ _
theorem evC_known {tab : Nat → Option Fn} {n f : Nat} {vs : List D} {hp : List Ob} {v : D} {out : List Ob} (h : evFn tab n f vs hp = some (v, out)) (k : KV) : evC tab n f vs hp k = k v out := by
 unfold evC
 rw [h]; rfl
theorem fn_le {tab : Nat → Option Fn} {f n : Nat} {x : Fx} {lp : LpT} {dc : Dec} (hd : dc.Ok) {args : List D} {hp : List Ob} {F : R} (hx : tab f = some (.code x)) {m : Nat} (hm : keepN f args hp.length = m) (hl : ∀ e ∈ loopsOf x.body 1, LpOk lp (evFn tab n) n m e) (h : runL m lp dc (evC tab n) n x args hp = F) : Le F (evFn tab (n + 1) f args hp) := by
 subst h
 have : evFn tab (n + 1) f args hp = runFm m (evFn tab n) n x args hp := by simp only [evFn, hx, hm]
 rw [this]
 exact runL_le hd (evC_ok tab n) hl
end
end Go.Ab
end
/- Readings of states as values: forms that are put together, each with its reading; loops, parts and functions told by them. -/
section
namespace Go.Ab
open Go
noncomputable section
variable [Mv]
structure Rd (T α : Type) where
 e : α → T
 d : T → (α → R) → R
 ok : ∀ (x : T) (k : α → R) (X : T → R), (∀ a, Le (k a) (X (e a))) → Le (d x k) (X x)
namespace Rd
variable {T α β : Type}
def rm (r : Rd T α) (f : α → β) (g : β → α) (h : ∀ a, g (f a) = a := by exact fun _ => rfl) : Rd T β where
 e b := r.e (g b)
 d x k := r.d x fun a => k (f a)
 ok x k X H := r.ok x _ X fun a => by
  have := H (f a)
  rw [h a] at this
  exact this
/- Parts of data. -/
def I (i : IntKind) : Rd Da Int := ⟨fun n => .int i n, fun x k => dInt i x k, fun _ _ _ H => dInt_le fun n q => by subst q; exact H n⟩
def S : Rd Da (List Nat) := ⟨fun s => .str s, fun x k => dStr x k, fun _ _ _ H => dStr_le fun n q => by subst q; exact H n⟩
def B : Rd Da Bool := ⟨fun s => .bool s, fun x k => dBool x k, fun _ _ _ H => dBool_le fun n q => by subst q; exact H n⟩
def L (z : Nat) : Rd Da (List Da) := ⟨fun s => .slice z s, fun x k => dSl z x k, fun _ _ _ H => dSl_le fun n q => by subst q; exact H n⟩
def M : Rd Da (List Da × List Da) := ⟨fun s => .map s.1 s.2, fun x k => dMap x fun a b => k (a, b), fun _ _ _ H => dMap_le fun a b q => by subst q; exact H (a, b)⟩
def X : Rd Da Da := ⟨fun x => x, fun x k => k x, fun x _ _ H => H x⟩
def K (i : IntKind) (c : Int) : Rd Da Unit := ⟨fun _ => .int i c, fun x k => dIntC i c x (k ()), fun _ _ _ H => dIntC_le fun q => by subst q; exact H ()⟩
def C (c : Bool) : Rd Da Unit := ⟨fun _ => .bool c, fun x k => dBoolC c x (k ()), fun _ _ _ H => dBoolC_le fun q => by subst q; exact H ()⟩
def G (l : Rd (List Da) α) : Rd Da α := ⟨fun a => .agg (l.e a), fun x k => dAgg x fun cs => l.d cs k, fun _ _ X H => dAgg_le fun cs q => by subst q; exact l.ok cs _ (fun cs => X (.agg cs)) H⟩
def FP (f : Nat) (l : Rd (List Da) α) : Rd Da α := ⟨fun a => .fn f (l.e a), fun x k => dFnP f x fun cs => l.d cs k, fun _ _ X H => dFnP_le fun cs q => by subst q; exact l.ok cs _ (fun cs => X (.fn f cs)) H⟩
def Nm : Rd Da Unit := ⟨fun _ => .nilmap, fun x k => dNm x (k ()), fun _ _ _ H => dNm_le fun q => by subst q; exact H ()⟩
/- Values. -/
def P (r : Rd Da α) : Rd D α := ⟨fun a => .p (r.e a), fun x k => dP x fun y => r.d y k, fun _ _ X H => dP_le fun y q => by subst q; exact r.ok y _ (fun y => X (.p y)) H⟩
def Bo (i o : Nat) : Rd D Unit := ⟨fun _ => .box i o, fun x k => dBox i o x (k ()), fun _ _ _ H => dBox_le fun q => by subst q; exact H ()⟩
def Ar (i z : Nat) : Rd D Nat := ⟨fun n => .arr i 0 n z, fun x k => dArr i z x k, fun _ _ _ H => dArr_le fun n q => by subst q; exact H n⟩
def Av (i z : Nat) : Rd D (Nat × Nat) := ⟨fun p => .arr i p.1 p.2 z, fun x k => dArrV i z x fun a b => k (a, b), fun _ _ _ H => dArrV_le fun a b q => by subst q; exact H (a, b)⟩
def Mp (i : Nat) : Rd D Unit := ⟨fun _ => .map i, fun x k => dMp i x (k ()), fun _ _ _ H => dMp_le fun q => by subst q; exact H ()⟩
def Nl (z : Nat) : Rd D Unit := ⟨fun _ => .sl .nil z [], fun x k => dNl z x (k ()), fun _ _ _ H => dNl_le fun q => by subst q; exact H ()⟩
def Ex (z : Nat) : Rd D (List Da) := ⟨fun es => .sl .exact z es, fun x k => dEx z x k, fun _ _ _ H => dEx_le fun n q => by subst q; exact H n⟩
def F (f : Nat) (l : Rd (List D) α) : Rd D α := ⟨fun a => .fn f (l.e a), fun x k => dFn f x fun cs => l.d cs k, fun _ _ X H => dFn_le fun cs q => by subst q; exact l.ok cs _ (fun cs => X (.fn f cs)) H⟩
/- Objects. -/
def Ob (l : Rd (List D) α) : Rd Go.Ab.Ob α := ⟨fun a => .box (l.e a), fun x k => oBox x fun cs => l.d cs k, fun _ _ X H => oBox_le fun cs q => by subst q; exact l.ok cs _ (fun cs => X (.box cs)) H⟩
def Oa : Rd Go.Ab.Ob (List Da) := ⟨fun s => .arr s, fun x k => oArr x k, fun _ _ _ H => oArr_le fun n q => by subst q; exact H n⟩
def Om : Rd Go.Ab.Ob (List Da × List Da) := ⟨fun s => .map s.1 s.2, fun x k => oMap x fun a b => k (a, b), fun _ _ _ H => oMap_le fun a b q => by subst q; exact H (a, b)⟩
/- Rows. -/
def c (a : Rd T α) (r : Rd (List T) β) : Rd (List T) (α × β) := ⟨fun x => a.e x.1 :: r.e x.2, fun l k => dCons l fun y t => a.d y fun x => r.d t fun z => k (x, z), fun _ _ X H => dCons_le fun y t q => by
 subst q
 exact a.ok y _ (fun y => X (y :: t)) fun x => r.ok t _ (fun t => X (a.e x :: t)) fun z => H (x, z)⟩
def u (a : Rd T Unit) (r : Rd (List T) β) : Rd (List T) β := ⟨fun x => a.e () :: r.e x, fun l k => dCons l fun y t => a.d y fun _ => r.d t k, fun _ _ X H => dCons_le fun y t q => by
 subst q
 exact a.ok y _ (fun y => X (y :: t)) fun x => r.ok t _ (fun t => X (a.e x :: t)) fun z => H z⟩
def n : Rd (List T) Unit := ⟨fun _ => [], fun l k => dNil l (k ()), fun _ _ _ H => dNil_le fun q => by subst q; exact H ()⟩
/- Registers and heap. -/
def t (s : Nat) (a : Rd D α) (r : Rd (Tm × List Go.Ab.Ob) β) : Rd (Tm × List Go.Ab.Ob) (α × β) := ⟨fun x => (.cons s (a.e x.1) (r.e x.2).1, (r.e x.2).2), fun st k => tCons s st.1 fun y t => a.d y fun x => r.d (t, st.2) fun z => k (x, z), fun st _ X H => by
 obtain ⟨tm, hp⟩ := st
 exact tCons_le fun y t q => by
  dsimp only at q
  subst q
  exact a.ok y _ (fun y => X (.cons s y t, hp)) fun x => r.ok (t, hp) _ (fun st => X (.cons s (a.e x) st.1, st.2)) fun z => H (x, z)⟩
def v (s : Nat) (a : Rd D Unit) (r : Rd (Tm × List Go.Ab.Ob) β) : Rd (Tm × List Go.Ab.Ob) β := ⟨fun x => (.cons s (a.e ()) (r.e x).1, (r.e x).2), fun st k => tCons s st.1 fun y t => a.d y fun _ => r.d (t, st.2) k, fun st _ X H => by
 obtain ⟨tm, hp⟩ := st
 exact tCons_le fun y t q => by
  dsimp only at q
  subst q
  exact a.ok y _ (fun y => X (.cons s y t, hp)) fun x => r.ok (t, hp) _ (fun st => X (.cons s (a.e x) st.1, st.2)) fun z => H z⟩
def h (l : Rd (List Go.Ab.Ob) α) : Rd (Tm × List Go.Ab.Ob) α := ⟨fun x => (.nil, l.e x), fun st k => tNil st.1 (l.d st.2 k), fun st _ X H => by
 obtain ⟨tm, hp⟩ := st
 exact tNil_le fun q => by
  dsimp only at q
  subst q
  exact l.ok hp _ (fun hp => X (.nil, hp)) H⟩
end Rd
abbrev St2 := Tm × List Ob
def lpCo (c : Co) (p j : Nat) : Co := (((loopsOf c p)[j]?).getD (0, [], .skip, true)).2.2.1
def AllLp (lp : LpT) (call : CallF) (n m : Nat) : List (Nat × List Nat × Co × Bool) → Prop
 | [] => True
 | e :: r => LpOk lp call n m e ∧ AllLp lp call n m r
theorem allLp {lp : LpT} {call : CallF} {n m : Nat} : ∀ {l l' : List (Nat × List Nat × Co × Bool)}, l = l' → AllLp lp call n m l' → ∀ e ∈ l, LpOk lp call n m e
 | _, [], rfl, _ => fun _ h => by cases h
 | _, _ :: _, rfl, ⟨g, r⟩ => fun e h => by
  rcases List.mem_cons.1 h with rfl | h
  ·exact g
  ·exact allLp rfl r e h
theorem nilLp {lp : LpT} {call : CallF} {n m : Nat} : AllLp lp call n m [] := trivial
theorem conLp {lp : LpT} {call : CallF} {n m : Nat} {e : Nat × List Nat × Co × Bool} {r : List (Nat × List Nat × Co × Bool)} (h : LpOk lp call n m e) (g : AllLp lp call n m r) : AllLp lp call n m (e :: r) := ⟨h, g⟩
def lpA {ST : Type} (q : Nat) (r : Rd St2 ST) (S : JJ → (ST → R) → ST → R) (lp : LpT) : LpT := lpAt q (fun tm hp Y => r.d (tm, hp) Y) S lp
def lpC {ST : Type} (q : Nat) (r : Rd St2 ST) (S : JJ → ST → R) (lp : LpT) : LpT := lpCut q (fun tm hp Y => r.d (tm, hp) Y) S lp
section
variable {ST : Type} {q : Nat} {r : Rd St2 ST} {lp : LpT} {dc : Dec} {cc : CallC} {call : CallF} {n m : Nat} {live : List Nat} {b : Co}
theorem lpA_ok {S : JJ → (ST → R) → ST → R} (hd : dc.Ok) (hc : CcOk cc call)
  (hS : ∀ (J : JJ) (Y : ST → R) st, denL lp dc cc n m b q (r.e st).1 (r.e st).2 (fun ex tm hp => exK ex (kpL m live tm hp fun tm hp => r.d (tm, hp) Y) (fun i => J (.exit i) tm hp) (J .ret tm hp)) = S J Y st)
  (hin : ∀ e ∈ loopsOf b q, LpOk lp call n m e) : LpOk (lpA q r S lp) call n m (q, live, b, true) :=
 lpAt_here fun tm hp _ _ hJ => loop_le (tmO := fun st => (r.e st).1) (hpO := fun st => (r.e st).2) hd hc (fun tm hp Y X h => r.ok (tm, hp) Y (fun st => X st.1 st.2) h) hS hin hJ n tm hp
theorem lpC_ok {S : JJ → ST → R} (hd : dc.Ok) (hc : CcOk cc call)
  (hS : ∀ (J : JJ) st, denL lp dc cc n m b (4 * q + 3) (r.e st).1 (r.e st).2 J = S J st)
  (hin : ∀ e ∈ loopsOf b (4 * q + 3), LpOk lp call n m e) : LpOk (lpC q r S lp) call n m (q, live, b, false) :=
 lpCut_here (tmO := fun st => (r.e st).1) (hpO := fun st => (r.e st).2) hd hc (fun tm hp Y X h => r.ok (tm, hp) Y (fun st => X st.1 st.2) h) hS hin
theorem lpA_th {S : JJ → (ST → R) → ST → R} {e : Nat × List Nat × Co × Bool} (hq : Nat.beq e.1 q = false) (h : LpOk lp call n m e) : LpOk (lpA q r S lp) call n m e := lpAt_there hq h
theorem lpC_th {S : JJ → ST → R} {e : Nat × List Nat × Co × Bool} (hq : Nat.beq e.1 q = false) (h : LpOk lp call n m e) : LpOk (lpC q r S lp) call n m e := lpCut_there hq h
end
end
end Go.Ab
end
/- Typed data for functions that were walked on letters: lists of structs, tests, readings; what a known call gives. -/
section
namespace Go.Ab
open Go
noncomputable section
variable [Mv]
theorem iL_t (t e : R) : iL true t e = t := rfl
theorem iL_f (t e : R) : iL false t e = e := rfl
theorem iL_if (b : Bool) (t e : R) : iL b t e = if b = true then t else e := by cases b <;> rfl
theorem iL_dec (p : Prop) [Decidable p] (t e : R) : iL (decide p) t e = if p then t else e := by rw [iL_if]; simp only [decide_eq_true_eq]
theorem iL_ndec (p : Prop) [Decidable p] (t e : R) : iL (!decide p) t e = if p then e else t := by
 rw [iL_if]; by_cases h : p <;> simp [h]
theorem cL_s {α : Type} (x : α) (k : α → R) : cL (some x) k = k x := rfl
theorem cL_map {α β : Type} (f : α → β) (o : Option α) (k : β → R) : cL (o.map f) k = cL o fun x => k (f x) := by cases o <;> rfl
theorem optN_s (i : Nat) (e : R) (k : Nat → R) : optN (some i) e k = k i := rfl
theorem optN_n (e : R) (k : Nat → R) : optN none e k = e := rfl
theorem eqI_d (a b : Int) : eqI a b = decide (a = b) := by
 cases a <;> cases b <;> simp only [eqI]
 ·rw [Bool.eq_iff_iff]; simp; omega
 ·simp
 ·simp
 ·rw [Bool.eq_iff_iff]; simp
theorem ltI_d (a b : Int) : ltI a b = decide (a < b) := by
 cases a <;> cases b <;> simp only [ltI]
 ·rw [Bool.eq_iff_iff]; simp [Nat.blt_eq]
 ·rw [Bool.eq_iff_iff]; simp; omega
 ·rw [Bool.eq_iff_iff]; simp; omega
 ·rw [Bool.eq_iff_iff]; simp [Nat.blt_eq]; omega
theorem leI_d (a b : Int) : leI a b = decide (a ≤ b) := by
 unfold leI
 rw [ltI_d, Bool.eq_iff_iff]
 simp
theorem eqS_d : ∀ a b : List Nat, eqS a b = decide (a = b)
 | [], [] => by simp [eqS]
 | [], _ :: _ => by simp [eqS]
 | _ :: _, [] => by simp [eqS]
 | x :: a, y :: b => by
  simp only [eqS, eqS_d a b]
  rw [Bool.eq_iff_iff]
  cases h : Nat.beq x y
  ·have : x ≠ y := fun e => by rw [e, Nat.beq_refl] at h; cases h
   simp [this]
  ·have := Nat.eq_of_beq_eq_true h
   simp [this]
theorem beqN_d (a b : Nat) : Nat.beq a b = decide (a = b) := by rw [Bool.eq_iff_iff, Nat.beq_eq, decide_eq_true_eq]
theorem wrapI {n : Int} (h1 : -9223372036854775808 ≤ n) (h2 : n < 9223372036854775808) : wrapF .i64 n = n := by
 cases n with
 | ofNat m =>
  have : Nat.blt m 9223372036854775808 = true := by rw [Nat.blt_eq]; exact Int.ofNat_lt.mp h2
  simp only [wrapF, this, cond_true]
 | negSucc m =>
  have : Nat.blt m 9223372036854775808 = true := by rw [Nat.blt_eq]; omega
  simp only [wrapF, this, cond_true]
def atT {α : Type} (l : List α) (i : Int) : Option α := if 0 ≤ i then l[i.toNat]? else none
theorem at_mapT {α : Type} (f : α → Da) (l : List α) (i : Int) : at? (l.map f) i = (atT l i).map f := by
 unfold at? atT
 rw [leI_d]
 by_cases h : 0 ≤ i <;> simp [h]
theorem atT_nat {α : Type} (l : List α) (j : Nat) : atT l (j : Int) = l[j]? := by simp [atT]
theorem atT_lt {α : Type} {l : List α} {j : Nat} (h : j < l.length) : atT l (j : Int) = some l[j] := by rw [atT_nat, List.getElem?_eq_getElem h]
theorem atT_zero {α : Type} (x : α) (l : List α) : atT (x :: l) 0 = some x := rfl
/- Readings of what is known. -/
theorem dInt_k (i : IntKind) (n : Int) (k : Int → R) : dInt i (.int i n) k = k n := by cases i <;> rfl
theorem dBool_k (b : Bool) (k : Bool → R) : dBool (.bool b) k = k b := rfl
theorem dP_k (x : Da) (k : Da → R) : dP (.p x) k = k x := rfl
theorem dTup_k (ds : List D) (k : List D → R) : dTup (.tup ds) k = k ds := rfl
theorem dCons_k {α : Type} (x : α) (l : List α) (k : α → List α → R) : dCons (x :: l) k = k x l := rfl
theorem dNil_k {α : Type} (k : R) : dNil ([] : List α) k = k := rfl
theorem loop_from {α : Type} (xs : List α) (L : Nat → Int → R) (p : α → Bool) (hit : Nat → R) (out : R)
  (hs : ∀ q i (h : i < xs.length), L (q + 1) (i : Int) = if p xs[i] = true then hit i else L q ((i + 1 : Nat) : Int)) (he : ∀ q, L (q + 1) (xs.length : Int) = out) :
  ∀ (d q i : Nat), i + d = xs.length → d < q → L q (i : Int) = match (xs.drop i).findIdx? p with | some j => hit (i + j) | none => out
 | 0, q + 1, i, h, _ => by
  obtain rfl : i = xs.length := by omega
  rw [List.drop_length]
  exact he q
 | d + 1, q + 1, i, h, hq => by
  have hi : i < xs.length := by omega
  rw [hs q i hi, List.drop_eq_getElem_cons hi, List.findIdx?_cons]
  cases hp : p xs[i]
  ·simp only [Bool.false_eq_true, if_false]
   rw [loop_from xs L p hit out hs he d q (i + 1) (by omega) (by omega)]
   cases (xs.drop (i + 1)).findIdx? p with
   | none => rfl
   | some j => simp only [Option.map_some]; rw [show i + 1 + j = i + (j + 1) by omega]
  ·simp only [if_true, Nat.add_zero]
theorem loop_list {α : Type} (xs : List α) (L : Nat → Int → R) (p : α → Bool) (hit : Nat → R) (out : R)
  (hs : ∀ q i (h : i < xs.length), L (q + 1) (i : Int) = if p xs[i] = true then hit i else L q ((i + 1 : Nat) : Int)) (he : ∀ q, L (q + 1) (xs.length : Int) = out) {q : Nat} (hq : xs.length < q) :
  L q 0 = match xs.findIdx? p with | some j => hit j | none => out := by
 have := loop_from xs L p hit out hs he xs.length q 0 (by omega) hq
 simpa using this
end
end Go.Ab
end
