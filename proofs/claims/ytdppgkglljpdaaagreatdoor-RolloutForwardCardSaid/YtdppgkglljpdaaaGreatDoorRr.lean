/- The evaluator and its laws, part Rr: S1 S1b S2 S3 S4 -/
import Derived.Test.YtdppgkglljpdaaaGreatDoorAbZ
set_option linter.all false
/- Runs with letters: the hashes of layer 2. -/
section
namespace Go.Ab
open Go
set_option maxRecDepth 20000

def hxor (a b : Int) : Int := wrapF .u64 (BitVec.ofInt 64 a ^^^ BitVec.ofInt 64 b).toNat
def hmul (a b : Int) : Int := wrapF .u64 (a * b)
def hadd (a b : Int) : Int := wrapF .u64 (a + b)
def hshr (a : Int) (n : Nat) : Int := a.fdiv (2 ^ n)
theorem b_xor (m n : Int) (k : D → R) : binK .xor (.p (.int .u64 m)) (.p (.int .u64 n)) k = k (.p (.int .u64 (hxor m n))) := by
  simp [binK_eq, bin, isShift, binInt, optK, caseO]; rfl
theorem b_mul (m n : Int) (k : D → R) : binK .mul (.p (.int .u64 m)) (.p (.int .u64 n)) k = k (.p (.int .u64 (hmul m n))) := by
  simp [binK_eq, bin, isShift, binInt, optK, caseO]; rfl
theorem b_addU (m n : Int) (k : D → R) : binK .add (.p (.int .u64 m)) (.p (.int .u64 n)) k = k (.p (.int .u64 (hadd m n))) := by
  simp [binK_eq, bin, isShift, binInt, optK, caseO]; rfl
theorem b_shr (m : Int) (q : IntKind) (n : Nat) (hn : n ≤ 64) (k : D → R) : binK .shr (.p (.int .u64 m)) (.p (.int q (n : Int))) k = k (.p (.int .u64 (hshr m n))) := by
  have h1 : ltI (n : Int) 0 = false := by rw [ltI_dec]; simp
  have h2 : min n (IntKind.bits .u64) = n := Nat.min_eq_left hn
  simp [binK_eq, bin, isShift, shiftInt, optK, caseO, h1, h2]; rfl
theorem b_shr30 (m : Int) (q : IntKind) (k : D → R) : binK .shr (.p (.int .u64 m)) (.p (.int q 30)) k = k (.p (.int .u64 (hshr m 30))) := b_shr m q 30 (by decide) k
theorem b_shr27 (m : Int) (q : IntKind) (k : D → R) : binK .shr (.p (.int .u64 m)) (.p (.int q 27)) k = k (.p (.int .u64 (hshr m 27))) := b_shr m q 27 (by decide) k
theorem b_shr31 (m : Int) (q : IntKind) (k : D → R) : binK .shr (.p (.int .u64 m)) (.p (.int q 31)) k = k (.p (.int .u64 (hshr m 31))) := b_shr m q 31 (by decide) k
/-- Mix. -/
def mixS (x : Int) : Int :=
  let y := hmul (hxor x (hshr x 30)) 13787848793156543929
  let z := hmul (hxor y (hshr y 27)) 10723151780598845931
  hxor z (hshr z 31)
/-- Combine. -/
def combS (h x : Int) : Int := mixS (hadd h (hmul 11400714819323198485 (hadd x 1)))
/-- One byte more. -/
def byteS (h : Int) (c : Nat) : Int := hmul (hxor h (wrapF .u64 c)) 1099511628211
/-- Text. -/
def textS (s : List Nat) : Int := mixS (s.foldl byteS 14695981039346656037)
/-- Actor. -/
def actorS (t k : List Nat) : Int := combS (textS t) (textS k)
/-- An actor's place among a hundred. -/
def bucketS (t k : List Nat) : Int := wrapF .i64 ((actorS t k).tmod 100)
theorem bucket_in (t k : List Nat) : 0 ≤ bucketS t k ∧ bucketS t k < 100 := by
  have h0 : ∀ a b, 0 ≤ hxor a b := by
    intro a b
    unfold hxor
    generalize (BitVec.ofInt 64 a ^^^ BitVec.ofInt 64 b).toNat = n
    unfold wrapF
    show 0 ≤ (bif Nat.blt n 18446744073709551616 then Int.ofNat n else IntKind.wrap .u64 (Int.ofNat n))
    cases Nat.blt n 18446744073709551616 with
    | true => exact Int.natCast_nonneg n
    | false => simp only [cond_false, IntKind.wrap]; exact Int.emod_nonneg _ (by decide)
  have h1 : 0 ≤ actorS t k := h0 _ _
  have h2 : 0 ≤ (actorS t k).tmod 100 := Int.tmod_nonneg _ h1
  have h3 : (actorS t k).tmod 100 < 100 := Int.tmod_lt_of_pos _ (by decide)
  unfold bucketS
  generalize (actorS t k).tmod 100 = q at h2 h3
  obtain ⟨n, rfl⟩ := Int.eq_ofNat_of_zero_le h2
  rw [wrap_few n (by omega)]
  exact ⟨h2, h3⟩
theorem fold_snoc (s : List Nat) (j : Nat) (h : j < s.length) (a : Int) : (s.take (j + 1)).foldl byteS a = byteS ((s.take j).foldl byteS a) s[j] := by
  rw [← List.take_append_getElem h, List.foldl_append]; rfl
end Go.Ab
end
/- Runs with letters: the hashes of layer 2. -/
section
namespace Go.Ab
open Go
set_option maxHeartbeats 2000000
set_option maxRecDepth 20000

section
variable (call : CallF) (base kk id : Nat) (hp : List Ob) (k : KV)
theorem iaa3_0 : genV call base (.iaa 3 1) kk [.box id 0, .p (.int .i64 0)] hp k = k (.box id 0) hp := by rw [genV_still rfl]; rfl
theorem iaa3_1 : genV call base (.iaa 3 1) kk [.box id 0, .p (.int .i64 1)] hp k = k (.box id 1) hp := by rw [genV_still rfl]; rfl
theorem iaa3_2 : genV call base (.iaa 3 1) kk [.box id 0, .p (.int .i64 2)] hp k = k (.box id 2) hp := by rw [genV_still rfl]; rfl
theorem iaa2_0 : genV call base (.iaa 2 1) kk [.box id 0, .p (.int .i64 0)] hp k = k (.box id 0) hp := by rw [genV_still rfl]; rfl
theorem iaa2_1 : genV call base (.iaa 2 1) kk [.box id 0, .p (.int .i64 1)] hp k = k (.box id 1) hp := by rw [genV_still rfl]; rfl
end

theorem r_shifts (m : Nat)  : runH h131 (evH tabS (m + 1)) (m + 1) [.cell 0 3 true] true [] [] = some (.p (.agg [.int .u64 30, .int .u64 27, .int .u64 31]), []) := by
  simp -implicitDefEqProofs (maxSteps := 1000000) only [h131, go_sem, ↓reduceIte, Nat.reduceEqDiff, Nat.reduceAdd, Nat.reduceSub, Nat.reduceBEq, Int.reduceEq, Int.reduceLT, Int.reduceLE, Int.reduceNeg, Nat.reduceLeDiff]
theorem q_shifts (m : Nat)  : evH tabS (m + 2) 131 [] [] = some (.p (.agg [.int .u64 30, .int .u64 27, .int .u64 31]), []) := (evH_code (show tabS 131 = some (.code h131 [.cell 0 3 true] true) by kernel_rfl) (m + 1) _ _).trans (r_shifts m )
theorem g_shifts (m : Nat)  (raw : Bool) (hp : List Ob) (K : KV) : callG (evH tabS (m + 2)) 131 raw [] hp K = K (.p (.agg [.int .u64 30, .int .u64 27, .int .u64 31])) hp := call_known rfl (q_shifts m ) rfl
theorem gF_shifts (m : Nat)  (raw : Bool) (hp : List Ob) (K : KF) : callF (evH tabS (m + 2)) 131 raw [] hp K = K (.p (.agg [.int .u64 30, .int .u64 27, .int .u64 31])) hp (footE hp) := callF_known rfl (q_shifts m ) rfl

theorem r_factors (m : Nat)  : runH h132 (evH tabS (m + 1)) (m + 1) [.cell 0 2 true] true [] [] = some (.p (.agg [.int .u64 13787848793156543929, .int .u64 10723151780598845931]), []) := by
  simp -implicitDefEqProofs (maxSteps := 1000000) only [h132, go_sem, ↓reduceIte, Nat.reduceEqDiff, Nat.reduceAdd, Nat.reduceSub, Nat.reduceBEq, Int.reduceEq, Int.reduceLT, Int.reduceLE, Int.reduceNeg, Nat.reduceLeDiff]
theorem q_factors (m : Nat)  : evH tabS (m + 2) 132 [] [] = some (.p (.agg [.int .u64 13787848793156543929, .int .u64 10723151780598845931]), []) := (evH_code (show tabS 132 = some (.code h132 [.cell 0 2 true] true) by kernel_rfl) (m + 1) _ _).trans (r_factors m )
theorem g_factors (m : Nat)  (raw : Bool) (hp : List Ob) (K : KV) : callG (evH tabS (m + 2)) 132 raw [] hp K = K (.p (.agg [.int .u64 13787848793156543929, .int .u64 10723151780598845931])) hp := call_known rfl (q_factors m ) rfl
theorem gF_factors (m : Nat)  (raw : Bool) (hp : List Ob) (K : KF) : callF (evH tabS (m + 2)) 132 raw [] hp K = K (.p (.agg [.int .u64 13787848793156543929, .int .u64 10723151780598845931])) hp (footE hp) := callF_known rfl (q_factors m ) rfl

def mixJ (x : Int) : Nat → Int
  | 0 => x
  | 1 => hmul (hxor x (hshr x 30)) 13787848793156543929
  | _ => hmul (hxor (hmul (hxor x (hshr x 30)) 13787848793156543929) (hshr (hmul (hxor x (hshr x 30)) 13787848793156543929) 27)) 10723151780598845931
theorem r_Mix (m : Nat) (x : Int) : runH h105 (evH tabS (m + 20)) (m + 20) [.t 2] true [.p (.int .u64 x)] [] = some (.p (.int .u64 (mixS x)), []) := by
  have L := fun (ke : Nat → K) (kr : K) => loop_map (m := 0) (live := [0, 3, 4, 8]) (body := fun tm hp k => l105_1 (evH tabS (m + 20)) (m + 20) 0 tm hp k ke kr) 2
    (fun j => .cons 0 (.p (.int .u64 (mixJ x j))) (.cons 3 (.box 0 0) (.cons 4 (.box 1 0) (.cons 8 (.p (.int .i64 (j : Nat))) .nil)))) (fun _ => [.box [.p (.int .u64 30), .p (.int .u64 27), .p (.int .u64 31)], .box [.p (.int .u64 13787848793156543929), .p (.int .u64 10723151780598845931)]])
    (fun j => .cons 0 (.p (.int .u64 (mixJ x (j + 1)))) (.cons 3 (.box 0 0) (.cons 4 (.box 1 0) (.cons 8 (.p (.int .i64 (j + 1 : Nat))) .nil)))) (fun _ => [.box [.p (.int .u64 30), .p (.int .u64 27), .p (.int .u64 31)], .box [.p (.int .u64 13787848793156543929), .p (.int .u64 10723151780598845931)]])
    (ke 0 (.cons 0 (.p (.int .u64 (mixJ x 2))) (.cons 3 (.box 0 0) (.cons 4 (.box 1 0) (.cons 8 (.p (.int .i64 2)) (.cons 9 (.p (.bool false)) .nil))))) [.box [.p (.int .u64 30), .p (.int .u64 27), .p (.int .u64 31)], .box [.p (.int .u64 13787848793156543929), .p (.int .u64 10723151780598845931)]])
    (fun j _ => by kernel_rfl)
    (fun j kn hj => by
      match j, hj with
      | 0, _ =>
        simp -implicitDefEqProofs (maxSteps := 1000000) only [l105_1, go_sem, ↓reduceIte, Nat.reduceEqDiff, Nat.reduceAdd, Nat.reduceSub, Nat.reduceBEq, Int.reduceEq, Int.reduceLT, Int.reduceLE, Int.reduceNeg, Nat.reduceLeDiff, Int.natCast_zero, Int.cast_ofNat_Int, iaa3_0, iaa2_0, b_shr30, b_xor, b_mul, show wrapF .i64 (0 + 1) = 1 from rfl, mixJ]
      | 1, _ =>
        simp -implicitDefEqProofs (maxSteps := 1000000) only [l105_1, go_sem, ↓reduceIte, Nat.reduceEqDiff, Nat.reduceAdd, Nat.reduceSub, Nat.reduceBEq, Int.reduceEq, Int.reduceLT, Int.reduceLE, Int.reduceNeg, Nat.reduceLeDiff, Int.natCast_one, Int.cast_ofNat_Int, iaa3_1, iaa2_1, b_shr27, b_xor, b_mul, show wrapF .i64 (1 + 1) = 2 from rfl, mixJ])
    (fun kn => by
      simp -implicitDefEqProofs (maxSteps := 1000000) only [l105_1, go_sem, ↓reduceIte, Nat.reduceEqDiff, Nat.reduceAdd, Nat.reduceSub, Nat.reduceBEq, Int.reduceEq, Int.reduceLT, Int.reduceLE, Int.reduceNeg, Nat.reduceLeDiff, Int.cast_ofNat_Int, Int.lt_irrefl, if_false]) (m + 20)
    (.cons 0 (.p (.int .u64 x)) (.cons 3 (.box 0 0) (.cons 4 (.box 1 0) (.cons 8 (.p (.int .i64 0)) .nil)))) [.box [.p (.int .u64 30), .p (.int .u64 27), .p (.int .u64 31)], .box [.p (.int .u64 13787848793156543929), .p (.int .u64 10723151780598845931)]] (by omega) (by kernel_rfl)
  simp -implicitDefEqProofs (maxSteps := 1000000) only [h105, go_sem, ↓reduceIte, Nat.reduceEqDiff, Nat.reduceAdd, Nat.reduceSub, Nat.reduceBEq, Int.reduceEq, Int.reduceLT, Int.reduceLE, Int.reduceNeg, Nat.reduceLeDiff, g_shifts, g_factors, L, iaa3_2, b_shr31, b_xor]
  rfl
theorem q_Mix (m : Nat) (x : Int) : evH tabS (m + 21) 105 [.p (.int .u64 x)] [] = some (.p (.int .u64 (mixS x)), []) := (evH_code (show tabS 105 = some (.code h105 [.t 2] true) by kernel_rfl) (m + 20) _ _).trans (r_Mix m x)
theorem g_Mix (m : Nat) (x : Int) (raw : Bool) (hp : List Ob) (K : KV) : callG (evH tabS (m + 21)) 105 raw [.p (.int .u64 x)] hp K = K (.p (.int .u64 (mixS x))) hp := call_known rfl (q_Mix m x) rfl
theorem gF_Mix (m : Nat) (x : Int) (raw : Bool) (hp : List Ob) (K : KF) : callF (evH tabS (m + 21)) 105 raw [.p (.int .u64 x)] hp K = K (.p (.int .u64 (mixS x))) hp (footE hp) := callF_known rfl (q_Mix m x) rfl

theorem r_Combine (m : Nat) (x : Int) (y : Int) : runH h75 (evH tabS (m + 21)) (m + 21) [.t 4] true [.p (.int .u64 x), .p (.int .u64 y)] [] = some (.p (.int .u64 (combS x y)), []) := by
  simp -implicitDefEqProofs (maxSteps := 1000000) only [h75, go_sem, ↓reduceIte, Nat.reduceEqDiff, Nat.reduceAdd, Nat.reduceSub, Nat.reduceBEq, Int.reduceEq, Int.reduceLT, Int.reduceLE, Int.reduceNeg, Nat.reduceLeDiff, b_addU, b_mul, g_Mix]
  rfl
theorem q_Combine (m : Nat) (x : Int) (y : Int) : evH tabS (m + 22) 75 [.p (.int .u64 x), .p (.int .u64 y)] [] = some (.p (.int .u64 (combS x y)), []) := (evH_code (show tabS 75 = some (.code h75 [.t 4] true) by kernel_rfl) (m + 21) _ _).trans (r_Combine m x y)
theorem g_Combine (m : Nat) (x : Int) (y : Int) (raw : Bool) (hp : List Ob) (K : KV) : callG (evH tabS (m + 22)) 75 raw [.p (.int .u64 x), .p (.int .u64 y)] hp K = K (.p (.int .u64 (combS x y))) hp := call_known rfl (q_Combine m x y) rfl
theorem gF_Combine (m : Nat) (x : Int) (y : Int) (raw : Bool) (hp : List Ob) (K : KF) : callF (evH tabS (m + 22)) 75 raw [.p (.int .u64 x), .p (.int .u64 y)] hp K = K (.p (.int .u64 (combS x y))) hp (footE hp) := callF_known rfl (q_Combine m x y) rfl

theorem wrap_max (j : Nat) (h : j + 1 ≤ maxLen) : wrapF .i64 ((j : Int) + 1) = ((j + 1 : Nat) : Int) := by
  have e : ((j : Int) + 1) = ((j + 1 : Nat) : Int) := by omega
  rw [e]; exact wrap_nat _ (Nat.lt_of_le_of_lt h (by decide +kernel))
theorem ix_byte (s : List Nat) (j : Nat) (hj : j < s.length) (k : D → R) : ixK (.p (.str s)) (.p (.int .i64 (j : Int))) k = k (.p (.int .u8 s[j])) := by
  rw [ix_str]
  show caseO s[j]? none _ = _
  rw [List.getElem?_eq_getElem hj]
  rfl
theorem q_Text (N : Nat) (s : List Nat) (hs : s.length ≤ maxLen) (hN : 22 + s.length ≤ N) : evH tabS N 76 [.p (.str s)] [] = some (.p (.int .u64 (textS s)), []) := by
  obtain ⟨m, rfl⟩ : ∃ m, N = m + (21 + s.length) + 1 := ⟨N - (22 + s.length), by omega⟩
  refine (evH_code (show tabS 76 = some (.code h76 [.t 2] true) by kernel_rfl) (m + (21 + s.length)) _ _).trans ?_
  have L := fun (ke : Nat → K) (kr : K) => loop_map (m := 0) (live := [0, 3, 6, 7]) (body := fun tm hp k => l76_1 (evH tabS (m + (21 + s.length))) (m + (21 + s.length)) 0 tm hp k ke kr) s.length
    (fun j => .cons 0 (.p (.str s)) (.cons 3 (.p (.int .u64 ((s.take j).foldl byteS 14695981039346656037))) (.cons 6 (.p (.int .i64 s.length)) (.cons 7 (.p (.int .i64 (j : Nat))) .nil)))) (fun _ => [])
    (fun j => .cons 0 (.p (.str s)) (.cons 3 (.p (.int .u64 ((s.take (j + 1)).foldl byteS 14695981039346656037))) (.cons 6 (.p (.int .i64 s.length)) (.cons 7 (.p (.int .i64 (j + 1 : Nat))) .nil)))) (fun _ => [])
    (ke 0 (.cons 0 (.p (.str s)) (.cons 3 (.p (.int .u64 ((s.take s.length).foldl byteS 14695981039346656037))) (.cons 6 (.p (.int .i64 s.length)) (.cons 7 (.p (.int .i64 s.length)) (.cons 8 (.p (.bool false)) .nil))))) [])
    (fun j _ => by kernel_rfl)
    (fun j kn hj => by
      rw [fold_snoc s j hj]
      simp -implicitDefEqProofs (maxSteps := 1000000) only [l76_1, go_sem, ↓reduceIte, Nat.reduceEqDiff, Nat.reduceAdd, Nat.reduceSub, Nat.reduceBEq, Int.reduceEq, Int.reduceLT, Int.reduceLE, Int.reduceNeg, Nat.reduceLeDiff, ix_byte s j hj, wrap_max j (by omega), Int.ofNat_lt.mpr hj, conv_int, b_xor, b_mul, byteS])
    (fun kn => by
      simp -implicitDefEqProofs (maxSteps := 1000000) only [l76_1, go_sem, ↓reduceIte, Nat.reduceEqDiff, Nat.reduceAdd, Nat.reduceSub, Nat.reduceBEq, Int.reduceEq, Int.reduceLT, Int.reduceLE, Int.reduceNeg, Nat.reduceLeDiff, Int.lt_irrefl, if_false]) (m + (21 + s.length))
    (.cons 0 (.p (.str s)) (.cons 3 (.p (.int .u64 14695981039346656037)) (.cons 6 (.p (.int .i64 s.length)) (.cons 7 (.p (.int .i64 0)) .nil)))) [] (by omega) (by kernel_rfl)
  have e : m + (21 + s.length) = (m + s.length) + 21 := by omega
  have gM := fun (x : Int) (raw : Bool) (hp : List Ob) (K : KV) => g_Mix (m + s.length) x raw hp K
  rw [← e] at gM
  simp -implicitDefEqProofs (maxSteps := 1000000) only [h76, go_sem, ↓reduceIte, Nat.reduceEqDiff, Nat.reduceAdd, Nat.reduceSub, Nat.reduceBEq, Int.reduceEq, Int.reduceLT, Int.reduceLE, Int.reduceNeg, Nat.reduceLeDiff, L, List.take_length, gM]
  rfl
theorem g_Text (N : Nat) (s : List Nat) (hs : s.length ≤ maxLen) (hN : 22 + s.length ≤ N) (raw : Bool) (hp : List Ob) (K : KV) : callG (evH tabS N) 76 raw [.p (.str s)] hp K = K (.p (.int .u64 (textS s))) hp := call_known rfl (q_Text N s hs hN) rfl
theorem gF_Text (N : Nat) (s : List Nat) (hs : s.length ≤ maxLen) (hN : 22 + s.length ≤ N) (raw : Bool) (hp : List Ob) (K : KF) : callF (evH tabS N) 76 raw [.p (.str s)] hp K = K (.p (.int .u64 (textS s))) hp (footE hp) := callF_known rfl (q_Text N s hs hN) rfl
theorem q_Actor (N : Nat) (s t : List Nat) (hs : s.length ≤ maxLen) (ht : t.length ≤ maxLen) (hN : 30 + s.length + t.length ≤ N) : evH tabS N 51 [.p (.agg [.str s, .str t])] [] = some (.p (.int .u64 (actorS s t)), []) := by
  obtain ⟨m, rfl⟩ : ∃ m, N = m + 22 + 1 := ⟨N - 23, by omega⟩
  refine (evH_code (show tabS 51 = some (.code h51 [.t 2] true) by kernel_rfl) (m + 22) _ _).trans ?_
  simp -implicitDefEqProofs (maxSteps := 1000000) only [h51, go_sem, ↓reduceIte, Nat.reduceEqDiff, Nat.reduceAdd, Nat.reduceSub, Nat.reduceBEq, Int.reduceEq, Int.reduceLT, Int.reduceLE, Int.reduceNeg, Nat.reduceLeDiff, gF_Text (m + 22) s hs (by omega), gF_Text (m + 22) t ht (by omega), gF_Combine]
  rfl
theorem gF_Actor (N : Nat) (s t : List Nat) (hs : s.length ≤ maxLen) (ht : t.length ≤ maxLen) (hN : 30 + s.length + t.length ≤ N) (raw : Bool) (hp : List Ob) (K : KF) : callF (evH tabS N) 51 raw [.p (.agg [.str s, .str t])] hp K = K (.p (.int .u64 (actorS s t))) hp (footE hp) := callF_known rfl (q_Actor N s t hs ht hN) rfl
end Go.Ab
end
/- Runs with letters: the rollout's operations and the references'. -/
section
namespace Go.Ab
open Go
set_option maxHeartbeats 2000000
set_option maxRecDepth 20000
/-- api.Rollout -/
structure Ro where
  a : Int
  n : Int
  p : Int
def Ro.e (r : Ro) : Da := .agg [.int .i64 r.a, .int .i64 r.n, .int .i64 r.p]
attribute [go_sem] Ro.e
theorem ro_eta (r : Ro) : (⟨r.a, r.n, r.p⟩ : Ro) = r := rfl
theorem wrapIn (n : Int) (h1 : -9223372036854775808 ≤ n) (h2 : n ≤ 9223372036854775807) : wrapF .i64 n = n := by
  cases n with
  | ofNat m =>
    have h2' : ((m : Nat) : Int) ≤ 9223372036854775807 := h2
    exact wrap_nat m (by omega)
  | negSucc m =>
    have h1' : -9223372036854775808 ≤ -((m : Int) + 1) := by rw [← Int.negSucc_eq]; exact h1
    have : Nat.blt m 9223372036854775808 = true := Nat.ble_eq.mpr (by omega)
    simp only [wrapF, this, cond_true]
def roOk (r : Ro) : Bool := decide (1 ≤ r.a ∧ r.a ≤ 4 ∧ 0 ≤ r.p ∧ r.p ≤ 100 ∧ (r.n = 0 ∧ r.p = 0 ∨ r.n ≠ 0 ∧ r.n = r.a + 1 ∧ r.n ≤ 4))
theorem r_Valid (m : Nat) (a : Int) (n : Int) (p : Int) : runH h27 (evH tabS (m + 1)) (m + 1) [.t 2] true [.p (.agg [.int .i64 a, .int .i64 n, .int .i64 p])] [] = some (.p (.bool (roOk ⟨a, n, p⟩)), []) := by
  by_cases h : 1 ≤ a ∧ a ≤ 4
  · have w := wrapIn (a + 1) (by omega) (by omega)
    simp -implicitDefEqProofs (maxSteps := 1000000) only [h27, go_sem, ↓reduceIte, Nat.reduceEqDiff, Nat.reduceAdd, Nat.reduceSub, Nat.reduceBEq, Int.reduceEq, Int.reduceLT, Int.reduceLE, Int.reduceNeg, Nat.reduceLeDiff, w]
    simp only [ite_ans]
    apply ans
    unfold roOk
    grind
  · simp -implicitDefEqProofs (maxSteps := 1000000) only [h27, go_sem, ↓reduceIte, Nat.reduceEqDiff, Nat.reduceAdd, Nat.reduceSub, Nat.reduceBEq, Int.reduceEq, Int.reduceLT, Int.reduceLE, Int.reduceNeg, Nat.reduceLeDiff]
    simp only [ite_ans]
    apply ans
    unfold roOk
    grind
theorem q_Valid (m : Nat) (a : Int) (n : Int) (p : Int) : evH tabS (m + 2) 27 [.p (.agg [.int .i64 a, .int .i64 n, .int .i64 p])] [] = some (.p (.bool (roOk ⟨a, n, p⟩)), []) := (evH_code (show tabS 27 = some (.code h27 [.t 2] true) by kernel_rfl) (m + 1) _ _).trans (r_Valid m a n p)
theorem g_Valid (m : Nat) (a : Int) (n : Int) (p : Int) (raw : Bool) (hp : List Ob) (K : KV) : callG (evH tabS (m + 2)) 27 raw [.p (.agg [.int .i64 a, .int .i64 n, .int .i64 p])] hp K = if (roOk ⟨a, n, p⟩) = true then K (.p (.bool true)) hp else K (.p (.bool false)) hp := call_bool rfl (q_Valid m a n p)
theorem gF_Valid (m : Nat) (a : Int) (n : Int) (p : Int) (raw : Bool) (hp : List Ob) (K : KF) : callF (evH tabS (m + 2)) 27 raw [.p (.agg [.int .i64 a, .int .i64 n, .int .i64 p])] hp K = if (roOk ⟨a, n, p⟩) = true then K (.p (.bool true)) hp (footE hp) else K (.p (.bool false)) hp (footE hp) := callF_bool rfl (q_Valid m a n p)

theorem r_ValidR (m : Nat) (a : Int) (n : Int) (p : Int) : runH h28 (evH tabS (m + 1)) (m + 1) [.t 2] true [.p (.agg [.int .i64 a, .int .i64 n, .int .i64 p])] [] = some (.p (.bool (roOk ⟨a, n, p⟩)), []) := by
  by_cases h : 1 ≤ a ∧ a ≤ 4
  · have w := wrapIn (a + 1) (by omega) (by omega)
    simp -implicitDefEqProofs (maxSteps := 1000000) only [h28, go_sem, ↓reduceIte, Nat.reduceEqDiff, Nat.reduceAdd, Nat.reduceSub, Nat.reduceBEq, Int.reduceEq, Int.reduceLT, Int.reduceLE, Int.reduceNeg, Nat.reduceLeDiff, w]
    simp only [ite_ans]
    apply ans
    unfold roOk
    grind
  · simp -implicitDefEqProofs (maxSteps := 1000000) only [h28, go_sem, ↓reduceIte, Nat.reduceEqDiff, Nat.reduceAdd, Nat.reduceSub, Nat.reduceBEq, Int.reduceEq, Int.reduceLT, Int.reduceLE, Int.reduceNeg, Nat.reduceLeDiff]
    simp only [ite_ans]
    apply ans
    unfold roOk
    grind
theorem q_ValidR (m : Nat) (a : Int) (n : Int) (p : Int) : evH tabS (m + 2) 28 [.p (.agg [.int .i64 a, .int .i64 n, .int .i64 p])] [] = some (.p (.bool (roOk ⟨a, n, p⟩)), []) := (evH_code (show tabS 28 = some (.code h28 [.t 2] true) by kernel_rfl) (m + 1) _ _).trans (r_ValidR m a n p)
theorem g_ValidR (m : Nat) (a : Int) (n : Int) (p : Int) (raw : Bool) (hp : List Ob) (K : KV) : callG (evH tabS (m + 2)) 28 raw [.p (.agg [.int .i64 a, .int .i64 n, .int .i64 p])] hp K = if (roOk ⟨a, n, p⟩) = true then K (.p (.bool true)) hp else K (.p (.bool false)) hp := call_bool rfl (q_ValidR m a n p)
theorem gF_ValidR (m : Nat) (a : Int) (n : Int) (p : Int) (raw : Bool) (hp : List Ob) (K : KF) : callF (evH tabS (m + 2)) 28 raw [.p (.agg [.int .i64 a, .int .i64 n, .int .i64 p])] hp K = if (roOk ⟨a, n, p⟩) = true then K (.p (.bool true)) hp (footE hp) else K (.p (.bool false)) hp (footE hp) := callF_bool rfl (q_ValidR m a n p)

/-- The version that an actor of that bucket wants. -/
def wantS (r : Ro) (b : Int) : Int := if roOk r = true then (if r.n ≠ 0 ∧ b < r.p then r.n else r.a) else 0
theorem q_Want (N : Nat) (a n p : Int) (s t : List Nat) (hs : s.length ≤ maxLen) (ht : t.length ≤ maxLen) (hN : 40 + s.length + t.length ≤ N) : evH tabS N 25 [.p (.agg [.int .i64 a, .int .i64 n, .int .i64 p]), .p (.agg [.str s, .str t])] [] = some (.p (.int .i64 (wantS ⟨a, n, p⟩ (bucketS s t))), []) := by
  obtain ⟨m, rfl⟩ : ∃ m, N = m + 22 + 1 := ⟨N - 23, by omega⟩
  refine (evH_code (show tabS 25 = some (.code h25 [.t 4] true) by kernel_rfl) (m + 22) _ _).trans ?_
  have hr := fun (h : List Ob) (k : D → R) => b_rem .u64 (actorS s t) 100 k (by decide)
  cases hv : roOk ⟨a, n, p⟩ with
  | false => simp -implicitDefEqProofs (maxSteps := 1000000) only [h25, go_sem, ↓reduceIte, Nat.reduceEqDiff, Nat.reduceAdd, Nat.reduceSub, Nat.reduceBEq, Int.reduceEq, Int.reduceLT, Int.reduceLE, Int.reduceNeg, Nat.reduceLeDiff, g_Valid, hv, wantS]
  | true =>
    by_cases h0 : n = 0
    · simp -implicitDefEqProofs (maxSteps := 1000000) only [h25, go_sem, ↓reduceIte, Nat.reduceEqDiff, Nat.reduceAdd, Nat.reduceSub, Nat.reduceBEq, Int.reduceEq, Int.reduceLT, Int.reduceLE, Int.reduceNeg, Nat.reduceLeDiff, g_Valid, hv, wantS, eq_true h0, ne_eq, not_true, false_and]
    · by_cases h1 : bucketS s t < p
      · have h1' := h1
        unfold bucketS at h1'
        simp -implicitDefEqProofs (maxSteps := 1000000) only [h25, go_sem, ↓reduceIte, Nat.reduceEqDiff, Nat.reduceAdd, Nat.reduceSub, Nat.reduceBEq, Int.reduceEq, Int.reduceLT, Int.reduceLE, Int.reduceNeg, Nat.reduceLeDiff, g_Valid, hv, wantS, h0, gF_Actor (m + 22) s t hs ht (by omega), b_rem, conv_int, eq_true h1', eq_true h1, ne_eq, not_false_eq_true, true_and, and_self]
      · have h1' := h1
        unfold bucketS at h1'
        simp -implicitDefEqProofs (maxSteps := 1000000) only [h25, go_sem, ↓reduceIte, Nat.reduceEqDiff, Nat.reduceAdd, Nat.reduceSub, Nat.reduceBEq, Int.reduceEq, Int.reduceLT, Int.reduceLE, Int.reduceNeg, Nat.reduceLeDiff, g_Valid, hv, wantS, h0, gF_Actor (m + 22) s t hs ht (by omega), b_rem, conv_int, h1', h1, ne_eq, not_false_eq_true, and_false]
end Go.Ab
end
/- The law RolloutShare on letters. -/
section
namespace Go.Ab
open Go
set_option maxHeartbeats 2000000
set_option maxRecDepth 20000
theorem g_awk (m : Nat) (raw : Bool) (hp : List Ob) (K : KV) : callG (evH tabS (m + 1)) 8 raw [] hp K = K (.p (.bool true)) hp :=
  call_known rfl ((evH_prim (xs := []) (show tabS 8 = some (.prim (memo [([], some (.p (.bool true), []))])) by kernel_rfl) m).trans (by kernel_rfl)) rfl
theorem g_Want (N : Nat) (a n p : Int) (s t : List Nat) (hs : s.length ≤ maxLen) (ht : t.length ≤ maxLen) (hN : 40 + s.length + t.length ≤ N) (raw : Bool) (hp : List Ob) (K : KV) : callG (evH tabS N) 25 raw [.p (.agg [.int .i64 a, .int .i64 n, .int .i64 p]), .p (.agg [.str s, .str t])] hp K = K (.p (.int .i64 (wantS ⟨a, n, p⟩ (bucketS s t)))) hp := call_known rfl (q_Want N a n p s t hs ht hN) rfl
theorem gF_Want (N : Nat) (a n p : Int) (s t : List Nat) (hs : s.length ≤ maxLen) (ht : t.length ≤ maxLen) (hN : 40 + s.length + t.length ≤ N) (raw : Bool) (hp : List Ob) (K : KF) : callF (evH tabS N) 25 raw [.p (.agg [.int .i64 a, .int .i64 n, .int .i64 p]), .p (.agg [.str s, .str t])] hp K = K (.p (.int .i64 (wantS ⟨a, n, p⟩ (bucketS s t)))) hp (footE hp) := callF_known rfl (q_Want N a n p s t hs ht hN) rfl
theorem q_wantL (N : Nat) (a p : Int) (h1 : 1 ≤ a) (h2 : a ≤ 3) (s t : List Nat) (hs : s.length ≤ maxLen) (ht : t.length ≤ maxLen) (hN : 50 + s.length + t.length ≤ N) : evH tabS N 9 [.p (.int .i64 a), .p (.int .i64 p), .p (.agg [.str s, .str t])] [] = some (.p (.int .i64 (wantS ⟨a, a + 1, p⟩ (bucketS s t))), []) := by
  obtain ⟨m, rfl⟩ : ∃ m, N = m + 1 := ⟨N - 1, by omega⟩
  refine (evH_code (show tabS 9 = some (.code h9 [.t 6] true) by kernel_rfl) m _ _).trans ?_
  simp -implicitDefEqProofs (maxSteps := 1000000) only [h9, go_sem, ↓reduceIte, Nat.reduceEqDiff, Nat.reduceAdd, Nat.reduceSub, Nat.reduceBEq, Int.reduceEq, Int.reduceLT, Int.reduceLE, Int.reduceNeg, Nat.reduceLeDiff, g_Want m a (a + 1) p s t hs ht (by omega), wrapIn (a + 1) (by omega) (by omega)]
theorem g_wantL (N : Nat) (a p : Int) (h1 : 1 ≤ a) (h2 : a ≤ 3) (s t : List Nat) (hs : s.length ≤ maxLen) (ht : t.length ≤ maxLen) (hN : 50 + s.length + t.length ≤ N) (raw : Bool) (hp : List Ob) (K : KV) : callG (evH tabS N) 9 raw [.p (.int .i64 a), .p (.int .i64 p), .p (.agg [.str s, .str t])] hp K = K (.p (.int .i64 (wantS ⟨a, a + 1, p⟩ (bucketS s t)))) hp := call_known rfl (q_wantL N a p h1 h2 s t hs ht hN) rfl
theorem gF_wantL (N : Nat) (a p : Int) (h1 : 1 ≤ a) (h2 : a ≤ 3) (s t : List Nat) (hs : s.length ≤ maxLen) (ht : t.length ≤ maxLen) (hN : 50 + s.length + t.length ≤ N) (raw : Bool) (hp : List Ob) (K : KF) : callF (evH tabS N) 9 raw [.p (.int .i64 a), .p (.int .i64 p), .p (.agg [.str s, .str t])] hp K = K (.p (.int .i64 (wantS ⟨a, a + 1, p⟩ (bucketS s t)))) hp (footE hp) := callF_known rfl (q_wantL N a p h1 h2 s t hs ht hN) rfl
theorem wantS_in (a p b : Int) (h1 : 1 ≤ a) (h2 : a ≤ 3) (h3 : 0 ≤ p) (h4 : p ≤ 100) : wantS ⟨a, a + 1, p⟩ b = if b < p then a + 1 else a := by
  have : roOk ⟨a, a + 1, p⟩ = true := by
    simp only [roOk, decide_eq_true_eq]
    exact ⟨h1, by omega, h3, h4, .inr ⟨by omega, trivial, by omega⟩⟩
  have h5 : a + 1 ≠ 0 := by omega
  simp only [wantS, this, if_true, h5, ne_eq, not_false_eq_true, true_and]
theorem small_mod (n k : Int) (h1 : 0 ≤ n) (h2 : n < 256) (hk : 0 < k) (hk2 : k ≤ 256) : 0 ≤ n.tmod k ∧ n.tmod k < k ∧ wrapF .i64 (n.tmod k) = n.tmod k := by
  have a1 := Int.tmod_nonneg k h1
  have a2 := Int.tmod_lt_of_pos n hk
  exact ⟨a1, a2, wrapIn _ (by omega) (by omega)⟩
theorem q_Share (N : Nat) (a p q : Int) (ha : 0 ≤ a ∧ a < 256) (hp : 0 ≤ p ∧ p < 256) (hq : 0 ≤ q ∧ q < 256) (s t : List Nat) (hs : s.length ≤ maxLen) (ht : t.length ≤ maxLen) (hN : 60 + s.length + t.length ≤ N) :
    evH tabS N 3 [.p (.int .u8 a), .p (.int .u8 p), .p (.int .u8 q), .p (.agg [.str s, .str t])] [] = some (.p (.bool true), []) := by
  obtain ⟨m, rfl⟩ : ∃ m, N = m + 1 + 1 := ⟨N - 2, by omega⟩
  refine (evH_code (show tabS 3 = some (.code h3 [.t 8] true) by kernel_rfl) (m + 1) _ _).trans ?_
  obtain ⟨a1, a2, a3⟩ := small_mod a 3 ha.1 ha.2 (by decide) (by decide)
  obtain ⟨p1, p2, p3⟩ := small_mod p 101 hp.1 hp.2 (by decide) (by decide)
  obtain ⟨q1, q2, q3⟩ := small_mod q 101 hq.1 hq.2 (by decide) (by decide)
  have ra := fun (k : D → R) => b_rem .u8 a 3 k (by decide)
  have rp := fun (k : D → R) => b_rem .u8 p 101 k (by decide)
  have rq := fun (k : D → R) => b_rem .u8 q 101 k (by decide)
  generalize a.tmod 3 = A at ra a1 a2 a3
  generalize p.tmod 101 = B at rp p1 p2 p3
  generalize q.tmod 101 = C at rq q1 q2 q3
  have a4 := wrapIn (A + 1) (by omega) (by omega)
  have a5 := wrapIn (A + 1 + 1) (by omega) (by omega)
  obtain ⟨b1, b2⟩ := bucket_in s t
  have w := fun (P : Int) (raw : Bool) (hp : List Ob) (K : KV) => g_wantL (m + 1) (A + 1) P (by omega) (by omega) s t hs ht (by omega) raw hp K
  have wF := fun (P : Int) (raw : Bool) (hp : List Ob) (K : KF) => gF_wantL (m + 1) (A + 1) P (by omega) (by omega) s t hs ht (by omega) raw hp K
  generalize bucketS s t = bk at b1 b2 w wF
  have e := fun (P : Int) => wantS_in (A + 1) P bk (by omega) (by omega)
  have e0 : wantS ⟨A + 1, A + 1 + 1, 0⟩ bk = A + 1 := by rw [e 0 (by omega) (by omega)]; exact if_neg (by omega)
  have e1 : wantS ⟨A + 1, A + 1 + 1, 100⟩ bk = A + 1 + 1 := by rw [e 100 (by omega) (by omega)]; exact if_pos (by omega)
  have eB := e B (by omega) (by omega)
  have eC := e C (by omega) (by omega)
  by_cases hc : C < B
  · have z1 : wantS ⟨A + 1, A + 1 + 1, C⟩ bk ≤ wantS ⟨A + 1, A + 1 + 1, B⟩ bk := by rw [eB, eC]; split <;> split <;> omega
    have z2 : wantS ⟨A + 1, A + 1 + 1, B⟩ bk ≤ A + 1 + 1 := by rw [eB]; split <;> omega
    have z3 : A + 1 ≤ wantS ⟨A + 1, A + 1 + 1, C⟩ bk := by rw [eC]; split <;> omega
    simp -implicitDefEqProofs (maxSteps := 1000000) only [h3, go_sem, ↓reduceIte, Nat.reduceEqDiff, Nat.reduceAdd, Nat.reduceSub, Nat.reduceBEq, Int.reduceEq, Int.reduceLT, Int.reduceLE, Int.reduceNeg, Nat.reduceLeDiff, g_awk, ra, rp, rq, conv_int, a3, a4, a5, p3, q3, eq_true hc, w, wF, e0, e1, eq_true z1, eq_true z2, eq_true z3]
  · have z1 : wantS ⟨A + 1, A + 1 + 1, B⟩ bk ≤ wantS ⟨A + 1, A + 1 + 1, C⟩ bk := by rw [eB, eC]; split <;> split <;> omega
    have z2 : wantS ⟨A + 1, A + 1 + 1, C⟩ bk ≤ A + 1 + 1 := by rw [eC]; split <;> omega
    have z3 : A + 1 ≤ wantS ⟨A + 1, A + 1 + 1, B⟩ bk := by rw [eB]; split <;> omega
    simp -implicitDefEqProofs (maxSteps := 1000000) only [h3, go_sem, ↓reduceIte, Nat.reduceEqDiff, Nat.reduceAdd, Nat.reduceSub, Nat.reduceBEq, Int.reduceEq, Int.reduceLT, Int.reduceLE, Int.reduceNeg, Nat.reduceLeDiff, g_awk, ra, rp, rq, conv_int, a3, a4, a5, p3, q3, hc, w, wF, e0, e1, eq_true z1, eq_true z2, eq_true z3]
end Go.Ab
end
/- Runs with letters: what the rollout's operations return. -/
section
namespace Go.Ab
open Go
set_option maxHeartbeats 2000000
set_option maxRecDepth 20000
def ro0 : Ro := ⟨0, 0, 0⟩
theorem roOk_a {r : Ro} (h : roOk r = true) : 1 ≤ r.a ∧ r.a ≤ 4 ∧ (r.n = 0 → r.p = 0) := by
  simp only [roOk, decide_eq_true_eq] at h
  obtain ⟨h1, h2, _, _, h5⟩ := h
  refine ⟨h1, h2, fun h0 => ?_⟩
  rcases h5 with h5 | h5
  · exact h5.2
  · exact absurd h0 h5.1
def beginS (r : Ro) (next vers : Int) : Ro × Int :=
  if roOk r = true then (if vers < 1 then (ro0, 1) else if 4 < vers then (ro0, 1) else if r.n = 0 then (if next = r.a + 1 then (if vers < next then (ro0, 25) else (⟨r.a, next, 0⟩, 0)) else (ro0, 25)) else (ro0, 12)) else (ro0, 1)
def advanceS (r : Ro) (percent : Int) : Ro × Int :=
  if roOk r = true then (if percent < 0 then (ro0, 1) else if 100 < percent then (ro0, 1) else if r.n = 0 then (ro0, 6) else if percent < r.p then (ro0, 8) else (⟨r.a, r.n, percent⟩, 0)) else (ro0, 1)
def finishS (r : Ro) : Ro × Int :=
  if roOk r = true then (if r.n = 0 then (ro0, 6) else if r.p < 100 then (ro0, 12) else (⟨r.n, 0, 0⟩, 0)) else (ro0, 1)
def cancelS (r : Ro) : Ro × Int :=
  if roOk r = true then (if r.n = 0 then (ro0, 6) else if 0 < r.p then (ro0, 12) else (⟨r.a, 0, 0⟩, 0)) else (ro0, 1)

theorem r_Start (m : Nat)  : runH h29 (evH tabS (m + 1)) (m + 1) [.cell 0 3 true] true [] [] = some (.p (.agg [.int .i64 1, .int .i64 0, .int .i64 0]), []) := by
  simp -implicitDefEqProofs (maxSteps := 1000000) only [h29, go_sem, ↓reduceIte, Nat.reduceEqDiff, Nat.reduceAdd, Nat.reduceSub, Nat.reduceBEq, Int.reduceEq, Int.reduceLT, Int.reduceLE, Int.reduceNeg, Nat.reduceLeDiff]
theorem q_Start (m : Nat)  : evH tabS (m + 2) 29 [] [] = some (.p (.agg [.int .i64 1, .int .i64 0, .int .i64 0]), []) := (evH_code (show tabS 29 = some (.code h29 [.cell 0 3 true] true) by kernel_rfl) (m + 1) _ _).trans (r_Start m )
theorem g_Start (m : Nat)  (raw : Bool) (hp : List Ob) (K : KV) : callG (evH tabS (m + 2)) 29 raw [] hp K = K (.p (.agg [.int .i64 1, .int .i64 0, .int .i64 0])) hp := call_known rfl (q_Start m ) rfl
theorem gF_Start (m : Nat)  (raw : Bool) (hp : List Ob) (K : KF) : callF (evH tabS (m + 2)) 29 raw [] hp K = K (.p (.agg [.int .i64 1, .int .i64 0, .int .i64 0])) hp (footE hp) := callF_known rfl (q_Start m ) rfl

theorem r_StartR (m : Nat)  : runH h30 (evH tabS (m + 1)) (m + 1) [.cell 0 3 true] true [] [] = some (.p (.agg [.int .i64 1, .int .i64 0, .int .i64 0]), []) := by
  simp -implicitDefEqProofs (maxSteps := 1000000) only [h30, go_sem, ↓reduceIte, Nat.reduceEqDiff, Nat.reduceAdd, Nat.reduceSub, Nat.reduceBEq, Int.reduceEq, Int.reduceLT, Int.reduceLE, Int.reduceNeg, Nat.reduceLeDiff]
theorem q_StartR (m : Nat)  : evH tabS (m + 2) 30 [] [] = some (.p (.agg [.int .i64 1, .int .i64 0, .int .i64 0]), []) := (evH_code (show tabS 30 = some (.code h30 [.cell 0 3 true] true) by kernel_rfl) (m + 1) _ _).trans (r_StartR m )
theorem g_StartR (m : Nat)  (raw : Bool) (hp : List Ob) (K : KV) : callG (evH tabS (m + 2)) 30 raw [] hp K = K (.p (.agg [.int .i64 1, .int .i64 0, .int .i64 0])) hp := call_known rfl (q_StartR m ) rfl
theorem gF_StartR (m : Nat)  (raw : Bool) (hp : List Ob) (K : KF) : callF (evH tabS (m + 2)) 30 raw [] hp K = K (.p (.agg [.int .i64 1, .int .i64 0, .int .i64 0])) hp (footE hp) := callF_known rfl (q_StartR m ) rfl

theorem r_Begin (m : Nat) (a : Int) (n : Int) (p : Int) (next : Int) (vers : Int) : runH h17 (evH tabS (m + 5)) (m + 5) [.cell 6 3 true, .t 7] true [.p (.agg [.int .i64 a, .int .i64 n, .int .i64 p]), .p (.int .i64 next), .p (.int .i64 vers)] [] = some (.tup [.p (beginS ⟨a, n, p⟩ next vers).1.e, .p (.int .i64 (beginS ⟨a, n, p⟩ next vers).2)], []) := by
  cases hv : roOk ⟨a, n, p⟩ with
  | false => simp -implicitDefEqProofs (maxSteps := 1000000) only [h17, go_sem, ↓reduceIte, Nat.reduceEqDiff, Nat.reduceAdd, Nat.reduceSub, Nat.reduceBEq, Int.reduceEq, Int.reduceLT, Int.reduceLE, Int.reduceNeg, Nat.reduceLeDiff, g_Valid, hv, beginS, ro0]
  | true =>
    have ⟨(a1 : 1 ≤ a), (a2 : a ≤ 4), (a3 : n = 0 → p = 0)⟩ := roOk_a hv
    have w := wrapIn (a + 1) (by omega) (by omega)
    by_cases v1 : vers < 1
    · simp -implicitDefEqProofs (maxSteps := 1000000) only [h17, go_sem, ↓reduceIte, Nat.reduceEqDiff, Nat.reduceAdd, Nat.reduceSub, Nat.reduceBEq, Int.reduceEq, Int.reduceLT, Int.reduceLE, Int.reduceNeg, Nat.reduceLeDiff, g_Valid, hv, beginS, ro0, eq_true v1]
    · by_cases v2 : 4 < vers
      · simp -implicitDefEqProofs (maxSteps := 1000000) only [h17, go_sem, ↓reduceIte, Nat.reduceEqDiff, Nat.reduceAdd, Nat.reduceSub, Nat.reduceBEq, Int.reduceEq, Int.reduceLT, Int.reduceLE, Int.reduceNeg, Nat.reduceLeDiff, g_Valid, hv, beginS, ro0, v1, eq_true v2]
      · by_cases n0 : n = 0
        · have p0 : p = 0 := a3 n0
          subst n0 p0
          by_cases x : next = a + 1
          · by_cases y : vers < next
            · simp -implicitDefEqProofs (maxSteps := 1000000) only [h17, go_sem, ↓reduceIte, Nat.reduceEqDiff, Nat.reduceAdd, Nat.reduceSub, Nat.reduceBEq, Int.reduceEq, Int.reduceLT, Int.reduceLE, Int.reduceNeg, Nat.reduceLeDiff, g_Valid, hv, beginS, ro0, v1, v2, w, eq_true x, eq_true y]
            · simp -implicitDefEqProofs (maxSteps := 1000000) only [h17, go_sem, ↓reduceIte, Nat.reduceEqDiff, Nat.reduceAdd, Nat.reduceSub, Nat.reduceBEq, Int.reduceEq, Int.reduceLT, Int.reduceLE, Int.reduceNeg, Nat.reduceLeDiff, g_Valid, hv, beginS, ro0, v1, v2, w, eq_true x, y]
          · simp -implicitDefEqProofs (maxSteps := 1000000) only [h17, go_sem, ↓reduceIte, Nat.reduceEqDiff, Nat.reduceAdd, Nat.reduceSub, Nat.reduceBEq, Int.reduceEq, Int.reduceLT, Int.reduceLE, Int.reduceNeg, Nat.reduceLeDiff, g_Valid, hv, beginS, ro0, v1, v2, w, x]
        · simp -implicitDefEqProofs (maxSteps := 1000000) only [h17, go_sem, ↓reduceIte, Nat.reduceEqDiff, Nat.reduceAdd, Nat.reduceSub, Nat.reduceBEq, Int.reduceEq, Int.reduceLT, Int.reduceLE, Int.reduceNeg, Nat.reduceLeDiff, g_Valid, hv, beginS, ro0, v1, v2, n0]
theorem q_Begin (m : Nat) (a : Int) (n : Int) (p : Int) (next : Int) (vers : Int) : evH tabS (m + 6) 17 [.p (.agg [.int .i64 a, .int .i64 n, .int .i64 p]), .p (.int .i64 next), .p (.int .i64 vers)] [] = some (.tup [.p (beginS ⟨a, n, p⟩ next vers).1.e, .p (.int .i64 (beginS ⟨a, n, p⟩ next vers).2)], []) := (evH_code (show tabS 17 = some (.code h17 [.cell 6 3 true, .t 7] true) by kernel_rfl) (m + 5) _ _).trans (r_Begin m a n p next vers)
theorem g_Begin (m : Nat) (a : Int) (n : Int) (p : Int) (next : Int) (vers : Int) (raw : Bool) (hp : List Ob) (K : KV) : callG (evH tabS (m + 6)) 17 raw [.p (.agg [.int .i64 a, .int .i64 n, .int .i64 p]), .p (.int .i64 next), .p (.int .i64 vers)] hp K = K (.tup [.p (beginS ⟨a, n, p⟩ next vers).1.e, .p (.int .i64 (beginS ⟨a, n, p⟩ next vers).2)]) hp := call_known rfl (q_Begin m a n p next vers) rfl
theorem gF_Begin (m : Nat) (a : Int) (n : Int) (p : Int) (next : Int) (vers : Int) (raw : Bool) (hp : List Ob) (K : KF) : callF (evH tabS (m + 6)) 17 raw [.p (.agg [.int .i64 a, .int .i64 n, .int .i64 p]), .p (.int .i64 next), .p (.int .i64 vers)] hp K = K (.tup [.p (beginS ⟨a, n, p⟩ next vers).1.e, .p (.int .i64 (beginS ⟨a, n, p⟩ next vers).2)]) hp (footE hp) := callF_known rfl (q_Begin m a n p next vers) rfl

theorem r_BeginR (m : Nat) (a : Int) (n : Int) (p : Int) (next : Int) (vers : Int) : runH h18 (evH tabS (m + 5)) (m + 5) [.cell 6 3 true, .t 7] true [.p (.agg [.int .i64 a, .int .i64 n, .int .i64 p]), .p (.int .i64 next), .p (.int .i64 vers)] [] = some (.tup [.p (beginS ⟨a, n, p⟩ next vers).1.e, .p (.int .i64 (beginS ⟨a, n, p⟩ next vers).2)], []) := by
  cases hv : roOk ⟨a, n, p⟩ with
  | false => simp -implicitDefEqProofs (maxSteps := 1000000) only [h18, go_sem, ↓reduceIte, Nat.reduceEqDiff, Nat.reduceAdd, Nat.reduceSub, Nat.reduceBEq, Int.reduceEq, Int.reduceLT, Int.reduceLE, Int.reduceNeg, Nat.reduceLeDiff, g_ValidR, hv, beginS, ro0]
  | true =>
    have ⟨(a1 : 1 ≤ a), (a2 : a ≤ 4), (a3 : n = 0 → p = 0)⟩ := roOk_a hv
    have w := wrapIn (a + 1) (by omega) (by omega)
    by_cases v1 : vers < 1
    · simp -implicitDefEqProofs (maxSteps := 1000000) only [h18, go_sem, ↓reduceIte, Nat.reduceEqDiff, Nat.reduceAdd, Nat.reduceSub, Nat.reduceBEq, Int.reduceEq, Int.reduceLT, Int.reduceLE, Int.reduceNeg, Nat.reduceLeDiff, g_ValidR, hv, beginS, ro0, eq_true v1]
    · by_cases v2 : 4 < vers
      · simp -implicitDefEqProofs (maxSteps := 1000000) only [h18, go_sem, ↓reduceIte, Nat.reduceEqDiff, Nat.reduceAdd, Nat.reduceSub, Nat.reduceBEq, Int.reduceEq, Int.reduceLT, Int.reduceLE, Int.reduceNeg, Nat.reduceLeDiff, g_ValidR, hv, beginS, ro0, v1, eq_true v2]
      · by_cases n0 : n = 0
        · have p0 : p = 0 := a3 n0
          subst n0 p0
          by_cases x : next = a + 1
          · by_cases y : vers < next
            · simp -implicitDefEqProofs (maxSteps := 1000000) only [h18, go_sem, ↓reduceIte, Nat.reduceEqDiff, Nat.reduceAdd, Nat.reduceSub, Nat.reduceBEq, Int.reduceEq, Int.reduceLT, Int.reduceLE, Int.reduceNeg, Nat.reduceLeDiff, g_ValidR, hv, beginS, ro0, v1, v2, w, eq_true x, eq_true y]
            · simp -implicitDefEqProofs (maxSteps := 1000000) only [h18, go_sem, ↓reduceIte, Nat.reduceEqDiff, Nat.reduceAdd, Nat.reduceSub, Nat.reduceBEq, Int.reduceEq, Int.reduceLT, Int.reduceLE, Int.reduceNeg, Nat.reduceLeDiff, g_ValidR, hv, beginS, ro0, v1, v2, w, eq_true x, y]
          · simp -implicitDefEqProofs (maxSteps := 1000000) only [h18, go_sem, ↓reduceIte, Nat.reduceEqDiff, Nat.reduceAdd, Nat.reduceSub, Nat.reduceBEq, Int.reduceEq, Int.reduceLT, Int.reduceLE, Int.reduceNeg, Nat.reduceLeDiff, g_ValidR, hv, beginS, ro0, v1, v2, w, x]
        · simp -implicitDefEqProofs (maxSteps := 1000000) only [h18, go_sem, ↓reduceIte, Nat.reduceEqDiff, Nat.reduceAdd, Nat.reduceSub, Nat.reduceBEq, Int.reduceEq, Int.reduceLT, Int.reduceLE, Int.reduceNeg, Nat.reduceLeDiff, g_ValidR, hv, beginS, ro0, v1, v2, n0]
theorem q_BeginR (m : Nat) (a : Int) (n : Int) (p : Int) (next : Int) (vers : Int) : evH tabS (m + 6) 18 [.p (.agg [.int .i64 a, .int .i64 n, .int .i64 p]), .p (.int .i64 next), .p (.int .i64 vers)] [] = some (.tup [.p (beginS ⟨a, n, p⟩ next vers).1.e, .p (.int .i64 (beginS ⟨a, n, p⟩ next vers).2)], []) := (evH_code (show tabS 18 = some (.code h18 [.cell 6 3 true, .t 7] true) by kernel_rfl) (m + 5) _ _).trans (r_BeginR m a n p next vers)
theorem g_BeginR (m : Nat) (a : Int) (n : Int) (p : Int) (next : Int) (vers : Int) (raw : Bool) (hp : List Ob) (K : KV) : callG (evH tabS (m + 6)) 18 raw [.p (.agg [.int .i64 a, .int .i64 n, .int .i64 p]), .p (.int .i64 next), .p (.int .i64 vers)] hp K = K (.tup [.p (beginS ⟨a, n, p⟩ next vers).1.e, .p (.int .i64 (beginS ⟨a, n, p⟩ next vers).2)]) hp := call_known rfl (q_BeginR m a n p next vers) rfl
theorem gF_BeginR (m : Nat) (a : Int) (n : Int) (p : Int) (next : Int) (vers : Int) (raw : Bool) (hp : List Ob) (K : KF) : callF (evH tabS (m + 6)) 18 raw [.p (.agg [.int .i64 a, .int .i64 n, .int .i64 p]), .p (.int .i64 next), .p (.int .i64 vers)] hp K = K (.tup [.p (beginS ⟨a, n, p⟩ next vers).1.e, .p (.int .i64 (beginS ⟨a, n, p⟩ next vers).2)]) hp (footE hp) := callF_known rfl (q_BeginR m a n p next vers) rfl

theorem r_Advance (m : Nat) (a : Int) (n : Int) (p : Int) (pc : Int) : runH h19 (evH tabS (m + 5)) (m + 5) [.cell 4 3 true, .t 5] true [.p (.agg [.int .i64 a, .int .i64 n, .int .i64 p]), .p (.int .i64 pc)] [] = some (.tup [.p (advanceS ⟨a, n, p⟩ pc).1.e, .p (.int .i64 (advanceS ⟨a, n, p⟩ pc).2)], []) := by
  cases hv : roOk ⟨a, n, p⟩ with
  | false => simp -implicitDefEqProofs (maxSteps := 1000000) only [h19, go_sem, ↓reduceIte, Nat.reduceEqDiff, Nat.reduceAdd, Nat.reduceSub, Nat.reduceBEq, Int.reduceEq, Int.reduceLT, Int.reduceLE, Int.reduceNeg, Nat.reduceLeDiff, g_Valid, hv, advanceS, ro0]
  | true =>
    by_cases v1 : pc < 0
    · simp -implicitDefEqProofs (maxSteps := 1000000) only [h19, go_sem, ↓reduceIte, Nat.reduceEqDiff, Nat.reduceAdd, Nat.reduceSub, Nat.reduceBEq, Int.reduceEq, Int.reduceLT, Int.reduceLE, Int.reduceNeg, Nat.reduceLeDiff, g_Valid, hv, advanceS, ro0, eq_true v1]
    · by_cases v2 : 100 < pc
      · simp -implicitDefEqProofs (maxSteps := 1000000) only [h19, go_sem, ↓reduceIte, Nat.reduceEqDiff, Nat.reduceAdd, Nat.reduceSub, Nat.reduceBEq, Int.reduceEq, Int.reduceLT, Int.reduceLE, Int.reduceNeg, Nat.reduceLeDiff, g_Valid, hv, advanceS, ro0, v1, eq_true v2]
      · by_cases n0 : n = 0
        · simp -implicitDefEqProofs (maxSteps := 1000000) only [h19, go_sem, ↓reduceIte, Nat.reduceEqDiff, Nat.reduceAdd, Nat.reduceSub, Nat.reduceBEq, Int.reduceEq, Int.reduceLT, Int.reduceLE, Int.reduceNeg, Nat.reduceLeDiff, g_Valid, hv, advanceS, ro0, v1, v2, eq_true n0]
        · by_cases x : pc < p
          · simp -implicitDefEqProofs (maxSteps := 1000000) only [h19, go_sem, ↓reduceIte, Nat.reduceEqDiff, Nat.reduceAdd, Nat.reduceSub, Nat.reduceBEq, Int.reduceEq, Int.reduceLT, Int.reduceLE, Int.reduceNeg, Nat.reduceLeDiff, g_Valid, hv, advanceS, ro0, v1, v2, n0, eq_true x]
          · simp -implicitDefEqProofs (maxSteps := 1000000) only [h19, go_sem, ↓reduceIte, Nat.reduceEqDiff, Nat.reduceAdd, Nat.reduceSub, Nat.reduceBEq, Int.reduceEq, Int.reduceLT, Int.reduceLE, Int.reduceNeg, Nat.reduceLeDiff, g_Valid, hv, advanceS, ro0, v1, v2, n0, x]
theorem q_Advance (m : Nat) (a : Int) (n : Int) (p : Int) (pc : Int) : evH tabS (m + 6) 19 [.p (.agg [.int .i64 a, .int .i64 n, .int .i64 p]), .p (.int .i64 pc)] [] = some (.tup [.p (advanceS ⟨a, n, p⟩ pc).1.e, .p (.int .i64 (advanceS ⟨a, n, p⟩ pc).2)], []) := (evH_code (show tabS 19 = some (.code h19 [.cell 4 3 true, .t 5] true) by kernel_rfl) (m + 5) _ _).trans (r_Advance m a n p pc)
theorem g_Advance (m : Nat) (a : Int) (n : Int) (p : Int) (pc : Int) (raw : Bool) (hp : List Ob) (K : KV) : callG (evH tabS (m + 6)) 19 raw [.p (.agg [.int .i64 a, .int .i64 n, .int .i64 p]), .p (.int .i64 pc)] hp K = K (.tup [.p (advanceS ⟨a, n, p⟩ pc).1.e, .p (.int .i64 (advanceS ⟨a, n, p⟩ pc).2)]) hp := call_known rfl (q_Advance m a n p pc) rfl
theorem gF_Advance (m : Nat) (a : Int) (n : Int) (p : Int) (pc : Int) (raw : Bool) (hp : List Ob) (K : KF) : callF (evH tabS (m + 6)) 19 raw [.p (.agg [.int .i64 a, .int .i64 n, .int .i64 p]), .p (.int .i64 pc)] hp K = K (.tup [.p (advanceS ⟨a, n, p⟩ pc).1.e, .p (.int .i64 (advanceS ⟨a, n, p⟩ pc).2)]) hp (footE hp) := callF_known rfl (q_Advance m a n p pc) rfl

theorem r_AdvanceR (m : Nat) (a : Int) (n : Int) (p : Int) (pc : Int) : runH h20 (evH tabS (m + 5)) (m + 5) [.cell 4 3 true, .t 5] true [.p (.agg [.int .i64 a, .int .i64 n, .int .i64 p]), .p (.int .i64 pc)] [] = some (.tup [.p (advanceS ⟨a, n, p⟩ pc).1.e, .p (.int .i64 (advanceS ⟨a, n, p⟩ pc).2)], []) := by
  cases hv : roOk ⟨a, n, p⟩ with
  | false => simp -implicitDefEqProofs (maxSteps := 1000000) only [h20, go_sem, ↓reduceIte, Nat.reduceEqDiff, Nat.reduceAdd, Nat.reduceSub, Nat.reduceBEq, Int.reduceEq, Int.reduceLT, Int.reduceLE, Int.reduceNeg, Nat.reduceLeDiff, g_ValidR, hv, advanceS, ro0]
  | true =>
    by_cases v1 : pc < 0
    · simp -implicitDefEqProofs (maxSteps := 1000000) only [h20, go_sem, ↓reduceIte, Nat.reduceEqDiff, Nat.reduceAdd, Nat.reduceSub, Nat.reduceBEq, Int.reduceEq, Int.reduceLT, Int.reduceLE, Int.reduceNeg, Nat.reduceLeDiff, g_ValidR, hv, advanceS, ro0, eq_true v1]
    · by_cases v2 : 100 < pc
      · simp -implicitDefEqProofs (maxSteps := 1000000) only [h20, go_sem, ↓reduceIte, Nat.reduceEqDiff, Nat.reduceAdd, Nat.reduceSub, Nat.reduceBEq, Int.reduceEq, Int.reduceLT, Int.reduceLE, Int.reduceNeg, Nat.reduceLeDiff, g_ValidR, hv, advanceS, ro0, v1, eq_true v2]
      · by_cases n0 : n = 0
        · simp -implicitDefEqProofs (maxSteps := 1000000) only [h20, go_sem, ↓reduceIte, Nat.reduceEqDiff, Nat.reduceAdd, Nat.reduceSub, Nat.reduceBEq, Int.reduceEq, Int.reduceLT, Int.reduceLE, Int.reduceNeg, Nat.reduceLeDiff, g_ValidR, hv, advanceS, ro0, v1, v2, eq_true n0]
        · by_cases x : pc < p
          · simp -implicitDefEqProofs (maxSteps := 1000000) only [h20, go_sem, ↓reduceIte, Nat.reduceEqDiff, Nat.reduceAdd, Nat.reduceSub, Nat.reduceBEq, Int.reduceEq, Int.reduceLT, Int.reduceLE, Int.reduceNeg, Nat.reduceLeDiff, g_ValidR, hv, advanceS, ro0, v1, v2, n0, eq_true x]
          · simp -implicitDefEqProofs (maxSteps := 1000000) only [h20, go_sem, ↓reduceIte, Nat.reduceEqDiff, Nat.reduceAdd, Nat.reduceSub, Nat.reduceBEq, Int.reduceEq, Int.reduceLT, Int.reduceLE, Int.reduceNeg, Nat.reduceLeDiff, g_ValidR, hv, advanceS, ro0, v1, v2, n0, x]
theorem q_AdvanceR (m : Nat) (a : Int) (n : Int) (p : Int) (pc : Int) : evH tabS (m + 6) 20 [.p (.agg [.int .i64 a, .int .i64 n, .int .i64 p]), .p (.int .i64 pc)] [] = some (.tup [.p (advanceS ⟨a, n, p⟩ pc).1.e, .p (.int .i64 (advanceS ⟨a, n, p⟩ pc).2)], []) := (evH_code (show tabS 20 = some (.code h20 [.cell 4 3 true, .t 5] true) by kernel_rfl) (m + 5) _ _).trans (r_AdvanceR m a n p pc)
theorem g_AdvanceR (m : Nat) (a : Int) (n : Int) (p : Int) (pc : Int) (raw : Bool) (hp : List Ob) (K : KV) : callG (evH tabS (m + 6)) 20 raw [.p (.agg [.int .i64 a, .int .i64 n, .int .i64 p]), .p (.int .i64 pc)] hp K = K (.tup [.p (advanceS ⟨a, n, p⟩ pc).1.e, .p (.int .i64 (advanceS ⟨a, n, p⟩ pc).2)]) hp := call_known rfl (q_AdvanceR m a n p pc) rfl
theorem gF_AdvanceR (m : Nat) (a : Int) (n : Int) (p : Int) (pc : Int) (raw : Bool) (hp : List Ob) (K : KF) : callF (evH tabS (m + 6)) 20 raw [.p (.agg [.int .i64 a, .int .i64 n, .int .i64 p]), .p (.int .i64 pc)] hp K = K (.tup [.p (advanceS ⟨a, n, p⟩ pc).1.e, .p (.int .i64 (advanceS ⟨a, n, p⟩ pc).2)]) hp (footE hp) := callF_known rfl (q_AdvanceR m a n p pc) rfl

theorem r_Finish (m : Nat) (a : Int) (n : Int) (p : Int) : runH h21 (evH tabS (m + 5)) (m + 5) [.cell 2 3 true, .t 3] true [.p (.agg [.int .i64 a, .int .i64 n, .int .i64 p])] [] = some (.tup [.p (finishS ⟨a, n, p⟩).1.e, .p (.int .i64 (finishS ⟨a, n, p⟩).2)], []) := by
  cases hv : roOk ⟨a, n, p⟩ with
  | false => simp -implicitDefEqProofs (maxSteps := 1000000) only [h21, go_sem, ↓reduceIte, Nat.reduceEqDiff, Nat.reduceAdd, Nat.reduceSub, Nat.reduceBEq, Int.reduceEq, Int.reduceLT, Int.reduceLE, Int.reduceNeg, Nat.reduceLeDiff, g_Valid, hv, finishS, ro0]
  | true =>
    by_cases n0 : n = 0
    · simp -implicitDefEqProofs (maxSteps := 1000000) only [h21, go_sem, ↓reduceIte, Nat.reduceEqDiff, Nat.reduceAdd, Nat.reduceSub, Nat.reduceBEq, Int.reduceEq, Int.reduceLT, Int.reduceLE, Int.reduceNeg, Nat.reduceLeDiff, g_Valid, hv, finishS, ro0, eq_true n0]
    · by_cases x : p < 100
      · simp -implicitDefEqProofs (maxSteps := 1000000) only [h21, go_sem, ↓reduceIte, Nat.reduceEqDiff, Nat.reduceAdd, Nat.reduceSub, Nat.reduceBEq, Int.reduceEq, Int.reduceLT, Int.reduceLE, Int.reduceNeg, Nat.reduceLeDiff, g_Valid, hv, finishS, ro0, n0, eq_true x]
      · simp -implicitDefEqProofs (maxSteps := 1000000) only [h21, go_sem, ↓reduceIte, Nat.reduceEqDiff, Nat.reduceAdd, Nat.reduceSub, Nat.reduceBEq, Int.reduceEq, Int.reduceLT, Int.reduceLE, Int.reduceNeg, Nat.reduceLeDiff, g_Valid, hv, finishS, ro0, n0, x]
theorem q_Finish (m : Nat) (a : Int) (n : Int) (p : Int) : evH tabS (m + 6) 21 [.p (.agg [.int .i64 a, .int .i64 n, .int .i64 p])] [] = some (.tup [.p (finishS ⟨a, n, p⟩).1.e, .p (.int .i64 (finishS ⟨a, n, p⟩).2)], []) := (evH_code (show tabS 21 = some (.code h21 [.cell 2 3 true, .t 3] true) by kernel_rfl) (m + 5) _ _).trans (r_Finish m a n p)
theorem g_Finish (m : Nat) (a : Int) (n : Int) (p : Int) (raw : Bool) (hp : List Ob) (K : KV) : callG (evH tabS (m + 6)) 21 raw [.p (.agg [.int .i64 a, .int .i64 n, .int .i64 p])] hp K = K (.tup [.p (finishS ⟨a, n, p⟩).1.e, .p (.int .i64 (finishS ⟨a, n, p⟩).2)]) hp := call_known rfl (q_Finish m a n p) rfl
theorem gF_Finish (m : Nat) (a : Int) (n : Int) (p : Int) (raw : Bool) (hp : List Ob) (K : KF) : callF (evH tabS (m + 6)) 21 raw [.p (.agg [.int .i64 a, .int .i64 n, .int .i64 p])] hp K = K (.tup [.p (finishS ⟨a, n, p⟩).1.e, .p (.int .i64 (finishS ⟨a, n, p⟩).2)]) hp (footE hp) := callF_known rfl (q_Finish m a n p) rfl

theorem r_FinishR (m : Nat) (a : Int) (n : Int) (p : Int) : runH h22 (evH tabS (m + 5)) (m + 5) [.cell 2 3 true, .t 3] true [.p (.agg [.int .i64 a, .int .i64 n, .int .i64 p])] [] = some (.tup [.p (finishS ⟨a, n, p⟩).1.e, .p (.int .i64 (finishS ⟨a, n, p⟩).2)], []) := by
  cases hv : roOk ⟨a, n, p⟩ with
  | false => simp -implicitDefEqProofs (maxSteps := 1000000) only [h22, go_sem, ↓reduceIte, Nat.reduceEqDiff, Nat.reduceAdd, Nat.reduceSub, Nat.reduceBEq, Int.reduceEq, Int.reduceLT, Int.reduceLE, Int.reduceNeg, Nat.reduceLeDiff, g_ValidR, hv, finishS, ro0]
  | true =>
    by_cases n0 : n = 0
    · simp -implicitDefEqProofs (maxSteps := 1000000) only [h22, go_sem, ↓reduceIte, Nat.reduceEqDiff, Nat.reduceAdd, Nat.reduceSub, Nat.reduceBEq, Int.reduceEq, Int.reduceLT, Int.reduceLE, Int.reduceNeg, Nat.reduceLeDiff, g_ValidR, hv, finishS, ro0, eq_true n0]
    · by_cases x : p < 100
      · simp -implicitDefEqProofs (maxSteps := 1000000) only [h22, go_sem, ↓reduceIte, Nat.reduceEqDiff, Nat.reduceAdd, Nat.reduceSub, Nat.reduceBEq, Int.reduceEq, Int.reduceLT, Int.reduceLE, Int.reduceNeg, Nat.reduceLeDiff, g_ValidR, hv, finishS, ro0, n0, eq_true x]
      · simp -implicitDefEqProofs (maxSteps := 1000000) only [h22, go_sem, ↓reduceIte, Nat.reduceEqDiff, Nat.reduceAdd, Nat.reduceSub, Nat.reduceBEq, Int.reduceEq, Int.reduceLT, Int.reduceLE, Int.reduceNeg, Nat.reduceLeDiff, g_ValidR, hv, finishS, ro0, n0, x]
theorem q_FinishR (m : Nat) (a : Int) (n : Int) (p : Int) : evH tabS (m + 6) 22 [.p (.agg [.int .i64 a, .int .i64 n, .int .i64 p])] [] = some (.tup [.p (finishS ⟨a, n, p⟩).1.e, .p (.int .i64 (finishS ⟨a, n, p⟩).2)], []) := (evH_code (show tabS 22 = some (.code h22 [.cell 2 3 true, .t 3] true) by kernel_rfl) (m + 5) _ _).trans (r_FinishR m a n p)
theorem g_FinishR (m : Nat) (a : Int) (n : Int) (p : Int) (raw : Bool) (hp : List Ob) (K : KV) : callG (evH tabS (m + 6)) 22 raw [.p (.agg [.int .i64 a, .int .i64 n, .int .i64 p])] hp K = K (.tup [.p (finishS ⟨a, n, p⟩).1.e, .p (.int .i64 (finishS ⟨a, n, p⟩).2)]) hp := call_known rfl (q_FinishR m a n p) rfl
theorem gF_FinishR (m : Nat) (a : Int) (n : Int) (p : Int) (raw : Bool) (hp : List Ob) (K : KF) : callF (evH tabS (m + 6)) 22 raw [.p (.agg [.int .i64 a, .int .i64 n, .int .i64 p])] hp K = K (.tup [.p (finishS ⟨a, n, p⟩).1.e, .p (.int .i64 (finishS ⟨a, n, p⟩).2)]) hp (footE hp) := callF_known rfl (q_FinishR m a n p) rfl

theorem r_Cancel (m : Nat) (a : Int) (n : Int) (p : Int) : runH h23 (evH tabS (m + 5)) (m + 5) [.cell 2 3 true, .t 3] true [.p (.agg [.int .i64 a, .int .i64 n, .int .i64 p])] [] = some (.tup [.p (cancelS ⟨a, n, p⟩).1.e, .p (.int .i64 (cancelS ⟨a, n, p⟩).2)], []) := by
  cases hv : roOk ⟨a, n, p⟩ with
  | false => simp -implicitDefEqProofs (maxSteps := 1000000) only [h23, go_sem, ↓reduceIte, Nat.reduceEqDiff, Nat.reduceAdd, Nat.reduceSub, Nat.reduceBEq, Int.reduceEq, Int.reduceLT, Int.reduceLE, Int.reduceNeg, Nat.reduceLeDiff, g_Valid, hv, cancelS, ro0]
  | true =>
    by_cases n0 : n = 0
    · simp -implicitDefEqProofs (maxSteps := 1000000) only [h23, go_sem, ↓reduceIte, Nat.reduceEqDiff, Nat.reduceAdd, Nat.reduceSub, Nat.reduceBEq, Int.reduceEq, Int.reduceLT, Int.reduceLE, Int.reduceNeg, Nat.reduceLeDiff, g_Valid, hv, cancelS, ro0, eq_true n0]
    · by_cases x : 0 < p
      · simp -implicitDefEqProofs (maxSteps := 1000000) only [h23, go_sem, ↓reduceIte, Nat.reduceEqDiff, Nat.reduceAdd, Nat.reduceSub, Nat.reduceBEq, Int.reduceEq, Int.reduceLT, Int.reduceLE, Int.reduceNeg, Nat.reduceLeDiff, g_Valid, hv, cancelS, ro0, n0, eq_true x]
      · simp -implicitDefEqProofs (maxSteps := 1000000) only [h23, go_sem, ↓reduceIte, Nat.reduceEqDiff, Nat.reduceAdd, Nat.reduceSub, Nat.reduceBEq, Int.reduceEq, Int.reduceLT, Int.reduceLE, Int.reduceNeg, Nat.reduceLeDiff, g_Valid, hv, cancelS, ro0, n0, x]
theorem q_Cancel (m : Nat) (a : Int) (n : Int) (p : Int) : evH tabS (m + 6) 23 [.p (.agg [.int .i64 a, .int .i64 n, .int .i64 p])] [] = some (.tup [.p (cancelS ⟨a, n, p⟩).1.e, .p (.int .i64 (cancelS ⟨a, n, p⟩).2)], []) := (evH_code (show tabS 23 = some (.code h23 [.cell 2 3 true, .t 3] true) by kernel_rfl) (m + 5) _ _).trans (r_Cancel m a n p)
theorem g_Cancel (m : Nat) (a : Int) (n : Int) (p : Int) (raw : Bool) (hp : List Ob) (K : KV) : callG (evH tabS (m + 6)) 23 raw [.p (.agg [.int .i64 a, .int .i64 n, .int .i64 p])] hp K = K (.tup [.p (cancelS ⟨a, n, p⟩).1.e, .p (.int .i64 (cancelS ⟨a, n, p⟩).2)]) hp := call_known rfl (q_Cancel m a n p) rfl
theorem gF_Cancel (m : Nat) (a : Int) (n : Int) (p : Int) (raw : Bool) (hp : List Ob) (K : KF) : callF (evH tabS (m + 6)) 23 raw [.p (.agg [.int .i64 a, .int .i64 n, .int .i64 p])] hp K = K (.tup [.p (cancelS ⟨a, n, p⟩).1.e, .p (.int .i64 (cancelS ⟨a, n, p⟩).2)]) hp (footE hp) := callF_known rfl (q_Cancel m a n p) rfl

theorem r_CancelR (m : Nat) (a : Int) (n : Int) (p : Int) : runH h24 (evH tabS (m + 5)) (m + 5) [.cell 2 3 true, .t 3] true [.p (.agg [.int .i64 a, .int .i64 n, .int .i64 p])] [] = some (.tup [.p (cancelS ⟨a, n, p⟩).1.e, .p (.int .i64 (cancelS ⟨a, n, p⟩).2)], []) := by
  cases hv : roOk ⟨a, n, p⟩ with
  | false => simp -implicitDefEqProofs (maxSteps := 1000000) only [h24, go_sem, ↓reduceIte, Nat.reduceEqDiff, Nat.reduceAdd, Nat.reduceSub, Nat.reduceBEq, Int.reduceEq, Int.reduceLT, Int.reduceLE, Int.reduceNeg, Nat.reduceLeDiff, g_ValidR, hv, cancelS, ro0]
  | true =>
    by_cases n0 : n = 0
    · simp -implicitDefEqProofs (maxSteps := 1000000) only [h24, go_sem, ↓reduceIte, Nat.reduceEqDiff, Nat.reduceAdd, Nat.reduceSub, Nat.reduceBEq, Int.reduceEq, Int.reduceLT, Int.reduceLE, Int.reduceNeg, Nat.reduceLeDiff, g_ValidR, hv, cancelS, ro0, eq_true n0]
    · by_cases x : 0 < p
      · simp -implicitDefEqProofs (maxSteps := 1000000) only [h24, go_sem, ↓reduceIte, Nat.reduceEqDiff, Nat.reduceAdd, Nat.reduceSub, Nat.reduceBEq, Int.reduceEq, Int.reduceLT, Int.reduceLE, Int.reduceNeg, Nat.reduceLeDiff, g_ValidR, hv, cancelS, ro0, n0, eq_true x]
      · simp -implicitDefEqProofs (maxSteps := 1000000) only [h24, go_sem, ↓reduceIte, Nat.reduceEqDiff, Nat.reduceAdd, Nat.reduceSub, Nat.reduceBEq, Int.reduceEq, Int.reduceLT, Int.reduceLE, Int.reduceNeg, Nat.reduceLeDiff, g_ValidR, hv, cancelS, ro0, n0, x]
theorem q_CancelR (m : Nat) (a : Int) (n : Int) (p : Int) : evH tabS (m + 6) 24 [.p (.agg [.int .i64 a, .int .i64 n, .int .i64 p])] [] = some (.tup [.p (cancelS ⟨a, n, p⟩).1.e, .p (.int .i64 (cancelS ⟨a, n, p⟩).2)], []) := (evH_code (show tabS 24 = some (.code h24 [.cell 2 3 true, .t 3] true) by kernel_rfl) (m + 5) _ _).trans (r_CancelR m a n p)
theorem g_CancelR (m : Nat) (a : Int) (n : Int) (p : Int) (raw : Bool) (hp : List Ob) (K : KV) : callG (evH tabS (m + 6)) 24 raw [.p (.agg [.int .i64 a, .int .i64 n, .int .i64 p])] hp K = K (.tup [.p (cancelS ⟨a, n, p⟩).1.e, .p (.int .i64 (cancelS ⟨a, n, p⟩).2)]) hp := call_known rfl (q_CancelR m a n p) rfl
theorem gF_CancelR (m : Nat) (a : Int) (n : Int) (p : Int) (raw : Bool) (hp : List Ob) (K : KF) : callF (evH tabS (m + 6)) 24 raw [.p (.agg [.int .i64 a, .int .i64 n, .int .i64 p])] hp K = K (.tup [.p (cancelS ⟨a, n, p⟩).1.e, .p (.int .i64 (cancelS ⟨a, n, p⟩).2)]) hp (footE hp) := callF_known rfl (q_CancelR m a n p) rfl

end Go.Ab
end
