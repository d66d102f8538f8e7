/- strings.IndexByte by the library's contract. -/
import Derived.Test.YtlfhmmbmjkadiaaGreatDoorAm5
import Derived.Shelf.Strings.Search1
set_option linter.all false
namespace Go.Ab
open Go Go.RowKit
set_option maxRecDepth 10000
def idxS (s : List Nat) (c : Int) : Int := match s.findIdx? fun b => eqI (Int.ofNat b) c with | some i => i | none => -1
def primIdx : List Da → Option (D × List Ob)
 | [.str s, .int .u8 c] => bif leI 0 c && leI c 255 then some (.p (.int .i64 (idxS s c)), []) else none
 | _ => none
theorem eqI_of (a b : Int) : eqI a b = decide (a = b) := by
 cases a <;> cases b <;> simp only [eqI]
 ·rw [Bool.eq_iff_iff]; simp; omega
 ·simp
 ·simp
 ·rw [Bool.eq_iff_iff]; simp
theorem u8_nat (n : Nat) : n.toUInt8.toNat = n % 256 := rfl
theorem idx_eq (c : Int) (h0 : 0 ≤ c) (h1 : c ≤ 255) : ∀ l : List UInt8, Lib.indexByte l c.toNat.toUInt8 = idxS (l.map UInt8.toNat) c
 | [] => rfl
 | b :: l => by
  have ih := idx_eq c h0 h1 l
  have hb : (b == c.toNat.toUInt8) = eqI (Int.ofNat b.toNat) c := by
   rw [eqI_of, Bool.eq_iff_iff, beq_iff_eq, decide_eq_true_eq]
   constructor
   ·intro e
    rw [e, u8_nat, Nat.mod_eq_of_lt (by omega)]
    exact Int.toNat_of_nonneg h0
   ·intro e
    apply UInt8.toNat_inj.1
    rw [u8_nat, Nat.mod_eq_of_lt (by omega)]
    have : (b.toNat : Int) = c := e
    omega
  unfold Lib.indexByte idxS
  rw [List.map_cons, List.findIdx?_cons, hb]
  cases hc : eqI (Int.ofNat b.toNat) c
  ·simp only [Bool.false_eq_true, if_false]
   rw [ih]
   unfold idxS
   cases (l.map UInt8.toNat).findIdx? fun b => eqI (Int.ofNat b) c with
   | none => rfl
   | some i =>
    have : ((i : Int) == -1) = false := by simp
    simp only [this, Bool.false_eq_true, if_false, Option.map_some]
    omega
  ·simp
theorem idx_prim {P : Program} {G : Glob} {f : Nat} (hc : Callable P f) (law : ∀ (s : ByteArray) (c : Int) (w : World), Calls P f #[.string s, .int .u8 c] w fun e w' => e = .returned (.int .i64 (Lib.indexByte s.data.toList c.toNat.toUInt8)) ∧ w' = w) (L : Letters) : @PrimOk L P G f primIdx := by
 intro xs r out hx
 refine ⟨hc, fun w S vs hS hg hv => ?_⟩
 match xs, hx with
 | [.str s, .int .u8 c], hx =>
  simp only [primIdx] at hx
  cases hb : (leI 0 c && leI c 255)
  ·rw [hb] at hx; cases hx
  ·rw [hb] at hx
   simp only [cond_true, Option.some.injEq, Prod.mk.injEq] at hx
   obtain ⟨rfl, rfl⟩ := hx
   rw [Bool.and_eq_true, leI_eq, leI_eq, decide_eq_true_eq, decide_eq_true_eq] at hb
   obtain ⟨v, vs', rfl, h1, h2⟩ := hv.cons_inv
   obtain ⟨u, us', rfl, h3, h4⟩ := h2.cons_inv
   obtain rfl := h4.nil_inv
   simp only [PR] at h1 h3
   obtain ⟨b, rfl, hb2⟩ := h1
   subst h3
   refine (law b c w).mono fun e w' ⟨he, hw⟩ => ?_
   subst he hw
   refine ⟨[], S, ?_, ?_, Fr.refl _ _ _, fun id hid => absurd hid (Nat.not_lt_zero _)⟩
   ·simp only [VR, PR]
    rw [idx_eq c hb.1 hb.2, ← hb2]
   ·exact ⟨rfl, by intro id l o h; simp at h, by rintro b ⟨id, l, o, h, _⟩; simp at h, by intro id id' l l' o o' b h; simp at h, hS⟩
section
variable {P : Program} {t : TypeId}
theorem info_of {v : Value} (h : ((P.info? t).bind fun i => i.zero) = some v) : ∃ i, P.info? t = some i ∧ i.zero = some v := by
 cases hi : P.info? t with
 | none => rw [hi] at h; cases h
 | some i => rw [hi] at h; exact ⟨i, rfl, h⟩
theorem zero_of {v : Value} (h : ((P.info? t).bind fun i => i.zero) = some v) (w : World) : (zeroValue t).run P w = .ok v w := by
 obtain ⟨i, h1, h2⟩ := info_of h
 simp [zeroValue, typeInfo, h1, h2]
theorem size_of {n : Nat} (h : ((P.info? t).map fun i => i.size) = some n) (w : World) : (sizeOf t).run P w = .ok n w := by
 cases hi : P.info? t with
 | none => rw [hi] at h; cases h
 | some i =>
  rw [hi] at h
  simp only [Option.map_some, Option.some.injEq] at h
  simp [sizeOf, typeInfo, hi, h]
end
theorem idx_law {P : Program} {a b : Nat} (mixed : P.follows .mixedOrders = true) (hf : P.funcs[a]? = some (Go.Proofs.Body.n217 ⟨fun n => bif Nat.beq n 217 then a else b, fun t => t, fun g => g⟩)) (hg : P.funcs[b]? = some (Go.Proofs.Body.n266 ⟨fun n => bif Nat.beq n 217 then a else b, fun t => t, fun g => g⟩))
  (u3 : P.underlying 3 = some (.int .i64)) (u5 : P.underlying 5 = some (.int .u8)) (u9 : P.underlying 9 = some .string)
  (s3 : ((P.info? 3).map fun i => i.size) = some 1) (s5 : ((P.info? 5).map fun i => i.size) = some 1) (s9 : ((P.info? 9).map fun i => i.size) = some 1)
  (z3 : ((P.info? 3).bind fun i => i.zero) = some (.int .i64 0)) (z5 : ((P.info? 5).bind fun i => i.zero) = some (.int .u8 0)) (z9 : ((P.info? 9).bind fun i => i.zero) = some (.string ⟨#[]⟩)) (L : Letters) {G : Glob} : @PrimOk L P G a primIdx :=
 idx_prim (f := a) ⟨_, hf, rfl, rfl⟩ (fun s c w => Go.Proofs.Any.stringslite_IndexByte (ρ := ⟨fun n => bif Nat.beq n 217 then a else b, fun t => t, fun g => g⟩)
  ⟨mixed, hf, hg, u3, Go.Proofs.run_isAgg_plain u3 rfl, size_of s3, zero_of z3, u5, Go.Proofs.run_isAgg_plain u5 rfl, size_of s5, zero_of z5, u9, Go.Proofs.run_isAgg_plain u9 rfl, size_of s9, zero_of z9⟩ s c w) L
end Go.Ab
