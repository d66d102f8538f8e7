/- The law RuntimeErrors: five runs on letters. -/
import Derived.Test.YthaepnbiaocjkaaGreatDoorAbXrRuntimeErrors
import Derived.Test.YthaepnbiaocjkaaGreatDoorAm5
import Derived.KernelRfl
set_option linter.all false
namespace Go.Ab
open Go Go.RowKit Go.WideShapes Go.ChangeShapes
set_option maxRecDepth 100000
theorem sym_in {L : Letters} {w : World} {S : Nat → Prop} {k : IntKind} {s : Sy} {n : Int} {v : Value} (h : ∀ L0 : Letters, @PR L0 w S (.int k n) v) (hs : SyR L.ρ s n) : @PR L w S (.sym k s) v := by
  have := h L
  simp only [PR] at this ⊢
  exact ⟨n, this, hs⟩
theorem callw_ok : ∀ (L : Letters) (N : Nat), @CallOk L prog0 globs0 (evFn layW.tab N) := fun L N => @evFn_ok L prog0 globs0 mix0 layW.tab (layW.ok L) N
abbrev letE (n c : Int) : Letters := ⟨fun i => match i with | 0 => n | 1 => c % 27 | _ => c / 27⟩
theorem code_in {n c l h : Int} (hn : l ≤ n ∧ n ≤ h) (hc : 0 ≤ c ∧ c ≤ 255) : SyR (letE n c).ρ (.lin 0 [(0, l, h), (1, 0, 26), (27, 0, 9)]) c := by
  refine ⟨?_, hn, ?_, ?_, trivial⟩
  · show c = 0 + (0 * n + (1 * (c % 27) + (27 * (c / 27) + 0)))
    omega
  · show 0 ≤ c % 27 ∧ c % 27 ≤ 26
    omega
  · show 0 ≤ c / 27 ∧ c / 27 ≤ 9
    omega
theorem twoE {L : Letters} {w : World} {S : Nat → Prop} {x1 x2 y1 y2 : Da} {vs : List Value} (hv : ∀ L0 : Letters, Pw (@PR L0 w S) [x1, x2] vs) (h1 : ∀ v, (∀ L0 : Letters, @PR L0 w S x1 v) → @PR L w S y1 v) (h2 : ∀ v, (∀ L0 : Letters, @PR L0 w S x2 v) → @PR L w S y2 v) : Pw (@PR L w S) [y1, y2] vs := by
  obtain ⟨v1, r1, rfl, _, t1⟩ := (hv L).cons_inv
  obtain ⟨v2, r2, rfl, _, t2⟩ := t1.cons_inv
  obtain rfl := t2.nil_inv
  exact Pw.cons (h1 _ fun L0 => (hv L0).head) (Pw.cons (h2 _ fun L0 => (hv L0).tail.head) Pw.nil)
theorem shape2 {P : Program} {xs : List Da} (hp : P.underlying 3 = some (.int .i64)) (hq : P.underlying 5 = some (.int .u8)) (h : Pw (datTy P (cellsTy P 8)) [3, 5] xs) : ∃ n c, xs = [.int .i64 n, .int .u8 c] ∧ (-9223372036854775808 ≤ n ∧ n ≤ 9223372036854775807) ∧ (0 ≤ c ∧ c ≤ 255) := by
  obtain ⟨x1, r1, rfl, h1, h⟩ := h.cons_inv
  obtain ⟨x2, r2, rfl, h2, h⟩ := h.cons_inv
  obtain rfl := h.nil_inv
  obtain ⟨n, rfl, hn⟩ := datTy_int hp h1
  obtain ⟨c, rfl, hc⟩ := datTy_int hq h2
  refine ⟨n, c, rfl, ?_, ?_⟩
  · simp only [Lit.wf, Bool.and_eq_true, decide_eq_true_eq] at hn
    exact ⟨hn.1, hn.2⟩
  · simp only [Lit.wf, Bool.and_eq_true, decide_eq_true_eq] at hc
    exact ⟨hc.1, hc.2⟩
theorem plain_RuntimeErrors : ∀ (xs : List Da), Pw (datTy prog0 (cellsTy prog0 8)) [3, 5] xs → ∀ (L L0 : Letters) (w : World) (S : Nat → Prop) (vs : List Value), Pw (@PR L w S) xs vs → Pw (@PR L0 w S) xs vs := by
  intro xs h L L0 w S vs hv
  obtain ⟨n, c, rfl, _, _⟩ := shape2 (by kernel_rfl) (by kernel_rfl) h
  refine int_plain (fun x hx => ?_) hv
  simp only [List.mem_cons, List.not_mem_nil, or_false] at hx
  rcases hx with rfl | rfl
  · exact ⟨_, _, rfl⟩
  · exact ⟨_, _, rfl⟩
theorem run_RuntimeErrors : ∀ xs, Pw (datTy prog0 (cellsTy prog0 8)) [3, 5] xs → ∃ (L : Letters) (N : Nat) (ys : List Da), (∀ (w : World) (S : Nat → Prop) (vs : List Value), (∀ L0 : Letters, Pw (@PR L0 w S) xs vs) → Pw (@PR L w S) ys vs) ∧ evFn layW.tab N 3 (ys.map .p) [] = some (.p (.bool true), []) := by
  intro xs h
  obtain ⟨n, c, rfl, hn, hc⟩ := shape2 (by kernel_rfl) (by kernel_rfl) h
  have low : ∀ (w : World) (S : Nat → Prop) (v : Value), (∀ L0 : Letters, @PR L0 w S (.int .u8 c) v) → @PR (letE n c) w S (.sym .u8 (.rng 0 255)) v := fun w S v h => sym_in h hc
  refine ⟨letE n c, 3000, ?_⟩
  rw [← evH_eq layW.same 3000]
  by_cases h1 : n < -1000
  · exact ⟨[.sym .i64 (.rng (-9223372036854775808) (-1001)), .sym .u8 (.rng 0 255)], fun w S vs hv => twoE hv (fun v h => sym_in h ⟨hn.1, by omega⟩) (low w S), run_lo⟩
  by_cases h2 : 1000 < n
  · exact ⟨[.sym .i64 (.rng 1001 9223372036854775807), .sym .u8 (.rng 0 255)], fun w S vs hv => twoE hv (fun v h => sym_in h ⟨by omega, hn.2⟩) (low w S), run_hi⟩
  by_cases h3 : n < 0
  · exact ⟨[.sym .i64 (.lin 0 [(1, -1000, -1)]), codeY (-1000) (-1)], fun w S vs hv => twoE hv (fun v h => sym_in h ⟨show n = 0 + (1 * n + 0) by omega, ⟨by show -1000 ≤ n; omega, by show n ≤ -1; omega⟩, trivial⟩) (fun v h => sym_in h (code_in ⟨by omega, by omega⟩ hc)), run_neg⟩
  by_cases h4 : n = 0
  · subst h4
    exact ⟨[.int .i64 0, codeY 0 0], fun w S vs hv => twoE hv (fun v h => h _) (fun v h => sym_in h (code_in ⟨by omega, by omega⟩ hc)), run_zero⟩
  · exact ⟨[.sym .i64 (.lin 0 [(1, 1, 1000)]), codeY 1 1000], fun w S vs hv => twoE hv (fun v h => sym_in h ⟨show n = 0 + (1 * n + 0) by omega, ⟨by show 1 ≤ n; omega, by show n ≤ 1000; omega⟩, trivial⟩) (fun v h => sym_in h (code_in ⟨by omega, by omega⟩ hc)), run_pos⟩
end Go.Ab
