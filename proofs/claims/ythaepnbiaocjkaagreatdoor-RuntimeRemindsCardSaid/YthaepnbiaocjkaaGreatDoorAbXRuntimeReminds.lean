/- The law RuntimeReminds: one run on letters. -/
import Derived.Test.YthaepnbiaocjkaaGreatDoorAbXrRuntimeReminds
import Derived.Test.YthaepnbiaocjkaaGreatDoorAm5
import Derived.KernelRfl
set_option linter.all false
namespace Go.Ab
open Go Go.RowKit Go.WideShapes Go.ChangeShapes
set_option maxRecDepth 100000
theorem sym_in {L : Letters} {w : World} {S : Nat → Prop} {k : IntKind} {s : Sy} {n : Int} {v : Value} (h : ∀ L0 : Letters, @PR L0 w S (.int k n) v) (hs : SyR L.ρ s n) : @PR L w S (.sym k s) v := by
  have := h L
  simp only [PR] at this ⊢
  exact ⟨n, this, hs⟩
theorem callw_ok : ∀ (L : Letters) (N : Nat), @CallOk L prog0 globs0 (evFn layW.tab N) := fun L N => @evFn_ok L prog0 globs0 mix0 layW.tab (layW.ok L) N
abbrev letR (p s t : Int) : Letters := ⟨fun i => match i with | 0 => p % 50 | 1 => p / 50 | 2 => s % 1000 | 3 => s / 1000 | 4 => t % 500 | _ => t / 500⟩
theorem p_in {p s t : Int} (hp : 0 ≤ p ∧ p ≤ 255) : SyR (letR p s t).ρ (.lin 0 [(1, 0, 49), (50, 0, 5)]) p := by
  refine ⟨?_, ?_, ?_, trivial⟩
  · show p = 0 + (1 * (p % 50) + (50 * (p / 50) + 0))
    omega
  · show 0 ≤ p % 50 ∧ p % 50 ≤ 49
    omega
  · show 0 ≤ p / 50 ∧ p / 50 ≤ 5
    omega
theorem s_in {p s t : Int} (hp : 0 ≤ p ∧ p ≤ 255) (hs : 0 ≤ s ∧ s ≤ 65535) : SyR (letR p s t).ρ (.lin 0 [(0, 0, 49), (0, 0, 5), (1, 0, 999), (1000, 0, 65)]) s := by
  refine ⟨?_, ?_, ?_, ?_, ?_, trivial⟩
  · show s = 0 + (0 * (p % 50) + (0 * (p / 50) + (1 * (s % 1000) + (1000 * (s / 1000) + 0))))
    omega
  · show 0 ≤ p % 50 ∧ p % 50 ≤ 49
    omega
  · show 0 ≤ p / 50 ∧ p / 50 ≤ 5
    omega
  · show 0 ≤ s % 1000 ∧ s % 1000 ≤ 999
    omega
  · show 0 ≤ s / 1000 ∧ s / 1000 ≤ 65
    omega
theorem t_in {p s t : Int} (hp : 0 ≤ p ∧ p ≤ 255) (hs : 0 ≤ s ∧ s ≤ 65535) (ht : 0 ≤ t ∧ t ≤ 65535) : SyR (letR p s t).ρ (.lin 0 [(0, 0, 49), (0, 0, 5), (0, 0, 999), (0, 0, 65), (1, 0, 499), (500, 0, 131)]) t := by
  refine ⟨?_, ?_, ?_, ?_, ?_, ?_, ?_, trivial⟩
  · show t = 0 + (0 * (p % 50) + (0 * (p / 50) + (0 * (s % 1000) + (0 * (s / 1000) + (1 * (t % 500) + (500 * (t / 500) + 0))))))
    omega
  · show 0 ≤ p % 50 ∧ p % 50 ≤ 49
    omega
  · show 0 ≤ p / 50 ∧ p / 50 ≤ 5
    omega
  · show 0 ≤ s % 1000 ∧ s % 1000 ≤ 999
    omega
  · show 0 ≤ s / 1000 ∧ s / 1000 ≤ 65
    omega
  · show 0 ≤ t % 500 ∧ t % 500 ≤ 499
    omega
  · show 0 ≤ t / 500 ∧ t / 500 ≤ 131
    omega
theorem shape3 {P : Program} {xs : List Da} (hp : P.underlying 5 = some (.int .u8)) (hq : P.underlying 63 = some (.int .u16)) (h : Pw (datTy P (cellsTy P 8)) [5, 63, 63] xs) : ∃ p s t, xs = [.int .u8 p, .int .u16 s, .int .u16 t] ∧ (0 ≤ p ∧ p ≤ 255) ∧ (0 ≤ s ∧ s ≤ 65535) ∧ (0 ≤ t ∧ t ≤ 65535) := by
  obtain ⟨x1, r1, rfl, h1, h⟩ := h.cons_inv
  obtain ⟨x2, r2, rfl, h2, h⟩ := h.cons_inv
  obtain ⟨x3, r3, rfl, h3, h⟩ := h.cons_inv
  obtain rfl := h.nil_inv
  obtain ⟨p, rfl, hp'⟩ := datTy_int hp h1
  obtain ⟨s, rfl, hs'⟩ := datTy_int hq h2
  obtain ⟨t, rfl, ht'⟩ := datTy_int hq h3
  simp only [Lit.wf, Bool.and_eq_true, decide_eq_true_eq] at hp' hs' ht'
  exact ⟨p, s, t, rfl, ⟨hp'.1, hp'.2⟩, ⟨hs'.1, hs'.2⟩, ⟨ht'.1, ht'.2⟩⟩
theorem plain_RuntimeReminds : ∀ (xs : List Da), Pw (datTy prog0 (cellsTy prog0 8)) [5, 63, 63] xs → ∀ (L L0 : Letters) (w : World) (S : Nat → Prop) (vs : List Value), Pw (@PR L w S) xs vs → Pw (@PR L0 w S) xs vs := by
  intro xs h L L0 w S vs hv
  obtain ⟨p, s, t, rfl, _, _, _⟩ := shape3 (by kernel_rfl) (by kernel_rfl) h
  refine int_plain (fun x hx => ?_) hv
  simp only [List.mem_cons, List.not_mem_nil, or_false] at hx
  rcases hx with rfl | rfl | rfl
  · exact ⟨_, _, rfl⟩
  · exact ⟨_, _, rfl⟩
  · exact ⟨_, _, rfl⟩
theorem run_RuntimeReminds : ∀ xs, Pw (datTy prog0 (cellsTy prog0 8)) [5, 63, 63] xs → ∃ (L : Letters) (N : Nat) (ys : List Da), (∀ (w : World) (S : Nat → Prop) (vs : List Value), (∀ L0 : Letters, Pw (@PR L0 w S) xs vs) → Pw (@PR L w S) ys vs) ∧ evFn layW.tab N 4 (ys.map .p) [] = some (.p (.bool true), []) := by
  intro xs h
  obtain ⟨p, s, t, rfl, hp, hs, ht⟩ := shape3 (by kernel_rfl) (by kernel_rfl) h
  refine ⟨letR p s t, 3000, [pY, sY, tY], fun w S vs hv => ?_, ?_⟩
  · obtain ⟨v1, r1, rfl, _, t1⟩ := (hv (letR p s t)).cons_inv
    obtain ⟨v2, r2, rfl, _, t2⟩ := t1.cons_inv
    obtain ⟨v3, r3, rfl, _, t3⟩ := t2.cons_inv
    obtain rfl := t3.nil_inv
    exact Pw.cons (sym_in (fun L0 => (hv L0).head) (p_in hp)) (Pw.cons (sym_in (fun L0 => (hv L0).tail.head) (s_in hp hs)) (Pw.cons (sym_in (fun L0 => (hv L0).tail.tail.head) (t_in hp hs ht)) Pw.nil))
  · rw [← evH_eq layW.same 3000]
    exact run_all
end Go.Ab
