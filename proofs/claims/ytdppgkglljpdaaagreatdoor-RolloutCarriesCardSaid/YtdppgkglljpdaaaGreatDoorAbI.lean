/- The library's table of powers of ten as the evaluator's global; strconv.Itoa by the library's contract. -/
import Derived.Test.YtdppgkglljpdaaaGreatDoorAbG
import Derived.Test.YtdppgkglljpdaaaGreatDoorAm4
import Derived.Test.YtdppgkglljpdaaaGreatDoorAm2
import Derived.Shelf.Strconv.Itoa3
import Derived.Lib.LaidTab
import Derived.LaidLaws
set_option linter.all false
namespace Go.Ab
open Go Go.RowKit
theorem PRs_ints {w : World} {S : Nat → Prop} {k : IntKind} : ∀ {zs : List Int} {us : List Value}, PRs w S (zs.map (.int k)) us → us = zs.map (.int k)
  | [], us, h => by
    have := PRs_iff.1 h
    exact this.nil_inv
  | z :: r, us, h => by
    obtain ⟨u, us', rfl, hu, hr⟩ := (PRs_iff.1 h).cons_inv
    simp only [PR] at hu
    rw [PRs_ints (PRs_iff.2 hr)]
    simp [hu]
def powDa : Da := .agg (Lib.pow10Tab.map (.int .u64))
theorem scalar_ints {k : IntKind} (zs : List Int) : ∀ c ∈ zs.map (Value.int k), scalar c := by
  intro c hc
  obtain ⟨z, _, rfl⟩ := List.mem_map.1 hc
  simp [scalar]
theorem ints_PRs {w : World} {S : Nat → Prop} {k : IntKind} : ∀ zs : List Int, PRs w S (zs.map (.int k)) (zs.map (Value.int k))
  | [] => PRs_iff.2 Pw.nil
  | z :: r => PRs_iff.2 (Pw.cons (by simp only [PR]) (PRs_iff.1 (ints_PRs r)))
theorem gr_of_tab {P : Program} {W : World} {G : Glob} (hG : ∀ g x, G g = some x → g = 0 ∧ x = powDa) (hn : P.globalNamed "internal/strconv.uint64pow10" = some 0) (h : Lib.TabIs P W "internal/strconv.uint64pow10" .u64 Lib.pow10Tab) : GR G W (fun b => b < W.heap.size) := by
  intro g x hg
  obtain ⟨rfl, rfl⟩ := hG g x hg
  unfold Lib.TabIs World.var? at h
  rw [hn] at h
  simp only [Option.bind_some] at h
  split at h
  · rename_i cs t fr hh
    injection h with h
    have hlt : 0 < W.heap.size := (Array.getElem?_eq_some_iff.1 hh).1
    refine ⟨hlt, .agg cs, ?_, ?_, t, fr, ?_⟩
    · simp only [powDa, PR]
      refine ⟨cs, rfl, ?_, ?_⟩
      · rw [h]; simpa using ints_PRs (k := .u64) Lib.pow10Tab
      · rw [h]; simpa using scalar_ints (k := .u64) Lib.pow10Tab
    · intro j c hc
      simp only [Value.cells] at hc
      simp [World.cell?, hh, hc]
    · simpa [Value.cells] using hh
  · cases h
theorem tab_of_gr {P : Program} {w : World} {S : Nat → Prop} {G : Glob} (hG : G 0 = some powDa) (hn : P.globalNamed "internal/strconv.uint64pow10" = some 0) (h : GR G w S) : Lib.TabIs P w "internal/strconv.uint64pow10" .u64 Lib.pow10Tab := by
  obtain ⟨_, u, hu, _, t, fr, hh⟩ := h 0 powDa hG
  simp only [powDa, PR] at hu
  obtain ⟨vs, rfl, hv, _⟩ := hu
  have := PRs_ints hv
  unfold Lib.TabIs World.var?
  rw [hn]
  simp only [Option.bind_some, hh, Value.cells]
  congr 1
  rw [← this]
theorem itoa_prim {P : Program} {G : Glob} {f : Nat} (hG : G 0 = some powDa) (hn : P.globalNamed "internal/strconv.uint64pow10" = some 0) (hc : Callable P f)
    (law : ∀ (n : Int) (_ : -9223372036854775808 ≤ n) (_ : n ≤ 9223372036854775807) (w : World) (_ : Lib.TabIs P w "internal/strconv.uint64pow10" .u64 Lib.pow10Tab), Calls P f #[.int .i64 n] w fun e w' => e = .returned (.string ⟨(Lib.itoa n).toArray⟩) ∧ ∃ k os, w' = Go.Sort.grow (w.drewN k) os) : PrimOk P G f primItoa := by
  intro xs r out hx
  refine ⟨hc, fun w S vs hS hg hv => ?_⟩
  match xs, hx with
  | [.int .i64 n], hx =>
    simp only [primItoa] at hx
    cases hb : (leI (-9223372036854775808) n && leI n 9223372036854775807)
    · rw [hb] at hx; cases hx
    · rw [hb] at hx
      simp only [cond_true, Option.some.injEq, Prod.mk.injEq] at hx
      obtain ⟨rfl, rfl⟩ := hx
      rw [Bool.and_eq_true, leI_dec, leI_dec, decide_eq_true_eq, decide_eq_true_eq] at hb
      obtain ⟨v, vs', rfl, h1, h2⟩ := hv.cons_inv
      obtain rfl := h2.nil_inv
      simp only [PR] at h1
      subst h1
      refine (law n hb.1 hb.2 w (tab_of_gr hG hn hg)).mono fun e w' ⟨he, k, os, hw⟩ => ?_
      subst he hw
      refine ⟨[], S, ?_, ?_, ?_, fun id hid => absurd hid (Nat.not_lt_zero _)⟩
      · simp only [VR, PR]
        exact ⟨_, rfl, by simp [itoaS]⟩
      · exact ⟨rfl, by intro id l o h; simp at h, by rintro b ⟨id, l, o, h, _⟩; simp at h, by intro id id' l l' o o' b h; simp at h, fun b hb' => by have := hS b hb'; simp [Go.Sort.grow]; omega⟩
      · exact ⟨fun b hb' _ => by simp [Go.Sort.grow, Array.getElem?_append_left hb'], by simp [Go.Sort.grow], rfl, rfl, rfl, fun b h => h, fun b h => .inl h, fun b h => .inl h⟩
end Go.Ab
