/- Data of the API's types, read into structures. -/
import Derived.Test.YtdppgkglljpdaaaGreatDoorAbZ
import Derived.Test.YtdppgkglljpdaaaGreatDoorAm5
import Derived.Test.YtdppgkglljpdaaaGreatDoorAbG
set_option linter.all false
namespace Go.Ab
open Go
set_option maxRecDepth 100000
def wfI (i : Int) : Prop := (Lit.int .i64 i).wf = true
def wfS (s : List Nat) : Prop := s.length ≤ maxLen ∧ ∀ c ∈ s, c < 256
def V.wf (v : V) : Prop := wfI v.k ∧ wfI v.n ∧ wfS v.s ∧ (v.is.length ≤ maxLen ∧ ∀ i ∈ v.is, wfI i) ∧ (v.ls.length ≤ maxLen ∧ ∀ s ∈ v.ls, wfS s)
def Fi.wf (f : Fi) : Prop := wfS f.name ∧ wfI f.kind ∧ f.init.wf
def Sc.wf (s : Sc) : Prop := wfS s.type ∧ s.fields.length ≤ maxLen ∧ ∀ f ∈ s.fields, f.wf
def Op.wf (o : Op) : Prop := wfI o.kind ∧ o.arg.wf
def Ru.wf (r : Ru) : Prop := wfS r.field ∧ wfS r.source ∧ r.init.wf ∧ r.ops.length ≤ maxLen ∧ ∀ o ∈ r.ops, o.wf
def Mi.wf (m : Mi) : Prop := wfS m.type ∧ m.rules.length ≤ maxLen ∧ ∀ r ∈ m.rules, r.wf
section
variable {P : Program} {n : Nat} {t : TypeId} {xs : List Da} {x : Da}
theorem c_bool (hu : P.underlying t = some .bool) (h : cellsTy P (n + 1) t xs) : ∃ b, xs = [.bool b] := by
  simp only [cellsTy, hu] at h; exact h
theorem c_int {k : IntKind} (hu : P.underlying t = some (.int k)) (h : cellsTy P (n + 1) t xs) : ∃ i, xs = [.int k i] ∧ (Lit.int k i).wf = true := by
  simp only [cellsTy, hu] at h; exact h
theorem c_str (hu : P.underlying t = some .string) (h : cellsTy P (n + 1) t xs) : ∃ s, xs = [.str s] ∧ wfS s := by
  simp only [cellsTy, hu] at h; exact h
theorem list_of {α : Type} {Q : α → Prop} (f : α → Da) : ∀ es : List Da, (∀ x ∈ es, ∃ a, x = f a ∧ Q a) → ∃ l : List α, es = l.map f ∧ ∀ a ∈ l, Q a
  | [], _ => ⟨[], rfl, by simp⟩
  | x :: r, h => by
    obtain ⟨a, rfl, ha⟩ := h x (List.mem_cons_self ..)
    obtain ⟨l, rfl, hl⟩ := list_of f r fun y hy => h y (List.mem_cons_of_mem _ hy)
    exact ⟨a :: l, rfl, by simp only [List.mem_cons, forall_eq_or_imp]; exact ⟨ha, hl⟩⟩
theorem c_slice {α : Type} {Q : α → Prop} {e z : Nat} (f : α → Da) (hu : P.underlying t = some (.slice e)) (hz : P.cellsOf e = z) (he : ∀ x, datTy P (cellsTy P n) e x → ∃ a, x = f a ∧ Q a) (h : cellsTy P (n + 1) t xs) : ∃ l : List α, xs = [.slice z (l.map f)] ∧ l.length ≤ maxLen ∧ ∀ a ∈ l, Q a := by
  simp only [cellsTy, hu] at h
  obtain ⟨es, rfl, hl, hes⟩ := h
  obtain ⟨l, rfl, hq⟩ := list_of f es fun x hx => he x (hes x hx)
  exact ⟨l, by rw [hz], by simpa using hl, hq⟩
theorem c_struct {fs : Array Field} (hu : P.underlying t = some (.struct fs)) (h : cellsTy P (n + 1) t xs) : fieldsTy (cellsTy P n) fs.toList xs := by
  simp only [cellsTy, hu] at h; exact h
theorem d_one (ha : isAggT P t = false) (h : datTy P (cellsTy P n) t x) : cellsTy P n t [x] := by
  unfold datTy at h; rw [ha] at h; exact h
theorem d_agg (ha : isAggT P t = true) (h : datTy P (cellsTy P n) t x) : ∃ cs, x = .agg cs ∧ cellsTy P n t cs := by
  unfold datTy at h; rw [ha] at h; exact h
end
theorem d_int (n : Nat) (x : Da) (h : datTy prog0 (cellsTy prog0 (n + 1)) 3 x) : ∃ i, x = .int .i64 i ∧ wfI i := by
  obtain ⟨i, h1, h2⟩ := c_int (k := .i64) (by kernel_rfl) (d_one (by kernel_rfl) h)
  exact ⟨i, by simpa using h1, h2⟩
theorem d_u8 (n : Nat) (x : Da) (h : datTy prog0 (cellsTy prog0 (n + 1)) 5 x) : ∃ i, x = .int .u8 i ∧ (Lit.int .u8 i).wf = true := by
  obtain ⟨i, h1, h2⟩ := c_int (k := .u8) (by kernel_rfl) (d_one (by kernel_rfl) h)
  exact ⟨i, by simpa using h1, h2⟩
theorem d_bool (n : Nat) (x : Da) (h : datTy prog0 (cellsTy prog0 (n + 1)) 4 x) : ∃ b, x = .bool b := by
  obtain ⟨i, h1⟩ := c_bool (by kernel_rfl) (d_one (by kernel_rfl) h)
  exact ⟨i, by simpa using h1⟩
theorem d_str (n : Nat) (x : Da) (h : datTy prog0 (cellsTy prog0 (n + 1)) 9 x) : ∃ s, x = .str s ∧ wfS s := by
  obtain ⟨i, h1, h2⟩ := c_str (by kernel_rfl) (d_one (by kernel_rfl) h)
  exact ⟨i, by simpa using h1, h2⟩
theorem c_ints (n : Nat) (xs : List Da) (h : cellsTy prog0 (n + 2) 36 xs) : ∃ l : List Int, xs = [.slice 1 (l.map (.int .i64))] ∧ l.length ≤ maxLen ∧ ∀ i ∈ l, wfI i :=
  c_slice (e := 3) (.int .i64) (by kernel_rfl) (by kernel_rfl) (d_int n) h
theorem c_strs (n : Nat) (xs : List Da) (h : cellsTy prog0 (n + 2) 28 xs) : ∃ l : List (List Nat), xs = [.slice 1 (l.map .str)] ∧ l.length ≤ maxLen ∧ ∀ s ∈ l, wfS s :=
  c_slice (e := 9) .str (by kernel_rfl) (by kernel_rfl) (d_str n) h
theorem c_Value (n : Nat) (xs : List Da) (h : cellsTy prog0 (n + 3) 38 xs) : ∃ v : V, xs = v.cs ∧ v.wf := by
  have hd := c_struct (fs := #[⟨"Kind", 3, 0, false, "", "", 0⟩, ⟨"N", 3, 1, false, "", "", 8⟩, ⟨"S", 9, 2, false, "", "", 16⟩, ⟨"I", 36, 3, false, "", "", 32⟩, ⟨"L", 28, 4, false, "", "", 56⟩]) (by kernel_rfl) h
  simp only [fieldsTy] at hd
  obtain ⟨y1, z1, rfl, q1, y2, z2, rfl, q2, y3, z3, rfl, q3, y4, z4, rfl, q4, y5, z5, rfl, q5, rfl⟩ := hd
  obtain ⟨k, rfl, w1⟩ := c_int (k := .i64) (by kernel_rfl) q1
  obtain ⟨m, rfl, w2⟩ := c_int (k := .i64) (by kernel_rfl) q2
  obtain ⟨s, rfl, w3⟩ := c_str (by kernel_rfl) q3
  obtain ⟨is, rfl, w4⟩ := c_ints n _ q4
  obtain ⟨ls, rfl, w5⟩ := c_strs n _ q5
  exact ⟨⟨k, m, s, is, ls⟩, rfl, w1, w2, w3, w4, w5⟩
theorem d_Value (n : Nat) (x : Da) (h : datTy prog0 (cellsTy prog0 (n + 3)) 38 x) : ∃ v : V, x = v.e ∧ v.wf := by
  obtain ⟨cs, rfl, hc⟩ := d_agg (by kernel_rfl) h
  obtain ⟨v, rfl, w⟩ := c_Value n _ hc
  exact ⟨v, rfl, w⟩
theorem c_Values (n : Nat) (xs : List Da) (h : cellsTy prog0 (n + 4) 27 xs) : ∃ l : List V, xs = [.slice 5 (l.map V.e)] ∧ l.length ≤ maxLen ∧ ∀ v ∈ l, v.wf :=
  c_slice (e := 38) V.e (by kernel_rfl) (by kernel_rfl) (d_Value n) h
theorem d_Values (n : Nat) (x : Da) (h : datTy prog0 (cellsTy prog0 (n + 4)) 27 x) : ∃ l : List V, x = .slice 5 (l.map V.e) ∧ l.length ≤ maxLen ∧ ∀ v ∈ l, v.wf := by
  obtain ⟨l, h1, h2⟩ := c_Values n _ (d_one (by kernel_rfl) h)
  exact ⟨l, by simpa using h1, h2⟩
end Go.Ab
