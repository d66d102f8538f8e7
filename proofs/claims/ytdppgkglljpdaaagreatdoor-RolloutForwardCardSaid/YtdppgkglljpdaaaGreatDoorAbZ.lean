/- The table with awake's known answer, in the fast form. -/
import Derived.Test.YtdppgkglljpdaaaGreatDoorAbU
import Derived.Test.YtdppgkglljpdaaaGreatDoorAm4
import Derived.Test.YtdppgkglljpdaaaGreatDoorAm3
import Derived.KernelRfl
set_option linter.all false
namespace Go.Ab
open Go
noncomputable def tabS (f : Nat) : Option Hn := iffO (Nat.beq f 8) (some (.prim (memo [([], some (.p (.bool true), []))]))) (tabH f)

/-- api.Value -/
structure V where
  k : Int
  n : Int
  s : List Nat
  is : List Int
  ls : List (List Nat)
/-- api.Field -/
structure Fi where
  name : List Nat
  kind : Int
  init : V
/-- api.Schema -/
structure Sc where
  type : List Nat
  fields : List Fi
def V.cs (v : V) : List Da := [.int .i64 v.k, .int .i64 v.n, .str v.s, .slice 1 (v.is.map (.int .i64)), .slice 1 (v.ls.map .str)]
def V.e (v : V) : Da := .agg [.int .i64 v.k, .int .i64 v.n, .str v.s, .slice 1 (v.is.map (.int .i64)), .slice 1 (v.ls.map .str)]
def Fi.e (f : Fi) : Da := .agg [.str f.name, .int .i64 f.kind, .int .i64 f.init.k, .int .i64 f.init.n, .str f.init.s, .slice 1 (f.init.is.map (.int .i64)), .slice 1 (f.init.ls.map .str)]
def Sc.e (s : Sc) : Da := .agg [.str s.type, .slice 7 (s.fields.map Fi.e)]
/-- api.MigrateOp -/
structure Op where
  kind : Int
  arg : V
/-- api.Rule -/
structure Ru where
  field : List Nat
  source : List Nat
  init : V
  ops : List Op
/-- api.Migrator -/
structure Mi where
  type : List Nat
  rules : List Ru
def Op.e (o : Op) : Da := .agg [.int .i64 o.kind, .int .i64 o.arg.k, .int .i64 o.arg.n, .str o.arg.s, .slice 1 (o.arg.is.map (.int .i64)), .slice 1 (o.arg.ls.map .str)]
def Ru.e (r : Ru) : Da := .agg [.str r.field, .str r.source, .int .i64 r.init.k, .int .i64 r.init.n, .str r.init.s, .slice 1 (r.init.is.map (.int .i64)), .slice 1 (r.init.ls.map .str), .slice 6 (r.ops.map Op.e)]
def Mi.e (m : Mi) : Da := .agg [.str m.type, .slice 8 (m.rules.map Ru.e)]
/-- Is it a valid value? -/
def vOk (v : V) : Bool := decide (0 ≤ v.k ∧ v.k ≤ 5 ∧ (v.n = 0 ∨ v.k = 1 ∨ (v.k = 2 ∧ v.n = 1)) ∧ (v.s = [] ∨ v.k = 3) ∧ (v.is.length = 0 ∨ v.k = 4) ∧ (v.ls.length = 0 ∨ v.k = 5) ∧ v.s.length ≤ 64 ∧ v.is.length ≤ 16 ∧ v.ls.length ≤ 16) && v.ls.all fun t => decide (t.length ≤ 64)
def nameOk (s : List Nat) : Bool := decide (1 ≤ s.length ∧ s.length ≤ 32)
attribute [go_sem] V.e Fi.e V.cs Op.e Ru.e
theorem ru_eta (r : Ru) : (⟨r.field, r.source, r.init, r.ops⟩ : Ru) = r := rfl
theorem op_eta (o : Op) : (⟨o.kind, o.arg⟩ : Op) = o := rfl
theorem v_eta (v : V) : (⟨v.k, v.n, v.s, v.is, v.ls⟩ : V) = v := rfl
end Go.Ab
