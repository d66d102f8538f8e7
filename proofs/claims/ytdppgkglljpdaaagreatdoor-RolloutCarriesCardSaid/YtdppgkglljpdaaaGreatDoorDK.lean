/- The data of RolloutCarries and RolloutSteps: versions, migrators, schemas; the known answers. -/
import Derived.Test.YtdppgkglljpdaaaGreatDoorAwL
import Derived.Test.YtdppgkglljpdaaaGreatDoorAm3
set_option linter.all false
namespace Go.Ab
open Go
set_option maxRecDepth 100000
structure V where
  k : Int
  n : Int
  s : List Nat
  is : List Int
  ls : List (List Nat)
structure Fi where
  name : List Nat
  kind : Int
  init : V
structure Sc where
  type : List Nat
  fields : List Fi
structure Op where
  kind : Int
  arg : V
structure Ru where
  field : List Nat
  source : List Nat
  init : V
  ops : List Op
structure Mi where
  type : List Nat
  rules : List Ru
def V.cs (v : V) : List Da := [.int .i64 v.k, .int .i64 v.n, .str v.s, .slice 1 (v.is.map (.int .i64)), .slice 1 (v.ls.map .str)]
def V.e (v : V) : Da := .agg [.int .i64 v.k, .int .i64 v.n, .str v.s, .slice 1 (v.is.map (.int .i64)), .slice 1 (v.ls.map .str)]
def Fi.e (f : Fi) : Da := .agg [.str f.name, .int .i64 f.kind, .int .i64 f.init.k, .int .i64 f.init.n, .str f.init.s, .slice 1 (f.init.is.map (.int .i64)), .slice 1 (f.init.ls.map .str)]
def Sc.e (s : Sc) : Da := .agg [.str s.type, .slice 7 (s.fields.map Fi.e)]
def Op.e (o : Op) : Da := .agg [.int .i64 o.kind, .int .i64 o.arg.k, .int .i64 o.arg.n, .str o.arg.s, .slice 1 (o.arg.is.map (.int .i64)), .slice 1 (o.arg.ls.map .str)]
def Ru.e (r : Ru) : Da := .agg [.str r.field, .str r.source, .int .i64 r.init.k, .int .i64 r.init.n, .str r.init.s, .slice 1 (r.init.is.map (.int .i64)), .slice 1 (r.init.ls.map .str), .slice 6 (r.ops.map Op.e)]
def Mi.e (m : Mi) : Da := .agg [.str m.type, .slice 8 (m.rules.map Ru.e)]
def v0 : V := ⟨0, 0, [], [], []⟩
def sAcc : List Nat := [65, 99, 99, 111, 117, 110, 116]
def sCnt : List Nat := [67, 111, 117, 110, 116, 101, 114]
def sBal : List Nat := [98, 97, 108, 97, 110, 99, 101]
def sLog : List Nat := [108, 111, 103]
def sCou : List Nat := [99, 111, 117, 110, 116]
def sNo : List Nat := [110, 111, 116, 104, 105, 110, 103]
def fInt (s : List Nat) : Fi := ⟨s, 1, ⟨1, 0, [], [], []⟩⟩
def sc1 : Sc := ⟨sAcc, [fInt sBal, ⟨sLog, 4, ⟨4, 0, [], [], []⟩⟩]⟩
def sc2 : Sc := ⟨sAcc, [fInt sBal, ⟨sLog, 4, ⟨4, 0, [], [], []⟩⟩, fInt sCou]⟩
def sc3 : Sc := ⟨sCnt, [fInt [110]]⟩
def idM (s : Sc) : Mi := ⟨s.type, s.fields.map fun f => ⟨f.name, f.name, v0, []⟩⟩
def migX (a b c : List Nat) : Mi := ⟨sAcc, [⟨sBal, a, v0, []⟩, ⟨sLog, b, v0, []⟩, ⟨sCou, c, v0, [⟨4, v0⟩]⟩]⟩
def migA : Mi := migX sBal sLog sLog
def ver1 : Da := .agg [prog1, .slice 2 []]
def ver2 : Da := .agg [prog2, .sliceE 2 [migA.e]]
def ver3 : Da := .agg [prog2, .slice 2 [(idM sc2).e, (idM sc3).e]]
def verS (k a : Nat) : List Da :=
  match k with
  | 1 => [ver1]
  | 2 => [ver2, ver1]
  | 3 => [ver1, .agg [prog2, .slice 2 []]]
  | 4 => [ver1, .agg [prog2, .slice 2 [migA.e, migA.e]]]
  | 5 => [ver1, .agg [prog2, .sliceE 2 [(migX (if a = 0 then sNo else sBal) (if a = 1 then sNo else sLog) (if a = 0 then sLog else if a = 1 then sLog else sNo)).e]]]
  | 6 => [ver1, ver2, ver3]
  | 7 => [ver1, ver2, ver3, .agg [prog2, .slice 2 []]]
  | 8 => [.agg [prog1, .sliceE 2 [migA.e]], ver2]
  | _ => [ver1, ver2]
def ansV : R := some (.arr 0 0 2 2, [.arr [ver1, ver2]])
def ans3 : R := some (.p ver3, [])
def ansB : R := some (.tup [.p (.agg [.int .i64 0, .int .i64 0, .int .i64 0]), .p (.int .i64 0)], [])
def ansR (i : Int) (b : Bool) : R := some (.tup [.p (.int .i64 i), .p (.bool b)], [])
def badS (k : Nat) : Int :=
  match k with
  | 3 => 1
  | 4 => 1
  | 5 => 1
  | 7 => 3
  | _ => 0
def goodS (k : Nat) : Bool :=
  match k with
  | 0 => true
  | 1 => true
  | 6 => true
  | _ => false
noncomputable section
def kW : List Da → R := memo [([], some (.p (.bool true), []))]
def kA : List Da → R := memo [([.agg [prog1]], ansA1), ([.agg [prog2]], ansA2)]
def kB : List Da → R := memo [([.agg [prog1]], ansB), ([.agg [prog2]], ansB)]
def kV : List Da → R := memo [([], ansV)]
def k3 : List Da → R := memo [([.agg [prog2]], ans3)]
def kEnt (k a : Nat) : List Da × R := ([.slice 2 (verS k a)], ansR (badS k) (goodS k))
def kR : List Da → R := memo [kEnt 0 0, kEnt 1 0, kEnt 2 0, kEnt 3 0, kEnt 4 0, kEnt 5 0, kEnt 5 1, kEnt 5 2, kEnt 6 0, kEnt 7 0, kEnt 8 0]
end
end Go.Ab
