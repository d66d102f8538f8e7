import Derived.Test.YtmnmeiibmgcddaaGreatDoorAbG
set_option linter.all false
namespace Go.Ab
open Go
set_option maxRecDepth 100000
def i6 (n:Int):Da:= .int .i64 n
def tk (k:Int)(s:LN)(n a:Int):Da:= .agg [.int .i64 k,.str s,.int .i64 n,.int .i64 a]
def nd (k:Int)(s:LN)(ks:LD):Da:= .agg [.int .i64 k,.str s,.int .i64 0,.int .i64 0,.str [],.slice 1 [],.slice 1 [],.slice 1 ks]
def ic (o a b:Int):Da:= .agg [.int .i64 o,.int .i64 a,.int .i64 b,.int .i64 0,.int .i64 0,.str [],.slice 1 [],.slice 1 []]
def ê:Da:=(.str [97,99,116,111,114,32,65,32,123,32,115,116,97,116,101,32,120,58,32,105,110,116,32,61,32,55,59,32,109,101,116,104,111,100,32,109,40,110,58,32,105,110,116,41,58,32,105,110,116,32,123,32,120,32,61,32,120,32,43,32,110,59,32,108,101,116,32,107,58,32,105,110,116,32,61,32,99,97,108,108,32,65,40,34,98,34,41,46,102,40,41,59,32,114,101,116,117,114,110,32,107,32,42,32,120,59,32,125,32,109,101,116,104,111,100,32,102,40,41,58,32,105,110,116,32,123,32,114,101,116,117,114,110,32,50,59,32,125,32,125])
def aaM:Da:=(.agg [(.slice 3 [(.agg [(.str [65]),(.slice 7 [(.agg [(.str [120]),(i6 1),(i6 1),(i6 7),(.str []),(.slice 1 []),(.slice 1 [])])]),(.slice 4 [(.agg [(.str [109]),(.slice 2 [(.agg [(.str [110]),(i6 1)])]),(i6 1),(.slice 8 [(nd 2 [120] []),(nd 2 [110] []),(nd 5 [43] [(i6 0),(i6 1)]),(nd 9 [120] [(i6 2)]),(.agg [(i6 1),(.str []),(i6 3),(i6 0),(.str [98]),(.slice 1 []),(.slice 1 []),(.slice 1 [])]),(.agg [(i6 7),(.str [65]),(i6 0),(i6 0),(.str [102]),(.slice 1 []),(.slice 1 []),(.slice 1 [(i6 4)])]),(.agg [(i6 8),(.str [107]),(i6 1),(i6 0),(.str []),(.slice 1 []),(.slice 1 []),(.slice 1 [(i6 5)])]),(nd 2 [107] []),(nd 2 [120] []),(nd 5 [42] [(i6 7),(i6 8)]),(nd 13 [] [(i6 9)]),(nd 18 [] [(i6 3),(i6 6),(i6 10)])])]),(.agg [(.str [102]),(.slice 2 []),(i6 1),(.slice 8 [(.agg [(i6 1),(.str []),(i6 1),(i6 2),(.str []),(.slice 1 []),(.slice 1 []),(.slice 1 [])]),(nd 13 [] [(i6 0)]),(nd 18 [] [(i6 1)])])])])])])])
def aaN:Da:=(.agg [(.slice 3 [(.agg [(.str [65]),(.slice 7 [(.agg [(.str [120]),(i6 1),(i6 1),(i6 7),(.str []),(.slice 1 []),(.slice 1 [])])]),(.slice 5 [(.agg [(.str [109]),(.slice 1 [(i6 1)]),(i6 1),(.slice 1 [(i6 1),(i6 1)]),(.slice 8 [(ic 4 0 0),(ic 2 0 0),(ic 9 0 0),(ic 5 0 0),(.agg [(i6 1),(i6 0),(i6 0),(i6 3),(i6 0),(.str [98]),(.slice 1 []),(.slice 1 [])]),(ic 30 0 1),(ic 3 1 0),(ic 2 1 0),(ic 4 0 0),(ic 12 0 0),(ic 32 0 0)])]),(.agg [(.str [102]),(.slice 1 []),(i6 1),(.slice 1 []),(.slice 8 [(.agg [(i6 1),(i6 0),(i6 0),(i6 1),(i6 2),(.str []),(.slice 1 []),(.slice 1 [])]),(ic 32 0 0)])])])])])])
end Go.Ab
