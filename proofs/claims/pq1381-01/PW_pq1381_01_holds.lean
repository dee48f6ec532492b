import PyProof.Rows.All
import Wide.All
import OpenK.AllK
import Wide.FinOn
import Lean
import PySem.Challenge.RW_pq1381_01
set_option Elab.async false
set_option maxRecDepth 100000
set_option maxHeartbeats 0
set_option linter.all false
namespace Mine
noncomputable section
open PySem PySem.W PySem.Calls PyProof.Rows
noncomputable def P0 : Program := PySem.Challenge.rw_pq1381_01.prog
noncomputable def B0 : List Stmt := behindTheImports P0
noncomputable def nth : List Stmt → Nat → Stmt
  | [], _ => .Pass ⟨0, 0, 0, 0⟩
  | a :: _, 0 => a
  | _ :: l, n + 1 => nth l n
noncomputable def noScope : Scope := ⟨.function, [], false, false, []⟩
noncomputable def noArgs : Arguments := ⟨[], [], none, [], [], none, []⟩
noncomputable def cb : Stmt → List Stmt
  | .ClassDef _ _ _ b _ _ _ _ _ _ _ => b
  | _ => []
noncomputable def da : Stmt → Arguments
  | .FunctionDef _ a _ _ _ _ _ _ _ _ => a
  | _ => noArgs
noncomputable def db : Stmt → List Stmt
  | .FunctionDef _ _ b _ _ _ _ _ _ _ => b
  | _ => []
noncomputable def ds : Stmt → Scope
  | .FunctionDef _ _ _ _ _ _ s _ _ _ => s
  | _ => noScope
noncomputable def fd (s : Stmt) (n q : Str) (g : Addr) (cl : List (Str × Addr)) (d kd doc pm : Value) (an : Option Addr) (c ct : Value) (b : Addr) : FuncData :=
  ⟨n, q, da s, .stmts (db s), ds s, g, cl, d, kd, doc, pm, an, c, ct, b⟩
noncomputable def fc (s : Stmt) (sc : Scope) (n q : Str) (g : Addr) (cl : List (Str × Addr)) (d kd doc pm : Value) (an : Option Addr) (c ct : Value) (b : Addr) : FuncData :=
  ⟨n, q, da s, .stmts (db s), sc, g, cl, d, kd, doc, pm, an, c, ct, b⟩
noncomputable def life0 : Life := ⟨[], [], [], 0, [], [], false, #[], [], 0, false, false, false, 0, [2000, 10, 10], false, 0, true, [], [], 0, false⟩
noncomputable def drawn0 : Drawn := ⟨0, 0, 0, 0⟩
noncomputable def gens0 : Array GenState := Array.mk []
noncomputable def env0 : Env := { scope := P0.main.scope, locals := mainNs, globals := mainNs, cells := [], code := .ref 13, frame := some 14 }
noncomputable def cE : Code := .body B0 env0
noncomputable def q0 : Pos := ⟨0, 0, 0, 0⟩
noncomputable def BB : List PySem.Frame := [topFrame q0]
noncomputable def ann0 : Option Value := some (.ref 6)

def s0 := nth B0 0
def s2 := nth B0 2
def s3 := nth B0 3
def s3_0 := nth (cb s3) 0
def s4 := nth B0 4
def s4_0 := nth (cb s4) 0
def s5 := nth B0 5
def s5_0 := nth (cb s5) 0
def s6 := nth B0 6
def s6_0 := nth (cb s6) 0
def s7 := nth B0 7
def s7_0 := nth (cb s7) 0
def s9 := nth B0 9
def s12 := nth B0 12
def s12_0 := nth (cb s12) 0
def s13 := nth B0 13
def s13_0 := nth (cb s13) 0
def s13_1 := nth (cb s13) 1
def s14 := nth B0 14
def s14_0 := nth (cb s14) 0
def s15 := nth B0 15
def s15_0 := nth (cb s15) 0
def s16 := nth B0 16
def s16_0 := nth (cb s16) 0
def s17 := nth B0 17
def s17_0 := nth (cb s17) 0
def s18 := nth B0 18
def s18_0 := nth (cb s18) 0
def s19 := nth B0 19
def s20 := nth B0 20
def s21 := nth B0 21
def s22 := nth B0 22
def s23 := nth B0 23
def s24 := nth B0 24
def s25 := nth B0 25
def s26 := nth B0 26
def s27 := nth B0 27
def s28 := nth B0 28
def s29 := nth B0 29
def s30 := nth B0 30
def s31 := nth B0 31
def s33 := nth B0 33
def s34 := nth B0 34
def s35 := nth B0 35
def s36 := nth B0 36
def s37 := nth B0 37
def s38 := nth B0 38
def s39 := nth B0 39
def s40 := nth B0 40
def s41 := nth B0 41
def s42 := nth B0 42
def s43 := nth B0 43
def s48 := nth B0 48
def s49 := nth B0 49
def s50 := nth B0 50
def s51 := nth B0 51
def s52 := nth B0 52
def s53 := nth B0 53
def s54 := nth B0 54
def s55 := nth B0 55
def s56 := nth B0 56
def s59 := nth B0 59
def s60 := nth B0 60
def s61 := nth B0 61
def s62 := nth B0 62
def s63 := nth B0 63
def s64 := nth B0 64
def s65 := nth B0 65
def s66 := nth B0 66
def s67 := nth B0 67
def s68 := nth B0 68
def s69 := nth B0 69
def s70 := nth B0 70
def s71 := nth B0 71
def s72 := nth B0 72
def s73 := nth B0 73
def s74 := nth B0 74
def s75 := nth B0 75
def s76 := nth B0 76
def s79 := nth B0 79
def s80 := nth B0 80
def s81 := nth B0 81
def s82 := nth B0 82
def s83 := nth B0 83
def s84 := nth B0 84
def s85 := nth B0 85
def s86 := nth B0 86
def s87 := nth B0 87
def s88 := nth B0 88
def s89 := nth B0 89
def s90 := nth B0 90
def s91 := nth B0 91
def s92 := nth B0 92
def s93 := nth B0 93
def s94 := nth B0 94
def s95 := nth B0 95
def s96 := nth B0 96
def s97 := nth B0 97
def s99 := nth B0 99
def s99_0 := nth (cb s99) 0
def s100 := nth B0 100
def s101 := nth B0 101
def s102 := nth B0 102
def s103 := nth B0 103
def s104 := nth B0 104
def s105 := nth B0 105
def s106 := nth B0 106
def s107 := nth B0 107
def s108 := nth B0 108
def s109 := nth B0 109
def s110 := nth B0 110
def s111 := nth B0 111
def s112 := nth B0 112
def s114 := nth B0 114
def s115 := nth B0 115
def s116 := nth B0 116
def s117 := nth B0 117
def s119 := nth B0 119
def s120 := nth B0 120
def s121 := nth B0 121
def s122 := nth B0 122
def s123 := nth B0 123
def s124 := nth B0 124
def s125 := nth B0 125
def s127 := nth B0 127
def s128 := nth B0 128
def s129 := nth B0 129
def s130 := nth B0 130
def s131 := nth B0 131
def s132 := nth B0 132
def s133 := nth B0 133
def s134 := nth B0 134
def s135 := nth B0 135
def s136 := nth B0 136
def s137 := nth B0 137
def s138 := nth B0 138
def s140 := nth B0 140
def s141 := nth B0 141
def s142 := nth B0 142
def s143 := nth B0 143
def s144 := nth B0 144
def s145 := nth B0 145
def s146 := nth B0 146
def s147 := nth B0 147
def s148 := nth B0 148
def s149 := nth B0 149
def s150 := nth B0 150
def s151 := nth B0 151
def s152 := nth B0 152
def s154 := nth B0 154
def s155 := nth B0 155
def s156 := nth B0 156
def s157 := nth B0 157
def s158 := nth B0 158
def s159 := nth B0 159
def s160 := nth B0 160
def s161 := nth B0 161
def s162 := nth B0 162
def s164 := nth B0 164
def s164_0 := nth (cb s164) 0
def s164_1 := nth (cb s164) 1
def s164_2 := nth (cb s164) 2
def s164_3 := nth (cb s164) 3
def s164_4 := nth (cb s164) 4
def s164_5 := nth (cb s164) 5
def s164_6 := nth (cb s164) 6
def s165 := nth B0 165
def s166 := nth B0 166
def s167 := nth B0 167
def s168 := nth B0 168
def s170 := nth B0 170
def s171 := nth B0 171
def s172 := nth B0 172
def s173 := nth B0 173
def s174 := nth B0 174
def s175 := nth B0 175
def s176 := nth B0 176
def s177 := nth B0 177
def s178 := nth B0 178
def s180 := nth B0 180
def s180_0 := nth (cb s180) 0
def s181 := nth B0 181
def s181_0 := nth (cb s181) 0
def s181_1 := nth (cb s181) 1
def s181_2 := nth (cb s181) 2
def s181_3 := nth (cb s181) 3
def s181_4 := nth (cb s181) 4
def s181_5 := nth (cb s181) 5
def s181_6 := nth (cb s181) 6
def s181_7 := nth (cb s181) 7
def s181_8 := nth (cb s181) 8
def s181_9 := nth (cb s181) 9
def s181_10 := nth (cb s181) 10
def s181_11 := nth (cb s181) 11
def s181_12 := nth (cb s181) 12
def s181_13 := nth (cb s181) 13
def s181_14 := nth (cb s181) 14
def s181_15 := nth (cb s181) 15
def s181_16 := nth (cb s181) 16
def s181_17 := nth (cb s181) 17
def s181_18 := nth (cb s181) 18
def s181_19 := nth (cb s181) 19
def s181_20 := nth (cb s181) 20
def s181_21 := nth (cb s181) 21
def s181_22 := nth (cb s181) 22
def s181_23 := nth (cb s181) 23
def s181_24 := nth (cb s181) 24
def s181_25 := nth (cb s181) 25
def s181_26 := nth (cb s181) 26
def s183 := nth B0 183
def s184 := nth B0 184
def s185 := nth B0 185
def s186 := nth B0 186
def s187 := nth B0 187
def s188 := nth B0 188
def s189 := nth B0 189
def s190 := nth B0 190
def s191 := nth B0 191
def s192 := nth B0 192
def s193 := nth B0 193
noncomputable def fS (l : List (Str × NameKind)) : Scope := ⟨.function, l, false, false, []⟩
noncomputable def vl (x : Str) := (x, NameKind.local)
noncomputable def vg (x : Str) := (x, NameKind.globalImplicit)
def c100 := fS [vl "v"]
def c115 := fS [vl "env", vl "name", vl "found"]
def c117 := fS [vl "env", vl "name", vl "value", vg "Refusal", vg "locked_text"]
def c120 := fS [vl "names", vl "table", vl "i", vl "name", vg "range", vg "len"]
def c121 := fS [vl "item", vl "names", vl "table", vl "found", vl "i", vg "first_places", vg "range", vg "len"]
def c122 := fS [vl "item", vl "names", vl "exact", vg "partial_place", vg "first_places"]
def c124 := fS [vl "ix", vl "n", vl "names", vl "exact", vl "kind", vg "one_name", vg "Refusal", vg "len", vg "one_whole", vg "whole_subscripts"]
def c127 := fS [vl "kind", vg "Null"]
def c128 := fS [vl "kind"]
def c12_0 := fS [vl "self"]
def c130 := fS [vl "v", vl "place", vg "is_list_kind", vg "Vector"]
def c131 := fS [vl "v", vl "ix", vl "exact", vl "n", vl "place", vg "len", vg "one_place", vg "names_of", vg "is_list_kind", vg "Null", vg "Vector", vg "Refusal", vg "one_item"]
def c133 := fS [vl "env", vl "name", vg "Null"]
noncomputable def c134 : Scope := ⟨.function, [vl "v", vl "ix", vl "exact", vl "tags", vl "place", vg "Null", vg "len", vg "Refusal", vg "environment_item", vg "one_place", vg "is_vector", vg "refuse_subset", vg "vector_element"], false, false, (ds s134).more⟩
def c136 := fS [vl "ix", vg "is_vector", vg "is_list_kind", vg "len"]
def c137 := fS [vl "v", vl "indexes", vl "exact", vl "ix", vl "parts", vl "i", vg "len", vg "Refusal", vg "Null", vg "is_vector", vg "refuse_subset", vg "one_item", vg "array_element_place", vg "is_long_index", vg "is_list_kind", vg "element_step", vg "index_parts", vg "range"]
noncomputable def c138 : Scope := ⟨.function, [vl "v", vl "name", vl "tags", vl "place", vg "Null", vg "environment_item", vg "one_place", vg "character", vg "len", vg "is_vector", vg "refuse_subset", vg "is_list_kind", vg "Refusal", vg "vector_element"], false, false, (ds s138).more⟩
def c13_0 := fS [vl "self", vl "kind", vl "items", vl "attrs"]
def c13_1 := fS [vl "self", vl "attrs", vg "dict", vg "Vector", vg "list"]
def c140 := fS [vl "v", vl "kind", vl "notes", vg "is_list_kind", vg "as_list", vg "as_kind"]
def c141 := fS [vl "v", vl "kind", vl "notes", vl "attrs", vg "own", vg "dict", vg "Vector", vg "list", vg "converted_items"]
def c142 := fS [vl "v", vl "count", vl "names", vl "added", vl "n", vl "i", vl "texts", vg "len", vg "range", vg "room", vg "lacking_item", vg "drop_attr", vg "list", vg "put_attr", vg "character"]
def c143 := fS [vl "places", vl "count", vl "place"]
def c144 := fS [vl "v", vl "places", vl "names", vl "count", vl "gone", vl "place", vl "items", vl "kept_names", vl "i", vl "inside", vl "result", vl "name", vg "names_of", vg "room", vg "max", vg "len", vg "first_count", vg "range", vg "Null", vg "Vector", vg "put_attr", vg "character"]
def c147 := fS [vl "v", vl "value", vg "is_list_kind", vg "is_atomic", vg "common_kind", vg "Refusal"]
def c148 := fS [vl "v", vl "place", vl "name", vl "value", vl "notes", vl "names", vl "kind", vl "result", vl "added", vg "names_of", vg "is_list_kind", vg "length", vg "Refusal", vg "element_kind", vg "raised", vg "len", vg "extend_vector", vg "share", vg "converted_items"]
def c149 := fS [vl "v", vl "ix", vl "value", vl "notes", vl "kind", vl "n", vl "place", vl "name", vg "is_atomic", vg "len", vg "Vector", vg "one_place", vg "names_of", vg "Refusal", vg "is_list_kind", vg "delete_places", vg "put_element"]
def c14_0 := fS [vl "self", vl "name"]
def c150 := fS [vl "v", vl "parts", vl "value", vl "notes", vl "inner", vg "call_of_list", vg "assign_down", vg "list_of_call", vg "is_vector", vg "refuse_subset", vg "len", vg "assign_step", vg "element_step", vg "Refusal"]
def c151 := fS [vl "v", vl "indexes", vl "value", vl "notes", vl "place", vl "ix", vg "len", vg "Refusal", vg "is_vector", vg "refuse_subset", vg "array_element_place", vg "is_list_kind", vg "put_element", vg "is_long_index", vg "assign_down", vg "index_parts"]
def c152 := fS [vl "v", vl "name", vl "value", vl "notes", vg "call_of_list", vg "assign_dollar", vg "list_of_call", vg "Vector", vg "is_vector", vg "refuse_subset", vg "is_list_kind", vg "len", vg "raised", vg "assign_step", vg "character"]
def c154 := fS [vl "args", vl "indexes", vl "drop", vl "exact", vl "tag", vl "value", vg "len", vg "Refusal", vg "condition"]
def c155 := fS [vl "interp", vl "value"]
def c156 := fS [vl "interp", vl "args", vl "env", vl "v", vl "indexes", vl "drop", vl "exact", vg "index_args", vg "opened", vg "element"]
def c157 := fS [vl "args", vl "indexes", vl "tag", vl "value", vg "len", vg "Refusal"]
def c158 := fS [vl "interp", vl "args", vl "env", vl "v", vl "indexes", vl "value", vl "notes", vl "result", vg "setter_parts", vg "len", vg "Refusal", vg "define", vg "one_text", vg "assign_element"]
def c159 := fS [vl "e", vg "len", vg "field_name", vg "Refusal"]
def c15_0 := fS [vl "self", vl "items", vl "tags", vl "attrs"]
def c160 := fS [vl "interp", vl "call", vl "env", vl "v", vl "name", vl "found", vl "value", vl "result", vg "len", vg "Refusal", vg "field_name", vg "has_class", vg "generic_dispatch", vg "text", vg "opened", vg "dollar"]
def c161 := fS [vl "interp", vl "v", vl "name", vl "value", vl "notes", vl "result", vg "define", vg "assign_dollar"]
def c162 := fS [vl "interp", vl "call", vl "env", vl "v", vl "name", vl "value", vl "args", vl "found", vl "result", vg "len", vg "Refusal", vg "field_name", vg "has_class", vg "text", vg "generic_dispatch", vg "put_field"]
def c16_0 := fS [vl "self", vl "number", vl "parent", vl "attrs"]
def c176 := fS [vl "name", vg "len"]
def c181_0 := fS [vl "self", vl "limit", vl "most_frames"]
def c181_1 := fS [vl "self", vl "parent", vl "env", vg "Environment"]
def c181_5 := fS [vl "self", vl "notes", vl "call", vl "note"]
def c181_7 := fS [vl "self", vl "e", vl "env", vl "kind", vg "share"]
def c181_8 := fS [vl "self", vl "name", vl "env", vl "found", vl "message", vg "is_dots_place", vg "lookup", vg "share"]
def c183 := fS [vl "script", vl "beans", vl "cell", vl "heft", vl "lap", vg "range"]
def c184 := fS [vl "beans", vl "many", vg "len"]
def c185 := fS [vl "figure", vg "Null", vg "Vector"]
def c186 := fS [vl "v"]
noncomputable def c187 : Scope := ⟨.function, [vl "pairs", ("word", .cell), vl "exactly", vl "name", vl "figure", vl "beginning", vg "len"], false, false, (ds s187).more⟩
noncomputable def c188 : Scope := ⟨.function, [vl "pairs", vl "word", vl "figure", vl "names_now", vl "spot", vl "middle"], false, false, (ds s188).more⟩
noncomputable def c189 : Scope := ⟨.function, [vl "pairs", vl "made", vg "Vector"], false, false, (ds s189).more⟩
def c19 := fS [vl "n", vg "MOST_LENGTH", vg "Refusal", vg "str"]
noncomputable def c190 : Scope := ⟨.function, [vl "v", vl "pairs"], false, false, (ds s190).more⟩
def c191 := fS [vl "interp", vl "held_in", vl "word", vl "manner", vl "env", vl "told", vl "args", vg "s_dollar", vg "call_of", vg "Symbol", vg "Vector", vg "flag", vg "b_element"]
def c192 := fS [vl "interp", vl "held_in", vl "word", vl "figure", vl "by_dollar", vl "env", vl "told", vg "define", vg "_law_whole", vg "s_set_dollar", vg "call_of", vg "Symbol", vg "b_set_element", vg "Vector"]
noncomputable def c193 : Scope := ⟨.function, [vl "script", ("beans", .cell), vl "interp", ("words", .cell), vl "pairs", vl "box", vl "inside", vl "lap", vl "deed", vl "word", vl "in_box", vl "told", vl "due", vl "figure", vl "old", vl "later", vg "_law_beans", vg "Evaluator", vg "range", vg "_law_bean", vg "define", vg "_law_list", vg "_law_read", vg "_law_found", vg "_law_shown", vg "_law_set", vg "_law_after", vg "_law_is", vg "sorted"], false, false, (ds s193).more⟩
def c20 := fS [vg "Null"]
def c21 := fS [vl "items", vg "Vector", vg "list"]
def c22 := fS [vl "b", vg "Vector"]
def c23 := fS [vl "s", vg "Vector"]
def c25 := fS [vl "name", vl "args", vl "items", vg "Symbol", vg "list", vg "Call", vg "len"]
def c26 := fS [vl "v", vl "kind", vg "isinstance", vg "Vector", vg "len"]
def c27 := fS [vl "v", vg "isinstance", vg "Vector"]
def c28 := fS [vl "v"]
def c30 := fS [vl "v"]
def c31 := fS [vl "v", vg "isinstance", vg "Vector"]
def c33 := fS [vl "v", vl "name"]
def c34 := fS [vl "v", vl "name", vg "len"]
def c35 := fS [vl "v", vl "name", vl "value", vg "share"]
noncomputable def c36 : Scope := ⟨.function, [vl "v", vl "tag", vl "dims", vl "rows", vl "names", vg "sorted", vg "dim_of", vg "len", vg "dimnames_of", vg "get_attr", vg "list"], false, false, (ds s36).more⟩
def c37 := fS [vl "v", vl "dims", vg "get_attr", vg "list"]
def c9 := fS [vl "v", vl "what", vg "len", vg "Refusal"]
noncomputable def vI (n : Int) : Value := .int n 0
noncomputable def vR (a : Addr) : Value := .ref a
noncomputable def vS (x : String) (n : Nat) : Value := .str (Str.ofString x) n
noncomputable def nf (a : Array Value) : Obj := ⟨.none, none, .fields a, #[]⟩
noncomputable def tu (a : Array Value) : Obj := ⟨.type "tuple", none, .seq a 0, #[]⟩
noncomputable def dc (a : Array DictEntry) (n : Nat) : Obj := ⟨.type "dict", none, .dict a n, #[]⟩
noncomputable def eN (P : Params) (x : String) (n : Nat) (v : Value) : DictEntry := ⟨PyData.keyHash P (Str.ofString x), .str (Str.ofString x) n, v⟩
noncomputable def lf (o : Obj) : BT := .node o .nil .nil
noncomputable def nd (o : Obj) (a b : BT) : BT := .node o a b
noncomputable def iL : BT → Nat → List Obj → BT
  | t, _, [] => t
  | t, n, o :: l => iL (t.ins n o) (n + 1) l
noncomputable def y0 (a : Nat) : Obj := ⟨(.type "module"), (some a), .plain, #[]⟩
noncomputable def k1 : Obj := ⟨(.type "tuple"), none, (.seq #[] 0), #[]⟩
noncomputable def k2 : Obj := ⟨.none, none, (.fields #[]), #[]⟩
noncomputable def y3 (a : String) (b c d : Nat) (e : Int) (f : Nat) (g : Int) (h : Nat) (i : Int) (j : Nat) : Obj := ⟨(.type "code"), none, (.fields #[(.str (Str.ofString a) b), (.str (Str.ofString a) c), (.str (Str.ofString "/claim/cut.py") d), (.int e 0), (.int 0 0), (.int 0 0), (.int 0 0), (.int 0 0), (.ref f), (.bool false), (.int g 0), (.ref h), .none, .none, .none, .none, (.int i 0), (.int e 0), (.str (Str.ofString "/claim/cut.py") j)]), #[]⟩
noncomputable def y4 (a b : Nat) (c : String) (d : Nat) : Obj := ⟨(.type "frame"), none, .plain, #[some (.ref a), some (.ref 3), some (.ref b), none, some (.str (Str.ofString c) d), none, some (.ref 0)]⟩
noncomputable def y5 (a : String) (b : Nat) : Obj := ⟨(.type "tuple"), none, (.seq #[(.str (Str.ofString a) b)] 0), #[]⟩
noncomputable def y6 (a : Stmt) (b c : String) : Obj := ⟨.none, none, (.func (fd a (Str.ofString b) (Str.ofString c) 0 [] .none .none .none .none none .none .none 0)), #[]⟩
noncomputable def y7 (a : String) (b : Nat) (c : String) (d e : Nat) (f g : Int) (h i j k l : Nat) (m : Int) (n : Nat) : Obj := ⟨(.type "code"), none, (.fields #[(.str (Str.ofString a) b), (.str (Str.ofString c) d), (.str (Str.ofString "/claim/cut.py") e), (.int f 0), (.int g 0), (.int 0 0), (.int 0 0), (.int 3 0), (.ref h), (.bool true), (.int 181 0), (.ref i), .none, (.ref j), (.ref k), (.ref l), (.int m 0), (.int f 0), (.str (Str.ofString "/claim/cut.py") n)]), #[]⟩
noncomputable def y8 (a : Stmt) (b c d : String) (e f : Nat) : Obj := ⟨(.type "function"), none, (.func (fd a (Str.ofString b) (Str.ofString c) 3 [] .none .none .none (.str (Str.ofString d) e) none (.ref f) .none 0)), #[]⟩
noncomputable def k9 : Obj := ⟨(.type "builtin_function_or_method"), none, (.fields #[(.builtin "type.__prepare__"), (.type "type")]), #[]⟩
noncomputable def y10 (a b : Nat) : Obj := ⟨(.type "getset_descriptor"), none, (.fields #[(.str (Str.ofString "__weakref__") a), (.ref b), (.builtin "ExceptionGroup.__weakref__"), .none]), #[]⟩
noncomputable def y11 (a : Nat) : Obj := ⟨(.type "super"), none, (.fields #[(.ref a), (.ref a), (.ref a)]), #[]⟩
noncomputable def y12 (a : Nat) : Obj := ⟨(.type "builtin_function_or_method"), none, (.fields #[(.builtin "object.__init_subclass__"), (.ref a)]), #[]⟩
noncomputable def k13 : Obj := ⟨(.type "tuple"), none, (.seq #[(.ref 31)] 0), #[]⟩
noncomputable def y14 (a : Int) (b : Nat) : Obj := ⟨.none, none, (.fields #[(.int a 0), (.int 4 0), (.ref b)]), #[]⟩
noncomputable def y15 (a : String) (b : Nat) (c : String) (d : Nat) : Obj := ⟨(.type "tuple"), none, (.seq #[(.str (Str.ofString a) b), (.str (Str.ofString c) d)] 0), #[]⟩
noncomputable def y16 (a : String) (b c d e f : Nat) : Obj := ⟨(.type "type"), none, (.cls ⟨(Str.ofString a), [(.ref 31)], [(.ref b), (.ref 31), (.type "Exception"), (.type "BaseException"), (.type "object")], c, (Str.ofString a), true, [], [], false, none, false⟩), #[some (.ref d), none, some (.str (Str.ofString a) e), some (.str (Str.ofString a) f), some (.builtin "Exception.__new__"), some (.bool true)]⟩
noncomputable def y17 (a : String) (b : Nat) (c : String) (d : Nat) (e : String) (f : Nat) (g : String) (h : Nat) : Obj := ⟨(.type "tuple"), none, (.seq #[(.str (Str.ofString a) b), (.str (Str.ofString c) d), (.str (Str.ofString e) f), (.str (Str.ofString g) h)] 0), #[]⟩
noncomputable def y18 (a : String) (b : Nat) (c : String) (d : Nat) (e : String) (f : Nat) : Obj := ⟨(.type "tuple"), none, (.seq #[(.str (Str.ofString a) b), (.str (Str.ofString c) d), (.str (Str.ofString e) f)] 0), #[]⟩
noncomputable def y19 (a : Stmt) (b : Scope) (c d : String) : Obj := ⟨.none, none, (.func (fc a b (Str.ofString c) (Str.ofString d) 0 [] .none .none .none .none none .none .none 0)), #[]⟩
noncomputable def y20 (a : Stmt) (b : Scope) (c d e : String) (f g : Nat) : Obj := ⟨(.type "function"), none, (.func (fc a b (Str.ofString c) (Str.ofString d) 3 [] .none .none .none (.str (Str.ofString e) f) none (.ref g) .none 0)), #[]⟩
noncomputable def y21 (a : String) (b c d e : Nat) : Obj := ⟨(.type "type"), none, (.cls ⟨(Str.ofString a), [(.type "object")], [(.ref b), (.type "object")], c, (Str.ofString a), true, [], [], false, none, false⟩), #[none, none, some (.str (Str.ofString a) d), some (.str (Str.ofString a) e), some (.builtin "object.__new__"), some (.bool true)]⟩
noncomputable def y22 (a b : Nat) : Obj := ⟨(.type "getset_descriptor"), none, (.fields #[(.str (Str.ofString "__dict__") a), (.ref b), (.builtin "function.__dict__"), (.builtin "function.__dict__#set")]), #[]⟩
noncomputable def k23 : Obj := ⟨(.type "tuple"), none, (.seq #[.none] 0), #[]⟩
noncomputable def y24 (a : Stmt) (b : Scope) (c d : String) (e : Nat) (f : String) (g h : Nat) : Obj := ⟨(.type "function"), none, (.func (fc a b (Str.ofString c) (Str.ofString d) 3 [] (.ref e) .none .none (.str (Str.ofString f) g) none (.ref h) .none 0)), #[]⟩
noncomputable def y25 (a : String) (b : Nat) (c : String) (d : Nat) (e : String) (f : Nat) (g : String) (h : Nat) (i : String) (j : Nat) : Obj := ⟨(.type "tuple"), none, (.seq #[(.str (Str.ofString a) b), (.str (Str.ofString c) d), (.str (Str.ofString e) f), (.str (Str.ofString g) h), (.str (Str.ofString i) j)] 0), #[]⟩
noncomputable def y28 (a : String) (b : Nat) (c : String) (d e : Nat) (f g : Int) (h i j : Nat) (k : Int) (l : Nat) : Obj := ⟨(.type "code"), none, (.fields #[(.str (Str.ofString a) b), (.str (Str.ofString c) d), (.str (Str.ofString "/claim/cut.py") e), (.int f 0), (.int g 0), (.int 0 0), (.int 0 0), (.int 3 0), (.ref h), (.bool true), (.int 181 0), (.ref i), .none, .none, .none, (.ref j), (.int k 0), (.int f 0), (.str (Str.ofString "/claim/cut.py") l)]), #[]⟩
noncomputable def y31 (a : Stmt) (b c : String) (d : Nat) (e : String) (f g : Nat) : Obj := ⟨(.type "function"), none, (.func (fd a (Str.ofString b) (Str.ofString c) 3 [] (.ref d) .none .none (.str (Str.ofString e) f) none (.ref g) .none 0)), #[]⟩
def e0 (P : Params) := eN P "__name__" 165 (vS "__main__" 164)
def e1 (P : Params) := eN P "__doc__" 166 .none
def e2 (P : Params) := eN P "__package__" 167 .none
def e3 (P : Params) := eN P "__loader__" 168 (.builtin "__main__.__loader__#opaque")
def e4 (P : Params) := eN P "__spec__" 169 .none
def e5 (P : Params) := eN P "__annotations__" 170 (vR 6)
def e6 (P : Params) := eN P "__builtins__" 171 (vR 4)
def e7 (P : Params) := eN P "__file__" 173 (vS "/claim/cut.py" 172)
def e8 (P : Params) := eN P "__cached__" 174 .none
def e9 (P : Params) := eN P "__name__" 165 (vS "vectorcove.errors" 194)
def e10 (P : Params) := eN P "_wall" 193 (vR 21)
def e11 (P : Params) := eN P "CoveError" 215 (vR 31)
def e12 (P : Params) := eN P "Refusal" 240 (vR 51)
def e13 (P : Params) := eN P "RError" 269 (vR 70)
def e14 (P : Params) := eN P "LimitReached" 294 (vR 89)
def e15 (P : Params) := eN P "__name__" 165 (vS "vectorcove.values" 359)
def e16 (P : Params) := eN P "ReturnSignal" 321 (vR 108)
def e17 (P : Params) := eN P "LoopSignal" 348 (vR 127)
def e18 (P : Params) := eN P "one_text" 358 (vR 136)
def e19 (P : Params) := eN P "MOST_LENGTH" 362 (.int 1000000 361)
def e20 (P : Params) := eN P "Null" 391 (vR 153)
def e21 (P : Params) := eN P "Vector" 434 (vR 182)
def e22 (P : Params) := eN P "Symbol" 465 (vR 203)
def e23 (P : Params) := eN P "Call" 500 (vR 225)
def e24 (P : Params) := eN P "Environment" 537 (vR 247)
def e25 (P : Params) := eN P "Promise" 572 (vR 268)
def e26 (P : Params) := eN P "Dots" 603 (vR 289)
def e27 (P : Params) := eN P "room" 610 (vR 300)
def e28 (P : Params) := eN P "null" 616 (vR 307)
def e29 (P : Params) := eN P "character" 623 (vR 314)
def e30 (P : Params) := eN P "flag" 630 (vR 321)
def e31 (P : Params) := eN P "text" 637 (vR 328)
def e32 (P : Params) := eN P "symbol" 644 (vR 335)
def e33 (P : Params) := eN P "call_of" 653 (vR 342)
def e34 (P : Params) := eN P "length" 661 (vR 349)
def e35 (P : Params) := eN P "is_vector" 668 (vR 356)
def e36 (P : Params) := eN P "is_atomic" 675 (vR 363)
def e37 (P : Params) := eN P "is_function" 682 (vR 370)
def e38 (P : Params) := eN P "own" 689 (vR 377)
def e39 (P : Params) := eN P "__name__" 165 (vS "vectorcove.rational" 785)
def e40 (P : Params) := eN P "share" 696 (vR 384)
def e41 (P : Params) := eN P "get_attr" 706 (vR 391)
def e42 (P : Params) := eN P "drop_attr" 714 (vR 398)
def e43 (P : Params) := eN P "put_attr" 723 (vR 405)
def e44 (P : Params) := eN P "names_of" 729 (vR 410)
def e45 (P : Params) := eN P "dim_of" 737 (vR 417)
def e46 (P : Params) := eN P "dimnames_of" 743 (vR 422)
def e47 (P : Params) := eN P "class_attr" 751 (vR 429)
def e48 (P : Params) := eN P "language_class" 759 (vR 436)
def e49 (P : Params) := eN P "shape_class" 767 (vR 443)
def e50 (P : Params) := eN P "plain_class" 775 (vR 450)
def e51 (P : Params) := eN P "implicit_class" 784 (vR 457)
def e52 (P : Params) := eN P "NAN" 789 (vR 458)
def e53 (P : Params) := eN P "INF" 792 (vR 459)
def e54 (P : Params) := eN P "ZERO" 795 (vR 460)
def e55 (P : Params) := eN P "gcd" 803 (vR 467)
def e56 (P : Params) := eN P "make" 812 (vR 474)
def e57 (P : Params) := eN P "from_int" 819 (vR 481)
def e58 (P : Params) := eN P "is_na" 826 (vR 488)
def e59 (P : Params) := eN P "is_finite" 833 (vR 495)
def e60 (P : Params) := eN P "neg" 840 (vR 502)
def e61 (P : Params) := eN P "__name__" 165 (vS "vectorcove.numtext" 869)
def e62 (P : Params) := eN P "to_whole" 848 (vR 509)
def e63 (P : Params) := eN P "nearest_whole" 858 (vR 516)
def e64 (P : Params) := eN P "exponent" 868 (vR 523)
def e65 (P : Params) := eN P "MOST_EXPONENT" 872 (.int 4096 871)
def e66 (P : Params) := eN P "whole_text" 882 (vR 530)
def e67 (P : Params) := eN P "special_text" 889 (vR 537)
def e68 (P : Params) := eN P "scaled" 899 (vR 544)
def e69 (P : Params) := eN P "significant" 909 (vR 551)
def e70 (P : Params) := eN P "without_tail" 917 (vR 558)
def e71 (P : Params) := eN P "scientific_text" 929 (vR 565)
def e72 (P : Params) := eN P "fixed_text" 939 (vR 572)
def e73 (P : Params) := eN P "measures" 952 (vR 579)
def e74 (P : Params) := eN P "chosen_form" 969 (vR 586)
def e75 (P : Params) := eN P "formed" 978 (vR 593)
def e76 (P : Params) := eN P "common_texts" 984 (vR 598)
def e77 (P : Params) := eN P "number_text" 993 (vR 606)
def e78 (P : Params) := eN P "digits_value" 1003 (vR 613)
def e79 (P : Params) := eN P "digit_run" 1012 (vR 620)
def e80 (P : Params) := eN P "exponent_value" 1021 (vR 627)
def e81 (P : Params) := eN P "__name__" 165 (vS "vectorcove.coerce" 1062)
def e82 (P : Params) := eN P "powered" 1030 (vR 634)
def e83 (P : Params) := eN P "unsigned_number" 1049 (vR 641)
def e84 (P : Params) := eN P "parse_number" 1061 (vR 648)
def e85 (P : Params) := eN P "MOST_INTEGER" 1065 (.int 2147483647 1064)
def e86 (P : Params) := eN P "kind_order" 1073 (vR 655)
def e87 (P : Params) := eN P "common_kind" 1083 (vR 662)
def e88 (P : Params) := eN P "note" 1091 (vR 669)
def e89 (P : Params) := eN P "as_logical_text" 1098 (vR 676)
def e90 (P : Params) := eN P "double_to_integer" 1107 (vR 683)
def e91 (P : Params) := eN P "text_to_double" 1117 (vR 690)
def e92 (P : Params) := eN P "to_logical" 1125 (vR 697)
def e93 (P : Params) := eN P "to_integer" 1134 (vR 704)
def e94 (P : Params) := eN P "to_double" 1143 (vR 711)
def e95 (P : Params) := eN P "to_text" 1151 (vR 718)
def e96 (P : Params) := eN P "item_as" 1161 (vR 725)
def e97 (P : Params) := eN P "is_atomic_kind" 1168 (vR 732)
def e98 (P : Params) := eN P "list_item_as" 1178 (vR 739)
def e99 (P : Params) := eN P "refuse_type" 1186 (vR 746)
def e100 (P : Params) := eN P "as_vector_kind" 1192 (vR 751)
def e101 (P : Params) := eN P "__name__" 165 (vS "vectorcove.dispatch" 1223)
def e102 (P : Params) := eN P "with_names" 1200 (vR 758)
def e103 (P : Params) := eN P "as_kind" 1206 (vR 763)
def e104 (P : Params) := eN P "as_list" 1213 (vR 770)
def e105 (P : Params) := eN P "condition" 1222 (vR 777)
def e106 (P : Params) := eN P "Dispatch" 1263 (vR 794)
def e107 (P : Params) := eN P "has_class" 1270 (vR 805)
def e108 (P : Params) := eN P "dispatch_class" 1277 (vR 812)
def e109 (P : Params) := eN P "function_from" 1287 (vR 819)
def e110 (P : Params) := eN P "find_method" 1297 (vR 826)
def e111 (P : Params) := eN P "first_method" 1312 (vR 833)
def e112 (P : Params) := eN P "plain_value" 1320 (vR 840)
def e113 (P : Params) := eN P "plain_form" 1329 (vR 847)
def e114 (P : Params) := eN P "__name__" 165 (vS "vectorcove.subset" 1500)
def e115 (P : Params) := eN P "quoted_call" 1341 (vR 854)
def e116 (P : Params) := eN P "internal_call" 1347 (vR 859)
def e117 (P : Params) := eN P "call_method" 1359 (vR 866)
def e118 (P : Params) := eN P "own_classes" 1366 (vR 873)
def e119 (P : Params) := eN P "group_dispatch" 1383 (vR 880)
def e120 (P : Params) := eN P "generic_dispatch" 1394 (vR 887)
def e121 (P : Params) := eN P "lookup_here" 1404 (vR 894)
def e122 (P : Params) := eN P "lookup" 1413 (vR 901)
def e123 (P : Params) := eN P "locked_text" 1420 (vR 908)
def e124 (P : Params) := eN P "define" 1429 (vR 915)
def e125 (P : Params) := eN P "whole_subscripts" 1440 (vR 922)
def e126 (P : Params) := eN P "first_places" 1450 (vR 929)
def e127 (P : Params) := eN P "partial_place" 1461 (vR 936)
def e128 (P : Params) := eN P "one_name" 1470 (vR 943)
def e129 (P : Params) := eN P "one_whole" 1478 (vR 950)
def e130 (P : Params) := eN P "one_place" 1489 (vR 957)
def e131 (P : Params) := eN P "strides" 1499 (vR 964)
def e132 (P : Params) := eN P "lacking_item" 1508 (vR 971)
def e133 (P : Params) := eN P "__name__" 165 (vS "vectorcove.subassign" 1602)
def e134 (P : Params) := eN P "is_list_kind" 1515 (vR 978)
def e135 (P : Params) := eN P "refuse_subset" 1522 (vR 985)
def e136 (P : Params) := eN P "one_item" 1530 (vR 992)
def e137 (P : Params) := eN P "vector_element" 1541 (vR 999)
def e138 (P : Params) := eN P "array_element_place" 1556 (vR 1006)
def e139 (P : Params) := eN P "environment_item" 1564 (vR 1013)
def e140 (P : Params) := eN P "element_step" 1570 (vR 1018)
def e141 (P : Params) := eN P "index_parts" 1576 (vR 1023)
def e142 (P : Params) := eN P "is_long_index" 1583 (vR 1030)
def e143 (P : Params) := eN P "element" 1595 (vR 1037)
def e144 (P : Params) := eN P "dollar" 1601 (vR 1042)
def e145 (P : Params) := eN P "converted_items" 1612 (vR 1049)
def e146 (P : Params) := eN P "raised" 1622 (vR 1056)
def e147 (P : Params) := eN P "extend_vector" 1635 (vR 1063)
def e148 (P : Params) := eN P "first_count" 1644 (vR 1070)
def e149 (P : Params) := eN P "delete_places" 1662 (vR 1077)
def e150 (P : Params) := eN P "list_of_call" 1673 (vR 1084)
def e151 (P : Params) := eN P "call_of_list" 1679 (vR 1089)
def e152 (P : Params) := eN P "element_kind" 1687 (vR 1096)
def e153 (P : Params) := eN P "__name__" 165 (vS "vectorcove.callargs" 1857)
def e154 (P : Params) := eN P "put_element" 1702 (vR 1103)
def e155 (P : Params) := eN P "assign_step" 1716 (vR 1110)
def e156 (P : Params) := eN P "assign_down" 1727 (vR 1117)
def e157 (P : Params) := eN P "assign_element" 1739 (vR 1124)
def e158 (P : Params) := eN P "assign_dollar" 1749 (vR 1131)
def e159 (P : Params) := eN P "index_args" 1763 (vR 1138)
def e160 (P : Params) := eN P "opened" 1771 (vR 1145)
def e161 (P : Params) := eN P "b_element" 1784 (vR 1152)
def e162 (P : Params) := eN P "setter_parts" 1794 (vR 1159)
def e163 (P : Params) := eN P "b_set_element" 1808 (vR 1166)
def e164 (P : Params) := eN P "field_name" 1815 (vR 1173)
def e165 (P : Params) := eN P "s_dollar" 1829 (vR 1180)
def e166 (P : Params) := eN P "put_field" 1841 (vR 1187)
def e167 (P : Params) := eN P "s_set_dollar" 1856 (vR 1194)
def e168 (P : Params) := eN P "__name__" 165 (vS "vectorcove.funcall" 1972)
def e169 (P : Params) := eN P "Matching" 1941 (vR 1251)
def e170 (P : Params) := eN P "doubled_text" 1948 (vR 1262)
def e171 (P : Params) := eN P "argument_text" 1959 (vR 1269)
def e172 (P : Params) := eN P "unused_text" 1965 (vR 1274)
def e173 (P : Params) := eN P "match_names" 1971 (vR 1280)
def e174 (P : Params) := eN P "done_promise" 1982 (vR 1287)
def e175 (P : Params) := eN P "__name__" 165 (vS "vectorcove.evaluator" 2048)
def e176 (P : Params) := eN P "bound_argument" 1989 (vR 1294)
def e177 (P : Params) := eN P "dots_argument" 1998 (vR 1301)
def e178 (P : Params) := eN P "default_binding" 2006 (vR 1308)
def e179 (P : Params) := eN P "bind_formals" 2012 (vR 1314)
def e180 (P : Params) := eN P "dots_of" 2020 (vR 1321)
def e181 (P : Params) := eN P "is_dots_place" 2027 (vR 1328)
def e182 (P : Params) := eN P "dots_place" 2038 (vR 1335)
def e183 (P : Params) := eN P "is_empty_name" 2047 (vR 1342)
def e184 (P : Params) := eN P "Frame" 2088 (vR 1359)
def e185 (P : Params) := eN P "Evaluator" 2418 (vR 1569)
def e186 (P : Params) := eN P "__name__" 165 (vS "law_pq1381_01" 2419)
def e187 (P : Params) := eN P "_law_beans" 2431 (vR 1580)
def e188 (P : Params) := eN P "_law_bean" 2439 (vR 1587)
def e189 (P : Params) := eN P "_law_whole" 2446 (vR 1594)
def e190 (P : Params) := eN P "_law_shown" 2453 (vR 1601)
def e191 (P : Params) := eN P "_law_found" 2459 (vR 1606)
def e192 (P : Params) := eN P "_law_after" 2465 (vR 1611)
def e193 (P : Params) := eN P "_law_list" 2471 (vR 1616)
def e194 (P : Params) := eN P "_law_is" 2477 (vR 1621)
def e195 (P : Params) := eN P "_law_read" 2490 (vR 1628)
def e196 (P : Params) := eN P "_law_set" 2503 (vR 1635)
def e197 (P : Params) := eN P "law" 2509 (vR 1640)
def o0 (P : Params) := dc #[eN P "__name__" 1 (vS "builtins" 160), eN P "__doc__" 2 (.builtin "builtins.__doc__:str#opaque"), eN P "__package__" 3 (.builtin "builtins.__package__:str#opaque"), eN P "__loader__" 4 (.builtin "builtins.__loader__:shared#opaque"), eN P "__spec__" 5 (.builtin "builtins.__spec__#opaque"), eN P "__build_class__" 6 (.builtin "__build_class__"), eN P "__import__" 7 (.builtin "__import__"), eN P "abs" 8 (.builtin "abs"), eN P "all" 9 (.builtin "all"), eN P "any" 10 (.builtin "any"), eN P "ascii" 11 (.builtin "ascii"), eN P "bin" 12 (.builtin "bin"), eN P "breakpoint" 13 (.builtin "breakpoint"), eN P "callable" 14 (.builtin "callable"), eN P "chr" 15 (.builtin "chr"), eN P "compile" 16 (.builtin "compile"), eN P "delattr" 17 (.builtin "delattr"), eN P "dir" 18 (.builtin "dir"), eN P "divmod" 19 (.builtin "divmod"), eN P "eval" 20 (.builtin "eval"), eN P "exec" 21 (.builtin "exec"), eN P "format" 22 (.builtin "format"), eN P "getattr" 23 (.builtin "getattr"), eN P "globals" 24 (.builtin "globals"), eN P "hasattr" 25 (.builtin "hasattr"), eN P "hash" 26 (.builtin "hash"), eN P "hex" 27 (.builtin "hex"), eN P "id" 28 (.builtin "id"), eN P "input" 29 (.builtin "input"), eN P "isinstance" 30 (.builtin "isinstance"), eN P "issubclass" 31 (.builtin "issubclass"), eN P "iter" 32 (.builtin "iter"), eN P "aiter" 33 (.builtin "aiter"), eN P "len" 34 (.builtin "len"), eN P "locals" 35 (.builtin "locals"), eN P "max" 36 (.builtin "max"), eN P "min" 37 (.builtin "min"), eN P "next" 38 (.builtin "next"), eN P "anext" 39 (.builtin "anext"), eN P "oct" 40 (.builtin "oct"), eN P "ord" 41 (.builtin "ord"), eN P "pow" 42 (.builtin "pow"), eN P "print" 43 (.builtin "print"), eN P "repr" 44 (.builtin "repr"), eN P "round" 45 (.builtin "round"), eN P "setattr" 46 (.builtin "setattr"), eN P "sorted" 47 (.builtin "sorted"), eN P "sum" 48 (.builtin "sum"), eN P "vars" 49 (.builtin "vars"), eN P "None" 50 .none, eN P "Ellipsis" 51 .ellipsis, eN P "NotImplemented" 52 .notImplemented, eN P "False" 53 (.bool false), eN P "True" 54 (.bool true), eN P "bool" 55 (.type "bool"), eN P "memoryview" 56 (.type "memoryview"), eN P "bytearray" 57 (.type "bytearray"), eN P "bytes" 58 (.type "bytes"), eN P "classmethod" 59 (.type "classmethod"), eN P "complex" 60 (.type "complex"), eN P "dict" 61 (.type "dict"), eN P "enumerate" 62 (.type "enumerate"), eN P "filter" 63 (.type "filter"), eN P "float" 64 (.type "float"), eN P "frozenset" 65 (.type "frozenset"), eN P "property" 66 (.type "property"), eN P "int" 67 (.type "int"), eN P "list" 68 (.type "list"), eN P "map" 69 (.type "map"), eN P "object" 70 (.type "object"), eN P "range" 71 (.type "range"), eN P "reversed" 72 (.type "reversed"), eN P "set" 73 (.type "set"), eN P "slice" 74 (.type "slice"), eN P "staticmethod" 75 (.type "staticmethod"), eN P "str" 76 (.type "str"), eN P "super" 77 (.type "super"), eN P "tuple" 78 (.type "tuple"), eN P "type" 79 (.type "type"), eN P "zip" 80 (.type "zip"), eN P "__debug__" 81 (.bool true), eN P "BaseException" 82 (.type "BaseException"), eN P "BaseExceptionGroup" 83 (.type "BaseExceptionGroup"), eN P "Exception" 84 (.type "Exception"), eN P "GeneratorExit" 85 (.type "GeneratorExit"), eN P "KeyboardInterrupt" 86 (.type "KeyboardInterrupt"), eN P "SystemExit" 87 (.type "SystemExit"), eN P "ArithmeticError" 88 (.type "ArithmeticError"), eN P "AssertionError" 89 (.type "AssertionError"), eN P "AttributeError" 90 (.type "AttributeError"), eN P "BufferError" 91 (.type "BufferError"), eN P "EOFError" 92 (.type "EOFError"), eN P "ImportError" 93 (.type "ImportError"), eN P "LookupError" 94 (.type "LookupError"), eN P "MemoryError" 95 (.type "MemoryError"), eN P "NameError" 96 (.type "NameError"), eN P "OSError" 97 (.type "OSError"), eN P "ReferenceError" 98 (.type "ReferenceError"), eN P "RuntimeError" 99 (.type "RuntimeError"), eN P "StopAsyncIteration" 100 (.type "StopAsyncIteration"), eN P "StopIteration" 101 (.type "StopIteration"), eN P "SyntaxError" 102 (.type "SyntaxError"), eN P "SystemError" 103 (.type "SystemError"), eN P "TypeError" 104 (.type "TypeError"), eN P "ValueError" 105 (.type "ValueError"), eN P "Warning" 106 (.type "Warning"), eN P "FloatingPointError" 107 (.type "FloatingPointError"), eN P "OverflowError" 108 (.type "OverflowError"), eN P "ZeroDivisionError" 109 (.type "ZeroDivisionError"), eN P "BytesWarning" 110 (.type "BytesWarning"), eN P "DeprecationWarning" 111 (.type "DeprecationWarning"), eN P "EncodingWarning" 112 (.type "EncodingWarning"), eN P "FutureWarning" 113 (.type "FutureWarning"), eN P "ImportWarning" 114 (.type "ImportWarning"), eN P "PendingDeprecationWarning" 115 (.type "PendingDeprecationWarning"), eN P "ResourceWarning" 116 (.type "ResourceWarning"), eN P "RuntimeWarning" 117 (.type "RuntimeWarning"), eN P "SyntaxWarning" 118 (.type "SyntaxWarning"), eN P "UnicodeWarning" 119 (.type "UnicodeWarning"), eN P "UserWarning" 120 (.type "UserWarning"), eN P "BlockingIOError" 121 (.type "BlockingIOError"), eN P "ChildProcessError" 122 (.type "ChildProcessError"), eN P "ConnectionError" 123 (.type "ConnectionError"), eN P "FileExistsError" 124 (.type "FileExistsError"), eN P "FileNotFoundError" 125 (.type "FileNotFoundError"), eN P "InterruptedError" 126 (.type "InterruptedError"), eN P "IsADirectoryError" 127 (.type "IsADirectoryError"), eN P "NotADirectoryError" 128 (.type "NotADirectoryError"), eN P "PermissionError" 129 (.type "PermissionError"), eN P "ProcessLookupError" 130 (.type "ProcessLookupError"), eN P "TimeoutError" 131 (.type "TimeoutError"), eN P "IndentationError" 132 (.type "IndentationError"), eN P "_IncompleteInputError" 133 (.type "_IncompleteInputError"), eN P "IndexError" 134 (.type "IndexError"), eN P "KeyError" 135 (.type "KeyError"), eN P "ModuleNotFoundError" 136 (.type "ModuleNotFoundError"), eN P "NotImplementedError" 137 (.type "NotImplementedError"), eN P "PythonFinalizationError" 138 (.type "PythonFinalizationError"), eN P "RecursionError" 139 (.type "RecursionError"), eN P "UnboundLocalError" 140 (.type "UnboundLocalError"), eN P "UnicodeError" 141 (.type "UnicodeError"), eN P "BrokenPipeError" 142 (.type "BrokenPipeError"), eN P "ConnectionAbortedError" 143 (.type "ConnectionAbortedError"), eN P "ConnectionRefusedError" 144 (.type "ConnectionRefusedError"), eN P "ConnectionResetError" 145 (.type "ConnectionResetError"), eN P "TabError" 146 (.type "TabError"), eN P "UnicodeDecodeError" 147 (.type "UnicodeDecodeError"), eN P "UnicodeEncodeError" 148 (.type "UnicodeEncodeError"), eN P "UnicodeTranslateError" 149 (.type "UnicodeTranslateError"), eN P "ExceptionGroup" 150 (.type "ExceptionGroup"), eN P "EnvironmentError" 151 (.type "OSError"), eN P "IOError" 152 (.type "OSError"), eN P "open" 153 (.builtin "open"), eN P "quit" 154 (.builtin "builtins.quit#opaque"), eN P "exit" 155 (.builtin "builtins.exit#opaque"), eN P "copyright" 156 (.builtin "builtins.copyright#opaque"), eN P "credits" 157 (.builtin "builtins.credits#opaque"), eN P "license" 158 (.builtin "builtins.license#opaque"), eN P "help" 159 (.builtin "builtins.help#opaque")] 159
def o1 (P : Params) := dc #[eN P "builtins" 162 (vR 4), eN P "__main__" 163 (vR 5)] 2
noncomputable def o2 : Obj := ⟨.none, none, (.dict #[] 0), #[]⟩
noncomputable def w0 (P : Params) : List DictEntry := [e1 P, e2 P, e3 P, e4 P, e5 P, e6 P, e7 P, e8 P]
noncomputable def o3 (P : Params) : Obj := ⟨.type "dict", none, .dict (e0 P :: (w0 P)).toArray 9, #[]⟩
def o4 := y0 0
def o5 := y0 3
noncomputable def o6 : Obj := ⟨(.type "dict"), none, (.dict #[] 0), #[]⟩
def o9 := y3 "<module>" 176 177 178 1 7 175 8 179 180
def o10 := y4 9 3 "__main__" 164
def o12 := nf #[]
def o13 := y3 "<module>" 182 183 184 1 11 181 12 185 186
def o14 := y4 13 3 "__main__" 164
noncomputable def o2x1 (P : Params) : Obj := ⟨.none, none, (.dict #[⟨(PyData.keyHash P (Str.ofString "type.__subclasses__.Exception.0")), (.str (Str.ofString "type.__subclasses__.Exception.0") 212), (.int 31 0)⟩, ⟨(PyData.keyHash P (Str.ofString "type.__subclasses__.Exception.n")), (.str (Str.ofString "type.__subclasses__.Exception.n") 213), (.int 1 0)⟩] 2), #[]⟩
noncomputable def w1 (P : Params) : List DictEntry := [e10 P, e11 P, e12 P]
noncomputable def o3x1 (P : Params) : Obj := ⟨.type "dict", none, .dict (e9 P :: (w0 P ++ (w1 P))).toArray 12, #[]⟩
noncomputable def u0 : List Value := [vI 1, vI 0, vR 20, vI 5, vI 0, vR 27, vI 7, vI 0, vR 40]
def o12x1 := nf (u0).toArray
def o17 := y5 "k" 190
def o19 := y6 s0 "_wall" "_wall"
def o20 := y7 "_wall" 187 "_wall" 188 189 1 1 15 16 17 18 19 191 192
def o21 := y8 s0 "_wall" "_wall" "__main__" 164 20
def o22 := tu #[(.type "Exception")]
def o24 (P : Params) := dc #[eN P "__module__" 203 (vS "vectorcove.errors" 194), eN P "__qualname__" 205 (vS "CoveError" 204), eN P "__firstlineno__" 207 (.int 5 206), eN P "__static_attributes__" 208 (vR 29)] 4
def o27 := y3 "CoveError" 198 199 200 5 25 181 26 201 202
def o28 := y4 27 24 "vectorcove.errors" 194
def o30 (P : Params) := dc #[eN P "__module__" 203 (vS "vectorcove.errors" 194), eN P "__firstlineno__" 207 (.int 5 206), eN P "__static_attributes__" 208 (vR 29), eN P "__weakref__" 210 (vR 32), eN P "__doc__" 211 .none] 3
noncomputable def o31 : Obj := ⟨(.type "type"), none, (.cls ⟨(Str.ofString "CoveError"), [(.type "Exception")], [vR 31, (.type "Exception"), (.type "BaseException"), (.type "object")], 30, (Str.ofString "CoveError"), true, [], [vR 51], false, none, false⟩), #[some (vR 22), none, some (vS "CoveError" 196), some (vS "CoveError" 204), some (.builtin "Exception.__new__"), some (.bool true)]⟩
def o32 := y10 209 31
def o33 := y11 31
def o34 := y12 31
def o37 (P : Params) := dc #[eN P "__module__" 223 (vS "vectorcove.errors" 194), eN P "__qualname__" 225 (vS "Refusal" 224), eN P "__firstlineno__" 227 (.int 7 226), eN P "__init__" 235 (vR 48), eN P "__static_attributes__" 237 (vR 49)] 5
def o39 := y14 9 47
def o40 := y3 "Refusal" 218 219 220 7 38 181 39 221 222
def o41 := y4 40 37 "vectorcove.errors" 194
def o44 := y15 "self" 231 "message" 232
def o46 := y6 s3_0 "__init__" "Refusal.__init__"
def o47 := y7 "__init__" 228 "Refusal.__init__" 229 230 9 2 42 43 44 45 46 233 234
def o48 := y8 s3_0 "__init__" "Refusal.__init__" "vectorcove.errors" 194 47
def o49 := y5 "message" 236
def o50 (P : Params) := dc #[eN P "__module__" 223 (vS "vectorcove.errors" 194), eN P "__firstlineno__" 227 (.int 7 226), eN P "__init__" 235 (vR 48), eN P "__static_attributes__" 237 (vR 49), eN P "__doc__" 238 .none] 2
def o51 := y16 "Refusal" 51 50 35 216 224
def o52 := y11 51
def o53 := y12 51
noncomputable def w2 (P : Params) : List DictEntry := [e13 P, e14 P]
noncomputable def o3x2 (P : Params) : Obj := ⟨.type "dict", none, .dict (e9 P :: (w0 P ++ (w1 P ++ (w2 P)))).toArray 14, #[]⟩
noncomputable def u1 : List Value := [vI 11, vI 0, vR 59, vI 17, vI 0, vR 78]
def o12x2 := nf (u0 ++ (u1)).toArray
noncomputable def o31x2 : Obj := ⟨(.type "type"), none, (.cls ⟨(Str.ofString "CoveError"), [(.type "Exception")], [vR 31, (.type "Exception"), (.type "BaseException"), (.type "object")], 30, (Str.ofString "CoveError"), true, [], [vR 51, vR 70, vR 89], false, none, false⟩), #[some (vR 22), none, some (vS "CoveError" 196), some (vS "CoveError" 204), some (.builtin "Exception.__new__"), some (.bool true)]⟩
def o56 (P : Params) := dc #[eN P "__module__" 248 (vS "vectorcove.errors" 194), eN P "__qualname__" 250 (vS "RError" 249), eN P "__firstlineno__" 252 (.int 11 251), eN P "__init__" 262 (vR 67), eN P "__static_attributes__" 266 (vR 68)] 5
def o58 := y14 13 66
def o59 := y3 "RError" 243 244 245 11 57 181 58 246 247
def o60 := y4 59 56 "vectorcove.errors" 194
def o63 := y17 "self" 256 "message" 257 "call" 258 "condition" 259
def o65 := y6 s4_0 "__init__" "RError.__init__"
def o66 := y7 "__init__" 253 "RError.__init__" 254 255 13 4 61 62 63 64 65 260 261
def o67 := y8 s4_0 "__init__" "RError.__init__" "vectorcove.errors" 194 66
def o68 := y18 "call" 263 "condition" 264 "message" 265
def o69 (P : Params) := dc #[eN P "__module__" 248 (vS "vectorcove.errors" 194), eN P "__firstlineno__" 252 (.int 11 251), eN P "__init__" 262 (vR 67), eN P "__static_attributes__" 266 (vR 68), eN P "__doc__" 267 .none] 2
def o70 := y16 "RError" 70 69 54 241 249
def o71 := y11 70
def o72 := y12 70
def o75 (P : Params) := dc #[eN P "__module__" 277 (vS "vectorcove.errors" 194), eN P "__qualname__" 279 (vS "LimitReached" 278), eN P "__firstlineno__" 281 (.int 17 280), eN P "__init__" 289 (vR 86), eN P "__static_attributes__" 291 (vR 87)] 5
def o77 := y14 19 85
def o78 := y3 "LimitReached" 272 273 274 17 76 181 77 275 276
def o79 := y4 78 75 "vectorcove.errors" 194
def o82 := y15 "self" 285 "what" 286
def o84 := y6 s5_0 "__init__" "LimitReached.__init__"
def o85 := y7 "__init__" 282 "LimitReached.__init__" 283 284 19 2 80 81 82 83 84 287 288
def o86 := y8 s5_0 "__init__" "LimitReached.__init__" "vectorcove.errors" 194 85
def o87 := y5 "what" 290
def o88 (P : Params) := dc #[eN P "__module__" 277 (vS "vectorcove.errors" 194), eN P "__firstlineno__" 281 (.int 17 280), eN P "__init__" 289 (vR 86), eN P "__static_attributes__" 291 (vR 87), eN P "__doc__" 292 .none] 2
def o89 := y16 "LimitReached" 89 88 73 270 278
def o90 := y11 89
def o91 := y12 89
noncomputable def w3 (P : Params) : List DictEntry := [e16 P, e17 P, e18 P, e19 P]
noncomputable def o3x3 (P : Params) : Obj := ⟨.type "dict", none, .dict (e15 P :: (w0 P ++ (w1 P ++ (w2 P ++ (w3 P))))).toArray 18, #[]⟩
noncomputable def u2 : List Value := [vI 21, vI 0, vR 97, vI 26, vI 0, vR 116, vI 32, vI 0, vR 135]
def o12x3 := nf (u0 ++ (u1 ++ (u2))).toArray
noncomputable def o31x3 : Obj := ⟨(.type "type"), none, (.cls ⟨(Str.ofString "CoveError"), [(.type "Exception")], [vR 31, (.type "Exception"), (.type "BaseException"), (.type "object")], 30, (Str.ofString "CoveError"), true, [], [vR 51, vR 70, vR 89, vR 108, vR 127], false, none, false⟩), #[some (vR 22), none, some (vS "CoveError" 196), some (vS "CoveError" 204), some (.builtin "Exception.__new__"), some (.bool true)]⟩
def o94 (P : Params) := dc #[eN P "__module__" 302 (vS "vectorcove.errors" 194), eN P "__qualname__" 304 (vS "ReturnSignal" 303), eN P "__firstlineno__" 306 (.int 21 305), eN P "__init__" 315 (vR 105), eN P "__static_attributes__" 318 (vR 106)] 5
def o96 := y14 23 104
def o97 := y3 "ReturnSignal" 297 298 299 21 95 181 96 300 301
def o98 := y4 97 94 "vectorcove.errors" 194
def o101 := y18 "self" 310 "number" 311 "value" 312
def o103 := y6 s6_0 "__init__" "ReturnSignal.__init__"
def o104 := y7 "__init__" 307 "ReturnSignal.__init__" 308 309 23 3 99 100 101 102 103 313 314
def o105 := y8 s6_0 "__init__" "ReturnSignal.__init__" "vectorcove.errors" 194 104
def o106 := y15 "number" 316 "value" 317
def o107 (P : Params) := dc #[eN P "__module__" 302 (vS "vectorcove.errors" 194), eN P "__firstlineno__" 306 (.int 21 305), eN P "__init__" 315 (vR 105), eN P "__static_attributes__" 318 (vR 106), eN P "__doc__" 319 .none] 2
def o108 := y16 "ReturnSignal" 108 107 92 295 303
def o109 := y11 108
def o110 := y12 108
def o113 (P : Params) := dc #[eN P "__module__" 329 (vS "vectorcove.errors" 194), eN P "__qualname__" 331 (vS "LoopSignal" 330), eN P "__firstlineno__" 333 (.int 26 332), eN P "__init__" 342 (vR 124), eN P "__static_attributes__" 345 (vR 125)] 5
def o115 := y14 28 123
def o116 := y3 "LoopSignal" 324 325 326 26 114 181 115 327 328
def o117 := y4 116 113 "vectorcove.errors" 194
def o120 := y18 "self" 337 "number" 338 "again" 339
def o122 := y6 s7_0 "__init__" "LoopSignal.__init__"
def o123 := y7 "__init__" 334 "LoopSignal.__init__" 335 336 28 3 118 119 120 121 122 340 341
def o124 := y8 s7_0 "__init__" "LoopSignal.__init__" "vectorcove.errors" 194 123
def o125 := y15 "again" 343 "number" 344
def o126 (P : Params) := dc #[eN P "__module__" 329 (vS "vectorcove.errors" 194), eN P "__firstlineno__" 333 (.int 26 332), eN P "__init__" 342 (vR 124), eN P "__static_attributes__" 345 (vR 125), eN P "__doc__" 346 .none] 2
def o127 := y16 "LoopSignal" 127 126 111 322 330
def o128 := y11 127
def o129 := y12 127
def o132 := y15 "v" 354 "what" 355
def o134 := y19 s9 c9 "one_text" "one_text"
def o135 := y7 "one_text" 351 "one_text" 352 353 32 2 130 131 132 133 134 356 357
def o136 := y20 s9 c9 "one_text" "one_text" "vectorcove.attrcalls" 349 135
noncomputable def w4 (P : Params) : List DictEntry := [e20 P, e21 P]
noncomputable def o3x4 (P : Params) : Obj := ⟨.type "dict", none, .dict (e15 P :: (w0 P ++ (w1 P ++ (w2 P ++ (w3 P ++ (w4 P)))))).toArray 20, #[]⟩
noncomputable def u3 : List Value := [vI 38, vI 0, vR 142, vI 43, vI 0, vR 163]
def o12x4 := nf (u0 ++ (u1 ++ (u2 ++ (u3)))).toArray
def o139 (P : Params) := dc #[eN P "__module__" 370 (vS "vectorcove.values" 359), eN P "__qualname__" 372 (vS "Null" 371), eN P "__firstlineno__" 374 (.int 38 373), eN P "__init__" 381 (vR 150), eN P "__static_attributes__" 384 (vR 151)] 5
def o141 := y14 40 149
def o142 := y3 "Null" 365 366 367 38 140 181 141 368 369
def o143 := y4 142 139 "vectorcove.values" 359
def o146 := y5 "self" 378
def o148 := y19 s12_0 c12_0 "__init__" "Null.__init__"
def o149 := y7 "__init__" 375 "Null.__init__" 376 377 40 1 144 145 146 147 148 379 380
def o150 := y20 s12_0 c12_0 "__init__" "Null.__init__" "vectorcove.values" 359 149
def o151 := y15 "attrs" 382 "kind" 383
def o152 (P : Params) := dc #[eN P "__module__" 370 (vS "vectorcove.values" 359), eN P "__firstlineno__" 374 (.int 38 373), eN P "__init__" 381 (vR 150), eN P "__static_attributes__" 384 (vR 151), eN P "__dict__" 386 (vR 154), eN P "__weakref__" 388 (vR 155), eN P "__doc__" 389 .none] 4
def o153 := y21 "Null" 153 152 363 371
def o154 := y22 385 153
def o155 := y10 387 153
def o156 := y11 153
def o157 := y12 153
def o160 (P : Params) := dc #[eN P "__module__" 399 (vS "vectorcove.values" 359), eN P "__qualname__" 401 (vS "Vector" 400), eN P "__firstlineno__" 403 (.int 43 402), eN P "__init__" 413 (vR 172), eN P "copy" 421 (vR 179), eN P "__static_attributes__" 427 (vR 180)] 6
def o162 := nf #[vI 45, vI 4, vR 171, vI 52, vI 4, vR 178]
def o163 := y3 "Vector" 394 395 396 43 161 181 162 397 398
def o164 := y4 163 160 "vectorcove.values" 359
def o168 := y17 "self" 407 "kind" 408 "items" 409 "attrs" 410
def o170 := y19 s13_0 c13_0 "__init__" "Vector.__init__"
def o171 := y7 "__init__" 404 "Vector.__init__" 405 406 45 4 166 167 168 169 170 411 412
def o172 := y24 s13_0 c13_0 "__init__" "Vector.__init__" 165 "vectorcove.values" 359 171
def o175 := y15 "self" 417 "attrs" 418
def o177 := y19 s13_1 c13_1 "copy" "Vector.copy"
def o178 := y7 "copy" 414 "Vector.copy" 415 416 52 1 173 174 175 176 177 419 420
def o179 := y20 s13_1 c13_1 "copy" "Vector.copy" "vectorcove.values" 359 178
def o180 := y25 "attrs" 422 "items" 423 "kind" 424 "loose" 425 "shared" 426
def o181 (P : Params) := dc #[eN P "__module__" 399 (vS "vectorcove.values" 359), eN P "__firstlineno__" 403 (.int 43 402), eN P "__init__" 413 (vR 172), eN P "copy" 421 (vR 179), eN P "__static_attributes__" 427 (vR 180), eN P "__dict__" 429 (vR 183), eN P "__weakref__" 431 (vR 184), eN P "__doc__" 432 .none] 4
def o182 := y21 "Vector" 182 181 392 400
def o183 := y22 428 182
def o184 := y10 430 182
def o185 := y11 182
def o186 := y12 182
noncomputable def w5 (P : Params) : List DictEntry := [e22 P, e23 P]
noncomputable def o3x5 (P : Params) : Obj := ⟨.type "dict", none, .dict (e15 P :: (w0 P ++ (w1 P ++ (w2 P ++ (w3 P ++ (w4 P ++ (w5 P))))))).toArray 22, #[]⟩
noncomputable def u4 : List Value := [vI 57, vI 0, vR 192, vI 63, vI 0, vR 213]
def o12x5 := nf (u0 ++ (u1 ++ (u2 ++ (u3 ++ (u4))))).toArray
def o189 (P : Params) := dc #[eN P "__module__" 442 (vS "vectorcove.values" 359), eN P "__qualname__" 444 (vS "Symbol" 443), eN P "__firstlineno__" 446 (.int 57 445), eN P "__init__" 454 (vR 200), eN P "__static_attributes__" 458 (vR 201)] 5
def o191 := y14 59 199
def o192 := y3 "Symbol" 437 438 439 57 190 181 191 440 441
def o193 := y4 192 189 "vectorcove.values" 359
def o196 := y15 "self" 450 "name" 451
def o198 := y19 s14_0 c14_0 "__init__" "Symbol.__init__"
def o199 := y7 "__init__" 447 "Symbol.__init__" 448 449 59 2 194 195 196 197 198 452 453
def o200 := y20 s14_0 c14_0 "__init__" "Symbol.__init__" "vectorcove.values" 359 199
def o201 := y18 "attrs" 455 "kind" 456 "name" 457
def o202 (P : Params) := dc #[eN P "__module__" 442 (vS "vectorcove.values" 359), eN P "__firstlineno__" 446 (.int 57 445), eN P "__init__" 454 (vR 200), eN P "__static_attributes__" 458 (vR 201), eN P "__dict__" 460 (vR 204), eN P "__weakref__" 462 (vR 205), eN P "__doc__" 463 .none] 4
def o203 := y21 "Symbol" 203 202 435 443
def o204 := y22 459 203
def o205 := y10 461 203
def o206 := y11 203
def o207 := y12 203
def o210 (P : Params) := dc #[eN P "__module__" 473 (vS "vectorcove.values" 359), eN P "__qualname__" 475 (vS "Call" 474), eN P "__firstlineno__" 477 (.int 63 476), eN P "__init__" 487 (vR 222), eN P "__static_attributes__" 493 (vR 223)] 5
def o212 := y14 65 221
def o213 := y3 "Call" 468 469 470 63 211 181 212 471 472
def o214 := y4 213 210 "vectorcove.values" 359
def o218 := y17 "self" 481 "items" 482 "tags" 483 "attrs" 484
def o220 := y19 s15_0 c15_0 "__init__" "Call.__init__"
def o221 := y7 "__init__" 478 "Call.__init__" 479 480 65 4 216 217 218 219 220 485 486
def o222 := y24 s15_0 c15_0 "__init__" "Call.__init__" 215 "vectorcove.values" 359 221
def o223 := y25 "attrs" 488 "code" 489 "items" 490 "kind" 491 "tags" 492
def o224 (P : Params) := dc #[eN P "__module__" 473 (vS "vectorcove.values" 359), eN P "__firstlineno__" 477 (.int 63 476), eN P "__init__" 487 (vR 222), eN P "__static_attributes__" 493 (vR 223), eN P "__dict__" 495 (vR 226), eN P "__weakref__" 497 (vR 227), eN P "__doc__" 498 .none] 4
def o225 := y21 "Call" 225 224 466 474
def o226 := y22 494 225
def o227 := y10 496 225
def o228 := y11 225
def o229 := y12 225
noncomputable def w6 (P : Params) : List DictEntry := [e24 P, e25 P]
noncomputable def o3x6 (P : Params) : Obj := ⟨.type "dict", none, .dict (e15 P :: (w0 P ++ (w1 P ++ (w2 P ++ (w3 P ++ (w4 P ++ (w5 P ++ (w6 P)))))))).toArray 24, #[]⟩
noncomputable def u5 : List Value := [vI 71, vI 0, vR 235, vI 81, vI 0, vR 257]
def o12x6 := nf (u0 ++ (u1 ++ (u2 ++ (u3 ++ (u4 ++ (u5)))))).toArray
def o232 (P : Params) := dc #[eN P "__module__" 508 (vS "vectorcove.values" 359), eN P "__qualname__" 510 (vS "Environment" 509), eN P "__firstlineno__" 512 (.int 71 511), eN P "__init__" 522 (vR 244), eN P "__static_attributes__" 530 (vR 245)] 5
def o234 := y14 73 243
def o235 := y3 "Environment" 503 504 505 71 233 181 234 506 507
def o236 := y4 235 232 "vectorcove.values" 359
def o240 := y17 "self" 516 "number" 517 "parent" 518 "attrs" 519
def o242 := y19 s16_0 c16_0 "__init__" "Environment.__init__"
def o243 := y7 "__init__" 513 "Environment.__init__" 514 515 73 4 238 239 240 241 242 520 521
def o244 := y24 s16_0 c16_0 "__init__" "Environment.__init__" 237 "vectorcove.values" 359 243
def o245 := tu #[vS "attrs" 523, vS "frame" 524, vS "kind" 525, vS "locked" 526, vS "locks" 527, vS "number" 528, vS "parent" 529]
def o246 (P : Params) := dc #[eN P "__module__" 508 (vS "vectorcove.values" 359), eN P "__firstlineno__" 512 (.int 71 511), eN P "__init__" 522 (vR 244), eN P "__static_attributes__" 530 (vR 245), eN P "__dict__" 532 (vR 248), eN P "__weakref__" 534 (vR 249), eN P "__doc__" 535 .none] 4
def o247 := y21 "Environment" 247 246 501 509
def o248 := y22 531 247
def o249 := y10 533 247
def o250 := y11 247
def o251 := y12 247
def o254 (P : Params) := dc #[eN P "__module__" 545 (vS "vectorcove.values" 359), eN P "__qualname__" 547 (vS "Promise" 546), eN P "__firstlineno__" 549 (.int 81 548), eN P "__init__" 558 (vR 265), eN P "__static_attributes__" 565 (vR 266)] 5
def o256 := y14 83 264
def o257 := y3 "Promise" 540 541 542 81 255 181 256 543 544
def o258 := y4 257 254 "vectorcove.values" 359
def o261 := y18 "self" 553 "expr" 554 "env" 555
def o263 := y6 s17_0 "__init__" "Promise.__init__"
def o264 := y7 "__init__" 550 "Promise.__init__" 551 552 83 3 259 260 261 262 263 556 557
def o265 := y8 s17_0 "__init__" "Promise.__init__" "vectorcove.values" 359 264
def o266 := tu #[vS "attrs" 559, vS "env" 560, vS "expr" 561, vS "kind" 562, vS "state" 563, vS "value" 564]
def o267 (P : Params) := dc #[eN P "__module__" 545 (vS "vectorcove.values" 359), eN P "__firstlineno__" 549 (.int 81 548), eN P "__init__" 558 (vR 265), eN P "__static_attributes__" 565 (vR 266), eN P "__dict__" 567 (vR 269), eN P "__weakref__" 569 (vR 270), eN P "__doc__" 570 .none] 4
def o268 := y21 "Promise" 268 267 538 546
def o269 := y22 566 268
def o270 := y10 568 268
def o271 := y11 268
def o272 := y12 268
noncomputable def w7 (P : Params) : List DictEntry := [e26 P, e27 P, e28 P, e29 P, e30 P, e31 P, e32 P, e33 P, e34 P, e35 P, e36 P, e37 P, e38 P]
noncomputable def o3x7 (P : Params) : Obj := ⟨.type "dict", none, .dict (e15 P :: (w0 P ++ (w1 P ++ (w2 P ++ (w3 P ++ (w4 P ++ (w5 P ++ (w6 P ++ (w7 P))))))))).toArray 37, #[]⟩
noncomputable def u6 : List Value := [vI 90, vI 0, vR 278, vI 96, vI 0, vR 299, vI 100, vI 0, vR 306, vI 102, vI 0, vR 313, vI 104, vI 0, vR 320, vI 108, vI 0, vR 327, vI 110, vI 0, vR 334, vI 112, vI 0, vR 341, vI 115, vI 0, vR 348, vI 126, vI 0, vR 355, vI 128, vI 0, vR 362, vI 130, vI 0, vR 369, vI 132, vI 0, vR 376]
def o12x7 := nf (u0 ++ (u1 ++ (u2 ++ (u3 ++ (u4 ++ (u5 ++ (u6))))))).toArray
def o275 (P : Params) := dc #[eN P "__module__" 580 (vS "vectorcove.values" 359), eN P "__qualname__" 582 (vS "Dots" 581), eN P "__firstlineno__" 584 (.int 90 583), eN P "__init__" 592 (vR 286), eN P "__static_attributes__" 596 (vR 287)] 5
def o277 := y14 92 285
def o278 := y3 "Dots" 575 576 577 90 276 181 277 578 579
def o279 := y4 278 275 "vectorcove.values" 359
def o282 := y15 "self" 588 "args" 589
def o284 := y6 s18_0 "__init__" "Dots.__init__"
def o285 := y7 "__init__" 585 "Dots.__init__" 586 587 92 2 280 281 282 283 284 590 591
def o286 := y8 s18_0 "__init__" "Dots.__init__" "vectorcove.values" 359 285
def o287 := y18 "args" 593 "attrs" 594 "kind" 595
def o288 (P : Params) := dc #[eN P "__module__" 580 (vS "vectorcove.values" 359), eN P "__firstlineno__" 584 (.int 90 583), eN P "__init__" 592 (vR 286), eN P "__static_attributes__" 596 (vR 287), eN P "__dict__" 598 (vR 290), eN P "__weakref__" 600 (vR 291), eN P "__doc__" 601 .none] 4
def o289 := y21 "Dots" 289 288 573 581
def o290 := y22 597 289
def o291 := y10 599 289
def o292 := y11 289
def o293 := y12 289
def o296 := y5 "n" 607
def o298 := y19 s19 c19 "room" "room"
def o299 := y7 "room" 604 "room" 605 606 96 1 294 295 296 297 298 608 609
def o300 := y20 s19 c19 "room" "room" "vectorcove.values" 359 299
def o305 := y19 s20 c20 "null" "null"
def o306 := y7 "null" 611 "null" 612 613 100 0 301 302 303 304 305 614 615
def o307 := y20 s20 c20 "null" "null" "vectorcove.values" 359 306
def o310 := y5 "items" 620
def o312 := y19 s21 c21 "character" "character"
def o313 := y7 "character" 617 "character" 618 619 102 1 308 309 310 311 312 621 622
def o314 := y20 s21 c21 "character" "character" "vectorcove.values" 359 313
def o317 := y5 "b" 627
def o319 := y19 s22 c22 "flag" "flag"
def o320 := y7 "flag" 624 "flag" 625 626 104 1 315 316 317 318 319 628 629
def o321 := y20 s22 c22 "flag" "flag" "vectorcove.values" 359 320
def o324 := y5 "s" 634
def o326 := y19 s23 c23 "text" "text"
def o327 := y7 "text" 631 "text" 632 633 108 1 322 323 324 325 326 635 636
def o328 := y20 s23 c23 "text" "text" "vectorcove.values" 359 327
def o331 := y5 "name" 641
def o333 := y6 s24 "symbol" "symbol"
def o334 := y7 "symbol" 638 "symbol" 639 640 110 1 329 330 331 332 333 642 643
def o335 := y8 s24 "symbol" "symbol" "vectorcove.values" 359 334
def o338 := y18 "name" 648 "args" 649 "items" 650
def o340 := y19 s25 c25 "call_of" "call_of"
def o341 := y7 "call_of" 645 "call_of" 646 647 112 2 336 337 338 339 340 651 652
def o342 := y20 s25 c25 "call_of" "call_of" "vectorcove.values" 359 341
def o345 := y15 "v" 657 "kind" 658
def o347 := y19 s26 c26 "length" "length"
def o348 := y7 "length" 654 "length" 655 656 115 1 343 344 345 346 347 659 660
def o349 := y20 s26 c26 "length" "length" "vectorcove.values" 359 348
def o352 := y5 "v" 665
def o354 := y19 s27 c27 "is_vector" "is_vector"
def o355 := y7 "is_vector" 662 "is_vector" 663 664 126 1 350 351 352 353 354 666 667
def o356 := y20 s27 c27 "is_vector" "is_vector" "vectorcove.values" 359 355
def o359 := y5 "v" 672
def o361 := y19 s28 c28 "is_atomic" "is_atomic"
def o362 := y7 "is_atomic" 669 "is_atomic" 670 671 128 1 357 358 359 360 361 673 674
def o363 := y20 s28 c28 "is_atomic" "is_atomic" "vectorcove.values" 359 362
def o366 := y5 "v" 679
def o368 := y6 s29 "is_function" "is_function"
def o369 := y7 "is_function" 676 "is_function" 677 678 130 1 364 365 366 367 368 680 681
def o370 := y8 s29 "is_function" "is_function" "vectorcove.values" 359 369
def o373 := y5 "v" 686
def o375 := y19 s30 c30 "own" "own"
def o376 := y7 "own" 683 "own" 684 685 132 1 371 372 373 374 375 687 688
def o377 := y20 s30 c30 "own" "own" "vectorcove.values" 359 376
noncomputable def w8 (P : Params) : List DictEntry := [e40 P, e41 P, e42 P, e43 P, e44 P, e45 P, e46 P, e47 P, e48 P, e49 P, e50 P, e51 P, e52 P, e53 P, e54 P, e55 P, e56 P, e57 P, e58 P, e59 P, e60 P]
noncomputable def o3x8 (P : Params) : Obj := ⟨.type "dict", none, .dict (e39 P :: (w0 P ++ (w1 P ++ (w2 P ++ (w3 P ++ (w4 P ++ (w5 P ++ (w6 P ++ (w7 P ++ (w8 P)))))))))).toArray 58, #[]⟩
noncomputable def u7 : List Value := [vI 136, vI 0, vR 383, vI 141, vI 0, vR 390, vI 145, vI 0, vR 397, vI 150, vI 0, vR 404, vI 154, vI 0, vR 409, vI 170, vI 0, vR 416, vI 175, vI 0, vR 421, vI 180, vI 0, vR 428, vI 185, vI 0, vR 435, vI 190, vI 0, vR 442, vI 195, vI 0, vR 449, vI 206, vI 0, vR 456, vI 216, vI 0, vR 466, vI 220, vI 0, vR 473, vI 230, vI 0, vR 480, vI 234, vI 0, vR 487, vI 236, vI 0, vR 494, vI 238, vI 0, vR 501]
def o12x8 := nf (u0 ++ (u1 ++ (u2 ++ (u3 ++ (u4 ++ (u5 ++ (u6 ++ (u7)))))))).toArray
def o380 := y5 "v" 693
def o382 := y19 s31 c31 "share" "share"
def o383 := y7 "share" 690 "share" 691 692 136 1 378 379 380 381 382 694 695
def o384 := y20 s31 c31 "share" "share" "vectorcove.values" 359 383
def o387 := y15 "v" 702 "name" 703
def o389 := y19 s33 c33 "get_attr" "get_attr"
def o390 := y7 "get_attr" 699 "get_attr" 700 701 141 2 385 386 387 388 389 704 705
def o391 := y20 s33 c33 "get_attr" "get_attr" "vectorcove.attrs" 697 390
def o394 := y15 "v" 710 "name" 711
def o396 := y19 s34 c34 "drop_attr" "drop_attr"
def o397 := y7 "drop_attr" 707 "drop_attr" 708 709 145 2 392 393 394 395 396 712 713
def o398 := y20 s34 c34 "drop_attr" "drop_attr" "vectorcove.attrs" 697 397
def o401 := y18 "v" 718 "name" 719 "value" 720
def o403 := y19 s35 c35 "put_attr" "put_attr"
def o404 := y7 "put_attr" 715 "put_attr" 716 717 150 3 399 400 401 402 403 721 722
def o405 := y20 s35 c35 "put_attr" "put_attr" "vectorcove.attrs" 697 404
def o408 := y19 s36 c36 "names_of" "names_of"
def o409 := y28 "names_of" 724 "names_of" 725 726 154 1 406 407 408 727 728
def o410 := y20 s36 c36 "names_of" "names_of" "vectorcove.attrs" 697 409
def o413 := y15 "v" 733 "dims" 734
def o415 := y19 s37 c37 "dim_of" "dim_of"
def o416 := y7 "dim_of" 730 "dim_of" 731 732 170 1 411 412 413 414 415 735 736
def o417 := y20 s37 c37 "dim_of" "dim_of" "vectorcove.attrs" 697 416
def o420 := y6 s38 "dimnames_of" "dimnames_of"
def o421 := y28 "dimnames_of" 738 "dimnames_of" 739 740 175 1 418 419 420 741 742
def o422 := y8 s38 "dimnames_of" "dimnames_of" "vectorcove.attrs" 697 421
def o425 := y15 "v" 747 "found" 748
def o427 := y6 s39 "class_attr" "class_attr"
def o428 := y7 "class_attr" 744 "class_attr" 745 746 180 1 423 424 425 426 427 749 750
def o429 := y8 s39 "class_attr" "class_attr" "vectorcove.attrs" 697 428
def o432 := y15 "v" 755 "head" 756
def o434 := y6 s40 "language_class" "language_class"
def o435 := y7 "language_class" 752 "language_class" 753 754 185 1 430 431 432 433 434 757 758
def o436 := y8 s40 "language_class" "language_class" "vectorcove.attrs" 697 435
def o439 := y15 "v" 763 "dims" 764
def o441 := y6 s41 "shape_class" "shape_class"
def o442 := y7 "shape_class" 760 "shape_class" 761 762 190 1 437 438 439 440 441 765 766
def o443 := y8 s41 "shape_class" "shape_class" "vectorcove.attrs" 697 442
def o446 := y15 "v" 771 "kind" 772
def o448 := y6 s42 "plain_class" "plain_class"
def o449 := y7 "plain_class" 768 "plain_class" 769 770 195 1 444 445 446 447 448 773 774
def o450 := y8 s42 "plain_class" "plain_class" "vectorcove.attrs" 697 449
def o453 := y18 "v" 779 "kind" 780 "rows" 781
def o455 := y6 s43 "implicit_class" "implicit_class"
def o456 := y7 "implicit_class" 776 "implicit_class" 777 778 206 1 451 452 453 454 455 782 783
def o457 := y8 s43 "implicit_class" "implicit_class" "vectorcove.attrs" 697 456
def o458 := tu #[(.int 0 787), (.int 0 788)]
def o459 := tu #[(.int 1 790), (.int 0 791)]
def o460 := tu #[(.int 0 793), (.int 1 794)]
def o463 := y15 "a" 799 "b" 800
def o465 := y6 s48 "gcd" "gcd"
def o466 := y7 "gcd" 796 "gcd" 797 798 216 2 461 462 463 464 465 801 802
def o467 := y8 s48 "gcd" "gcd" "vectorcove.rational" 785 466
def o470 := y18 "n" 807 "d" 808 "common" 809
def o472 := y6 s49 "make" "make"
def o473 := y7 "make" 804 "make" 805 806 220 2 468 469 470 471 472 810 811
def o474 := y8 s49 "make" "make" "vectorcove.rational" 785 473
def o477 := y5 "n" 816
def o479 := y6 s50 "from_int" "from_int"
def o480 := y7 "from_int" 813 "from_int" 814 815 230 1 475 476 477 478 479 817 818
def o481 := y8 s50 "from_int" "from_int" "vectorcove.rational" 785 480
def o484 := y5 "x" 823
def o486 := y6 s51 "is_na" "is_na"
def o487 := y7 "is_na" 820 "is_na" 821 822 234 1 482 483 484 485 486 824 825
def o488 := y8 s51 "is_na" "is_na" "vectorcove.rational" 785 487
def o491 := y5 "x" 830
def o493 := y6 s52 "is_finite" "is_finite"
def o494 := y7 "is_finite" 827 "is_finite" 828 829 236 1 489 490 491 492 493 831 832
def o495 := y8 s52 "is_finite" "is_finite" "vectorcove.rational" 785 494
def o498 := y5 "x" 837
def o500 := y6 s53 "neg" "neg"
def o501 := y7 "neg" 834 "neg" 835 836 238 1 496 497 498 499 500 838 839
def o502 := y8 s53 "neg" "neg" "vectorcove.rational" 785 501
noncomputable def w9 (P : Params) : List DictEntry := [e62 P, e63 P, e64 P, e65 P, e66 P, e67 P, e68 P, e69 P, e70 P, e71 P, e72 P, e73 P, e74 P, e75 P, e76 P, e77 P, e78 P, e79 P, e80 P]
noncomputable def o3x9 (P : Params) : Obj := ⟨.type "dict", none, .dict (e61 P :: (w0 P ++ (w1 P ++ (w2 P ++ (w3 P ++ (w4 P ++ (w5 P ++ (w6 P ++ (w7 P ++ (w8 P ++ (w9 P))))))))))).toArray 77, #[]⟩
noncomputable def u8 : List Value := [vI 242, vI 0, vR 508, vI 247, vI 0, vR 515, vI 253, vI 0, vR 522, vI 266, vI 0, vR 529, vI 277, vI 0, vR 536, vI 285, vI 0, vR 543, vI 290, vI 0, vR 550, vI 299, vI 0, vR 557, vI 304, vI 0, vR 564, vI 311, vI 0, vR 571, vI 319, vI 0, vR 578, vI 326, vI 0, vR 585, vI 346, vI 0, vR 592, vI 353, vI 0, vR 597, vI 357, vI 0, vR 605, vI 359, vI 0, vR 612, vI 364, vI 0, vR 619, vI 368, vI 0, vR 626]
def o12x9 := nf (u0 ++ (u1 ++ (u2 ++ (u3 ++ (u4 ++ (u5 ++ (u6 ++ (u7 ++ (u8))))))))).toArray
def o505 := y15 "x" 844 "found" 845
def o507 := y6 s54 "to_whole" "to_whole"
def o508 := y7 "to_whole" 841 "to_whole" 842 843 242 1 503 504 505 506 507 846 847
def o509 := y8 s54 "to_whole" "to_whole" "vectorcove.rational" 785 508
def o512 := y17 "n" 852 "d" 853 "low" 854 "rest" 855
def o514 := y6 s55 "nearest_whole" "nearest_whole"
def o515 := y7 "nearest_whole" 849 "nearest_whole" 850 851 247 2 510 511 512 513 514 856 857
def o516 := y8 s55 "nearest_whole" "nearest_whole" "vectorcove.rational" 785 515
def o519 := y17 "x" 862 "n" 863 "d" 864 "e" 865
def o521 := y6 s56 "exponent" "exponent"
def o522 := y7 "exponent" 859 "exponent" 860 861 253 1 517 518 519 520 521 866 867
def o523 := y8 s56 "exponent" "exponent" "vectorcove.rational" 785 522
def o526 := y17 "n" 876 "rest" 877 "row" 878 "part" 879
def o528 := y6 s59 "whole_text" "whole_text"
def o529 := y7 "whole_text" 873 "whole_text" 874 875 266 1 524 525 526 527 528 880 881
def o530 := y8 s59 "whole_text" "whole_text" "vectorcove.numtext" 869 529
def o533 := y5 "x" 886
def o535 := y6 s60 "special_text" "special_text"
def o536 := y7 "special_text" 883 "special_text" 884 885 277 1 531 532 533 534 535 887 888
def o537 := y8 s60 "special_text" "special_text" "vectorcove.numtext" 869 536
def o540 := y17 "x" 893 "e" 894 "digits" 895 "shift" 896
def o542 := y6 s61 "scaled" "scaled"
def o543 := y7 "scaled" 890 "scaled" 891 892 285 3 538 539 540 541 542 897 898
def o544 := y8 s61 "scaled" "scaled" "vectorcove.numtext" 869 543
def o547 := y17 "x" 903 "digits" 904 "e" 905 "n" 906
def o549 := y6 s62 "significant" "significant"
def o550 := y7 "significant" 900 "significant" 901 902 290 2 545 546 547 548 549 907 908
def o551 := y8 s62 "significant" "significant" "vectorcove.numtext" 869 550
def o554 := y15 "text" 913 "end" 914
def o556 := y6 s63 "without_tail" "without_tail"
def o557 := y7 "without_tail" 910 "without_tail" 911 912 299 1 552 553 554 555 556 915 916
def o558 := y8 s63 "without_tail" "without_tail" "vectorcove.numtext" 869 557
def o561 := tu #[vS "x" 921, vS "digits" 922, vS "side" 923, vS "text" 924, vS "e" 925, vS "row" 926]
def o563 := y6 s64 "scientific_text" "scientific_text"
def o564 := y7 "scientific_text" 918 "scientific_text" 919 920 304 2 559 560 561 562 563 927 928
def o565 := y8 s64 "scientific_text" "scientific_text" "vectorcove.numtext" 869 564
def o568 := y17 "x" 933 "places" 934 "n" 935 "text" 936
def o570 := y6 s65 "fixed_text" "fixed_text"
def o571 := y7 "fixed_text" 930 "fixed_text" 931 932 311 2 566 567 568 569 570 937 938
def o572 := y8 s65 "fixed_text" "fixed_text" "vectorcove.numtext" 869 571
def o575 := tu #[vS "x" 943, vS "digits" 944, vS "side" 945, vS "text" 946, vS "e" 947, vS "count" 948, vS "left" 949]
def o577 := y6 s66 "measures" "measures"
def o578 := y7 "measures" 940 "measures" 941 942 319 2 573 574 575 576 577 950 951
def o579 := y8 s66 "measures" "measures" "vectorcove.numtext" 869 578
def o582 := tu #[vS "xs" 956, vS "digits" 957, vS "count" 958, vS "left" 959, vS "places" 960, vS "wide" 961, vS "minus" 962, vS "x" 963, vS "row" 964, vS "fixed_width" 965, vS "scientific_width" 966]
def o584 := y6 s67 "chosen_form" "chosen_form"
def o585 := y7 "chosen_form" 953 "chosen_form" 954 955 326 2 580 581 582 583 584 967 968
def o586 := y8 s67 "chosen_form" "chosen_form" "vectorcove.numtext" 869 585
def o589 := y18 "x" 973 "form" 974 "text" 975
def o591 := y6 s68 "formed" "formed"
def o592 := y7 "formed" 970 "formed" 971 972 346 2 587 588 589 590 591 976 977
def o593 := y8 s68 "formed" "formed" "vectorcove.numtext" 869 592
def o596 := y6 s69 "common_texts" "common_texts"
def o597 := y28 "common_texts" 979 "common_texts" 980 981 353 2 594 595 596 982 983
def o598 := y8 s69 "common_texts" "common_texts" "vectorcove.numtext" 869 597
def o599 := tu #[(.int 7 985)]
def o602 := y15 "x" 989 "digits" 990
def o604 := y6 s70 "number_text" "number_text"
def o605 := y7 "number_text" 986 "number_text" 987 988 357 2 600 601 602 603 604 991 992
def o606 := y31 s70 "number_text" "number_text" 599 "vectorcove.numtext" 869 605
def o609 := y17 "text" 997 "base" 998 "value" 999 "char" 1000
def o611 := y6 s71 "digits_value" "digits_value"
def o612 := y7 "digits_value" 994 "digits_value" 995 996 359 2 607 608 609 610 611 1001 1002
def o613 := y8 s71 "digits_value" "digits_value" "vectorcove.numtext" 869 612
def o616 := y18 "text" 1007 "at" 1008 "digits" 1009
def o618 := y6 s72 "digit_run" "digit_run"
def o619 := y7 "digit_run" 1004 "digit_run" 1005 1006 364 3 614 615 616 617 618 1010 1011
def o620 := y8 s72 "digit_run" "digit_run" "vectorcove.numtext" 869 619
def o623 := y18 "text" 1016 "start" 1017 "value" 1018
def o625 := y6 s73 "exponent_value" "exponent_value"
def o626 := y7 "exponent_value" 1013 "exponent_value" 1014 1015 368 1 621 622 623 624 625 1019 1020
def o627 := y8 s73 "exponent_value" "exponent_value" "vectorcove.numtext" 869 626
noncomputable def w10 (P : Params) : List DictEntry := [e82 P, e83 P, e84 P, e85 P, e86 P, e87 P, e88 P, e89 P, e90 P, e91 P, e92 P, e93 P, e94 P, e95 P, e96 P, e97 P, e98 P, e99 P, e100 P]
noncomputable def o3x10 (P : Params) : Obj := ⟨.type "dict", none, .dict (e81 P :: (w0 P ++ (w1 P ++ (w2 P ++ (w3 P ++ (w4 P ++ (w5 P ++ (w6 P ++ (w7 P ++ (w8 P ++ (w9 P ++ (w10 P)))))))))))).toArray 96, #[]⟩
noncomputable def u9 : List Value := [vI 378, vI 0, vR 633, vI 388, vI 0, vR 640, vI 420, vI 0, vR 647, vI 439, vI 0, vR 654, vI 444, vI 0, vR 661, vI 450, vI 0, vR 668, vI 453, vI 0, vR 675, vI 459, vI 0, vR 682, vI 467, vI 0, vR 689, vI 473, vI 0, vR 696, vI 483, vI 0, vR 703, vI 491, vI 0, vR 710, vI 497, vI 0, vR 717, vI 505, vI 0, vR 724, vI 519, vI 0, vR 731, vI 521, vI 0, vR 738, vI 527, vI 0, vR 745, vI 529, vI 0, vR 750]
def o12x10 := nf (u0 ++ (u1 ++ (u2 ++ (u3 ++ (u4 ++ (u5 ++ (u6 ++ (u7 ++ (u8 ++ (u9)))))))))).toArray
def o630 := y18 "n" 1025 "base" 1026 "e" 1027
def o632 := y6 s74 "powered" "powered"
def o633 := y7 "powered" 1022 "powered" 1023 1024 378 3 628 629 630 631 632 1028 1029
def o634 := y8 s74 "powered" "powered" "vectorcove.numtext" 869 633
def o637 := tu #[vS "text" 1034, vS "base" 1035, vS "digits" 1036, vS "mark" 1037, vS "scale" 1038, vS "end" 1039, vS "before" 1040, vS "behind" 1041, vS "start" 1042, vS "e" 1043, vS "ok" 1044, vS "n" 1045, vS "found" 1046]
def o639 := y6 s75 "unsigned_number" "unsigned_number"
def o640 := y7 "unsigned_number" 1031 "unsigned_number" 1032 1033 388 1 635 636 637 638 639 1047 1048
def o641 := y8 s75 "unsigned_number" "unsigned_number" "vectorcove.numtext" 869 640
def o644 := tu #[vS "text" 1053, vS "body" 1054, vS "negative" 1055, vS "small" 1056, vS "found" 1057, vS "ok" 1058]
def o646 := y6 s76 "parse_number" "parse_number"
def o647 := y7 "parse_number" 1050 "parse_number" 1051 1052 420 1 642 643 644 645 646 1059 1060
def o648 := y8 s76 "parse_number" "parse_number" "vectorcove.numtext" 869 647
def o651 := y15 "kind" 1069 "kinds" 1070
def o653 := y6 s79 "kind_order" "kind_order"
def o654 := y7 "kind_order" 1066 "kind_order" 1067 1068 439 1 649 650 651 652 653 1071 1072
def o655 := y8 s79 "kind_order" "kind_order" "vectorcove.coerce" 1062 654
def o658 := y17 "kinds" 1077 "names" 1078 "most" 1079 "kind" 1080
def o660 := y6 s80 "common_kind" "common_kind"
def o661 := y7 "common_kind" 1074 "common_kind" 1075 1076 444 1 656 657 658 659 660 1081 1082
def o662 := y8 s80 "common_kind" "common_kind" "vectorcove.coerce" 1062 661
def o665 := y15 "notes" 1087 "message" 1088
def o667 := y6 s81 "note" "note"
def o668 := y7 "note" 1084 "note" 1085 1086 450 2 663 664 665 666 667 1089 1090
def o669 := y8 s81 "note" "note" "vectorcove.coerce" 1062 668
def o672 := y5 "s" 1095
def o674 := y6 s82 "as_logical_text" "as_logical_text"
def o675 := y7 "as_logical_text" 1092 "as_logical_text" 1093 1094 453 1 670 671 672 673 674 1096 1097
def o676 := y8 s82 "as_logical_text" "as_logical_text" "vectorcove.coerce" 1062 675
def o679 := y18 "x" 1102 "notes" 1103 "found" 1104
def o681 := y6 s83 "double_to_integer" "double_to_integer"
def o682 := y7 "double_to_integer" 1099 "double_to_integer" 1100 1101 459 2 677 678 679 680 681 1105 1106
def o683 := y8 s83 "double_to_integer" "double_to_integer" "vectorcove.coerce" 1062 682
def o686 := y17 "s" 1111 "notes" 1112 "ok" 1113 "found" 1114
def o688 := y6 s84 "text_to_double" "text_to_double"
def o689 := y7 "text_to_double" 1108 "text_to_double" 1109 1110 467 2 684 685 686 687 688 1115 1116
def o690 := y8 s84 "text_to_double" "text_to_double" "vectorcove.coerce" 1062 689
def o693 := y15 "kind" 1121 "item" 1122
def o695 := y6 s85 "to_logical" "to_logical"
def o696 := y7 "to_logical" 1118 "to_logical" 1119 1120 473 2 691 692 693 694 695 1123 1124
def o697 := y8 s85 "to_logical" "to_logical" "vectorcove.coerce" 1062 696
def o700 := y18 "kind" 1129 "item" 1130 "notes" 1131
def o702 := y6 s86 "to_integer" "to_integer"
def o703 := y7 "to_integer" 1126 "to_integer" 1127 1128 483 3 698 699 700 701 702 1132 1133
def o704 := y8 s86 "to_integer" "to_integer" "vectorcove.coerce" 1062 703
def o707 := y18 "kind" 1138 "item" 1139 "notes" 1140
def o709 := y6 s87 "to_double" "to_double"
def o710 := y7 "to_double" 1135 "to_double" 1136 1137 491 3 705 706 707 708 709 1141 1142
def o711 := y8 s87 "to_double" "to_double" "vectorcove.coerce" 1062 710
def o714 := y15 "kind" 1147 "item" 1148
def o716 := y6 s88 "to_text" "to_text"
def o717 := y7 "to_text" 1144 "to_text" 1145 1146 497 2 712 713 714 715 716 1149 1150
def o718 := y8 s88 "to_text" "to_text" "vectorcove.coerce" 1062 717
def o721 := y17 "kind" 1155 "item" 1156 "to" 1157 "notes" 1158
def o723 := y6 s89 "item_as" "item_as"
def o724 := y7 "item_as" 1152 "item_as" 1153 1154 505 4 719 720 721 722 723 1159 1160
def o725 := y8 s89 "item_as" "item_as" "vectorcove.coerce" 1062 724
def o728 := y5 "kind" 1165
def o730 := y6 s90 "is_atomic_kind" "is_atomic_kind"
def o731 := y7 "is_atomic_kind" 1162 "is_atomic_kind" 1163 1164 519 1 726 727 728 729 730 1166 1167
def o732 := y8 s90 "is_atomic_kind" "is_atomic_kind" "vectorcove.coerce" 1062 731
def o735 := y17 "kind" 1172 "item" 1173 "to" 1174 "notes" 1175
def o737 := y6 s91 "list_item_as" "list_item_as"
def o738 := y7 "list_item_as" 1169 "list_item_as" 1170 1171 521 4 733 734 735 736 737 1176 1177
def o739 := y8 s91 "list_item_as" "list_item_as" "vectorcove.coerce" 1062 738
def o742 := y15 "v" 1182 "kind" 1183
def o744 := y6 s92 "refuse_type" "refuse_type"
def o745 := y7 "refuse_type" 1179 "refuse_type" 1180 1181 527 2 740 741 742 743 744 1184 1185
def o746 := y8 s92 "refuse_type" "refuse_type" "vectorcove.coerce" 1062 745
def o749 := y6 s93 "as_vector_kind" "as_vector_kind"
def o750 := y28 "as_vector_kind" 1187 "as_vector_kind" 1188 1189 529 2 747 748 749 1190 1191
def o751 := y8 s93 "as_vector_kind" "as_vector_kind" "vectorcove.coerce" 1062 750
noncomputable def w11 (P : Params) : List DictEntry := [e102 P, e103 P, e104 P, e105 P, e106 P, e107 P, e108 P, e109 P, e110 P, e111 P, e112 P, e113 P]
noncomputable def o3x11 (P : Params) : Obj := ⟨.type "dict", none, .dict (e101 P :: (w0 P ++ (w1 P ++ (w2 P ++ (w3 P ++ (w4 P ++ (w5 P ++ (w6 P ++ (w7 P ++ (w8 P ++ (w9 P ++ (w10 P ++ (w11 P))))))))))))).toArray 108, #[]⟩
noncomputable def u10 : List Value := [vI 543, vI 0, vR 757, vI 547, vI 0, vR 762, vI 554, vI 0, vR 769, vI 556, vI 0, vR 776, vI 571, vI 0, vR 783, vI 580, vI 0, vR 804, vI 582, vI 0, vR 811, vI 586, vI 0, vR 818, vI 596, vI 0, vR 825, vI 598, vI 0, vR 832, vI 608, vI 0, vR 839, vI 612, vI 0, vR 846]
def o12x11 := nf (u0 ++ (u1 ++ (u2 ++ (u3 ++ (u4 ++ (u5 ++ (u6 ++ (u7 ++ (u8 ++ (u9 ++ (u10))))))))))).toArray
def o754 := y15 "v" 1196 "names" 1197
def o756 := y6 s94 "with_names" "with_names"
def o757 := y7 "with_names" 1193 "with_names" 1194 1195 543 2 752 753 754 755 756 1198 1199
def o758 := y8 s94 "with_names" "with_names" "vectorcove.coerce" 1062 757
def o761 := y6 s95 "as_kind" "as_kind"
def o762 := y28 "as_kind" 1201 "as_kind" 1202 1203 547 3 759 760 761 1204 1205
def o763 := y8 s95 "as_kind" "as_kind" "vectorcove.coerce" 1062 762
def o766 := y5 "v" 1210
def o768 := y6 s96 "as_list" "as_list"
def o769 := y7 "as_list" 1207 "as_list" 1208 1209 554 1 764 765 766 767 768 1211 1212
def o770 := y8 s96 "as_list" "as_list" "vectorcove.coerce" 1062 769
def o773 := y18 "v" 1217 "count" 1218 "found" 1219
def o775 := y6 s97 "condition" "condition"
def o776 := y7 "condition" 1214 "condition" 1215 1216 556 1 771 772 773 774 775 1220 1221
def o777 := y8 s97 "condition" "condition" "vectorcove.coerce" 1062 776
def o780 (P : Params) := dc #[eN P "__module__" 1232 (vS "vectorcove.dispatch" 1223), eN P "__qualname__" 1234 (vS "Dispatch" 1233), eN P "__firstlineno__" 1236 (.int 571 1235), eN P "__init__" 1249 (vR 791), eN P "__static_attributes__" 1256 (vR 792)] 5
def o782 := y14 573 790
def o783 := y3 "Dispatch" 1227 1228 1229 571 781 181 782 1230 1231
def o784 := y4 783 780 "vectorcove.dispatch" 1223
def o787 := tu #[vS "self" 1240, vS "generic" 1241, vS "classes" 1242, vS "obj" 1243, vS "call_env" 1244, vS "def_env" 1245, vS "group" 1246]
def o789 := y6 s99_0 "__init__" "Dispatch.__init__"
def o790 := y7 "__init__" 1237 "Dispatch.__init__" 1238 1239 573 7 785 786 787 788 789 1247 1248
def o791 := y8 s99_0 "__init__" "Dispatch.__init__" "vectorcove.dispatch" 1223 790
def o792 := tu #[vS "call_env" 1250, vS "classes" 1251, vS "def_env" 1252, vS "generic" 1253, vS "group" 1254, vS "obj" 1255]
def o793 (P : Params) := dc #[eN P "__module__" 1232 (vS "vectorcove.dispatch" 1223), eN P "__firstlineno__" 1236 (.int 571 1235), eN P "__init__" 1249 (vR 791), eN P "__static_attributes__" 1256 (vR 792), eN P "__dict__" 1258 (vR 795), eN P "__weakref__" 1260 (vR 796), eN P "__doc__" 1261 .none] 4
def o794 := y21 "Dispatch" 794 793 1225 1233
def o795 := y22 1257 794
def o796 := y10 1259 794
def o797 := y11 794
def o798 := y12 794
def o801 := y5 "v" 1267
def o803 := y19 s100 c100 "has_class" "has_class"
def o804 := y7 "has_class" 1264 "has_class" 1265 1266 580 1 799 800 801 802 803 1268 1269
def o805 := y20 s100 c100 "has_class" "has_class" "vectorcove.dispatch" 1223 804
def o808 := y5 "v" 1274
def o810 := y6 s101 "dispatch_class" "dispatch_class"
def o811 := y7 "dispatch_class" 1271 "dispatch_class" 1272 1273 582 1 806 807 808 809 810 1275 1276
def o812 := y8 s101 "dispatch_class" "dispatch_class" "vectorcove.dispatch" 1223 811
def o815 := y17 "interp" 1281 "name" 1282 "env" 1283 "value" 1284
def o817 := y6 s102 "function_from" "function_from"
def o818 := y7 "function_from" 1278 "function_from" 1279 1280 586 3 813 814 815 816 817 1285 1286
def o819 := y8 s102 "function_from" "function_from" "vectorcove.dispatch" 1223 818
def o822 := y17 "interp" 1291 "generic" 1292 "cls" 1293 "env" 1294
def o824 := y6 s103 "find_method" "find_method"
def o825 := y7 "find_method" 1288 "find_method" 1289 1290 596 4 820 821 822 823 824 1295 1296
def o826 := y8 s103 "find_method" "find_method" "vectorcove.dispatch" 1223 825
def o829 := tu #[vS "interp" 1301, vS "generic" 1302, vS "group" 1303, vS "classes" 1304, vS "envs" 1305, vS "place" 1306, vS "name" 1307, vS "env" 1308, vS "method" 1309]
def o831 := y6 s104 "first_method" "first_method"
def o832 := y7 "first_method" 1298 "first_method" 1299 1300 598 5 827 828 829 830 831 1310 1311
def o833 := y8 s104 "first_method" "first_method" "vectorcove.dispatch" 1223 832
def o836 := y15 "interp" 1316 "value" 1317
def o838 := y6 s105 "plain_value" "plain_value"
def o839 := y7 "plain_value" 1313 "plain_value" 1314 1315 608 2 834 835 836 837 838 1318 1319
def o840 := y8 s105 "plain_value" "plain_value" "vectorcove.dispatch" 1223 839
def o843 := y18 "interp" 1324 "builtin" 1325 "values" 1326
def o845 := y6 s106 "plain_form" "plain_form"
def o846 := y7 "plain_form" 1321 "plain_form" 1322 1323 612 3 841 842 843 844 845 1327 1328
def o847 := y8 s106 "plain_form" "plain_form" "vectorcove.dispatch" 1223 846
noncomputable def w12 (P : Params) : List DictEntry := [e115 P, e116 P, e117 P, e118 P, e119 P, e120 P, e121 P, e122 P, e123 P, e124 P, e125 P, e126 P, e127 P, e128 P, e129 P, e130 P, e131 P, e132 P]
noncomputable def o3x12 (P : Params) : Obj := ⟨.type "dict", none, .dict (e114 P :: (w0 P ++ (w1 P ++ (w2 P ++ (w3 P ++ (w4 P ++ (w5 P ++ (w6 P ++ (w7 P ++ (w8 P ++ (w9 P ++ (w10 P ++ (w11 P ++ (w12 P)))))))))))))).toArray 126, #[]⟩
noncomputable def u11 : List Value := [vI 618, vI 0, vR 853, vI 627, vI 0, vR 858, vI 643, vI 0, vR 865, vI 650, vI 0, vR 872, vI 654, vI 0, vR 879, vI 664, vI 0, vR 886, vI 667, vI 0, vR 893, vI 669, vI 0, vR 900, vI 676, vI 0, vR 907, vI 678, vI 0, vR 914, vI 685, vI 0, vR 921, vI 695, vI 0, vR 928, vI 703, vI 0, vR 935, vI 716, vI 0, vR 942, vI 722, vI 0, vR 949, vI 736, vI 0, vR 956, vI 753, vI 0, vR 963, vI 761, vI 0, vR 970]
def o12x12 := nf (u0 ++ (u1 ++ (u2 ++ (u3 ++ (u4 ++ (u5 ++ (u6 ++ (u7 ++ (u8 ++ (u9 ++ (u10 ++ (u11)))))))))))).toArray
def o850 := tu #[vS "builtin" 1333, vS "values" 1334, vS "items" 1335, vS "tags" 1336, vS "tag" 1337, vS "value" 1338]
def o852 := y6 s107 "quoted_call" "quoted_call"
def o853 := y7 "quoted_call" 1330 "quoted_call" 1331 1332 618 2 848 849 850 851 852 1339 1340
def o854 := y8 s107 "quoted_call" "quoted_call" "vectorcove.dispatch" 1223 853
def o857 := y6 s108 "internal_call" "internal_call"
def o858 := y28 "internal_call" 1342 "internal_call" 1343 1344 627 5 855 856 857 1345 1346
def o859 := y8 s108 "internal_call" "internal_call" "vectorcove.dispatch" 1223 858
def o862 := tu #[vS "interp" 1351, vS "method" 1352, vS "args" 1353, vS "call" 1354, vS "env" 1355, vS "dispatch" 1356]
def o864 := y6 s109 "call_method" "call_method"
def o865 := y7 "call_method" 1348 "call_method" 1349 1350 643 6 860 861 862 863 864 1357 1358
def o866 := y8 s109 "call_method" "call_method" "vectorcove.dispatch" 1223 865
def o869 := y5 "v" 1363
def o871 := y6 s110 "own_classes" "own_classes"
def o872 := y7 "own_classes" 1360 "own_classes" 1361 1362 650 1 867 868 869 870 871 1364 1365
def o873 := y8 s110 "own_classes" "own_classes" "vectorcove.dispatch" 1223 872
def o876 := tu #[vS "interp" 1370, vS "group" 1371, vS "name" 1372, vS "args" 1373, vS "call" 1374, vS "env" 1375, vS "value" 1376, vS "classes" 1377, vS "place" 1378, vS "method" 1379, vS "dispatch" 1380]
def o878 := y6 s111 "group_dispatch" "group_dispatch"
def o879 := y7 "group_dispatch" 1367 "group_dispatch" 1368 1369 654 6 874 875 876 877 878 1381 1382
def o880 := y8 s111 "group_dispatch" "group_dispatch" "vectorcove.dispatch" 1223 879
def o883 := y25 "interp" 1387 "name" 1388 "args" 1389 "call" 1390 "env" 1391
def o885 := y6 s112 "generic_dispatch" "generic_dispatch"
def o886 := y7 "generic_dispatch" 1384 "generic_dispatch" 1385 1386 664 5 881 882 883 884 885 1392 1393
def o887 := y8 s112 "generic_dispatch" "generic_dispatch" "vectorcove.dispatch" 1223 886
def o890 := y15 "env" 1400 "name" 1401
def o892 := y6 s114 "lookup_here" "lookup_here"
def o893 := y7 "lookup_here" 1397 "lookup_here" 1398 1399 667 2 888 889 890 891 892 1402 1403
def o894 := y8 s114 "lookup_here" "lookup_here" "vectorcove.scope" 1395 893
def o897 := y18 "env" 1408 "name" 1409 "found" 1410
def o899 := y19 s115 c115 "lookup" "lookup"
def o900 := y7 "lookup" 1405 "lookup" 1406 1407 669 2 895 896 897 898 899 1411 1412
def o901 := y20 s115 c115 "lookup" "lookup" "vectorcove.scope" 1395 900
def o904 := y5 "name" 1417
def o906 := y6 s116 "locked_text" "locked_text"
def o907 := y7 "locked_text" 1414 "locked_text" 1415 1416 676 1 902 903 904 905 906 1418 1419
def o908 := y8 s116 "locked_text" "locked_text" "vectorcove.scope" 1395 907
def o911 := y18 "env" 1424 "name" 1425 "value" 1426
def o913 := y19 s117 c117 "define" "define"
def o914 := y7 "define" 1421 "define" 1422 1423 678 3 909 910 911 912 913 1427 1428
def o915 := y20 s117 c117 "define" "define" "vectorcove.scope" 1395 914
def o918 := y18 "ix" 1435 "found" 1436 "item" 1437
def o920 := y6 s119 "whole_subscripts" "whole_subscripts"
def o921 := y7 "whole_subscripts" 1432 "whole_subscripts" 1433 1434 685 1 916 917 918 919 920 1438 1439
def o922 := y8 s119 "whole_subscripts" "whole_subscripts" "vectorcove.index" 1430 921
def o925 := y17 "names" 1444 "table" 1445 "i" 1446 "name" 1447
def o927 := y19 s120 c120 "first_places" "first_places"
def o928 := y7 "first_places" 1441 "first_places" 1442 1443 695 1 923 924 925 926 927 1448 1449
def o929 := y20 s120 c120 "first_places" "first_places" "vectorcove.index" 1430 928
def o932 := y25 "item" 1454 "names" 1455 "table" 1456 "found" 1457 "i" 1458
def o934 := y19 s121 c121 "partial_place" "partial_place"
def o935 := y7 "partial_place" 1451 "partial_place" 1452 1453 703 2 930 931 932 933 934 1459 1460
def o936 := y20 s121 c121 "partial_place" "partial_place" "vectorcove.index" 1430 935
def o939 := y18 "item" 1465 "names" 1466 "exact" 1467
def o941 := y19 s122 c122 "one_name" "one_name"
def o942 := y7 "one_name" 1462 "one_name" 1463 1464 716 3 937 938 939 940 941 1468 1469
def o943 := y20 s122 c122 "one_name" "one_name" "vectorcove.index" 1430 942
def o946 := y15 "item" 1474 "n" 1475
def o948 := y6 s123 "one_whole" "one_whole"
def o949 := y7 "one_whole" 1471 "one_whole" 1472 1473 722 2 944 945 946 947 948 1476 1477
def o950 := y8 s123 "one_whole" "one_whole" "vectorcove.index" 1430 949
def o953 := y25 "ix" 1482 "n" 1483 "names" 1484 "exact" 1485 "kind" 1486
def o955 := y19 s124 c124 "one_place" "one_place"
def o956 := y7 "one_place" 1479 "one_place" 1480 1481 736 4 951 952 953 954 955 1487 1488
def o957 := y20 s124 c124 "one_place" "one_place" "vectorcove.index" 1430 956
def o960 := y17 "dims" 1493 "steps" 1494 "step" 1495 "extent" 1496
def o962 := y6 s125 "strides" "strides"
def o963 := y7 "strides" 1490 "strides" 1491 1492 753 1 958 959 960 961 962 1497 1498
def o964 := y8 s125 "strides" "strides" "vectorcove.index" 1430 963
def o967 := y5 "kind" 1505
def o969 := y19 s127 c127 "lacking_item" "lacking_item"
def o970 := y7 "lacking_item" 1502 "lacking_item" 1503 1504 761 1 965 966 967 968 969 1506 1507
def o971 := y20 s127 c127 "lacking_item" "lacking_item" "vectorcove.subset" 1500 970
noncomputable def w13 (P : Params) : List DictEntry := [e134 P, e135 P, e136 P, e137 P, e138 P, e139 P, e140 P, e141 P, e142 P, e143 P, e144 P, e145 P, e146 P, e147 P, e148 P, e149 P, e150 P, e151 P, e152 P]
noncomputable def o3x13 (P : Params) : Obj := ⟨.type "dict", none, .dict (e133 P :: (w0 P ++ (w1 P ++ (w2 P ++ (w3 P ++ (w4 P ++ (w5 P ++ (w6 P ++ (w7 P ++ (w8 P ++ (w9 P ++ (w10 P ++ (w11 P ++ (w12 P ++ (w13 P))))))))))))))).toArray 145, #[]⟩
noncomputable def u12 : List Value := [vI 765, vI 0, vR 977, vI 767, vI 0, vR 984, vI 769, vI 0, vR 991, vI 773, vI 0, vR 998, vI 785, vI 0, vR 1005, vI 801, vI 0, vR 1012, vI 805, vI 0, vR 1017, vI 821, vI 0, vR 1022, vI 823, vI 0, vR 1029, vI 825, vI 0, vR 1036, vI 843, vI 0, vR 1041, vI 860, vI 0, vR 1048, vI 866, vI 0, vR 1055, vI 873, vI 0, vR 1062, vI 888, vI 0, vR 1069, vI 894, vI 0, vR 1076, vI 917, vI 0, vR 1083, vI 927, vI 0, vR 1088, vI 935, vI 0, vR 1095]
def o12x13 := nf (u0 ++ (u1 ++ (u2 ++ (u3 ++ (u4 ++ (u5 ++ (u6 ++ (u7 ++ (u8 ++ (u9 ++ (u10 ++ (u11 ++ (u12))))))))))))).toArray
def o974 := y5 "kind" 1512
def o976 := y19 s128 c128 "is_list_kind" "is_list_kind"
def o977 := y7 "is_list_kind" 1509 "is_list_kind" 1510 1511 765 1 972 973 974 975 976 1513 1514
def o978 := y20 s128 c128 "is_list_kind" "is_list_kind" "vectorcove.subset" 1500 977
def o981 := y5 "v" 1519
def o983 := y6 s129 "refuse_subset" "refuse_subset"
def o984 := y7 "refuse_subset" 1516 "refuse_subset" 1517 1518 767 1 979 980 981 982 983 1520 1521
def o985 := y8 s129 "refuse_subset" "refuse_subset" "vectorcove.subset" 1500 984
def o988 := y15 "v" 1526 "place" 1527
def o990 := y19 s130 c130 "one_item" "one_item"
def o991 := y7 "one_item" 1523 "one_item" 1524 1525 769 2 986 987 988 989 990 1528 1529
def o992 := y20 s130 c130 "one_item" "one_item" "vectorcove.subset" 1500 991
def o995 := y25 "v" 1534 "ix" 1535 "exact" 1536 "n" 1537 "place" 1538
def o997 := y19 s131 c131 "vector_element" "vector_element"
def o998 := y7 "vector_element" 1531 "vector_element" 1532 1533 773 3 993 994 995 996 997 1539 1540
def o999 := y20 s131 c131 "vector_element" "vector_element" "vectorcove.subset" 1500 998
def o1002 := tu #[vS "v" 1545, vS "indexes" 1546, vS "dims" 1547, vS "place" 1548, vS "steps" 1549, vS "dimnames" 1550, vS "k" 1551, vS "names" 1552, vS "one" 1553]
def o1004 := y6 s132 "array_element_place" "array_element_place"
def o1005 := y7 "array_element_place" 1542 "array_element_place" 1543 1544 785 2 1000 1001 1002 1003 1004 1554 1555
def o1006 := y8 s132 "array_element_place" "array_element_place" "vectorcove.subset" 1500 1005
def o1009 := y15 "env" 1560 "name" 1561
def o1011 := y19 s133 c133 "environment_item" "environment_item"
def o1012 := y7 "environment_item" 1557 "environment_item" 1558 1559 801 2 1007 1008 1009 1010 1011 1562 1563
def o1013 := y20 s133 c133 "environment_item" "environment_item" "vectorcove.subset" 1500 1012
def o1016 := y19 s134 c134 "element_step" "element_step"
def o1017 := y28 "element_step" 1565 "element_step" 1566 1567 805 3 1014 1015 1016 1568 1569
def o1018 := y20 s134 c134 "element_step" "element_step" "vectorcove.subset" 1500 1017
def o1021 := y6 s135 "index_parts" "index_parts"
def o1022 := y28 "index_parts" 1571 "index_parts" 1572 1573 821 1 1019 1020 1021 1574 1575
def o1023 := y8 s135 "index_parts" "index_parts" "vectorcove.subset" 1500 1022
def o1026 := y5 "ix" 1580
def o1028 := y19 s136 c136 "is_long_index" "is_long_index"
def o1029 := y7 "is_long_index" 1577 "is_long_index" 1578 1579 823 1 1024 1025 1026 1027 1028 1581 1582
def o1030 := y20 s136 c136 "is_long_index" "is_long_index" "vectorcove.subset" 1500 1029
def o1033 := tu #[vS "v" 1587, vS "indexes" 1588, vS "exact" 1589, vS "ix" 1590, vS "parts" 1591, vS "i" 1592]
def o1035 := y19 s137 c137 "element" "element"
def o1036 := y7 "element" 1584 "element" 1585 1586 825 3 1031 1032 1033 1034 1035 1593 1594
def o1037 := y20 s137 c137 "element" "element" "vectorcove.subset" 1500 1036
def o1040 := y19 s138 c138 "dollar" "dollar"
def o1041 := y28 "dollar" 1596 "dollar" 1597 1598 843 2 1038 1039 1040 1599 1600
def o1042 := y20 s138 c138 "dollar" "dollar" "vectorcove.subset" 1500 1041
def o1045 := y18 "v" 1607 "kind" 1608 "notes" 1609
def o1047 := y19 s140 c140 "converted_items" "converted_items"
def o1048 := y7 "converted_items" 1604 "converted_items" 1605 1606 860 3 1043 1044 1045 1046 1047 1610 1611
def o1049 := y20 s140 c140 "converted_items" "converted_items" "vectorcove.subassign" 1602 1048
def o1052 := y17 "v" 1616 "kind" 1617 "notes" 1618 "attrs" 1619
def o1054 := y19 s141 c141 "raised" "raised"
def o1055 := y7 "raised" 1613 "raised" 1614 1615 866 3 1050 1051 1052 1053 1054 1620 1621
def o1056 := y20 s141 c141 "raised" "raised" "vectorcove.subassign" 1602 1055
def o1059 := tu #[vS "v" 1626, vS "count" 1627, vS "names" 1628, vS "added" 1629, vS "n" 1630, vS "i" 1631, vS "texts" 1632]
def o1061 := y19 s142 c142 "extend_vector" "extend_vector"
def o1062 := y7 "extend_vector" 1623 "extend_vector" 1624 1625 873 4 1057 1058 1059 1060 1061 1633 1634
def o1063 := y20 s142 c142 "extend_vector" "extend_vector" "vectorcove.subassign" 1602 1062
def o1066 := y18 "places" 1639 "count" 1640 "place" 1641
def o1068 := y19 s143 c143 "first_count" "first_count"
def o1069 := y7 "first_count" 1636 "first_count" 1637 1638 888 1 1064 1065 1066 1067 1068 1642 1643
def o1070 := y20 s143 c143 "first_count" "first_count" "vectorcove.subassign" 1602 1069
def o1073 := tu #[vS "v" 1648, vS "places" 1649, vS "names" 1650, vS "count" 1651, vS "gone" 1652, vS "place" 1653, vS "items" 1654, vS "kept_names" 1655, vS "i" 1656, vS "inside" 1657, vS "result" 1658, vS "name" 1659]
def o1075 := y19 s144 c144 "delete_places" "delete_places"
def o1076 := y7 "delete_places" 1645 "delete_places" 1646 1647 894 2 1071 1072 1073 1074 1075 1660 1661
def o1077 := y20 s144 c144 "delete_places" "delete_places" "vectorcove.subassign" 1602 1076
def o1080 := y25 "v" 1666 "result" 1667 "names" 1668 "filled" 1669 "tag" 1670
def o1082 := y6 s145 "list_of_call" "list_of_call"
def o1083 := y7 "list_of_call" 1663 "list_of_call" 1664 1665 917 1 1078 1079 1080 1081 1082 1671 1672
def o1084 := y8 s145 "list_of_call" "list_of_call" "vectorcove.subassign" 1602 1083
def o1087 := y6 s146 "call_of_list" "call_of_list"
def o1088 := y28 "call_of_list" 1674 "call_of_list" 1675 1676 927 1 1085 1086 1087 1677 1678
def o1089 := y8 s146 "call_of_list" "call_of_list" "vectorcove.subassign" 1602 1088
def o1092 := y15 "v" 1683 "value" 1684
def o1094 := y19 s147 c147 "element_kind" "element_kind"
def o1095 := y7 "element_kind" 1680 "element_kind" 1681 1682 935 2 1090 1091 1092 1093 1094 1685 1686
def o1096 := y20 s147 c147 "element_kind" "element_kind" "vectorcove.subassign" 1602 1095
noncomputable def w14 (P : Params) : List DictEntry := [e154 P, e155 P, e156 P, e157 P, e158 P, e159 P, e160 P, e161 P, e162 P, e163 P, e164 P, e165 P, e166 P, e167 P]
noncomputable def o3x14 (P : Params) : Obj := ⟨.type "dict", none, .dict (e153 P :: (w0 P ++ (w1 P ++ (w2 P ++ (w3 P ++ (w4 P ++ (w5 P ++ (w6 P ++ (w7 P ++ (w8 P ++ (w9 P ++ (w10 P ++ (w11 P ++ (w12 P ++ (w13 P ++ (w14 P)))))))))))))))).toArray 159, #[]⟩
noncomputable def u13 : List Value := [vI 943, vI 0, vR 1102, vI 962, vI 0, vR 1109, vI 983, vI 0, vR 1116, vI 994, vI 0, vR 1123, vI 1008, vI 0, vR 1130, vI 1021, vI 0, vR 1137, vI 1035, vI 0, vR 1144, vI 1039, vI 0, vR 1151, vI 1042, vI 0, vR 1158, vI 1050, vI 0, vR 1165, vI 1061, vI 0, vR 1172, vI 1069, vI 0, vR 1179, vI 1081, vI 0, vR 1186, vI 1089, vI 0, vR 1193]
def o12x14 := nf (u0 ++ (u1 ++ (u2 ++ (u3 ++ (u4 ++ (u5 ++ (u6 ++ (u7 ++ (u8 ++ (u9 ++ (u10 ++ (u11 ++ (u12 ++ (u13)))))))))))))).toArray
def o1099 := tu #[vS "v" 1691, vS "place" 1692, vS "name" 1693, vS "value" 1694, vS "notes" 1695, vS "names" 1696, vS "kind" 1697, vS "result" 1698, vS "added" 1699]
def o1101 := y19 s148 c148 "put_element" "put_element"
def o1102 := y7 "put_element" 1688 "put_element" 1689 1690 943 5 1097 1098 1099 1100 1101 1700 1701
def o1103 := y20 s148 c148 "put_element" "put_element" "vectorcove.subassign" 1602 1102
def o1106 := tu #[vS "v" 1706, vS "ix" 1707, vS "value" 1708, vS "notes" 1709, vS "kind" 1710, vS "n" 1711, vS "place" 1712, vS "name" 1713]
def o1108 := y19 s149 c149 "assign_step" "assign_step"
def o1109 := y7 "assign_step" 1703 "assign_step" 1704 1705 962 4 1104 1105 1106 1107 1108 1714 1715
def o1110 := y20 s149 c149 "assign_step" "assign_step" "vectorcove.subassign" 1602 1109
def o1113 := y25 "v" 1720 "parts" 1721 "value" 1722 "notes" 1723 "inner" 1724
def o1115 := y19 s150 c150 "assign_down" "assign_down"
def o1116 := y7 "assign_down" 1717 "assign_down" 1718 1719 983 4 1111 1112 1113 1114 1115 1725 1726
def o1117 := y20 s150 c150 "assign_down" "assign_down" "vectorcove.subassign" 1602 1116
def o1120 := tu #[vS "v" 1731, vS "indexes" 1732, vS "value" 1733, vS "notes" 1734, vS "place" 1735, vS "ix" 1736]
def o1122 := y19 s151 c151 "assign_element" "assign_element"
def o1123 := y7 "assign_element" 1728 "assign_element" 1729 1730 994 4 1118 1119 1120 1121 1122 1737 1738
def o1124 := y20 s151 c151 "assign_element" "assign_element" "vectorcove.subassign" 1602 1123
def o1127 := y17 "v" 1743 "name" 1744 "value" 1745 "notes" 1746
def o1129 := y19 s152 c152 "assign_dollar" "assign_dollar"
def o1130 := y7 "assign_dollar" 1740 "assign_dollar" 1741 1742 1008 4 1125 1126 1127 1128 1129 1747 1748
def o1131 := y20 s152 c152 "assign_dollar" "assign_dollar" "vectorcove.subassign" 1602 1130
def o1134 := tu #[vS "args" 1755, vS "indexes" 1756, vS "drop" 1757, vS "exact" 1758, vS "tag" 1759, vS "value" 1760]
def o1136 := y19 s154 c154 "index_args" "index_args"
def o1137 := y7 "index_args" 1752 "index_args" 1753 1754 1021 1 1132 1133 1134 1135 1136 1761 1762
def o1138 := y20 s154 c154 "index_args" "index_args" "vectorcove.indexcalls" 1750 1137
def o1141 := y15 "interp" 1767 "value" 1768
def o1143 := y19 s155 c155 "opened" "opened"
def o1144 := y7 "opened" 1764 "opened" 1765 1766 1035 2 1139 1140 1141 1142 1143 1769 1770
def o1145 := y20 s155 c155 "opened" "opened" "vectorcove.indexcalls" 1750 1144
def o1148 := tu #[vS "interp" 1775, vS "args" 1776, vS "env" 1777, vS "v" 1778, vS "indexes" 1779, vS "drop" 1780, vS "exact" 1781]
def o1150 := y19 s156 c156 "b_element" "b_element"
def o1151 := y7 "b_element" 1772 "b_element" 1773 1774 1039 3 1146 1147 1148 1149 1150 1782 1783
def o1152 := y20 s156 c156 "b_element" "b_element" "vectorcove.indexcalls" 1750 1151
def o1155 := y17 "args" 1788 "indexes" 1789 "tag" 1790 "value" 1791
def o1157 := y19 s157 c157 "setter_parts" "setter_parts"
def o1158 := y7 "setter_parts" 1785 "setter_parts" 1786 1787 1042 1 1153 1154 1155 1156 1157 1792 1793
def o1159 := y20 s157 c157 "setter_parts" "setter_parts" "vectorcove.indexcalls" 1750 1158
def o1162 := tu #[vS "interp" 1798, vS "args" 1799, vS "env" 1800, vS "v" 1801, vS "indexes" 1802, vS "value" 1803, vS "notes" 1804, vS "result" 1805]
def o1164 := y19 s158 c158 "b_set_element" "b_set_element"
def o1165 := y7 "b_set_element" 1795 "b_set_element" 1796 1797 1050 3 1160 1161 1162 1163 1164 1806 1807
def o1166 := y20 s158 c158 "b_set_element" "b_set_element" "vectorcove.indexcalls" 1750 1165
def o1169 := y5 "e" 1812
def o1171 := y19 s159 c159 "field_name" "field_name"
def o1172 := y7 "field_name" 1809 "field_name" 1810 1811 1061 1 1167 1168 1169 1170 1171 1813 1814
def o1173 := y20 s159 c159 "field_name" "field_name" "vectorcove.indexcalls" 1750 1172
def o1176 := tu #[vS "interp" 1819, vS "call" 1820, vS "env" 1821, vS "v" 1822, vS "name" 1823, vS "found" 1824, vS "value" 1825, vS "result" 1826]
def o1178 := y19 s160 c160 "s_dollar" "s_dollar"
def o1179 := y7 "s_dollar" 1816 "s_dollar" 1817 1818 1069 3 1174 1175 1176 1177 1178 1827 1828
def o1180 := y20 s160 c160 "s_dollar" "s_dollar" "vectorcove.indexcalls" 1750 1179
def o1183 := tu #[vS "interp" 1833, vS "v" 1834, vS "name" 1835, vS "value" 1836, vS "notes" 1837, vS "result" 1838]
def o1185 := y19 s161 c161 "put_field" "put_field"
def o1186 := y7 "put_field" 1830 "put_field" 1831 1832 1081 4 1181 1182 1183 1184 1185 1839 1840
def o1187 := y20 s161 c161 "put_field" "put_field" "vectorcove.indexcalls" 1750 1186
def o1190 := tu #[vS "interp" 1845, vS "call" 1846, vS "env" 1847, vS "v" 1848, vS "name" 1849, vS "value" 1850, vS "args" 1851, vS "found" 1852, vS "result" 1853]
def o1192 := y19 s162 c162 "s_set_dollar" "s_set_dollar"
def o1193 := y7 "s_set_dollar" 1842 "s_set_dollar" 1843 1844 1089 3 1188 1189 1190 1191 1192 1854 1855
def o1194 := y20 s162 c162 "s_set_dollar" "s_set_dollar" "vectorcove.indexcalls" 1750 1193
noncomputable def w15 (P : Params) : List DictEntry := [e169 P, e170 P, e171 P, e172 P, e173 P, e174 P]
noncomputable def o3x15 (P : Params) : Obj := ⟨.type "dict", none, .dict (e168 P :: (w0 P ++ (w1 P ++ (w2 P ++ (w3 P ++ (w4 P ++ (w5 P ++ (w6 P ++ (w7 P ++ (w8 P ++ (w9 P ++ (w10 P ++ (w11 P ++ (w12 P ++ (w13 P ++ (w14 P ++ (w15 P))))))))))))))))).toArray 165, #[]⟩
noncomputable def u14 : List Value := [vI 1104, vI 0, vR 1200, vI 1157, vI 0, vR 1261, vI 1159, vI 0, vR 1268, vI 1168, vI 0, vR 1273, vI 1174, vI 0, vR 1279, vI 1184, vI 0, vR 1286]
def o12x15 := nf (u0 ++ (u1 ++ (u2 ++ (u3 ++ (u4 ++ (u5 ++ (u6 ++ (u7 ++ (u8 ++ (u9 ++ (u10 ++ (u11 ++ (u12 ++ (u13 ++ (u14))))))))))))))).toArray
def o1197 (P : Params) := dc #[eN P "__module__" 1866 (vS "vectorcove.callargs" 1857), eN P "__qualname__" 1868 (vS "Matching" 1867), eN P "__firstlineno__" 1870 (.int 1104 1869), eN P "__init__" 1879 (vR 1208), eN P "exact" 1888 (vR 1215), eN P "partial" 1896 (vR 1222), eN P "partial_of" 1906 (vR 1229), eN P "positional" 1915 (vR 1236), eN P "is_free" 1923 (vR 1243), eN P "rest" 1929 (vR 1248), eN P "__static_attributes__" 1934 (vR 1249)] 11
def o1199 := nf #[vI 1106, vI 4, vR 1207, vI 1112, vI 4, vR 1214, vI 1122, vI 4, vR 1221, vI 1129, vI 4, vR 1228, vI 1140, vI 4, vR 1235, vI 1152, vI 4, vR 1242, vI 1155, vI 4, vR 1247]
def o1200 := y3 "Matching" 1861 1862 1863 1104 1198 181 1199 1864 1865
def o1201 := y4 1200 1197 "vectorcove.callargs" 1857
def o1204 := y18 "self" 1874 "formals" 1875 "tags" 1876
def o1206 := y6 s164_0 "__init__" "Matching.__init__"
def o1207 := y7 "__init__" 1871 "Matching.__init__" 1872 1873 1106 3 1202 1203 1204 1205 1206 1877 1878
def o1208 := y8 s164_0 "__init__" "Matching.__init__" "vectorcove.callargs" 1857 1207
def o1211 := y18 "self" 1883 "name" 1884 "place" 1885
def o1213 := y6 s164_1 "exact" "Matching.exact"
def o1214 := y7 "exact" 1880 "Matching.exact" 1881 1882 1112 1 1209 1210 1211 1212 1213 1886 1887
def o1215 := y8 s164_1 "exact" "Matching.exact" "vectorcove.callargs" 1857 1214
def o1218 := y15 "self" 1892 "name" 1893
def o1220 := y6 s164_2 "partial" "Matching.partial"
def o1221 := y7 "partial" 1889 "Matching.partial" 1890 1891 1122 1 1216 1217 1218 1219 1220 1894 1895
def o1222 := y8 s164_2 "partial" "Matching.partial" "vectorcove.callargs" 1857 1221
def o1225 := y17 "self" 1900 "name" 1901 "place" 1902 "tag" 1903
def o1227 := y6 s164_3 "partial_of" "Matching.partial_of"
def o1228 := y7 "partial_of" 1897 "Matching.partial_of" 1898 1899 1129 2 1223 1224 1225 1226 1227 1904 1905
def o1229 := y8 s164_3 "partial_of" "Matching.partial_of" "vectorcove.callargs" 1857 1228
def o1232 := y18 "self" 1910 "place" 1911 "name" 1912
def o1234 := y6 s164_4 "positional" "Matching.positional"
def o1235 := y7 "positional" 1907 "Matching.positional" 1908 1909 1140 1 1230 1231 1232 1233 1234 1913 1914
def o1236 := y8 s164_4 "positional" "Matching.positional" "vectorcove.callargs" 1857 1235
def o1239 := y15 "self" 1919 "place" 1920
def o1241 := y6 s164_5 "is_free" "Matching.is_free"
def o1242 := y7 "is_free" 1916 "Matching.is_free" 1917 1918 1152 2 1237 1238 1239 1240 1241 1921 1922
def o1243 := y8 s164_5 "is_free" "Matching.is_free" "vectorcove.callargs" 1857 1242
def o1246 := y6 s164_6 "rest" "Matching.rest"
def o1247 := y28 "rest" 1924 "Matching.rest" 1925 1926 1155 1 1244 1245 1246 1927 1928
def o1248 := y8 s164_6 "rest" "Matching.rest" "vectorcove.callargs" 1857 1247
def o1249 := y17 "formals" 1930 "places" 1931 "tags" 1932 "used" 1933
def o1250 (P : Params) := dc #[eN P "__module__" 1866 (vS "vectorcove.callargs" 1857), eN P "__firstlineno__" 1870 (.int 1104 1869), eN P "__init__" 1879 (vR 1208), eN P "exact" 1888 (vR 1215), eN P "partial" 1896 (vR 1222), eN P "partial_of" 1906 (vR 1229), eN P "positional" 1915 (vR 1236), eN P "is_free" 1923 (vR 1243), eN P "rest" 1929 (vR 1248), eN P "__static_attributes__" 1934 (vR 1249), eN P "__dict__" 1936 (vR 1252), eN P "__weakref__" 1938 (vR 1253), eN P "__doc__" 1939 .none] 4
def o1251 := y21 "Matching" 1251 1250 1859 1867
def o1252 := y22 1935 1251
def o1253 := y10 1937 1251
def o1254 := y11 1251
def o1255 := y12 1251
def o1258 := y5 "name" 1945
def o1260 := y6 s165 "doubled_text" "doubled_text"
def o1261 := y7 "doubled_text" 1942 "doubled_text" 1943 1944 1157 1 1256 1257 1258 1259 1260 1946 1947
def o1262 := y8 s165 "doubled_text" "doubled_text" "vectorcove.callargs" 1857 1261
def o1265 := y25 "args" 1952 "place" 1953 "show" 1954 "tag" 1955 "value" 1956
def o1267 := y6 s166 "argument_text" "argument_text"
def o1268 := y7 "argument_text" 1949 "argument_text" 1950 1951 1159 3 1263 1264 1265 1266 1267 1957 1958
def o1269 := y8 s166 "argument_text" "argument_text" "vectorcove.callargs" 1857 1268
def o1272 := y6 s167 "unused_text" "unused_text"
def o1273 := y28 "unused_text" 1960 "unused_text" 1961 1962 1168 3 1270 1271 1272 1963 1964
def o1274 := y8 s167 "unused_text" "unused_text" "vectorcove.callargs" 1857 1273
def o1278 := y6 s168 "match_names" "match_names"
def o1279 := y28 "match_names" 1966 "match_names" 1967 1968 1174 3 1276 1277 1278 1969 1970
def o1280 := y31 s168 "match_names" "match_names" 1275 "vectorcove.callargs" 1857 1279
def o1283 := y18 "expr" 1977 "value" 1978 "promise" 1979
def o1285 := y6 s170 "done_promise" "done_promise"
def o1286 := y7 "done_promise" 1974 "done_promise" 1975 1976 1184 2 1281 1282 1283 1284 1285 1980 1981
def o1287 := y8 s170 "done_promise" "done_promise" "vectorcove.funcall" 1972 1286
noncomputable def w16 (P : Params) : List DictEntry := [e176 P, e177 P, e178 P, e179 P, e180 P, e181 P, e182 P, e183 P, e184 P]
noncomputable def o3x16 (P : Params) : Obj := ⟨.type "dict", none, .dict (e175 P :: (w0 P ++ (w1 P ++ (w2 P ++ (w3 P ++ (w4 P ++ (w5 P ++ (w6 P ++ (w7 P ++ (w8 P ++ (w9 P ++ (w10 P ++ (w11 P ++ (w12 P ++ (w13 P ++ (w14 P ++ (w15 P ++ (w16 P)))))))))))))))))).toArray 174, #[]⟩
noncomputable def u15 : List Value := [vI 1189, vI 0, vR 1293, vI 1193, vI 0, vR 1300, vI 1198, vI 0, vR 1307, vI 1202, vI 0, vR 1313, vI 1215, vI 0, vR 1320, vI 1220, vI 0, vR 1327, vI 1222, vI 0, vR 1334, vI 1231, vI 0, vR 1341, vI 1237, vI 0, vR 1348]
def o12x16 := nf (u0 ++ (u1 ++ (u2 ++ (u3 ++ (u4 ++ (u5 ++ (u6 ++ (u7 ++ (u8 ++ (u9 ++ (u10 ++ (u11 ++ (u12 ++ (u13 ++ (u14 ++ (u15)))))))))))))))).toArray
def o1290 := y5 "value" 1986
def o1292 := y6 s171 "bound_argument" "bound_argument"
def o1293 := y7 "bound_argument" 1983 "bound_argument" 1984 1985 1189 1 1288 1289 1290 1291 1292 1987 1988
def o1294 := y8 s171 "bound_argument" "bound_argument" "vectorcove.funcall" 1972 1293
def o1297 := y18 "arg" 1993 "tag" 1994 "value" 1995
def o1299 := y6 s172 "dots_argument" "dots_argument"
def o1300 := y7 "dots_argument" 1990 "dots_argument" 1991 1992 1193 1 1295 1296 1297 1298 1299 1996 1997
def o1301 := y8 s172 "dots_argument" "dots_argument" "vectorcove.funcall" 1972 1300
def o1304 := y15 "default" 2002 "env" 2003
def o1306 := y6 s173 "default_binding" "default_binding"
def o1307 := y7 "default_binding" 1999 "default_binding" 2000 2001 1198 2 1302 1303 1304 1305 1306 2004 2005
def o1308 := y8 s173 "default_binding" "default_binding" "vectorcove.funcall" 1972 1307
def o1312 := y6 s174 "bind_formals" "bind_formals"
def o1313 := y28 "bind_formals" 2007 "bind_formals" 2008 2009 1202 4 1310 1311 1312 2010 2011
def o1314 := y31 s174 "bind_formals" "bind_formals" 1309 "vectorcove.funcall" 1972 1313
def o1317 := y15 "env" 2016 "found" 2017
def o1319 := y6 s175 "dots_of" "dots_of"
def o1320 := y7 "dots_of" 2013 "dots_of" 2014 2015 1215 1 1315 1316 1317 1318 1319 2018 2019
def o1321 := y8 s175 "dots_of" "dots_of" "vectorcove.funcall" 1972 1320
def o1324 := y5 "name" 2024
def o1326 := y19 s176 c176 "is_dots_place" "is_dots_place"
def o1327 := y7 "is_dots_place" 2021 "is_dots_place" 2022 2023 1220 1 1322 1323 1324 1325 1326 2025 2026
def o1328 := y20 s176 c176 "is_dots_place" "is_dots_place" "vectorcove.funcall" 1972 1327
def o1331 := y25 "env" 2031 "name" 2032 "dots" 2033 "place" 2034 "word" 2035
def o1333 := y6 s177 "dots_place" "dots_place"
def o1334 := y7 "dots_place" 2028 "dots_place" 2029 2030 1222 2 1329 1330 1331 1332 1333 2036 2037
def o1335 := y8 s177 "dots_place" "dots_place" "vectorcove.funcall" 1972 1334
def o1338 := y18 "e" 2042 "env" 2043 "bound" 2044
def o1340 := y6 s178 "is_empty_name" "is_empty_name"
def o1341 := y7 "is_empty_name" 2039 "is_empty_name" 2040 2041 1231 2 1336 1337 1338 1339 1340 2045 2046
def o1342 := y8 s178 "is_empty_name" "is_empty_name" "vectorcove.funcall" 1972 1341
def o1345 (P : Params) := dc #[eN P "__module__" 2057 (vS "vectorcove.evaluator" 2048), eN P "__qualname__" 2059 (vS "Frame" 2058), eN P "__firstlineno__" 2061 (.int 1237 2060), eN P "__init__" 2073 (vR 1356), eN P "__static_attributes__" 2081 (vR 1357)] 5
def o1347 := y14 1239 1355
def o1348 := y3 "Frame" 2052 2053 2054 1237 1346 181 1347 2055 2056
def o1349 := y4 1348 1345 "vectorcove.evaluator" 2048
def o1352 := tu #[vS "self" 2065, vS "call" 2066, vS "function" 2067, vS "env" 2068, vS "caller" 2069, vS "args" 2070]
def o1354 := y6 s180_0 "__init__" "Frame.__init__"
def o1355 := y7 "__init__" 2062 "Frame.__init__" 2063 2064 1239 6 1350 1351 1352 1353 1354 2071 2072
def o1356 := y8 s180_0 "__init__" "Frame.__init__" "vectorcove.evaluator" 2048 1355
def o1357 := tu #[vS "args" 2074, vS "call" 2075, vS "caller" 2076, vS "dispatch" 2077, vS "env" 2078, vS "function" 2079, vS "on_exit" 2080]
def o1358 (P : Params) := dc #[eN P "__module__" 2057 (vS "vectorcove.evaluator" 2048), eN P "__firstlineno__" 2061 (.int 1237 2060), eN P "__init__" 2073 (vR 1356), eN P "__static_attributes__" 2081 (vR 1357), eN P "__dict__" 2083 (vR 1360), eN P "__weakref__" 2085 (vR 1361), eN P "__doc__" 2086 .none] 4
def o1359 := y21 "Frame" 1359 1358 2050 2058
def o1360 := y22 2082 1359
def o1361 := y10 2084 1359
def o1362 := y11 1359
def o1363 := y12 1359
noncomputable def w17 (P : Params) : List DictEntry := [e185 P]
noncomputable def o3x17 (P : Params) : Obj := ⟨.type "dict", none, .dict (e175 P :: (w0 P ++ (w1 P ++ (w2 P ++ (w3 P ++ (w4 P ++ (w5 P ++ (w6 P ++ (w7 P ++ (w8 P ++ (w9 P ++ (w10 P ++ (w11 P ++ (w12 P ++ (w13 P ++ (w14 P ++ (w15 P ++ (w16 P ++ (w17 P))))))))))))))))))).toArray 175, #[]⟩
noncomputable def u16 : List Value := [vI 1247, vI 0, vR 1369]
def o12x17 := nf (u0 ++ (u1 ++ (u2 ++ (u3 ++ (u4 ++ (u5 ++ (u6 ++ (u7 ++ (u8 ++ (u9 ++ (u10 ++ (u11 ++ (u12 ++ (u13 ++ (u14 ++ (u15 ++ (u16))))))))))))))))).toArray
def o1366 (P : Params) := dc #[eN P "__module__" 2096 (vS "vectorcove.evaluator" 2048), eN P "__qualname__" 2098 (vS "Evaluator" 2097), eN P "__firstlineno__" 2100 (.int 1247 2099), eN P "__init__" 2111 (vR 1378), eN P "new_env" 2120 (vR 1385), eN P "define" 2132 (vR 1393), eN P "tick" 2139 (vR 1400), eN P "signal_error" 2148 (vR 1407), eN P "warn_all" 2158 (vR 1415), eN P "running_call" 2165 (vR 1422), eN P "eval" 2175 (vR 1429), eN P "variable" 2186 (vR 1436), eN P "dots_value" 2196 (vR 1443), eN P "force" 2204 (vR 1450), eN P "find_function" 2215 (vR 1458), eN P "function_of" 2226 (vR 1465), eN P "eval_call" 2235 (vR 1472), eN P "plain_call" 2246 (vR 1479), eN P "spread_dots" 2255 (vR 1486), eN P "promise_args" 2268 (vR 1493), eN P "eager_args" 2284 (vR 1501), eN P "empty_arg" 2294 (vR 1508), eN P "call_special" 2306 (vR 1515), eN P "call_builtin" 2322 (vR 1522), eN P "apply_closure" 2341 (vR 1530), eN P "leave" 2352 (vR 1537), eN P "run_exits" 2361 (vR 1544), eN P "shower" 2370 (vR 1551), eN P "call_value" 2381 (vR 1559), eN P "run" 2391 (vR 1566), eN P "__static_attributes__" 2411 (vR 1567)] 31
def o1368 := nf #[vI 1249, vI 4, vR 1377, vI 1270, vI 4, vR 1384, vI 1275, vI 4, vR 1392, vI 1278, vI 4, vR 1399, vI 1283, vI 4, vR 1406, vI 1288, vI 4, vR 1414, vI 1297, vI 4, vR 1421, vI 1302, vI 4, vR 1428, vI 1313, vI 4, vR 1435, vI 1329, vI 4, vR 1442, vI 1335, vI 4, vR 1449, vI 1349, vI 4, vR 1457, vI 1362, vI 4, vR 1464, vI 1373, vI 4, vR 1471, vI 1376, vI 4, vR 1478, vI 1386, vI 4, vR 1485, vI 1392, vI 4, vR 1492, vI 1404, vI 4, vR 1500, vI 1422, vI 4, vR 1507, vI 1427, vI 4, vR 1514, vI 1435, vI 4, vR 1521, vI 1451, vI 4, vR 1529, vI 1485, vI 4, vR 1536, vI 1498, vI 4, vR 1543, vI 1506, vI 4, vR 1550, vI 1517, vI 4, vR 1558, vI 1520, vI 4, vR 1565]
def o1369 := y3 "Evaluator" 2091 2092 2093 1247 1367 181 1368 2094 2095
def o1370 := y4 1369 1366 "vectorcove.evaluator" 2048
def o1371 := tu #[(.int 20000 2101), (.int 40 2102)]
def o1374 := y18 "self" 2106 "limit" 2107 "most_frames" 2108
def o1376 := y19 s181_0 c181_0 "__init__" "Evaluator.__init__"
def o1377 := y7 "__init__" 2103 "Evaluator.__init__" 2104 2105 1249 3 1372 1373 1374 1375 1376 2109 2110
def o1378 := y24 s181_0 c181_0 "__init__" "Evaluator.__init__" 1371 "vectorcove.evaluator" 2048 1377
def o1381 := y18 "self" 2115 "parent" 2116 "env" 2117
def o1383 := y19 s181_1 c181_1 "new_env" "Evaluator.new_env"
def o1384 := y7 "new_env" 2112 "Evaluator.new_env" 2113 2114 1270 2 1379 1380 1381 1382 1383 2118 2119
def o1385 := y20 s181_1 c181_1 "new_env" "Evaluator.new_env" "vectorcove.evaluator" 2048 1384
def o1386 := y5 "" 2121
def o1389 := y25 "self" 2125 "name" 2126 "special" 2127 "fn" 2128 "group" 2129
def o1391 := y6 s181_2 "define" "Evaluator.define"
def o1392 := y7 "define" 2122 "Evaluator.define" 2123 2124 1275 5 1387 1388 1389 1390 1391 2130 2131
def o1393 := y31 s181_2 "define" "Evaluator.define" 1386 "vectorcove.evaluator" 2048 1392
def o1396 := y5 "self" 2136
def o1398 := y6 s181_3 "tick" "Evaluator.tick"
def o1399 := y7 "tick" 2133 "Evaluator.tick" 2134 2135 1278 1 1394 1395 1396 1397 1398 2137 2138
def o1400 := y8 s181_3 "tick" "Evaluator.tick" "vectorcove.evaluator" 2048 1399
def o1403 := y18 "self" 2143 "message" 2144 "call" 2145
def o1405 := y6 s181_4 "signal_error" "Evaluator.signal_error"
def o1406 := y7 "signal_error" 2140 "Evaluator.signal_error" 2141 2142 1283 3 1401 1402 1403 1404 1405 2146 2147
def o1407 := y8 s181_4 "signal_error" "Evaluator.signal_error" "vectorcove.evaluator" 2048 1406
def o1411 := y17 "self" 2152 "notes" 2153 "call" 2154 "note" 2155
def o1413 := y19 s181_5 c181_5 "warn_all" "Evaluator.warn_all"
def o1414 := y7 "warn_all" 2149 "Evaluator.warn_all" 2150 2151 1288 3 1409 1410 1411 1412 1413 2156 2157
def o1415 := y24 s181_5 c181_5 "warn_all" "Evaluator.warn_all" 1408 "vectorcove.evaluator" 2048 1414
def o1418 := y5 "self" 2162
def o1420 := y6 s181_6 "running_call" "Evaluator.running_call"
def o1421 := y7 "running_call" 2159 "Evaluator.running_call" 2160 2161 1297 1 1416 1417 1418 1419 1420 2163 2164
def o1422 := y8 s181_6 "running_call" "Evaluator.running_call" "vectorcove.evaluator" 2048 1421
def o1425 := y17 "self" 2169 "e" 2170 "env" 2171 "kind" 2172
def o1427 := y19 s181_7 c181_7 "eval" "Evaluator.eval"
def o1428 := y7 "eval" 2166 "Evaluator.eval" 2167 2168 1302 3 1423 1424 1425 1426 1427 2173 2174
def o1429 := y20 s181_7 c181_7 "eval" "Evaluator.eval" "vectorcove.evaluator" 2048 1428
def o1432 := y25 "self" 2179 "name" 2180 "env" 2181 "found" 2182 "message" 2183
def o1434 := y19 s181_8 c181_8 "variable" "Evaluator.variable"
def o1435 := y7 "variable" 2176 "Evaluator.variable" 2177 2178 1313 3 1430 1431 1432 1433 1434 2184 2185
def o1436 := y20 s181_8 c181_8 "variable" "Evaluator.variable" "vectorcove.evaluator" 2048 1435
def o1439 := y17 "self" 2190 "name" 2191 "env" 2192 "refusal" 2193
def o1441 := y6 s181_9 "dots_value" "Evaluator.dots_value"
def o1442 := y7 "dots_value" 2187 "Evaluator.dots_value" 2188 2189 1329 3 1437 1438 1439 1440 1441 2194 2195
def o1443 := y8 s181_9 "dots_value" "Evaluator.dots_value" "vectorcove.evaluator" 2048 1442
def o1446 := y15 "self" 2200 "promise" 2201
def o1448 := y6 s181_10 "force" "Evaluator.force"
def o1449 := y7 "force" 2197 "Evaluator.force" 2198 2199 1335 2 1444 1445 1446 1447 1448 2202 2203
def o1450 := y8 s181_10 "force" "Evaluator.force" "vectorcove.evaluator" 2048 1449
def o1454 := y25 "self" 2208 "name" 2209 "env" 2210 "call" 2211 "found" 2212
def o1456 := y6 s181_11 "find_function" "Evaluator.find_function"
def o1457 := y7 "find_function" 2205 "Evaluator.find_function" 2206 2207 1349 4 1452 1453 1454 1455 1456 2213 2214
def o1458 := y31 s181_11 "find_function" "Evaluator.find_function" 1451 "vectorcove.evaluator" 2048 1457
def o1461 := y25 "self" 2219 "call" 2220 "env" 2221 "head" 2222 "found" 2223
def o1463 := y6 s181_12 "function_of" "Evaluator.function_of"
def o1464 := y7 "function_of" 2216 "Evaluator.function_of" 2217 2218 1362 3 1459 1460 1461 1462 1463 2224 2225
def o1465 := y8 s181_12 "function_of" "Evaluator.function_of" "vectorcove.evaluator" 2048 1464
def o1468 := y18 "self" 2230 "call" 2231 "env" 2232
def o1470 := y6 s181_13 "eval_call" "Evaluator.eval_call"
def o1471 := y7 "eval_call" 2227 "Evaluator.eval_call" 2228 2229 1373 3 1466 1467 1468 1469 1470 2233 2234
def o1472 := y8 s181_13 "eval_call" "Evaluator.eval_call" "vectorcove.evaluator" 2048 1471
def o1475 := y25 "self" 2239 "call" 2240 "env" 2241 "f" 2242 "args" 2243
def o1477 := y6 s181_14 "plain_call" "Evaluator.plain_call"
def o1478 := y7 "plain_call" 2236 "Evaluator.plain_call" 2237 2238 1376 3 1473 1474 1475 1476 1477 2244 2245
def o1479 := y8 s181_14 "plain_call" "Evaluator.plain_call" "vectorcove.evaluator" 2048 1478
def o1482 := y18 "self" 2250 "env" 2251 "dots" 2252
def o1484 := y6 s181_15 "spread_dots" "Evaluator.spread_dots"
def o1485 := y7 "spread_dots" 2247 "Evaluator.spread_dots" 2248 2249 1386 2 1480 1481 1482 1483 1484 2253 2254
def o1486 := y8 s181_15 "spread_dots" "Evaluator.spread_dots" "vectorcove.evaluator" 2048 1485
def o1489 := tu #[vS "self" 2259, vS "items" 2260, vS "tags" 2261, vS "env" 2262, vS "args" 2263, vS "place" 2264, vS "item" 2265]
def o1491 := y6 s181_16 "promise_args" "Evaluator.promise_args"
def o1492 := y7 "promise_args" 2256 "Evaluator.promise_args" 2257 2258 1392 4 1487 1488 1489 1490 1491 2266 2267
def o1493 := y8 s181_16 "promise_args" "Evaluator.promise_args" "vectorcove.evaluator" 2048 1492
def o1494 := tu #[(.bool false)]
def o1497 := tu #[vS "self" 2272, vS "items" 2273, vS "tags" 2274, vS "env" 2275, vS "keep" 2276, vS "args" 2277, vS "place" 2278, vS "item" 2279, vS "tag" 2280, vS "value" 2281]
def o1499 := y6 s181_17 "eager_args" "Evaluator.eager_args"
def o1500 := y7 "eager_args" 2269 "Evaluator.eager_args" 2270 2271 1404 5 1495 1496 1497 1498 1499 2282 2283
def o1501 := y31 s181_17 "eager_args" "Evaluator.eager_args" 1494 "vectorcove.evaluator" 2048 1500
def o1504 := y17 "self" 2288 "item" 2289 "keep" 2290 "place" 2291
def o1506 := y6 s181_18 "empty_arg" "Evaluator.empty_arg"
def o1507 := y7 "empty_arg" 2285 "Evaluator.empty_arg" 2286 2287 1422 4 1502 1503 1504 1505 1506 2292 2293
def o1508 := y8 s181_18 "empty_arg" "Evaluator.empty_arg" "vectorcove.evaluator" 2048 1507
def o1511 := tu #[vS "self" 2298, vS "f" 2299, vS "call" 2300, vS "env" 2301, vS "refusal" 2302, vS "message" 2303]
def o1513 := y6 s181_19 "call_special" "Evaluator.call_special"
def o1514 := y7 "call_special" 2295 "Evaluator.call_special" 2296 2297 1427 4 1509 1510 1511 1512 1513 2304 2305
def o1515 := y8 s181_19 "call_special" "Evaluator.call_special" "vectorcove.evaluator" 2048 1514
def o1518 := tu #[vS "self" 2310, vS "builtin" 2311, vS "call" 2312, vS "args" 2313, vS "env" 2314, vS "saved" 2315, vS "found" 2316, vS "value" 2317, vS "refusal" 2318, vS "message" 2319]
def o1520 := y6 s181_20 "call_builtin" "Evaluator.call_builtin"
def o1521 := y7 "call_builtin" 2307 "Evaluator.call_builtin" 2308 2309 1435 5 1516 1517 1518 1519 1520 2320 2321
def o1522 := y8 s181_20 "call_builtin" "Evaluator.call_builtin" "vectorcove.evaluator" 2048 1521
def o1526 := tu #[vS "self" 2326, vS "closure" 2327, vS "args" 2328, vS "call" 2329, vS "caller" 2330, vS "dispatch" 2331, vS "env" 2332, vS "message" 2333, vS "refusal" 2334, vS "frame" 2335, vS "value" 2336, vS "lost" 2337, vS "signal" 2338]
def o1528 := y6 s181_21 "apply_closure" "Evaluator.apply_closure"
def o1529 := y7 "apply_closure" 2323 "Evaluator.apply_closure" 2324 2325 1451 6 1524 1525 1526 1527 1528 2339 2340
def o1530 := y31 s181_21 "apply_closure" "Evaluator.apply_closure" 1523 "vectorcove.evaluator" 2048 1529
def o1533 := y25 "self" 2345 "frame" 2346 "value" 2347 "visible" 2348 "signal" 2349
def o1535 := y6 s181_22 "leave" "Evaluator.leave"
def o1536 := y7 "leave" 2342 "Evaluator.leave" 2343 2344 1485 3 1531 1532 1533 1534 1535 2350 2351
def o1537 := y8 s181_22 "leave" "Evaluator.leave" "vectorcove.evaluator" 2048 1536
def o1540 := y18 "self" 2356 "frame" 2357 "first" 2358
def o1542 := y6 s181_23 "run_exits" "Evaluator.run_exits"
def o1543 := y7 "run_exits" 2353 "Evaluator.run_exits" 2354 2355 1498 2 1538 1539 1540 1541 1542 2359 2360
def o1544 := y8 s181_23 "run_exits" "Evaluator.run_exits" "vectorcove.evaluator" 2048 1543
def o1547 := y15 "self" 2365 "show" 2366
def o1548 := y5 "deparser" 2367
def o1549 := y6 s181_24 "shower" "Evaluator.shower"
def o1550 := y7 "shower" 2362 "Evaluator.shower" 2363 2364 1506 1 1545 1546 1547 1548 1549 2368 2369
def o1551 := y8 s181_24 "shower" "Evaluator.shower" "vectorcove.evaluator" 2048 1550
def o1555 := y25 "self" 2374 "f" 2375 "args" 2376 "env" 2377 "call" 2378
def o1557 := y6 s181_25 "call_value" "Evaluator.call_value"
def o1558 := y7 "call_value" 2371 "Evaluator.call_value" 2372 2373 1517 5 1553 1554 1555 1556 1557 2379 2380
def o1559 := y31 s181_25 "call_value" "Evaluator.call_value" 1552 "vectorcove.evaluator" 2048 1558
def o1562 := y17 "self" 2385 "program" 2386 "value" 2387 "e" 2388
def o1564 := y6 s181_26 "run" "Evaluator.run"
def o1565 := y7 "run" 2382 "Evaluator.run" 2383 2384 1520 2 1560 1561 1562 1563 1564 2389 2390
def o1566 := y8 s181_26 "run" "Evaluator.run" "vectorcove.evaluator" 2048 1565
def o1567 := tu #[vS "base" 2392, vS "current" 2393, vS "deparser" 2394, vS "dispatcher" 2395, vS "frames" 2396, vS "globals" 2397, vS "handlers" 2398, vS "limit" 2399, vS "most_frames" 2400, vS "next_number" 2401, vS "out" 2402, vS "restarts" 2403, vS "s4" 2404, vS "signaller" 2405, vS "steps" 2406, vS "targets" 2407, vS "visible" 2408, vS "warner" 2409, vS "warnings" 2410]
def o1568 (P : Params) := dc #[eN P "__module__" 2096 (vS "vectorcove.evaluator" 2048), eN P "__firstlineno__" 2100 (.int 1247 2099), eN P "__init__" 2111 (vR 1378), eN P "new_env" 2120 (vR 1385), eN P "define" 2132 (vR 1393), eN P "tick" 2139 (vR 1400), eN P "signal_error" 2148 (vR 1407), eN P "warn_all" 2158 (vR 1415), eN P "running_call" 2165 (vR 1422), eN P "eval" 2175 (vR 1429), eN P "variable" 2186 (vR 1436), eN P "dots_value" 2196 (vR 1443), eN P "force" 2204 (vR 1450), eN P "find_function" 2215 (vR 1458), eN P "function_of" 2226 (vR 1465), eN P "eval_call" 2235 (vR 1472), eN P "plain_call" 2246 (vR 1479), eN P "spread_dots" 2255 (vR 1486), eN P "promise_args" 2268 (vR 1493), eN P "eager_args" 2284 (vR 1501), eN P "empty_arg" 2294 (vR 1508), eN P "call_special" 2306 (vR 1515), eN P "call_builtin" 2322 (vR 1522), eN P "apply_closure" 2341 (vR 1530), eN P "leave" 2352 (vR 1537), eN P "run_exits" 2361 (vR 1544), eN P "shower" 2370 (vR 1551), eN P "call_value" 2381 (vR 1559), eN P "run" 2391 (vR 1566), eN P "__static_attributes__" 2411 (vR 1567), eN P "__dict__" 2413 (vR 1570), eN P "__weakref__" 2415 (vR 1571), eN P "__doc__" 2416 .none] 4
def o1569 := y21 "Evaluator" 1569 1568 2089 2097
def o1570 := y22 2412 1569
def o1571 := y10 2414 1569
def o1572 := y11 1569
def o1573 := y12 1569
noncomputable def o3x18 (P : Params) : Obj := ⟨(.type "dict"), none, (.dict #[e186 P, e1 P, e2 P, e3 P, e4 P, e5 P, e6 P, e7 P, e8 P, e10 P, e11 P, e12 P, e13 P, e14 P, e16 P, e17 P, e18 P, e19 P, e20 P, e21 P, e22 P, e23 P, e24 P, e25 P, e26 P, e27 P, e28 P, e29 P, e30 P, e31 P, e32 P, e33 P, e34 P, e35 P, e36 P, e37 P, e38 P, e40 P, e41 P, e42 P, e43 P, e44 P, e45 P, e46 P, e47 P, e48 P, e49 P, e50 P, e51 P, e52 P, e53 P, e54 P, e55 P, e56 P, e57 P, e58 P, e59 P, e60 P, e62 P, e63 P, e64 P, e65 P, e66 P, e67 P, e68 P, e69 P, e70 P, e71 P, e72 P, e73 P, e74 P, e75 P, e76 P, e77 P, e78 P, e79 P, e80 P, e82 P, e83 P, e84 P, e85 P, e86 P, e87 P, e88 P, e89 P, e90 P, e91 P, e92 P, e93 P, e94 P, e95 P, e96 P, e97 P, e98 P, e99 P, e100 P, e102 P, e103 P, e104 P, e105 P, e106 P, e107 P, e108 P, e109 P, e110 P, e111 P, e112 P, e113 P, e115 P, e116 P, e117 P, e118 P, e119 P, e120 P, e121 P, e122 P, e123 P, e124 P, e125 P, e126 P, e127 P, e128 P, e129 P, e130 P, e131 P, e132 P, e134 P, e135 P, e136 P, e137 P, e138 P, e139 P, e140 P, e141 P, e142 P, e143 P, e144 P, e145 P, e146 P, e147 P, e148 P, e149 P, e150 P, e151 P, e152 P, e154 P, e155 P, e156 P, e157 P, e158 P, e159 P, e160 P, e161 P, e162 P, e163 P, e164 P, e165 P, e166 P, e167 P, e169 P, e170 P, e171 P, e172 P, e173 P, e174 P, e176 P, e177 P, e178 P, e179 P, e180 P, e181 P, e182 P, e183 P, e184 P, e185 P, e187 P, e188 P, e189 P, e190 P, e191 P, e192 P, e193 P, e194 P, e195 P, e196 P, e197 P] 186), #[]⟩
noncomputable def u17 : List Value := [vI 1526, vI 0, vR 1579, vI 1538, vI 0, vR 1586, vI 1542, vI 0, vR 1593, vI 1544, vI 0, vR 1600, vI 1546, vI 0, vR 1605, vI 1554, vI 0, vR 1610, vI 1561, vI 0, vR 1615, vI 1566, vI 0, vR 1620, vI 1570, vI 0, vR 1627, vI 1580, vI 0, vR 1634, vI 1588, vI 0, vR 1639]
def o12x18 := nf (u0 ++ (u1 ++ (u2 ++ (u3 ++ (u4 ++ (u5 ++ (u6 ++ (u7 ++ (u8 ++ (u9 ++ (u10 ++ (u11 ++ (u12 ++ (u13 ++ (u14 ++ (u15 ++ (u16 ++ (u17)))))))))))))))))).toArray
def o1576 := y25 "script" 2424 "beans" 2425 "cell" 2426 "heft" 2427 "lap" 2428
def o1578 := y19 s183 c183 "_law_beans" "_law_beans"
def o1579 := y7 "_law_beans" 2421 "_law_beans" 2422 2423 1526 1 1574 1575 1576 1577 1578 2429 2430
def o1580 := y20 s183 c183 "_law_beans" "_law_beans" "law_pq1381_01" 2419 1579
def o1583 := y15 "beans" 2435 "many" 2436
def o1585 := y19 s184 c184 "_law_bean" "_law_bean"
def o1586 := y7 "_law_bean" 2432 "_law_bean" 2433 2434 1538 2 1581 1582 1583 1584 1585 2437 2438
def o1587 := y20 s184 c184 "_law_bean" "_law_bean" "law_pq1381_01" 2419 1586
def o1590 := y5 "figure" 2443
def o1592 := y19 s185 c185 "_law_whole" "_law_whole"
def o1593 := y7 "_law_whole" 2440 "_law_whole" 2441 2442 1542 1 1588 1589 1590 1591 1592 2444 2445
def o1594 := y20 s185 c185 "_law_whole" "_law_whole" "law_pq1381_01" 2419 1593
def o1597 := y5 "v" 2450
def o1599 := y19 s186 c186 "_law_shown" "_law_shown"
def o1600 := y7 "_law_shown" 2447 "_law_shown" 2448 2449 1544 1 1595 1596 1597 1598 1599 2451 2452
def o1601 := y20 s186 c186 "_law_shown" "_law_shown" "law_pq1381_01" 2419 1600
def o1604 := y19 s187 c187 "_law_found" "_law_found"
def o1605 := y28 "_law_found" 2454 "_law_found" 2455 2456 1546 3 1602 1603 1604 2457 2458
def o1606 := y20 s187 c187 "_law_found" "_law_found" "law_pq1381_01" 2419 1605
def o1609 := y19 s188 c188 "_law_after" "_law_after"
def o1610 := y28 "_law_after" 2460 "_law_after" 2461 2462 1554 3 1607 1608 1609 2463 2464
def o1611 := y20 s188 c188 "_law_after" "_law_after" "law_pq1381_01" 2419 1610
def o1614 := y19 s189 c189 "_law_list" "_law_list"
def o1615 := y28 "_law_list" 2466 "_law_list" 2467 2468 1561 1 1612 1613 1614 2469 2470
def o1616 := y20 s189 c189 "_law_list" "_law_list" "law_pq1381_01" 2419 1615
def o1619 := y19 s190 c190 "_law_is" "_law_is"
def o1620 := y28 "_law_is" 2472 "_law_is" 2473 2474 1566 2 1617 1618 1619 2475 2476
def o1621 := y20 s190 c190 "_law_is" "_law_is" "law_pq1381_01" 2419 1620
def o1624 := tu #[vS "interp" 2481, vS "held_in" 2482, vS "word" 2483, vS "manner" 2484, vS "env" 2485, vS "told" 2486, vS "args" 2487]
def o1626 := y19 s191 c191 "_law_read" "_law_read"
def o1627 := y7 "_law_read" 2478 "_law_read" 2479 2480 1570 4 1622 1623 1624 1625 1626 2488 2489
def o1628 := y20 s191 c191 "_law_read" "_law_read" "law_pq1381_01" 2419 1627
def o1631 := tu #[vS "interp" 2494, vS "held_in" 2495, vS "word" 2496, vS "figure" 2497, vS "by_dollar" 2498, vS "env" 2499, vS "told" 2500]
def o1633 := y19 s192 c192 "_law_set" "_law_set"
def o1634 := y7 "_law_set" 2491 "_law_set" 2492 2493 1580 5 1629 1630 1631 1632 1633 2501 2502
def o1635 := y20 s192 c192 "_law_set" "_law_set" "law_pq1381_01" 2419 1634
def o1638 := y19 s193 c193 "law" "law"
def o1639 := y28 "law" 2504 "law" 2505 2506 1588 1 1636 1637 1638 2507 2508
def o1640 := y20 s193 c193 "law" "law" "law_pq1381_01" 2419 1639
def tr0 (P : Params) := iL BT.nil 0 [o0 P, o1 P, o2, o3 P, o4, o5, o6, k1, k2, o9, o10, k1, o12, o13, o14]
def tr1x0 (P : Params) := iL (iL (iL (tr0 P) 2 [o2x1 P, o3x1 P]) 12 [o12x1]) 15 [k1, k2, o17, k1, o19, o20, o21, o22, k9, o24 P, k1, k2, o27, o28, k1, o30 P, o31, o32, o33, o34, k13]
def tr1 (P : Params) := iL (tr1x0 P) 36 [k9, o37 P, k1, o39, o40, o41, k1, k2, o44, k1, o46, o47, o48, o49, o50 P, o51, o52, o53]
def tr2x0 (P : Params) := iL (iL (iL (iL (tr1 P) 3 [o3x2 P]) 12 [o12x2]) 31 [o31x2]) 54 [k13, k9, o56 P, k1, o58, o59, o60, k1, k2, o63, k1, o65, o66, o67, o68, o69 P, o70, o71, o72, k13, k9]
def tr2 (P : Params) := iL (tr2x0 P) 75 [o75 P, k1, o77, o78, o79, k1, k2, o82, k1, o84, o85, o86, o87, o88 P, o89, o90, o91]
def tr3x0 (P : Params) := iL (iL (iL (iL (tr2 P) 3 [o3x3 P]) 12 [o12x3]) 31 [o31x3]) 92 [k13, k9, o94 P, k1, o96, o97, o98, k1, k2, o101, k1, o103, o104, o105, o106, o107 P, o108, o109, o110, k13, k9]
def tr3 (P : Params) := iL (tr3x0 P) 113 [o113 P, k1, o115, o116, o117, k1, k2, o120, k1, o122, o123, o124, o125, o126 P, o127, o128, o129, k1, k2, o132, k1, o134, o135, o136]
def tr4x0 (P : Params) := iL (iL (iL (tr3 P) 3 [o3x4 P]) 12 [o12x4]) 137 [k1, k9, o139 P, k1, o141, o142, o143, k1, k2, o146, k1, o148, o149, o150, o151, o152 P, o153, o154, o155, o156, o157, k1]
def tr4x1 (P : Params) := iL (tr4x0 P) 159 [k9, o160 P, k1, o162, o163, o164, k23, k1, k2, o168, k1, o170, o171, o172, k1, k2, o175, k1, o177, o178, o179, o180, o181 P, o182]
def tr4 (P : Params) := iL (tr4x1 P) 183 [o183, o184, o185, o186]
def tr5x0 (P : Params) := iL (iL (iL (tr4 P) 3 [o3x5 P]) 12 [o12x5]) 187 [k1, k9, o189 P, k1, o191, o192, o193, k1, k2, o196, k1, o198, o199, o200, o201, o202 P, o203, o204, o205, o206, o207, k1]
def tr5 (P : Params) := iL (tr5x0 P) 209 [k9, o210 P, k1, o212, o213, o214, k23, k1, k2, o218, k1, o220, o221, o222, o223, o224 P, o225, o226, o227, o228, o229]
def tr6x0 (P : Params) := iL (iL (iL (tr5 P) 3 [o3x6 P]) 12 [o12x6]) 230 [k1, k9, o232 P, k1, o234, o235, o236, k23, k1, k2, o240, k1, o242, o243, o244, o245, o246 P, o247, o248, o249, o250, o251]
def tr6 (P : Params) := iL (tr6x0 P) 252 [k1, k9, o254 P, k1, o256, o257, o258, k1, k2, o261, k1, o263, o264, o265, o266, o267 P, o268, o269, o270, o271, o272]
def tr7x0 (P : Params) := iL (iL (iL (tr6 P) 3 [o3x7 P]) 12 [o12x7]) 273 [k1, k9, o275 P, k1, o277, o278, o279, k1, k2, o282, k1, o284, o285, o286, o287, o288 P, o289, o290, o291, o292, o293, k1]
def tr7x1 (P : Params) := iL (tr7x0 P) 295 [k2, o296, k1, o298, o299, o300, k1, k2, k1, k1, o305, o306, o307, k1, k2, o310, k1, o312, o313, o314, k1, k2, o317, k1]
def tr7x2 (P : Params) := iL (tr7x1 P) 319 [o319, o320, o321, k1, k2, o324, k1, o326, o327, o328, k1, k2, o331, k1, o333, o334, o335, k1, k2, o338, k1, o340, o341, o342]
def tr7x3 (P : Params) := iL (tr7x2 P) 343 [k1, k2, o345, k1, o347, o348, o349, k1, k2, o352, k1, o354, o355, o356, k1, k2, o359, k1, o361, o362, o363, k1, k2, o366]
def tr7 (P : Params) := iL (tr7x3 P) 367 [k1, o368, o369, o370, k1, k2, o373, k1, o375, o376, o377]
def tr8x0 (P : Params) := iL (iL (iL (tr7 P) 3 [o3x8 P]) 12 [o12x8]) 378 [k1, k2, o380, k1, o382, o383, o384, k1, k2, o387, k1, o389, o390, o391, k1, k2, o394, k1, o396, o397, o398, k1]
def tr8x1 (P : Params) := iL (tr8x0 P) 400 [k2, o401, k1, o403, o404, o405, k1, k2, o408, o409, o410, k1, k2, o413, k1, o415, o416, o417, k1, k2, o420, o421, o422, k1]
def tr8x2 (P : Params) := iL (tr8x1 P) 424 [k2, o425, k1, o427, o428, o429, k1, k2, o432, k1, o434, o435, o436, k1, k2, o439, k1, o441, o442, o443, k1, k2, o446, k1]
def tr8x3 (P : Params) := iL (tr8x2 P) 448 [o448, o449, o450, k1, k2, o453, k1, o455, o456, o457, o458, o459, o460, k1, k2, o463, k1, o465, o466, o467, k1, k2, o470, k1]
def tr8x4 (P : Params) := iL (tr8x3 P) 472 [o472, o473, o474, k1, k2, o477, k1, o479, o480, o481, k1, k2, o484, k1, o486, o487, o488, k1, k2, o491, k1, o493, o494, o495]
def tr8 (P : Params) := iL (tr8x4 P) 496 [k1, k2, o498, k1, o500, o501, o502]
def tr9x0 (P : Params) := iL (iL (iL (tr8 P) 3 [o3x9 P]) 12 [o12x9]) 503 [k1, k2, o505, k1, o507, o508, o509, k1, k2, o512, k1, o514, o515, o516, k1, k2, o519, k1, o521, o522, o523, k1]
def tr9x1 (P : Params) := iL (tr9x0 P) 525 [k2, o526, k1, o528, o529, o530, k1, k2, o533, k1, o535, o536, o537, k1, k2, o540, k1, o542, o543, o544, k1, k2, o547, k1]
def tr9x2 (P : Params) := iL (tr9x1 P) 549 [o549, o550, o551, k1, k2, o554, k1, o556, o557, o558, k1, k2, o561, k1, o563, o564, o565, k1, k2, o568, k1, o570, o571, o572]
def tr9x3 (P : Params) := iL (tr9x2 P) 573 [k1, k2, o575, k1, o577, o578, o579, k1, k2, o582, k1, o584, o585, o586, k1, k2, o589, k1, o591, o592, o593, k1, k2, o596]
def tr9x4 (P : Params) := iL (tr9x3 P) 597 [o597, o598, o599, k1, k2, o602, k1, o604, o605, o606, k1, k2, o609, k1, o611, o612, o613, k1, k2, o616, k1, o618, o619, o620]
def tr9 (P : Params) := iL (tr9x4 P) 621 [k1, k2, o623, k1, o625, o626, o627]
def tr10x0 (P : Params) := iL (iL (iL (tr9 P) 3 [o3x10 P]) 12 [o12x10]) 628 [k1, k2, o630, k1, o632, o633, o634, k1, k2, o637, k1, o639, o640, o641, k1, k2, o644, k1, o646, o647, o648, k1]
def tr10x1 (P : Params) := iL (tr10x0 P) 650 [k2, o651, k1, o653, o654, o655, k1, k2, o658, k1, o660, o661, o662, k1, k2, o665, k1, o667, o668, o669, k1, k2, o672, k1]
def tr10x2 (P : Params) := iL (tr10x1 P) 674 [o674, o675, o676, k1, k2, o679, k1, o681, o682, o683, k1, k2, o686, k1, o688, o689, o690, k1, k2, o693, k1, o695, o696, o697]
def tr10x3 (P : Params) := iL (tr10x2 P) 698 [k1, k2, o700, k1, o702, o703, o704, k1, k2, o707, k1, o709, o710, o711, k1, k2, o714, k1, o716, o717, o718, k1, k2, o721]
def tr10x4 (P : Params) := iL (tr10x3 P) 722 [k1, o723, o724, o725, k1, k2, o728, k1, o730, o731, o732, k1, k2, o735, k1, o737, o738, o739, k1, k2, o742, k1, o744, o745]
def tr10 (P : Params) := iL (tr10x4 P) 746 [o746, k1, k2, o749, o750, o751]
def tr11x0 (P : Params) := iL (iL (iL (tr10 P) 3 [o3x11 P]) 12 [o12x11]) 752 [k1, k2, o754, k1, o756, o757, o758, k1, k2, o761, o762, o763, k1, k2, o766, k1, o768, o769, o770, k1, k2, o773]
def tr11x1 (P : Params) := iL (tr11x0 P) 774 [k1, o775, o776, o777, k1, k9, o780 P, k1, o782, o783, o784, k1, k2, o787, k1, o789, o790, o791, o792, o793 P, o794, o795, o796, o797]
def tr11x2 (P : Params) := iL (tr11x1 P) 798 [o798, k1, k2, o801, k1, o803, o804, o805, k1, k2, o808, k1, o810, o811, o812, k1, k2, o815, k1, o817, o818, o819, k1, k2]
def tr11x3 (P : Params) := iL (tr11x2 P) 822 [o822, k1, o824, o825, o826, k1, k2, o829, k1, o831, o832, o833, k1, k2, o836, k1, o838, o839, o840, k1, k2, o843, k1, o845]
def tr11 (P : Params) := iL (tr11x3 P) 846 [o846, o847]
def tr12x0 (P : Params) := iL (iL (iL (tr11 P) 3 [o3x12 P]) 12 [o12x12]) 848 [k1, k2, o850, k1, o852, o853, o854, k1, k2, o857, o858, o859, k1, k2, o862, k1, o864, o865, o866, k1, k2, o869]
def tr12x1 (P : Params) := iL (tr12x0 P) 870 [k1, o871, o872, o873, k1, k2, o876, k1, o878, o879, o880, k1, k2, o883, k1, o885, o886, o887, k1, k2, o890, k1, o892, o893]
def tr12x2 (P : Params) := iL (tr12x1 P) 894 [o894, k1, k2, o897, k1, o899, o900, o901, k1, k2, o904, k1, o906, o907, o908, k1, k2, o911, k1, o913, o914, o915, k1, k2]
def tr12x3 (P : Params) := iL (tr12x2 P) 918 [o918, k1, o920, o921, o922, k1, k2, o925, k1, o927, o928, o929, k1, k2, o932, k1, o934, o935, o936, k1, k2, o939, k1, o941]
def tr12x4 (P : Params) := iL (tr12x3 P) 942 [o942, o943, k1, k2, o946, k1, o948, o949, o950, k1, k2, o953, k1, o955, o956, o957, k1, k2, o960, k1, o962, o963, o964, k1]
def tr12 (P : Params) := iL (tr12x4 P) 966 [k2, o967, k1, o969, o970, o971]
def tr13x0 (P : Params) := iL (iL (iL (tr12 P) 3 [o3x13 P]) 12 [o12x13]) 972 [k1, k2, o974, k1, o976, o977, o978, k1, k2, o981, k1, o983, o984, o985, k1, k2, o988, k1, o990, o991, o992, k1]
def tr13x1 (P : Params) := iL (tr13x0 P) 994 [k2, o995, k1, o997, o998, o999, k1, k2, o1002, k1, o1004, o1005, o1006, k1, k2, o1009, k1, o1011, o1012, o1013, k1, k2, o1016, o1017]
def tr13x2 (P : Params) := iL (tr13x1 P) 1018 [o1018, k1, k2, o1021, o1022, o1023, k1, k2, o1026, k1, o1028, o1029, o1030, k1, k2, o1033, k1, o1035, o1036, o1037, k1, k2, o1040, o1041]
def tr13x3 (P : Params) := iL (tr13x2 P) 1042 [o1042, k1, k2, o1045, k1, o1047, o1048, o1049, k1, k2, o1052, k1, o1054, o1055, o1056, k1, k2, o1059, k1, o1061, o1062, o1063, k1, k2]
def tr13x4 (P : Params) := iL (tr13x3 P) 1066 [o1066, k1, o1068, o1069, o1070, k1, k2, o1073, k1, o1075, o1076, o1077, k1, k2, o1080, k1, o1082, o1083, o1084, k1, k2, o1087, o1088, o1089]
def tr13 (P : Params) := iL (tr13x4 P) 1090 [k1, k2, o1092, k1, o1094, o1095, o1096]
def tr14x0 (P : Params) := iL (iL (iL (tr13 P) 3 [o3x14 P]) 12 [o12x14]) 1097 [k1, k2, o1099, k1, o1101, o1102, o1103, k1, k2, o1106, k1, o1108, o1109, o1110, k1, k2, o1113, k1, o1115, o1116, o1117, k1]
def tr14x1 (P : Params) := iL (tr14x0 P) 1119 [k2, o1120, k1, o1122, o1123, o1124, k1, k2, o1127, k1, o1129, o1130, o1131, k1, k2, o1134, k1, o1136, o1137, o1138, k1, k2, o1141, k1]
def tr14x2 (P : Params) := iL (tr14x1 P) 1143 [o1143, o1144, o1145, k1, k2, o1148, k1, o1150, o1151, o1152, k1, k2, o1155, k1, o1157, o1158, o1159, k1, k2, o1162, k1, o1164, o1165, o1166]
def tr14x3 (P : Params) := iL (tr14x2 P) 1167 [k1, k2, o1169, k1, o1171, o1172, o1173, k1, k2, o1176, k1, o1178, o1179, o1180, k1, k2, o1183, k1, o1185, o1186, o1187, k1, k2, o1190]
def tr14 (P : Params) := iL (tr14x3 P) 1191 [k1, o1192, o1193, o1194]
def tr15x0 (P : Params) := iL (iL (iL (tr14 P) 3 [o3x15 P]) 12 [o12x15]) 1195 [k1, k9, o1197 P, k1, o1199, o1200, o1201, k1, k2, o1204, k1, o1206, o1207, o1208, k1, k2, o1211, k1, o1213, o1214, o1215, k1]
def tr15x1 (P : Params) := iL (tr15x0 P) 1217 [k2, o1218, k1, o1220, o1221, o1222, k1, k2, o1225, k1, o1227, o1228, o1229, k1, k2, o1232, k1, o1234, o1235, o1236, k1, k2, o1239, k1]
def tr15x2 (P : Params) := iL (tr15x1 P) 1241 [o1241, o1242, o1243, k1, k2, o1246, o1247, o1248, o1249, o1250 P, o1251, o1252, o1253, o1254, o1255, k1, k2, o1258, k1, o1260, o1261, o1262, k1, k2]
def tr15 (P : Params) := iL (tr15x2 P) 1265 [o1265, k1, o1267, o1268, o1269, k1, k2, o1272, o1273, o1274, k23, k1, k2, o1278, o1279, o1280, k1, k2, o1283, k1, o1285, o1286, o1287]
def tr16x0 (P : Params) := iL (iL (iL (tr15 P) 3 [o3x16 P]) 12 [o12x16]) 1288 [k1, k2, o1290, k1, o1292, o1293, o1294, k1, k2, o1297, k1, o1299, o1300, o1301, k1, k2, o1304, k1, o1306, o1307, o1308, k23]
def tr16x1 (P : Params) := iL (tr16x0 P) 1310 [k1, k2, o1312, o1313, o1314, k1, k2, o1317, k1, o1319, o1320, o1321, k1, k2, o1324, k1, o1326, o1327, o1328, k1, k2, o1331, k1, o1333]
def tr16x2 (P : Params) := iL (tr16x1 P) 1334 [o1334, o1335, k1, k2, o1338, k1, o1340, o1341, o1342, k1, k9, o1345 P, k1, o1347, o1348, o1349, k1, k2, o1352, k1, o1354, o1355, o1356, o1357]
def tr16 (P : Params) := iL (tr16x2 P) 1358 [o1358 P, o1359, o1360, o1361, o1362, o1363]
def tr17x0 (P : Params) := iL (iL (iL (tr16 P) 3 [o3x17 P]) 12 [o12x17]) 1364 [k1, k9, o1366 P, k1, o1368, o1369, o1370, o1371, k1, k2, o1374, k1, o1376, o1377, o1378, k1, k2, o1381, k1, o1383, o1384, o1385]
def tr17x1 (P : Params) := iL (tr17x0 P) 1386 [o1386, k1, k2, o1389, k1, o1391, o1392, o1393, k1, k2, o1396, k1, o1398, o1399, o1400, k1, k2, o1403, k1, o1405, o1406, o1407, k23, k1]
def tr17x2 (P : Params) := iL (tr17x1 P) 1410 [k2, o1411, k1, o1413, o1414, o1415, k1, k2, o1418, k1, o1420, o1421, o1422, k1, k2, o1425, k1, o1427, o1428, o1429, k1, k2, o1432, k1]
def tr17x3 (P : Params) := iL (tr17x2 P) 1434 [o1434, o1435, o1436, k1, k2, o1439, k1, o1441, o1442, o1443, k1, k2, o1446, k1, o1448, o1449, o1450, k23, k1, k2, o1454, k1, o1456, o1457]
def tr17x4 (P : Params) := iL (tr17x3 P) 1458 [o1458, k1, k2, o1461, k1, o1463, o1464, o1465, k1, k2, o1468, k1, o1470, o1471, o1472, k1, k2, o1475, k1, o1477, o1478, o1479, k1, k2]
def tr17x5 (P : Params) := iL (tr17x4 P) 1482 [o1482, k1, o1484, o1485, o1486, k1, k2, o1489, k1, o1491, o1492, o1493, o1494, k1, k2, o1497, k1, o1499, o1500, o1501, k1, k2, o1504, k1]
def tr17x6 (P : Params) := iL (tr17x5 P) 1506 [o1506, o1507, o1508, k1, k2, o1511, k1, o1513, o1514, o1515, k1, k2, o1518, k1, o1520, o1521, o1522, k23, k1, k2, o1526, k1, o1528, o1529]
def tr17x7 (P : Params) := iL (tr17x6 P) 1530 [o1530, k1, k2, o1533, k1, o1535, o1536, o1537, k1, k2, o1540, k1, o1542, o1543, o1544, k1, k2, o1547, o1548, o1549, o1550, o1551, k23, k1]
def tr17 (P : Params) := iL (tr17x7 P) 1554 [k2, o1555, k1, o1557, o1558, o1559, k1, k2, o1562, k1, o1564, o1565, o1566, o1567, o1568 P, o1569, o1570, o1571, o1572, o1573]
def tr18x0 (P : Params) := iL (iL (iL (tr17 P) 3 [o3x18 P]) 12 [o12x18]) 1574 [k1, k2, o1576, k1, o1578, o1579, o1580, k1, k2, o1583, k1, o1585, o1586, o1587, k1, k2, o1590, k1, o1592, o1593, o1594, k1]
def tr18x1 (P : Params) := iL (tr18x0 P) 1596 [k2, o1597, k1, o1599, o1600, o1601, k1, k2, o1604, o1605, o1606, k1, k2, o1609, o1610, o1611, k1, k2, o1614, o1615, o1616, k1, k2, o1619]
def tr18 (P : Params) := iL (tr18x1 P) 1620 [o1620, o1621, k1, k2, o1624, k1, o1626, o1627, o1628, k1, k2, o1631, k1, o1633, o1634, o1635, k1, k2, o1638, o1639, o1640]
noncomputable def S0 (w : World) (os : OsState) : SharedT := ⟨tr0 w.params, 15, life0, gens0, drawn0, 187, os⟩
noncomputable def p0 : Pos := ⟨0, 0, 0, 0⟩
noncomputable def S1 (w : World) (os : OsState) : SharedT := ⟨tr1 w.params, 54, life0, gens0, drawn0, 241, os⟩
noncomputable def p1 : Pos := ⟨7, 0, 10, 30⟩
noncomputable def S2 (w : World) (os : OsState) : SharedT := ⟨tr2 w.params, 92, life0, gens0, drawn0, 295, os⟩
noncomputable def p2 : Pos := ⟨17, 0, 20, 24⟩
noncomputable def S3 (w : World) (os : OsState) : SharedT := ⟨tr3 w.params, 137, life0, gens0, drawn0, 363, os⟩
noncomputable def p3 : Pos := ⟨37, 0, 37, 11⟩
noncomputable def S4 (w : World) (os : OsState) : SharedT := ⟨tr4 w.params, 187, life0, gens0, drawn0, 435, os⟩
noncomputable def p4 : Pos := ⟨43, 0, 56, 57⟩
noncomputable def S5 (w : World) (os : OsState) : SharedT := ⟨tr5 w.params, 230, life0, gens0, drawn0, 501, os⟩
noncomputable def p5 : Pos := ⟨63, 0, 70, 24⟩
noncomputable def S6 (w : World) (os : OsState) : SharedT := ⟨tr6 w.params, 273, life0, gens0, drawn0, 573, os⟩
noncomputable def p6 : Pos := ⟨81, 0, 89, 25⟩
noncomputable def S7 (w : World) (os : OsState) : SharedT := ⟨tr7 w.params, 378, life0, gens0, drawn0, 690, os⟩
noncomputable def p7 : Pos := ⟨132, 0, 135, 19⟩
noncomputable def S8 (w : World) (os : OsState) : SharedT := ⟨tr8 w.params, 503, life0, gens0, drawn0, 841, os⟩
noncomputable def p8 : Pos := ⟨238, 0, 241, 27⟩
noncomputable def S9 (w : World) (os : OsState) : SharedT := ⟨tr9 w.params, 628, life0, gens0, drawn0, 1022, os⟩
noncomputable def p9 : Pos := ⟨368, 0, 377, 57⟩
noncomputable def S10 (w : World) (os : OsState) : SharedT := ⟨tr10 w.params, 752, life0, gens0, drawn0, 1193, os⟩
noncomputable def p10 : Pos := ⟨529, 0, 542, 30⟩
noncomputable def S11 (w : World) (os : OsState) : SharedT := ⟨tr11 w.params, 848, life0, gens0, drawn0, 1330, os⟩
noncomputable def p11 : Pos := ⟨612, 0, 617, 28⟩
noncomputable def S12 (w : World) (os : OsState) : SharedT := ⟨tr12 w.params, 972, life0, gens0, drawn0, 1509, os⟩
noncomputable def p12 : Pos := ⟨761, 0, 764, 15⟩
noncomputable def S13 (w : World) (os : OsState) : SharedT := ⟨tr13 w.params, 1097, life0, gens0, drawn0, 1688, os⟩
noncomputable def p13 : Pos := ⟨935, 0, 942, 89⟩
noncomputable def S14 (w : World) (os : OsState) : SharedT := ⟨tr14 w.params, 1195, life0, gens0, drawn0, 1859, os⟩
noncomputable def p14 : Pos := ⟨1103, 0, 1103, 8⟩
noncomputable def S15 (w : World) (os : OsState) : SharedT := ⟨tr15 w.params, 1288, life0, gens0, drawn0, 1983, os⟩
noncomputable def p15 : Pos := ⟨1184, 0, 1188, 18⟩
noncomputable def S16 (w : World) (os : OsState) : SharedT := ⟨tr16 w.params, 1364, life0, gens0, drawn0, 2089, os⟩
noncomputable def p16 : Pos := ⟨1237, 0, 1246, 28⟩
noncomputable def S17 (w : World) (os : OsState) : SharedT := ⟨tr17 w.params, 1574, life0, gens0, drawn0, 2419, os⟩
noncomputable def p17 : Pos := ⟨1247, 0, 1524, 20⟩
noncomputable def S18 (w : World) (os : OsState) : SharedT := ⟨tr18 w.params, 1641, life0, gens0, drawn0, 2510, os⟩
noncomputable def p18 : Pos := ⟨1588, 0, 1626, 94⟩
def sub0 (P : Params) := nd o31x3 (nd o63 (nd o127 (nd k1 (nd k2 (lf o1023) (lf o1535)) (nd k1 (lf o1279) .nil)) (nd o383 (nd o639 (lf o1151) .nil) (nd k1 (lf o1407) .nil))) (nd o191 (nd o319 (nd o575 (lf o1087) (lf o1599)) (nd o831 (lf k1) .nil)) (nd k1 (nd o703 (lf o1215) .nil) (nd k2 (lf o1471) .nil)))) (nd k1 (nd k9 (nd o287 (nd o543 (lf o1055) (lf o1567)) (nd k1 (lf k2) .nil)) (nd o415 (nd k2 (lf o1183) .nil) (nd o927 (lf o1439) .nil))) (nd o223 (nd k2 (nd k1 (lf k2) (lf o1631)) (nd k1 (lf k1) .nil)) (nd o479 (nd o735 (lf o1247) .nil) (nd o991 (lf k2) .nil))))
def sub1 (P : Params) := nd o32 (nd k1 (nd o128 (nd o256 (nd o512 (lf k1) (lf o1536)) (nd o768 (lf o1280) .nil)) (nd o384 (nd o640 (lf o1152) .nil) (nd k2 (lf k23) .nil))) (nd o192 (nd o320 (nd k1 (lf o1088) (lf o1600)) (nd o832 (lf k9) .nil)) (nd o448 (nd o704 (lf k1) .nil) (nd o960 (lf o1472) .nil)))) (nd o96 (nd (o160 P) (nd (o288 P) (nd o544 (lf o1056) (lf (o1568 P))) (nd k2 (lf o1312) .nil)) (nd o416 (nd o672 (lf k1) .nil) (nd o928 (lf k1) .nil))) (nd (o224 P) (nd o352 (nd k2 (lf o1120) (lf k1)) (nd o864 (lf o1376) .nil)) (nd o480 (nd k1 (lf o1248) .nil) (nd o992 (lf o1504) .nil))))
def sub2 (P : Params) := nd o33 (nd o65 (nd o129 (nd o257 (nd k1 (lf k2) (lf o1537)) (nd o769 (lf k1) .nil)) (nd k1 (nd o641 (lf k1) .nil) (nd o897 (lf k1) .nil))) (nd o193 (nd o321 (nd o577 (lf o1089) (lf o1601)) (nd o833 (lf (o1345 P)) .nil)) (nd o449 (nd k1 (lf k2) .nil) (nd k1 (lf k1) .nil)))) (nd o97 (nd k1 (nd o289 (nd k1 (lf k1) (lf o1569)) (nd o801 (lf o1313) .nil)) (nd o417 (nd k1 (lf o1185) .nil) (nd o929 (lf o1441) .nil))) (nd o225 (nd k1 (nd o609 (lf k1) (lf o1633)) (nd o865 (lf o1377) .nil)) (nd o481 (nd o737 (lf o1249) .nil) (nd k1 (lf k1) .nil))))
def sub3 (P : Params) := nd o34 (nd o66 (nd k1 (nd o258 (nd o514 (lf o1026) (lf k1)) (nd o770 (lf k2) .nil)) (nd k2 (nd k1 (lf k2) .nil) (nd k1 (lf k2) .nil))) (nd k1 (nd k1 (nd o578 (lf k1) (lf k1)) (nd k1 (lf k1) .nil)) (nd o450 (nd k2 (lf o1218) .nil) (nd o962 (lf k2) .nil)))) (nd o98 (nd o162 (nd o290 (nd k2 (lf k2) (lf o1570)) (nd k1 (lf o1314) .nil)) (nd k1 (nd o674 (lf o1186) .nil) (nd k1 (lf o1442) .nil))) (nd o226 (nd o354 (nd k1 (lf o1122) (lf o1634)) (nd o866 (lf o1378) .nil)) (nd k1 (nd o738 (lf (o1250 P)) .nil) (nd k2 (lf o1506) .nil))))
def sub4 (P : Params) := nd k13 (nd o67 (nd k2 (nd k1 (nd o515 (lf k1) (lf k2)) (nd k1 (lf o1283) .nil)) (nd o387 (nd k2 (lf o1155) .nil) (nd o899 (lf o1411) .nil))) (nd k2 (nd k2 (nd o579 (lf k2) (lf k2)) (nd k2 (lf o1347) .nil)) (nd k1 (nd o707 (lf k1) .nil) (nd o963 (lf o1475) .nil)))) (nd k1 (nd o163 (nd o291 (nd o547 (lf o1059) (lf o1571)) (nd o803 (lf k1) .nil)) (nd k2 (nd o675 (lf o1187) .nil) (nd k2 (lf o1443) .nil))) (nd o227 (nd o355 (nd o611 (lf o1123) (lf o1635)) (nd k1 (lf k1) .nil)) (nd k2 (nd o739 (lf o1251) .nil) (nd o995 (lf o1507) .nil))))
def sub5 (P : Params) := nd k9 (nd o68 (nd o132 (nd k2 (nd o516 (lf o1028) (lf o1540)) (nd k2 (lf k1) .nil)) (nd k1 (nd o644 (lf k1) .nil) (nd o900 (lf k1) .nil))) (nd o196 (nd o324 (nd k1 (lf o1092) (lf o1604)) (nd o836 (lf o1348) .nil)) (nd k2 (nd k1 (lf o1220) .nil) (nd o964 (lf k1) .nil)))) (nd k2 (nd o164 (nd o292 (nd k1 (lf k1) (lf o1572)) (nd o804 (lf k2) .nil)) (nd o420 (nd o676 (lf k1) .nil) (nd o932 (lf k1) .nil))) (nd o228 (nd o356 (nd o612 (lf o1124) (lf k1)) (nd k2 (lf k2) .nil)) (nd o484 (nd k1 (lf o1252) .nil) (nd k1 (lf o1508) .nil))))
def sub6 (P : Params) := nd (o37 P) (nd (o69 P) (nd k1 (nd o261 (nd k1 (lf o1029) (lf k1)) (nd o773 (lf o1285) .nil)) (nd o389 (nd k1 (lf o1157) .nil) (nd o901 (lf o1413) .nil))) (nd k1 (nd k1 (nd k2 (lf k1) (lf o1605)) (nd k1 (lf o1349) .nil)) (nd o453 (nd o709 (lf o1221) .nil) (nd k1 (lf o1477) .nil)))) (nd o101 (nd k23 (nd o293 (nd o549 (lf o1061) (lf o1573)) (nd o805 (lf o1317) .nil)) (nd o421 (nd k1 (lf k2) .nil) (nd k1 (lf k2) .nil))) (nd o229 (nd k1 (nd o613 (lf k1) (lf k2)) (nd o869 (lf o1381) .nil)) (nd k1 (nd k2 (lf o1253) .nil) (nd o997 (lf k1) .nil))))
def sub7 (P : Params) := nd k1 (nd o70 (nd o134 (nd k1 (nd k2 (lf o1030) (lf o1542)) (nd k1 (lf o1286) .nil)) (nd o390 (nd o646 (lf o1158) .nil) (nd k1 (lf o1414) .nil))) (nd o198 (nd o326 (nd o582 (lf o1094) (lf o1606)) (nd o838 (lf k1) .nil)) (nd k1 (nd o710 (lf o1222) .nil) (nd k2 (lf o1478) .nil)))) (nd k1 (nd k1 (nd k1 (nd o550 (lf o1062) (lf k1)) (nd k1 (lf k1) .nil)) (nd o422 (nd k2 (lf o1190) .nil) (nd o934 (lf o1446) .nil))) (nd k1 (nd k2 (nd k1 (lf k2) (lf o1638)) (nd k1 (lf k1) .nil)) (nd o486 (nd o742 (lf o1254) .nil) (nd o998 (lf k2) .nil))))
def sub8 (P : Params) := nd o39 (nd o71 (nd o135 (nd o263 (nd o519 (lf k1) (lf o1543)) (nd o775 (lf o1287) .nil)) (nd o391 (nd o647 (lf o1159) .nil) (nd k2 (lf o1415) .nil))) (nd o199 (nd o327 (nd k1 (lf o1095) (lf k1)) (nd o839 (lf k2) .nil)) (nd o455 (nd o711 (lf k1) .nil) (nd o967 (lf o1479) .nil)))) (nd o103 (nd k2 (nd k2 (nd o551 (lf o1063) (lf k2)) (nd k2 (lf o1319) .nil)) (nd k1 (nd o679 (lf k1) .nil) (nd o935 (lf k1) .nil))) (nd k9 (nd o359 (nd k2 (lf o1127) (lf o1639)) (nd o871 (lf o1383) .nil)) (nd o487 (nd k1 (lf o1255) .nil) (nd o999 (lf o1511) .nil))))
def sub9 (P : Params) := nd o40 (nd o72 (nd o136 (nd o264 (nd k1 (lf k2) (lf o1544)) (nd o776 (lf k1) .nil)) (nd k1 (nd o648 (lf k1) .nil) (nd o904 (lf k1) .nil))) (nd o200 (nd o328 (nd o584 (lf o1096) (lf k2)) (nd o840 (lf o1352) .nil)) (nd o456 (nd k1 (lf k2) .nil) (nd k1 (lf k1) .nil)))) (nd o104 (nd o168 (nd o296 (nd k1 (lf k1) (lf o1576)) (nd o808 (lf o1320) .nil)) (nd k2 (nd k1 (lf o1192) .nil) (nd o936 (lf o1448) .nil))) (nd (o232 P) (nd k1 (nd o616 (lf k1) (lf o1640)) (nd o872 (lf o1384) .nil)) (nd o488 (nd o744 (lf k1) .nil) (nd k1 (lf k1) .nil))))
def sub10 (P : Params) := nd o41 (nd k13 (nd k1 (nd o265 (nd o521 (lf o1033) (lf k1)) (nd o777 (lf k2) .nil)) (nd k2 (nd k1 (lf k2) .nil) (nd k1 (lf k2) .nil))) (nd o201 (nd k1 (nd o585 (lf k1) (lf o1609)) (nd k1 (lf k1) .nil)) (nd o457 (nd k2 (lf o1225) .nil) (nd o969 (lf k2) .nil)))) (nd o105 (nd k1 (nd k1 (nd k2 (lf k2) (lf k1)) (nd k1 (lf o1321) .nil)) (nd o425 (nd o681 (lf o1193) .nil) (nd k1 (lf o1449) .nil))) (nd k1 (nd o361 (nd k1 (lf o1129) .nil) (nd o873 (lf o1385) .nil)) (nd k1 (nd o745 (lf k2) .nil) (nd k2 (lf o1513) .nil))))
def sub11 (P : Params) := nd k1 (nd k9 (nd k9 (nd o266 (nd o522 (lf k1) (lf k2)) (nd k1 (lf o1290) .nil)) (nd o394 (nd k2 (lf o1162) .nil) (nd o906 (lf o1418) .nil))) (nd (o202 P) (nd k2 (nd o586 (lf k2) (lf o1610)) (nd k2 (lf o1354) .nil)) (nd o458 (nd o714 (lf k1) .nil) (nd o970 (lf o1482) .nil)))) (nd o106 (nd o170 (nd o298 (nd o554 (lf o1066) (lf o1578)) (nd o810 (lf k1) .nil)) (nd k1 (nd o682 (lf o1194) .nil) (nd k2 (lf o1450) .nil))) (nd o234 (nd o362 (nd o618 (lf o1130) .nil) (nd k1 (lf o1386) .nil)) (nd k2 (nd o746 (lf o1258) .nil) (nd o1002 (lf o1514) .nil))))
def sub12 (P : Params) := nd k2 (nd (o75 P) (nd (o139 P) (nd (o267 P) (nd o523 (lf o1035) (lf o1547)) (nd k9 (lf k1) .nil)) (nd k1 (nd o651 (lf k1) .nil) (nd o907 (lf k1) .nil))) (nd o203 (nd o331 (nd k1 (lf o1099) (lf o1611)) (nd o843 (lf o1355) .nil)) (nd o459 (nd k1 (lf o1227) .nil) (nd o971 (lf k1) .nil)))) (nd (o107 P) (nd o171 (nd o299 (nd k1 (lf k1) (lf o1579)) (nd o811 (lf k2) .nil)) (nd o427 (nd o683 (lf k1) .nil) (nd o939 (lf k23) .nil))) (nd o235 (nd o363 (nd o619 (lf o1131) .nil) (nd k2 (lf k1) .nil)) (nd o491 (nd k1 (lf k1) .nil) (nd k1 (lf o1515) .nil))))
def sub13 (P : Params) := nd o44 (nd k1 (nd k1 (nd o268 (nd k1 (lf o1036) (lf o1548)) (nd (o780 P) (lf o1292) .nil)) (nd o396 (nd k1 (lf o1164) .nil) (nd o908 (lf o1420) .nil))) (nd o204 (nd k1 (nd k2 (lf k1) (lf k1)) (nd k1 (lf o1356) .nil)) (nd o460 (nd o716 (lf o1228) .nil) (nd k1 (lf o1484) .nil)))) (nd o108 (nd o172 (nd o300 (nd o556 (lf o1068) (lf o1580)) (nd o812 (lf o1324) .nil)) (nd o428 (nd k1 (lf k9) .nil) (nd k1 (lf k1) .nil))) (nd o236 (nd k1 (nd o620 (lf k1) .nil) (nd o876 (lf k2) .nil)) (nd k1 (nd k2 (lf o1260) .nil) (nd o1004 (lf k1) .nil))))
def sub14 (P : Params) := nd k1 (nd o77 (nd o141 (nd o269 (nd k2 (lf o1037) (lf o1549)) (nd k1 (lf o1293) .nil)) (nd o397 (nd o653 (lf o1165) .nil) (nd k1 (lf o1421) .nil))) (nd o205 (nd o333 (nd o589 (lf o1101) (lf k2)) (nd o845 (lf o1357) .nil)) (nd k1 (nd o717 (lf o1229) .nil) (nd k2 (lf o1485) .nil)))) (nd o109 (nd k1 (nd k1 (nd o557 (lf o1069) (lf k1)) (nd k1 (lf k1) .nil)) (nd o429 (nd k2 (lf (o1197 P)) .nil) (nd o941 (lf k2) .nil))) (nd k23 (nd k2 (nd k1 (lf k2) .nil) (nd k1 (lf o1389) .nil)) (nd o493 (nd o749 (lf o1261) .nil) (nd o1005 (lf k2) .nil))))
def sub15 (P : Params) := nd o46 (nd o78 (nd o142 (nd o270 (nd o526 (lf k1) (lf o1550)) (nd o782 (lf o1294) .nil)) (nd o398 (nd o654 (lf o1166) .nil) (nd k2 (lf o1422) .nil))) (nd o206 (nd o334 (nd k1 (lf o1102) (lf o1614)) (nd o846 (lf (o1358 P)) .nil)) (nd k2 (nd o718 (lf k1) .nil) (nd o974 (lf o1486) .nil)))) (nd o110 (nd k2 (nd k2 (nd o558 (lf o1070) (lf k2)) (nd k2 (lf o1326) .nil)) (nd k1 (nd o686 (lf k1) .nil) (nd o942 (lf o1454) .nil))) (nd k1 (nd o366 (nd k2 (lf o1134) .nil) (nd o878 (lf k1) .nil)) (nd o494 (nd o750 (lf o1262) .nil) (nd o1006 (lf o1518) .nil))))
def sub16 (P : Params) := nd o47 (nd o79 (nd o143 (nd o271 (nd k1 (lf k2) (lf o1551)) (nd o783 (lf k1) .nil)) (nd k1 (nd o655 (lf k1) .nil) (nd o911 (lf k1) .nil))) (nd o207 (nd o335 (nd o591 (lf o1103) (lf o1615)) (nd o847 (lf o1359) .nil)) (nd o463 (nd k1 (lf k2) .nil) (nd k1 (lf k1) .nil)))) (nd k13 (nd o175 (nd k1 (nd k1 (lf k1) (lf o1583)) (nd o815 (lf o1327) .nil)) (nd k2 (nd k1 (lf o1199) .nil) (nd o943 (lf k1) .nil))) (nd k2 (nd k1 (nd o623 (lf k1) .nil) (nd o879 (lf o1391) .nil)) (nd o495 (nd o751 (lf k1) .nil) (nd k1 (lf k1) .nil))))
def sub17 (P : Params) := nd o48 (nd k1 (nd k1 (nd o272 (nd o528 (lf o1040) (lf k23)) (nd o784 (lf k2) .nil)) (nd k2 (nd k1 (lf k2) .nil) (nd k1 (lf k2) .nil))) (nd k1 (nd k1 (nd o592 (lf k1) (lf o1616)) (nd k1 (lf o1360) .nil)) (nd k1 (nd k2 (lf o1232) .nil) (nd o976 (lf k2) .nil)))) (nd k9 (nd k1 (nd k1 (nd k2 (lf k2) (lf k1)) (nd k1 (lf o1328) .nil)) (nd o432 (nd o688 (lf o1200) .nil) (nd k1 (lf o1456) .nil))) (nd o240 (nd o368 (nd k1 (lf o1136) .nil) (nd o880 (lf o1392) .nil)) (nd k1 (nd k1 (lf k2) .nil) (nd k2 (lf o1520) .nil))))
def sub18 (P : Params) := nd o49 (nd k2 (nd k2 (nd k1 (nd o529 (lf o1041) (lf k1)) (nd k1 (lf o1297) .nil)) (nd o401 (nd k2 (lf o1169) .nil) (nd o913 (lf o1425) .nil))) (nd k9 (nd k2 (nd o593 (lf k2) (lf k1)) (nd k2 (lf o1361) .nil)) (nd o465 (nd o721 (lf k1) .nil) (nd o977 (lf o1489) .nil)))) (nd (o113 P) (nd o177 (nd o305 (nd o561 (lf o1073) (lf o1585)) (nd o817 (lf k1) .nil)) (nd k1 (nd o689 (lf o1201) .nil) (nd k2 (lf o1457) .nil))) (nd k1 (nd o369 (nd o625 (lf o1137) .nil) (nd k1 (lf o1393) .nil)) (nd k2 (nd k2 (lf o1265) .nil) (nd o1009 (lf o1521) .nil))))
def sub19 (P : Params) := nd (o50 P) (nd o82 (nd o146 (nd k9 (nd o530 (lf o1042) (lf k2)) (nd k2 (lf k1) .nil)) (nd k1 (nd o658 (lf k1) .nil) (nd o914 (lf k1) .nil))) (nd (o210 P) (nd o338 (nd k1 (lf o1106) (lf k2)) (nd o850 (lf o1362) .nil)) (nd o466 (nd k1 (lf o1234) .nil) (nd o978 (lf k1) .nil)))) (nd k1 (nd o178 (nd o306 (nd k1 (lf k1) (lf o1586)) (nd o818 (lf k2) .nil)) (nd o434 (nd o690 (lf k1) .nil) (nd o946 (lf o1458) .nil))) (nd o242 (nd o370 (nd o626 (lf o1138) .nil) (nd k2 (lf k1) .nil)) (nd o498 (nd o754 (lf k1) .nil) (nd k1 (lf o1522) .nil))))
def sub20 (P : Params) := nd o51 (nd k1 (nd k1 (nd (o275 P) (nd k1 (lf k1) (lf o1555)) (nd o787 (lf o1299) .nil)) (nd o403 (nd k1 (lf o1171) .nil) (nd o915 (lf o1427) .nil))) (nd k1 (nd k1 (nd k2 (lf k1) (lf o1619)) (nd k1 (lf o1363) .nil)) (nd o467 (nd o723 (lf o1235) .nil) (nd k1 (lf o1491) .nil)))) (nd o115 (nd o179 (nd o307 (nd o563 (lf o1075) (lf o1587)) (nd o819 (lf o1331) .nil)) (nd o435 (nd k1 (lf k2) .nil) (nd k1 (lf k1) .nil))) (nd o243 (nd k1 (nd o627 (lf k1) .nil) (nd o883 (lf k2) .nil)) (nd k1 (nd k1 (lf o1267) .nil) (nd o1011 (lf k23) .nil))))
def sub21 (P : Params) := nd o52 (nd o84 (nd o148 (nd k1 (nd k2 (lf k2) (lf k1)) (nd k1 (lf o1300) .nil)) (nd o404 (nd o660 (lf o1172) .nil) (nd k1 (lf o1428) .nil))) (nd o212 (nd o340 (nd o596 (lf o1108) (lf o1620)) (nd o852 (lf k1) .nil)) (nd k1 (nd o724 (lf o1236) .nil) (nd k2 (lf o1492) .nil)))) (nd o116 (nd o180 (nd k1 (nd o564 (lf o1076) (lf k1)) (nd k1 (lf k1) .nil)) (nd o436 (nd k2 (lf o1204) .nil) (nd o948 (lf k2) .nil))) (nd o244 (nd k2 (nd k1 (lf k2) .nil) (nd k1 (lf o1396) .nil)) (nd o500 (nd o756 (lf o1268) .nil) (nd o1012 (lf k1) .nil))))
def sub22 (P : Params) := nd o53 (nd o85 (nd o149 (nd o277 (nd o533 (lf o1045) (lf o1557)) (nd o789 (lf o1301) .nil)) (nd o405 (nd o661 (lf o1173) .nil) (nd k2 (lf o1429) .nil))) (nd o213 (nd o341 (nd o597 (lf o1109) (lf o1621)) (nd o853 (lf k9) .nil)) (nd k2 (nd o725 (lf k1) .nil) (nd o981 (lf o1493) .nil)))) (nd o117 (nd (o181 P) (nd k2 (nd o565 (lf o1077) (lf k2)) (nd k2 (lf o1333) .nil)) (nd k1 (nd o693 (lf k1) .nil) (nd o949 (lf o1461) .nil))) (nd o245 (nd o373 (nd k2 (lf o1141) .nil) (nd o885 (lf k1) .nil)) (nd o501 (nd o757 (lf o1269) .nil) (nd o1013 (lf k2) .nil))))
def sub23 (P : Params) := nd k13 (nd o86 (nd o150 (nd o278 (nd k1 (lf k1) (lf o1558)) (nd o790 (lf k1) .nil)) (nd k1 (nd o662 (lf k1) .nil) (nd o918 (lf k1) .nil))) (nd o214 (nd o342 (nd o598 (lf o1110) (lf k1)) (nd o854 (lf (o1366 P)) .nil)) (nd o470 (nd k1 (lf k2) .nil) (nd k1 (lf o1494) .nil)))) (nd k1 (nd o182 (nd o310 (nd k1 (lf k1) (lf o1590)) (nd o822 (lf o1334) .nil)) (nd k2 (nd k1 (lf o1206) .nil) (nd o950 (lf k1) .nil))) (nd (o246 P) (nd k1 (nd o630 (lf k1) .nil) (nd o886 (lf o1398) .nil)) (nd o502 (nd o758 (lf k1) .nil) (nd k1 (lf o1526) .nil))))
def sub24 (P : Params) := nd k9 (nd o87 (nd o151 (nd o279 (nd o535 (lf o1047) (lf o1559)) (nd o791 (lf k2) .nil)) (nd k2 (nd k1 (lf k2) .nil) (nd k1 (lf k2) .nil))) (nd k23 (nd k1 (nd o599 (lf k1) (lf k2)) (nd k1 (lf k1) .nil)) (nd k1 (nd k2 (lf o1239) .nil) (nd o983 (lf k1) .nil)))) (nd k2 (nd o183 (nd k1 (nd k2 (lf k2) (lf k1)) (nd k1 (lf o1335) .nil)) (nd o439 (nd o695 (lf o1207) .nil) (nd k1 (lf o1463) .nil))) (nd o247 (nd o375 (nd k1 (lf o1143) .nil) (nd o887 (lf o1399) .nil)) (nd k1 (nd k1 (lf k2) .nil) (nd k2 (lf k1) .nil))))
def sub25 (P : Params) := nd (o56 P) (nd (o88 P) (nd (o152 P) (nd k1 (nd o536 (lf o1048) (lf k1)) (nd o792 (lf o1304) .nil)) (nd o408 (nd k2 (lf o1176) .nil) (nd o920 (lf o1432) .nil))) (nd k1 (nd k2 (nd k1 (lf k2) (lf o1624)) (nd k2 (lf o1368) .nil)) (nd o472 (nd o728 (lf k1) .nil) (nd o984 (lf k2) .nil)))) (nd o120 (nd o184 (nd o312 (nd o568 (lf o1080) (lf o1592)) (nd o824 (lf k1) .nil)) (nd k1 (nd o696 (lf o1208) .nil) (nd k2 (lf o1464) .nil))) (nd o248 (nd o376 (nd o632 (lf o1144) .nil) (nd k1 (lf o1400) .nil)) (nd k2 (nd k2 (lf o1272) .nil) (nd o1016 (lf o1528) .nil))))
def sub26 (P : Params) := nd k1 (nd o89 (nd o153 (nd k2 (nd o537 (lf o1049) (lf k2)) (nd (o793 P) (lf k1) .nil)) (nd o409 (nd o665 (lf k1) .nil) (nd o921 (lf k1) .nil))) (nd k2 (nd o345 (nd k2 (lf o1113) (lf k1)) (nd o857 (lf o1369) .nil)) (nd o473 (nd k1 (lf o1241) .nil) (nd o985 (lf o1497) .nil)))) (nd k1 (nd o185 (nd o313 (nd k1 (lf k1) (lf o1593)) (nd o825 (lf k2) .nil)) (nd o441 (nd o697 (lf k1) .nil) (nd o953 (lf o1465) .nil))) (nd o249 (nd o377 (nd o633 (lf o1145) .nil) (nd k2 (lf k1) .nil)) (nd o505 (nd o761 (lf o1273) .nil) (nd o1017 (lf o1529) .nil))))
def sub27 (P : Params) := nd o58 (nd o90 (nd o154 (nd o282 (nd k1 (lf k1) (lf o1562)) (nd o794 (lf o1306) .nil)) (nd o410 (nd k1 (lf o1178) .nil) (nd o922 (lf o1434) .nil))) (nd o218 (nd k1 (nd o602 (lf k1) (lf o1626)) (nd o858 (lf o1370) .nil)) (nd o474 (nd o730 (lf o1242) .nil) (nd k1 (lf k1) .nil)))) (nd o122 (nd o186 (nd o314 (nd o570 (lf o1082) (lf o1594)) (nd o826 (lf o1338) .nil)) (nd o442 (nd k1 (lf k2) .nil) (nd k1 (lf k1) .nil))) (nd o250 (nd k1 (nd o634 (lf k1) .nil) (nd o890 (lf k2) .nil)) (nd k1 (nd o762 (lf o1274) .nil) (nd o1018 (lf o1530) .nil))))
def sub28 (P : Params) := nd o59 (nd o91 (nd o155 (nd k1 (nd k2 (lf k2) (lf k1)) (nd o795 (lf o1307) .nil)) (nd k1 (nd o667 (lf o1179) .nil) (nd k1 (lf o1435) .nil))) (nd k1 (nd o347 (nd k1 (lf o1115) (lf o1627)) (nd o859 (lf o1371) .nil)) (nd k1 (nd o731 (lf o1243) .nil) (nd k2 (lf o1499) .nil)))) (nd o123 (nd k1 (nd k1 (nd o571 (lf o1083) (lf k1)) (nd k1 (lf k1) .nil)) (nd o443 (nd k2 (lf o1211) .nil) (nd o955 (lf k2) .nil))) (nd o251 (nd k2 (nd k1 (lf k2) .nil) (nd k1 (lf o1403) .nil)) (nd o507 (nd o763 (lf k23) .nil) (nd k1 (lf k1) .nil))))
def sub29 (P : Params) := nd o60 (nd k13 (nd o156 (nd o284 (nd o540 (lf o1052) (lf o1564)) (nd o796 (lf o1308) .nil)) (nd k2 (nd o668 (lf o1180) .nil) (nd k2 (lf o1436) .nil))) (nd o220 (nd o348 (nd o604 (lf o1116) (lf o1628)) (nd k1 (lf k1) .nil)) (nd k2 (nd o732 (lf k1) .nil) (nd o988 (lf o1500) .nil)))) (nd o124 (nd k9 (nd k2 (nd o572 (lf o1084) (lf k2)) (nd k2 (lf o1340) .nil)) (nd k1 (nd o700 (lf k1) .nil) (nd o956 (lf o1468) .nil))) (nd k1 (nd o380 (nd k2 (lf o1148) .nil) (nd o892 (lf k1) .nil)) (nd o508 (nd k1 (lf k1) .nil) (nd k2 (lf k2) .nil))))
def sub30 (P : Params) := nd k1 (nd k9 (nd o157 (nd o285 (nd k1 (lf k1) (lf o1565)) (nd o797 (lf k23) .nil)) (nd o413 (nd o669 (lf k1) .nil) (nd o925 (lf k1) .nil))) (nd o221 (nd o349 (nd o605 (lf o1117) (lf k1)) (nd k2 (lf k2) .nil)) (nd o477 (nd k1 (lf k2) .nil) (nd k1 (lf o1501) .nil)))) (nd o125 (nd (o189 P) (nd o317 (nd k1 (lf k1) (lf o1597)) (nd o829 (lf o1341) .nil)) (nd k2 (nd k1 (lf o1213) .nil) (nd o957 (lf k1) .nil))) (nd k9 (nd k1 (nd o637 (lf k1) .nil) (nd o893 (lf o1405) .nil)) (nd o509 (nd k2 (lf k2) .nil) (nd o1021 (lf o1533) .nil))))
def sub31 (P : Params) := nd k2 (nd (o94 P) (nd k1 (nd o286 (nd o542 (lf o1054) (lf o1566)) (nd o798 (lf k1) .nil)) (nd k1 (nd k1 (lf k2) .nil) (nd k1 (lf k2) .nil))) (nd o222 (nd k1 (nd o606 (lf k1) (lf k2)) (nd o862 (lf o1374) .nil)) (nd k1 (nd k2 (lf o1246) .nil) (nd o990 (lf k1) .nil)))) (nd (o126 P) (nd k1 (nd k1 (nd k2 (lf k2) (lf k1)) (nd k1 (lf o1342) .nil)) (nd o446 (nd o702 (lf o1214) .nil) (nd k1 (lf o1470) .nil))) (nd (o254 P) (nd o382 (nd k1 (lf o1150) .nil) (nd o894 (lf o1406) .nil)) (nd k1 (nd o766 (lf o1278) .nil) (nd o1022 (lf k1) .nil))))
def trF (P : Params) := nd (o0 P) (nd (o1 P) (nd (o3x18 P) (nd k1 (nd k1 (sub0 P) (sub16 P)) (nd k9 (sub8 P) (sub24 P))) (nd k1 (nd o19 (sub4 P) (sub20 P)) (nd o27 (sub12 P) (sub28 P)))) (nd o5 (nd o9 (nd o17 (sub2 P) (sub18 P)) (nd k1 (sub10 P) (sub26 P))) (nd o13 (nd o21 (sub6 P) (sub22 P)) (nd k1 (sub14 P) (sub30 P))))) (nd (o2x1 P) (nd o4 (nd k2 (nd k2 (sub1 P) (sub17 P)) (nd (o24 P) (sub9 P) (sub25 P))) (nd o12x18 (nd o20 (sub5 P) (sub21 P)) (nd o28 (sub13 P) (sub29 P)))) (nd o6 (nd o10 (nd k1 (sub3 P) (sub19 P)) (nd k2 (sub11 P) (sub27 P))) (nd o14 (nd o22 (sub7 P) (sub23 P)) (nd (o30 P) (sub15 P) (sub31 P)))))

noncomputable def K0 (P : Params) : Frag := (nat_lit 2, o2x1 P) :: (nat_lit 3, o3x18 P) :: (nat_lit 22, o22) :: (nat_lit 29, k1) :: (nat_lit 30, o30 P) :: (nat_lit 31, o31x3) :: (nat_lit 32, o32) :: (nat_lit 35, k13) :: (nat_lit 48, o48) :: (nat_lit 49, o49) :: (nat_lit 50, o50 P) :: (nat_lit 51, o51) :: (nat_lit 54, k13) :: (nat_lit 67, o67) :: (nat_lit 68, o68) :: (nat_lit 69, o69 P) :: (nat_lit 70, o70) :: (nat_lit 89, o89) :: (nat_lit 108, o108) :: (nat_lit 127, o127) :: (nat_lit 135, o135) :: (nat_lit 136, o136) :: (nat_lit 149, o149) :: (nat_lit 150, o150) :: (nat_lit 151, o151) :: (nat_lit 152, o152 P) :: (nat_lit 153, o153) :: (nat_lit 154, o154) :: (nat_lit 155, o155) :: (nat_lit 165, k23) :: (nat_lit 171, o171) :: (nat_lit 172, o172) :: (nat_lit 178, o178) :: (nat_lit 179, o179) :: (nat_lit 180, o180) :: (nat_lit 181, o181 P) :: (nat_lit 182, o182) :: (nat_lit 183, o183) :: (nat_lit 184, o184) :: (nat_lit 199, o199) :: (nat_lit 200, o200) :: (nat_lit 201, o201) :: (nat_lit 202, o202 P) :: (nat_lit 203, o203) :: (nat_lit 204, o204) :: (nat_lit 205, o205) :: (nat_lit 215, k23) :: (nat_lit 221, o221) :: (nat_lit 222, o222) :: (nat_lit 223, o223) :: (nat_lit 224, o224 P) :: (nat_lit 225, o225) :: (nat_lit 226, o226) :: (nat_lit 227, o227) :: (nat_lit 237, k23) :: (nat_lit 243, o243) :: (nat_lit 244, o244) :: (nat_lit 245, o245) :: (nat_lit 246, o246 P) :: (nat_lit 247, o247) :: (nat_lit 248, o248) :: (nat_lit 249, o249) :: (nat_lit 299, o299) :: (nat_lit 300, o300) :: (nat_lit 306, o306) :: (nat_lit 307, o307) :: (nat_lit 313, o313) :: (nat_lit 314, o314) :: (nat_lit 320, o320) :: (nat_lit 321, o321) :: (nat_lit 327, o327) :: (nat_lit 328, o328) :: (nat_lit 341, o341) :: (nat_lit 342, o342) :: (nat_lit 348, o348) :: (nat_lit 349, o349) :: (nat_lit 355, o355) :: (nat_lit 356, o356) :: (nat_lit 362, o362) :: (nat_lit 363, o363) :: (nat_lit 376, o376) :: (nat_lit 377, o377) :: (nat_lit 383, o383) :: (nat_lit 384, o384) :: (nat_lit 390, o390) :: (nat_lit 391, o391) :: (nat_lit 397, o397) :: (nat_lit 398, o398) :: (nat_lit 404, o404) :: (nat_lit 405, o405) :: (nat_lit 409, o409) :: (nat_lit 410, o410) :: (nat_lit 416, o416) :: (nat_lit 417, o417) :: (nat_lit 804, o804) :: (nat_lit 805, o805) :: (nat_lit 900, o900) :: (nat_lit 901, o901) :: (nat_lit 914, o914) :: (nat_lit 915, o915) :: (nat_lit 928, o928) :: (nat_lit 929, o929) :: (nat_lit 935, o935) :: (nat_lit 936, o936) :: (nat_lit 942, o942) :: (nat_lit 943, o943) :: (nat_lit 956, o956) :: (nat_lit 957, o957) :: (nat_lit 970, o970) :: (nat_lit 971, o971) :: (nat_lit 977, o977) :: (nat_lit 978, o978) :: (nat_lit 991, o991) :: (nat_lit 992, o992) :: (nat_lit 998, o998) :: (nat_lit 999, o999) :: (nat_lit 1012, o1012) :: (nat_lit 1013, o1013) :: (nat_lit 1017, o1017) :: (nat_lit 1018, o1018) :: (nat_lit 1029, o1029) :: (nat_lit 1030, o1030) :: (nat_lit 1036, o1036) :: (nat_lit 1037, o1037) :: (nat_lit 1041, o1041) :: (nat_lit 1042, o1042) :: (nat_lit 1048, o1048) :: (nat_lit 1049, o1049) :: (nat_lit 1055, o1055) :: (nat_lit 1056, o1056) :: (nat_lit 1062, o1062) :: (nat_lit 1063, o1063) :: (nat_lit 1069, o1069) :: (nat_lit 1070, o1070) :: (nat_lit 1076, o1076) :: (nat_lit 1077, o1077) :: (nat_lit 1095, o1095) :: (nat_lit 1096, o1096) :: (nat_lit 1102, o1102) :: (nat_lit 1103, o1103) :: (nat_lit 1109, o1109) :: (nat_lit 1110, o1110) :: (nat_lit 1116, o1116) :: (nat_lit 1117, o1117) :: (nat_lit 1123, o1123) :: (nat_lit 1124, o1124) :: (nat_lit 1130, o1130) :: (nat_lit 1131, o1131) :: (nat_lit 1137, o1137) :: (nat_lit 1138, o1138) :: (nat_lit 1144, o1144) :: (nat_lit 1145, o1145) :: (nat_lit 1151, o1151) :: (nat_lit 1152, o1152) :: (nat_lit 1158, o1158) :: (nat_lit 1159, o1159) :: (nat_lit 1165, o1165) :: (nat_lit 1166, o1166) :: (nat_lit 1172, o1172) :: (nat_lit 1173, o1173) :: (nat_lit 1179, o1179) :: (nat_lit 1180, o1180) :: (nat_lit 1186, o1186) :: (nat_lit 1187, o1187) :: (nat_lit 1193, o1193) :: (nat_lit 1194, o1194) :: (nat_lit 1327, o1327) :: (nat_lit 1328, o1328) :: (nat_lit 1371, o1371) :: (nat_lit 1377, o1377) :: (nat_lit 1378, o1378) :: (nat_lit 1384, o1384) :: (nat_lit 1385, o1385) :: (nat_lit 1393, o1393) :: (nat_lit 1400, o1400) :: (nat_lit 1407, o1407) :: (nat_lit 1408, k23) :: (nat_lit 1414, o1414) :: (nat_lit 1415, o1415) :: (nat_lit 1422, o1422) :: (nat_lit 1428, o1428) :: (nat_lit 1429, o1429) :: (nat_lit 1435, o1435) :: (nat_lit 1436, o1436) :: (nat_lit 1443, o1443) :: (nat_lit 1450, o1450) :: (nat_lit 1458, o1458) :: (nat_lit 1465, o1465) :: (nat_lit 1472, o1472) :: (nat_lit 1479, o1479) :: (nat_lit 1486, o1486) :: (nat_lit 1493, o1493) :: (nat_lit 1501, o1501) :: (nat_lit 1508, o1508) :: (nat_lit 1515, o1515) :: (nat_lit 1522, o1522) :: (nat_lit 1530, o1530) :: (nat_lit 1537, o1537) :: (nat_lit 1544, o1544) :: (nat_lit 1551, o1551) :: (nat_lit 1559, o1559) :: (nat_lit 1566, o1566) :: (nat_lit 1567, o1567) :: (nat_lit 1568, o1568 P) :: (nat_lit 1569, o1569) :: (nat_lit 1570, o1570) :: (nat_lit 1571, o1571) :: (nat_lit 1579, o1579) :: (nat_lit 1580, o1580) :: (nat_lit 1586, o1586) :: (nat_lit 1587, o1587) :: (nat_lit 1593, o1593) :: (nat_lit 1594, o1594) :: (nat_lit 1600, o1600) :: (nat_lit 1601, o1601) :: (nat_lit 1605, o1605) :: (nat_lit 1606, o1606) :: (nat_lit 1610, o1610) :: (nat_lit 1611, o1611) :: (nat_lit 1615, o1615) :: (nat_lit 1616, o1616) :: (nat_lit 1620, o1620) :: (nat_lit 1621, o1621) :: (nat_lit 1627, o1627) :: (nat_lit 1628, o1628) :: (nat_lit 1634, o1634) :: (nat_lit 1635, o1635) :: (nat_lit 1639, o1639) :: (nat_lit 1640, o1640) :: []
noncomputable def as0 : List Addr := nat_lit 2 :: nat_lit 3 :: nat_lit 22 :: nat_lit 29 :: nat_lit 30 :: nat_lit 31 :: nat_lit 32 :: nat_lit 35 :: nat_lit 48 :: nat_lit 49 :: nat_lit 50 :: nat_lit 51 :: nat_lit 54 :: nat_lit 67 :: nat_lit 68 :: nat_lit 69 :: nat_lit 70 :: nat_lit 89 :: nat_lit 108 :: nat_lit 127 :: nat_lit 135 :: nat_lit 136 :: nat_lit 149 :: nat_lit 150 :: nat_lit 151 :: nat_lit 152 :: nat_lit 153 :: nat_lit 154 :: nat_lit 155 :: nat_lit 165 :: nat_lit 171 :: nat_lit 172 :: nat_lit 178 :: nat_lit 179 :: nat_lit 180 :: nat_lit 181 :: nat_lit 182 :: nat_lit 183 :: nat_lit 184 :: nat_lit 199 :: nat_lit 200 :: nat_lit 201 :: nat_lit 202 :: nat_lit 203 :: nat_lit 204 :: nat_lit 205 :: nat_lit 215 :: nat_lit 221 :: nat_lit 222 :: nat_lit 223 :: nat_lit 224 :: nat_lit 225 :: nat_lit 226 :: nat_lit 227 :: nat_lit 237 :: nat_lit 243 :: nat_lit 244 :: nat_lit 245 :: nat_lit 246 :: nat_lit 247 :: nat_lit 248 :: nat_lit 249 :: nat_lit 299 :: nat_lit 300 :: nat_lit 306 :: nat_lit 307 :: nat_lit 313 :: nat_lit 314 :: nat_lit 320 :: nat_lit 321 :: nat_lit 327 :: nat_lit 328 :: nat_lit 341 :: nat_lit 342 :: nat_lit 348 :: nat_lit 349 :: nat_lit 355 :: nat_lit 356 :: nat_lit 362 :: nat_lit 363 :: nat_lit 376 :: nat_lit 377 :: nat_lit 383 :: nat_lit 384 :: nat_lit 390 :: nat_lit 391 :: nat_lit 397 :: nat_lit 398 :: nat_lit 404 :: nat_lit 405 :: nat_lit 409 :: nat_lit 410 :: nat_lit 416 :: nat_lit 417 :: nat_lit 804 :: nat_lit 805 :: nat_lit 900 :: nat_lit 901 :: nat_lit 914 :: nat_lit 915 :: nat_lit 928 :: nat_lit 929 :: nat_lit 935 :: nat_lit 936 :: nat_lit 942 :: nat_lit 943 :: nat_lit 956 :: nat_lit 957 :: nat_lit 970 :: nat_lit 971 :: nat_lit 977 :: nat_lit 978 :: nat_lit 991 :: nat_lit 992 :: nat_lit 998 :: nat_lit 999 :: nat_lit 1012 :: nat_lit 1013 :: nat_lit 1017 :: nat_lit 1018 :: nat_lit 1029 :: nat_lit 1030 :: nat_lit 1036 :: nat_lit 1037 :: nat_lit 1041 :: nat_lit 1042 :: nat_lit 1048 :: nat_lit 1049 :: nat_lit 1055 :: nat_lit 1056 :: nat_lit 1062 :: nat_lit 1063 :: nat_lit 1069 :: nat_lit 1070 :: nat_lit 1076 :: nat_lit 1077 :: nat_lit 1095 :: nat_lit 1096 :: nat_lit 1102 :: nat_lit 1103 :: nat_lit 1109 :: nat_lit 1110 :: nat_lit 1116 :: nat_lit 1117 :: nat_lit 1123 :: nat_lit 1124 :: nat_lit 1130 :: nat_lit 1131 :: nat_lit 1137 :: nat_lit 1138 :: nat_lit 1144 :: nat_lit 1145 :: nat_lit 1151 :: nat_lit 1152 :: nat_lit 1158 :: nat_lit 1159 :: nat_lit 1165 :: nat_lit 1166 :: nat_lit 1172 :: nat_lit 1173 :: nat_lit 1179 :: nat_lit 1180 :: nat_lit 1186 :: nat_lit 1187 :: nat_lit 1193 :: nat_lit 1194 :: nat_lit 1327 :: nat_lit 1328 :: nat_lit 1371 :: nat_lit 1377 :: nat_lit 1378 :: nat_lit 1384 :: nat_lit 1385 :: nat_lit 1393 :: nat_lit 1400 :: nat_lit 1407 :: nat_lit 1408 :: nat_lit 1414 :: nat_lit 1415 :: nat_lit 1422 :: nat_lit 1428 :: nat_lit 1429 :: nat_lit 1435 :: nat_lit 1436 :: nat_lit 1443 :: nat_lit 1450 :: nat_lit 1458 :: nat_lit 1465 :: nat_lit 1472 :: nat_lit 1479 :: nat_lit 1486 :: nat_lit 1493 :: nat_lit 1501 :: nat_lit 1508 :: nat_lit 1515 :: nat_lit 1522 :: nat_lit 1530 :: nat_lit 1537 :: nat_lit 1544 :: nat_lit 1551 :: nat_lit 1559 :: nat_lit 1566 :: nat_lit 1567 :: nat_lit 1568 :: nat_lit 1569 :: nat_lit 1570 :: nat_lit 1571 :: nat_lit 1579 :: nat_lit 1580 :: nat_lit 1586 :: nat_lit 1587 :: nat_lit 1593 :: nat_lit 1594 :: nat_lit 1600 :: nat_lit 1601 :: nat_lit 1605 :: nat_lit 1606 :: nat_lit 1610 :: nat_lit 1611 :: nat_lit 1615 :: nat_lit 1616 :: nat_lit 1620 :: nat_lit 1621 :: nat_lit 1627 :: nat_lit 1628 :: nat_lit 1634 :: nat_lit 1635 :: nat_lit 1639 :: nat_lit 1640 :: []
noncomputable def taF (c : Code) (q : Pos) (bb : List PySem.Frame) : Thread := Thread.mk (denote treeTable c) c q bb
noncomputable def preF (P : Program) (ann : Option Value) (w : World) (os : OsState) : Option (Shared × Thread) := topGo treeTable P w 11 ann 12 ⟨boot_heap w.params, Array.mk [], boot_drawn, boot_toks, os⟩ (topStub P)
noncomputable def preG (S : SharedT) (c : Code) (q : Pos) (bb : List PySem.Frame) : Option (Shared × Thread) := some (S.abs, taF c q bb)
noncomputable def blkF (P : Program) (ann : Option Value) (w : World) (S : SharedT) (B : List Stmt) (e : Env) (c : Code) (q : Pos) (bb : List PySem.Frame) : Option (Flow × Shared × Code × Pos) := segRun treeTable P w 11 ann 1 1 S.abs (blockOf B e c q bb)
noncomputable def blkG (S : SharedT) (c : Code) (p : Pos) : Option (Flow × Shared × Code × Pos) := some (Flow.next, (S.abs, (c, p)))
noncomputable def grpF (P : Program) (ann : Option Value) (n : Nat) (w : World) (S : SharedT) (B : List Stmt) (e : Env) (c : Code) (p : Pos) (bb : List PySem.Frame) : Option (Flow × SharedT × Code × Pos) := segRunT treeTable P w 11 ann 1 n S (piecesOf B e c p bb)
noncomputable def finF (P : Program) (ann : Option Value) (w : World) (S : SharedT) (e : Env) (c : Code) (p : Pos) (bb : List PySem.Frame) : Option Shared := topRun treeTable P w 11 ann 2 S.abs (restOf [] e c p bb)
noncomputable def finG (t : BT) (N : Nat) (l : Life) (gs : Array GenState) (d : Drawn) (k : Nat) (os : OsState) : Option Shared := some ⟨absHeap t N l, gs, d, k, os⟩
noncomputable def getT (t : BT) (n a : Nat) : Option Obj := match Nat.blt a n, t.get a with
  | true, some o => alive o
  | _, _ => none
theorem getT_abs {t : BT} {n : Nat} {l : Life} {a : Nat} {o : Obj} (h : getT t n a = some o) : (absHeap t n l).get? a = some o := by
  unfold getT at h
  split at h
  · next hb hg => rw [abs_get (Nat.blt_eq.mp hb) hg, h]
  · cases h
theorem map_to {α β γ : Type} {f f' : α → Option β} {g : γ → β} (hf : ∀ a o, f a = some o → f' a = some o) : ∀ (l : List α) (m : List γ), l.map f = m.map (fun p => some (g p)) → l.map f' = m.map (fun p => some (g p))
  | [], [], _ => rfl
  | a :: l, b :: m, h => by
    simp only [List.map_cons, List.cons.injEq] at h ⊢
    exact ⟨hf _ _ h.1, map_to hf l m h.2⟩
  | [], _ :: _, h => by simp at h
  | _ :: _, [], h => by simp at h
noncomputable def HF (P : Params) : Heap := absHeap (trF P) 1641 life0
noncomputable def V0 : Program := { P0 with main := { P0.main with body := [nth P0.main.body 193] } }
noncomputable def loose0 : List Str := List.map Str.ofString ["_wall", "CoveError", "Refusal", "RError", "LimitReached", "ReturnSignal", "LoopSignal", "one_text", "MOST_LENGTH", "Null", "Vector", "Symbol", "Call", "Environment", "Promise", "Dots", "room", "null", "character", "flag", "text", "symbol", "call_of", "length", "is_vector", "is_atomic", "is_function", "own", "share", "get_attr", "drop_attr", "put_attr", "names_of", "dim_of", "dimnames_of", "class_attr", "language_class", "shape_class", "plain_class", "implicit_class", "NAN", "INF", "ZERO", "gcd", "make", "from_int", "is_na", "is_finite", "neg", "to_whole", "nearest_whole", "exponent", "MOST_EXPONENT", "whole_text", "special_text", "scaled", "significant", "without_tail", "scientific_text", "fixed_text", "measures", "chosen_form", "formed", "common_texts", "number_text", "digits_value", "digit_run", "exponent_value", "powered", "unsigned_number", "parse_number", "MOST_INTEGER", "kind_order", "common_kind", "note", "as_logical_text", "double_to_integer", "text_to_double", "to_logical", "to_integer", "to_double", "to_text", "item_as", "is_atomic_kind", "list_item_as", "refuse_type", "as_vector_kind", "with_names", "as_kind", "as_list", "condition", "Dispatch", "has_class", "dispatch_class", "function_from", "find_method", "first_method", "plain_value", "plain_form", "quoted_call", "internal_call", "call_method", "own_classes", "group_dispatch", "generic_dispatch", "lookup_here", "lookup", "locked_text", "define", "whole_subscripts", "first_places", "partial_place", "one_name", "one_whole", "one_place", "strides", "lacking_item", "is_list_kind", "refuse_subset", "one_item", "vector_element", "array_element_place", "environment_item", "element_step", "index_parts", "is_long_index", "element", "dollar", "converted_items", "raised", "extend_vector", "first_count", "delete_places", "list_of_call", "call_of_list", "element_kind", "put_element", "assign_step", "assign_down", "assign_element", "assign_dollar", "index_args", "opened", "b_element", "setter_parts", "b_set_element", "field_name", "s_dollar", "put_field", "s_set_dollar", "Matching", "doubled_text", "argument_text", "unused_text", "match_names", "done_promise", "bound_argument", "dots_argument", "default_binding", "bind_formals", "dots_of", "is_dots_place", "dots_place", "is_empty_name", "Frame", "Evaluator", "_law_beans", "_law_bean", "_law_whole", "_law_shown", "_law_found", "_law_after", "_law_list", "_law_is", "_law_read", "_law_set"]
noncomputable def mods0 : List Str := importedModules P0.main.body
noncomputable def mkF (t : BT) (os : OsState) : Shared := ⟨absHeap t 1641 life0, gens0, drawn0, 2510, os⟩
noncomputable def SF (w : World) (os : OsState) : Shared := mkF (tr18 w.params) os
noncomputable def F0 (w : World) (os : OsState) : Shared := mkF (trF w.params) os
abbrev Xt0 : Shared → Bool := fun s => xlAt V0 [] s && recOk [] s
noncomputable def l1F (mods : List Str) (P : Params) (s : Shared) : Bool := staticsOk mods (boot_heap P) s.heap
noncomputable def l2F (p : Program) (s : Shared) : Bool := namesBound p s.heap
noncomputable def l3F (mods : List Str) (V : Program) (P : Params) (s : Shared) : Bool := gensDone s && laidKept (boot_heap P) s.heap && s.heap.accountedOkI mods && s.heap.isNs mainGlobals && s.heap.isNs builtinsNs && tablesOk V s.heap && (xlAt V [] s && recOk [] s) && (s.gens.size == 0)
noncomputable def l4F (V : Program) (lo : List Str) (s : Shared) : Bool := s.heap.keysOk (looseW V lo) ((recsOf V).map (·.name)) ((litsOf V).map (·.1)) ((clssOf V (looseW V lo)).map (·.name))
noncomputable def l5F (V : Program) (s : Shared) : Bool := tabsOk V s
noncomputable def s1F (V : Program) (s : Shared) := seen ((recsOf V).map (·.name)) (ownsOf V) [] { s with gens := #[] }
noncomputable def s1G (V : Program) := expectedOf V
noncomputable def s2F (s : Shared) := s.heap.bltView
noncomputable def s3F (V : Program) (s : Shared) := pinSeenD V (drecsOf V) s
noncomputable def s3G (V : Program) := pinGoodD (drecsOf V)
noncomputable def s4F (V : Program) (lo : List Str) (s : Shared) := plainSeenE V (looseW V lo) s
noncomputable def s4G (V : Program) (lo : List Str) := plainGoodE V (looseW V lo)
noncomputable def s5F (V : Program) (lo : List Str) (s : Shared) := plainSeenD V lo s
noncomputable def s5G (V : Program) (lo : List Str) := plainGoodD V lo
noncomputable def s6F (V : Program) (s : Shared) := wideSeen V s
noncomputable def s6G (V : Program) := wideGood V
noncomputable def s7F (V : Program) (lo : List Str) (s : Shared) := clsSeenW V lo s
noncomputable def s7G (V : Program) (lo : List Str) := clsGoodW V lo
noncomputable def kkF (l : List Addr) (t : BT) (n : Nat) : List (Option Obj) := l.map (getT t n)
noncomputable def szF (P : Params) : Bool × Nat × Option Value := ((boot_heap P).isNs mainGlobals && (Array.mk [] : Array GenState).size == 0, (boot_heap P).objs.size, (boot_heap P).nsMap mainGlobals "__annotations__")
theorem preF_self : preF = preF := rfl
name_quick preF for preF by preF_self
theorem preG_self : preG = preG := rfl
name_quick preG for preG by preG_self
theorem blkF_self : blkF = blkF := rfl
name_quick blkF for blkF by blkF_self
theorem grpF_self : grpF = grpF := rfl
name_quick grpF for grpF by grpF_self
theorem finF_self : finF = finF := rfl
name_quick finF for finF by finF_self
theorem l3F_self : l3F = l3F := rfl
name_quick l3F for l3F by l3F_self
theorem l4F_self : l4F = l4F := rfl
name_quick l4F for l4F by l4F_self
theorem l5F_self : l5F = l5F := rfl
name_quick l5F for l5F by l5F_self
theorem s1F_self : s1F = s1F := rfl
name_quick s1F for s1F by s1F_self
theorem s3F_self : s3F = s3F := rfl
name_quick s3F for s3F by s3F_self
theorem s3G_self : s3G = s3G := rfl
name_quick s3G for s3G by s3G_self
theorem s4F_self : s4F = s4F := rfl
name_quick s4F for s4F by s4F_self
theorem s4G_self : s4G = s4G := rfl
name_quick s4G for s4G by s4G_self
theorem s5F_self : s5F = s5F := rfl
name_quick s5F for s5F by s5F_self
theorem s6F_self : s6F = s6F := rfl
name_quick s6F for s6F by s6F_self
theorem s7F_self : s7F = s7F := rfl
name_quick s7F for s7F by s7F_self
theorem kkF_self : kkF = kkF := rfl
name_quick kkF for kkF by kkF_self
theorem szF_self : szF = szF := rfl
name_quick szF for szF by szF_self
theorem pre_eq : ∀ (w : World) (os : OsState), preF P0 ann0 w os = preG (S0 w os) cE q0 BB := by
  rw [PySem.W.Fast.preF_eq, PySem.W.Fast.preG_eq]
  intro w os
  kernel_rfl
theorem blk_eq : ∀ (w : World) (os : OsState), blkF P0 ann0 w (S0 w os) B0 env0 cE q0 BB = blkG (S0 w os) cE p0 := by
  rw [PySem.W.Fast.blkF_eq]
  intro w os
  kernel_rfl
theorem g0_eq : ∀ (w : World) (os : OsState), grpF P0 ann0 480 w (S0 w os) ((B0.drop 0).take 4) env0 cE p0 BB = some (Flow.next, (S1 w os, (cE, p1))) := by
  rw [PySem.W.Fast.grpF_eq]
  intro w os
  kernel_rfl
theorem g1_eq : ∀ (w : World) (os : OsState), grpF P0 ann0 495 w (S1 w os) ((B0.drop 4).take 2) env0 cE p1 BB = some (Flow.next, (S2 w os, (cE, p2))) := by
  rw [PySem.W.Fast.grpF_eq]
  intro w os
  kernel_rfl
theorem g2_eq : ∀ (w : World) (os : OsState), grpF P0 ann0 552 w (S2 w os) ((B0.drop 6).take 6) env0 cE p2 BB = some (Flow.next, (S3 w os, (cE, p3))) := by
  rw [PySem.W.Fast.grpF_eq]
  intro w os
  kernel_rfl
theorem g3_eq : ∀ (w : World) (os : OsState), grpF P0 ann0 484 w (S3 w os) ((B0.drop 12).take 2) env0 cE p3 BB = some (Flow.next, (S4 w os, (cE, p4))) := by
  rw [PySem.W.Fast.grpF_eq]
  intro w os
  kernel_rfl
theorem g4_eq : ∀ (w : World) (os : OsState), grpF P0 ann0 454 w (S4 w os) ((B0.drop 14).take 2) env0 cE p4 BB = some (Flow.next, (S5 w os, (cE, p5))) := by
  rw [PySem.W.Fast.grpF_eq]
  intro w os
  kernel_rfl
theorem g5_eq : ∀ (w : World) (os : OsState), grpF P0 ann0 460 w (S5 w os) ((B0.drop 16).take 2) env0 cE p5 BB = some (Flow.next, (S6 w os, (cE, p6))) := by
  rw [PySem.W.Fast.grpF_eq]
  intro w os
  kernel_rfl
theorem g6_eq : ∀ (w : World) (os : OsState), grpF P0 ann0 575 w (S6 w os) ((B0.drop 18).take 13) env0 cE p6 BB = some (Flow.next, (S7 w os, (cE, p7))) := by
  rw [PySem.W.Fast.grpF_eq]
  intro w os
  kernel_rfl
theorem g7_eq : ∀ (w : World) (os : OsState), grpF P0 ann0 585 w (S7 w os) ((B0.drop 31).take 23) env0 cE p7 BB = some (Flow.next, (S8 w os, (cE, p8))) := by
  rw [PySem.W.Fast.grpF_eq]
  intro w os
  kernel_rfl
theorem g8_eq : ∀ (w : World) (os : OsState), grpF P0 ann0 591 w (S8 w os) ((B0.drop 54).take 20) env0 cE p8 BB = some (Flow.next, (S9 w os, (cE, p9))) := by
  rw [PySem.W.Fast.grpF_eq]
  intro w os
  kernel_rfl
theorem g9_eq : ∀ (w : World) (os : OsState), grpF P0 ann0 580 w (S9 w os) ((B0.drop 74).take 20) env0 cE p9 BB = some (Flow.next, (S10 w os, (cE, p10))) := by
  rw [PySem.W.Fast.grpF_eq]
  intro w os
  kernel_rfl
theorem g10_eq : ∀ (w : World) (os : OsState), grpF P0 ann0 578 w (S10 w os) ((B0.drop 94).take 13) env0 cE p10 BB = some (Flow.next, (S11 w os, (cE, p11))) := by
  rw [PySem.W.Fast.grpF_eq]
  intro w os
  kernel_rfl
theorem g11_eq : ∀ (w : World) (os : OsState), grpF P0 ann0 595 w (S11 w os) ((B0.drop 107).take 21) env0 cE p11 BB = some (Flow.next, (S12 w os, (cE, p12))) := by
  rw [PySem.W.Fast.grpF_eq]
  intro w os
  kernel_rfl
theorem g12_eq : ∀ (w : World) (os : OsState), grpF P0 ann0 597 w (S12 w os) ((B0.drop 128).take 20) env0 cE p12 BB = some (Flow.next, (S13 w os, (cE, p13))) := by
  rw [PySem.W.Fast.grpF_eq]
  intro w os
  kernel_rfl
theorem g13_eq : ∀ (w : World) (os : OsState), grpF P0 ann0 494 w (S13 w os) ((B0.drop 148).take 16) env0 cE p13 BB = some (Flow.next, (S14 w os, (cE, p14))) := by
  rw [PySem.W.Fast.grpF_eq]
  intro w os
  kernel_rfl
theorem g14_eq : ∀ (w : World) (os : OsState), grpF P0 ann0 574 w (S14 w os) ((B0.drop 164).take 7) env0 cE p14 BB = some (Flow.next, (S15 w os, (cE, p15))) := by
  rw [PySem.W.Fast.grpF_eq]
  intro w os
  kernel_rfl
theorem g15_eq : ∀ (w : World) (os : OsState), grpF P0 ann0 482 w (S15 w os) ((B0.drop 171).take 10) env0 cE p15 BB = some (Flow.next, (S16 w os, (cE, p16))) := by
  rw [PySem.W.Fast.grpF_eq]
  intro w os
  kernel_rfl
theorem g16_eq : ∀ (w : World) (os : OsState), grpF P0 ann0 1155 w (S16 w os) ((B0.drop 181).take 1) env0 cE p16 BB = some (Flow.next, (S17 w os, (cE, p17))) := by
  rw [PySem.W.Fast.grpF_eq]
  intro w os
  kernel_rfl
theorem g17_eq : ∀ (w : World) (os : OsState), grpF P0 ann0 331 w (S17 w os) ((B0.drop 182).take 12) env0 cE p17 BB = some (Flow.next, (S18 w os, (cE, p18))) := by
  rw [PySem.W.Fast.grpF_eq]
  intro w os
  kernel_rfl
theorem fin_eq : ∀ (w : World) (os : OsState), finF P0 ann0 w (S18 w os) env0 cE p18 BB = finG (tr18 w.params) 1641 life0 gens0 drawn0 2510 os := by
  rw [PySem.W.Fast.finF_eq]
  intro w os
  kernel_rfl
theorem tre_eq : ∀ (w : World) (os : OsState), tr18 w.params = trF w.params := by
  intro w os
  kernel_rfl
theorem l1_eq : ∀ (w : World) (os : OsState), l1F mods0 w.params (F0 w os) = true := by
  intro w os
  kernel_rfl
theorem l2_eq : ∀ (w : World) (os : OsState), l2F P0 (F0 w os) = true := by
  intro w os
  kernel_rfl
theorem l3_eq : ∀ (w : World) (os : OsState), l3F mods0 V0 w.params (F0 w os) = true := by
  rw [PySem.W.Fast.l3F_eq]
  intro w os
  kernel_rfl
theorem l4_eq : ∀ (w : World) (os : OsState), l4F V0 loose0 (F0 w os) = true := by
  rw [PySem.W.Fast.l4F_eq]
  intro w os
  kernel_rfl
theorem l5_eq : ∀ (w : World) (os : OsState), l5F V0 (F0 w os) = true := by
  rw [PySem.W.Fast.l5F_eq]
  intro w os
  kernel_rfl
theorem s1_eq : ∀ (w : World) (os : OsState), s1F V0 (F0 w os) = s1G V0 := by
  rw [PySem.W.Fast.s1F_eq]
  intro w os
  kernel_rfl
theorem s2_eq : ∀ (w : World) (os : OsState), s2F (F0 w os) = bltViewBooted := by
  intro w os
  kernel_rfl
theorem s3_eq : ∀ (w : World) (os : OsState), s3F V0 (F0 w os) = s3G V0 := by
  rw [PySem.W.Fast.s3F_eq, PySem.W.Fast.s3G_eq]
  intro w os
  kernel_rfl
theorem s4_eq : ∀ (w : World) (os : OsState), s4F V0 loose0 (F0 w os) = s4G V0 loose0 := by
  rw [PySem.W.Fast.s4F_eq, PySem.W.Fast.s4G_eq]
  intro w os
  kernel_rfl
theorem s5_eq : ∀ (w : World) (os : OsState), s5F V0 loose0 (F0 w os) = s5G V0 loose0 := by
  rw [PySem.W.Fast.s5F_eq]
  intro w os
  kernel_rfl
theorem s6_eq : ∀ (w : World) (os : OsState), s6F V0 (F0 w os) = s6G V0 := by
  rw [PySem.W.Fast.s6F_eq]
  intro w os
  kernel_rfl
theorem s7_eq : ∀ (w : World) (os : OsState), s7F V0 loose0 (F0 w os) = s7G V0 loose0 := by
  rw [PySem.W.Fast.s7F_eq]
  intro w os
  kernel_rfl
theorem kk_eq : ∀ (w : World) (os : OsState), kkF as0 (trF w.params) 1641 = (K0 w.params).map fun p => some p.2 := by
  rw [PySem.W.Fast.kkF_eq]
  intro w os
  kernel_rfl
theorem sz_eq : ∀ (w : World) (os : OsState), szF w.params = (true, 11, ann0) := by
  rw [PySem.W.Fast.szF_eq]
  intro w os
  kernel_rfl
theorem pc {w : World} {a b n st N : Nat} {s s' : SharedT} {r : Shared} {pos p' : Pos} (hb : b = a + n)
    (h : segRunT treeTable P0 w 11 ann0 1 st s (piecesOf ((B0.drop a).take n) env0 cE pos BB) = some (.next, s', cE, p'))
    (k : topRun treeTable P0 w 11 ann0 N s'.abs (restOf (B0.drop b) env0 cE p' BB) = some r) :
    topRun treeTable P0 w 11 ann0 (st + N) s.abs (restOf (B0.drop a) env0 cE pos BB) = some r := by
  subst hb
  have e : B0.drop a = (B0.drop a).take n ++ B0.drop (a + n) := by
    rw [← List.drop_drop]; exact (List.take_append_drop n _).symm
  rw [e]
  exact piece_app (segRun_of h) k
theorem ch18d : B0.drop 194 = [] := by kernel_rfl
theorem ch18 (w : World) (os : OsState) : topRun treeTable P0 w 11 ann0 2 (S18 w os).abs (restOf (B0.drop 194) env0 cE p18 BB) = some (SF w os) := by
  rw [ch18d]; exact fin_eq w os
theorem ch17 (w : World) (os : OsState) : topRun treeTable P0 w 11 ann0 (331 + 2) (S17 w os).abs (restOf (B0.drop 182) env0 cE p17 BB) = some (SF w os) := pc (b := 194) rfl (g17_eq w os) (ch18 w os)
theorem ch16 (w : World) (os : OsState) : topRun treeTable P0 w 11 ann0 (1155 + (331 + 2)) (S16 w os).abs (restOf (B0.drop 181) env0 cE p16 BB) = some (SF w os) := pc (b := 182) rfl (g16_eq w os) (ch17 w os)
theorem ch15 (w : World) (os : OsState) : topRun treeTable P0 w 11 ann0 (482 + (1155 + (331 + 2))) (S15 w os).abs (restOf (B0.drop 171) env0 cE p15 BB) = some (SF w os) := pc (b := 181) rfl (g15_eq w os) (ch16 w os)
theorem ch14 (w : World) (os : OsState) : topRun treeTable P0 w 11 ann0 (574 + (482 + (1155 + (331 + 2)))) (S14 w os).abs (restOf (B0.drop 164) env0 cE p14 BB) = some (SF w os) := pc (b := 171) rfl (g14_eq w os) (ch15 w os)
theorem ch13 (w : World) (os : OsState) : topRun treeTable P0 w 11 ann0 (494 + (574 + (482 + (1155 + (331 + 2))))) (S13 w os).abs (restOf (B0.drop 148) env0 cE p13 BB) = some (SF w os) := pc (b := 164) rfl (g13_eq w os) (ch14 w os)
theorem ch12 (w : World) (os : OsState) : topRun treeTable P0 w 11 ann0 (597 + (494 + (574 + (482 + (1155 + (331 + 2)))))) (S12 w os).abs (restOf (B0.drop 128) env0 cE p12 BB) = some (SF w os) := pc (b := 148) rfl (g12_eq w os) (ch13 w os)
theorem ch11 (w : World) (os : OsState) : topRun treeTable P0 w 11 ann0 (595 + (597 + (494 + (574 + (482 + (1155 + (331 + 2))))))) (S11 w os).abs (restOf (B0.drop 107) env0 cE p11 BB) = some (SF w os) := pc (b := 128) rfl (g11_eq w os) (ch12 w os)
theorem ch10 (w : World) (os : OsState) : topRun treeTable P0 w 11 ann0 (578 + (595 + (597 + (494 + (574 + (482 + (1155 + (331 + 2)))))))) (S10 w os).abs (restOf (B0.drop 94) env0 cE p10 BB) = some (SF w os) := pc (b := 107) rfl (g10_eq w os) (ch11 w os)
theorem ch9 (w : World) (os : OsState) : topRun treeTable P0 w 11 ann0 (580 + (578 + (595 + (597 + (494 + (574 + (482 + (1155 + (331 + 2))))))))) (S9 w os).abs (restOf (B0.drop 74) env0 cE p9 BB) = some (SF w os) := pc (b := 94) rfl (g9_eq w os) (ch10 w os)
theorem ch8 (w : World) (os : OsState) : topRun treeTable P0 w 11 ann0 (591 + (580 + (578 + (595 + (597 + (494 + (574 + (482 + (1155 + (331 + 2)))))))))) (S8 w os).abs (restOf (B0.drop 54) env0 cE p8 BB) = some (SF w os) := pc (b := 74) rfl (g8_eq w os) (ch9 w os)
theorem ch7 (w : World) (os : OsState) : topRun treeTable P0 w 11 ann0 (585 + (591 + (580 + (578 + (595 + (597 + (494 + (574 + (482 + (1155 + (331 + 2))))))))))) (S7 w os).abs (restOf (B0.drop 31) env0 cE p7 BB) = some (SF w os) := pc (b := 54) rfl (g7_eq w os) (ch8 w os)
theorem ch6 (w : World) (os : OsState) : topRun treeTable P0 w 11 ann0 (575 + (585 + (591 + (580 + (578 + (595 + (597 + (494 + (574 + (482 + (1155 + (331 + 2)))))))))))) (S6 w os).abs (restOf (B0.drop 18) env0 cE p6 BB) = some (SF w os) := pc (b := 31) rfl (g6_eq w os) (ch7 w os)
theorem ch5 (w : World) (os : OsState) : topRun treeTable P0 w 11 ann0 (460 + (575 + (585 + (591 + (580 + (578 + (595 + (597 + (494 + (574 + (482 + (1155 + (331 + 2))))))))))))) (S5 w os).abs (restOf (B0.drop 16) env0 cE p5 BB) = some (SF w os) := pc (b := 18) rfl (g5_eq w os) (ch6 w os)
theorem ch4 (w : World) (os : OsState) : topRun treeTable P0 w 11 ann0 (454 + (460 + (575 + (585 + (591 + (580 + (578 + (595 + (597 + (494 + (574 + (482 + (1155 + (331 + 2)))))))))))))) (S4 w os).abs (restOf (B0.drop 14) env0 cE p4 BB) = some (SF w os) := pc (b := 16) rfl (g4_eq w os) (ch5 w os)
theorem ch3 (w : World) (os : OsState) : topRun treeTable P0 w 11 ann0 (484 + (454 + (460 + (575 + (585 + (591 + (580 + (578 + (595 + (597 + (494 + (574 + (482 + (1155 + (331 + 2))))))))))))))) (S3 w os).abs (restOf (B0.drop 12) env0 cE p3 BB) = some (SF w os) := pc (b := 14) rfl (g3_eq w os) (ch4 w os)
theorem ch2 (w : World) (os : OsState) : topRun treeTable P0 w 11 ann0 (552 + (484 + (454 + (460 + (575 + (585 + (591 + (580 + (578 + (595 + (597 + (494 + (574 + (482 + (1155 + (331 + 2)))))))))))))))) (S2 w os).abs (restOf (B0.drop 6) env0 cE p2 BB) = some (SF w os) := pc (b := 12) rfl (g2_eq w os) (ch3 w os)
theorem ch1 (w : World) (os : OsState) : topRun treeTable P0 w 11 ann0 (495 + (552 + (484 + (454 + (460 + (575 + (585 + (591 + (580 + (578 + (595 + (597 + (494 + (574 + (482 + (1155 + (331 + 2))))))))))))))))) (S1 w os).abs (restOf (B0.drop 4) env0 cE p1 BB) = some (SF w os) := pc (b := 6) rfl (g1_eq w os) (ch2 w os)
theorem ch0 (w : World) (os : OsState) : topRun treeTable P0 w 11 ann0 (480 + (495 + (552 + (484 + (454 + (460 + (575 + (585 + (591 + (580 + (578 + (595 + (597 + (494 + (574 + (482 + (1155 + (331 + 2)))))))))))))))))) (S0 w os).abs (restOf (B0.drop 0) env0 cE p0 BB) = some (SF w os) := pc (b := 4) rfl (g0_eq w os) (ch1 w os)
theorem SF_eq (w : World) (os : OsState) : SF w os = F0 w os := congrArg (fun t => mkF t os) (tre_eq w os)

theorem run0 (w : World) (os : OsState) : topRun treeTable P0 w 11 ann0 (12 + (1 + (480 + (495 + (552 + (484 + (454 + (460 + (575 + (585 + (591 + (580 + (578 + (595 + (597 + (494 + (574 + (482 + (1155 + (331 + 2)))))))))))))))))))) ⟨boot_heap w.params, Array.mk [], boot_drawn, boot_toks, os⟩ (topStub P0) = some (F0 w os) := by
  rw [← SF_eq w os]
  exact go_top (pre_eq w os) (piece_block (blk_eq w os) (ch0 w os))

abbrev H0k : Hook := kHook K0 as0 (fun _ => by kernel_rfl)
theorem os_of {q : Program} {loose mods : List Str} {Xt : Shared → Bool} {s : Shared} (h1 : seen ((recsOf q).map (·.name)) (ownsOf q) [] { s with gens := #[] } = expectedOf q) (h2 : s.heap.bltView = bltViewBooted)
    (h3 : s.heap.keysOk (looseW q loose) ((recsOf q).map (·.name)) ((litsOf q).map (·.1)) ((clssOf q (looseW q loose)).map (·.name)) = true) (h4 : s.heap.accountedOkI mods = true) (h5 : s.heap.isNs mainGlobals = true) (h6 : s.heap.isNs builtinsNs = true)
    (h7 : tablesOk q s.heap = true) (h8 : Xt s = true) (h9 : (s.gens.size == 0) = true) (g1 : tabsOk q s = true) (g2 : pinSeenD q (drecsOf q) s = pinGoodD (drecsOf q)) (g3 : plainSeenE q (looseW q loose) s = plainGoodE q (looseW q loose))
    (g4 : plainSeenD q loose s = plainGoodD q loose) (g5 : wideSeen q s = wideGood q) (g6 : clsSeenW q loose s = clsGoodW q loose) : openSeen q loose mods Xt true s = openGood q loose := by
  unfold openSeen openGood
  rw [h1, h2, h3, h4, h5, h6, h7, h8, g1, g2, g3, g4, g5, g6]
  simp only [if_true, h9, Bool.and_self]
theorem left_of {p q : Program} {loose : List Str} {Xt : Shared → Bool} {α : Type} {Yf : Shared → α} {Ya : World → α} {N : Nat} {H₀ H₁ : Params → Heap} {gs₀ gs₁ : Array GenState} {d₀ d₁ : Drawn} {k₀ k₁ : Nat} {m₀ : Nat} {ann : Option Value} {M : Nat} {F : World → OsState → Shared}
    (hF : ∀ w os, F w os = ⟨H₁ w.params, gs₁, d₁, k₁, os⟩)
    (open_ : ∀ w : World, (fencedOpening treeTable p w N).map (fun s => (s.heap, s.gens, s.drawn, s.toks)) = some (H₀ w.params, gs₀, d₀, k₀))
    (size : ∀ w : World, ((H₀ w.params).isNs mainGlobals && gs₀.size == 0, (H₀ w.params).objs.size, (H₀ w.params).nsMap mainGlobals "__annotations__") = (true, m₀, ann))
    (run : ∀ (w : World) (os : OsState), topRun treeTable p w m₀ ann M ⟨H₀ w.params, gs₀, d₀, k₀, os⟩ (topStub p) = some (F w os)) (le : Nat.ble M N = true)
    (a1 : ∀ w os, staticsOk (importedModules p.main.body) (H₀ w.params) (F w os).heap = true) (a2 : ∀ w os, namesBound p (F w os).heap = true) (a3 : ∀ w os, gensDone (F w os) = true) (a4 : ∀ w os, laidKept (H₀ w.params) (F w os).heap = true)
    (a5 : ∀ w os, openSeen q loose (importedModules p.main.body) Xt true (F w os) = openGood q loose) (a6 : ∀ w os, Yf (F w os) = Ya w) : LeftO p q loose Xt Yf Ya N := by
  refine LeftO.of_pieces open_ size (fun w os => (run w os).trans (congrArg some (hF w os))) le fun w => ?_
  funext os
  have e : (F w os).heap = H₁ w.params := congrArg Shared.heap (hF w os)
  have b1 := a1 w os
  have b2 := a2 w os
  have b4 := a4 w os
  rw [e] at b1 b2 b4
  have b3 := a3 w os
  have b5 := a5 w os
  have b6 := a6 w os
  rw [hF w os] at b3 b5 b6
  rw [b1, b2, b3, b4, b5, b6]
  rfl

theorem l3_and (w : World) (os : OsState) : (((((((gensDone (F0 w os) = true ∧ laidKept (boot_heap w.params) (F0 w os).heap = true) ∧ (F0 w os).heap.accountedOkI mods0 = true) ∧ (F0 w os).heap.isNs mainGlobals = true) ∧ (F0 w os).heap.isNs builtinsNs = true) ∧ tablesOk V0 (F0 w os).heap = true) ∧ Xt0 (F0 w os) = true) ∧ ((F0 w os).gens.size == 0) = true) := by
  have h := l3_eq w os
  unfold l3F at h
  obtain ⟨h, h8⟩ := Bool.and_eq_true_iff.mp h
  obtain ⟨h, h7⟩ := Bool.and_eq_true_iff.mp h
  obtain ⟨h, h6⟩ := Bool.and_eq_true_iff.mp h
  obtain ⟨h, h5⟩ := Bool.and_eq_true_iff.mp h
  obtain ⟨h, h4⟩ := Bool.and_eq_true_iff.mp h
  obtain ⟨h, h3⟩ := Bool.and_eq_true_iff.mp h
  obtain ⟨h1, h2⟩ := Bool.and_eq_true_iff.mp h
  exact ⟨⟨⟨⟨⟨⟨⟨h1, h2⟩, h3⟩, h4⟩, h5⟩, h6⟩, h7⟩, h8⟩
theorem kk0 (w : World) (os : OsState) : Hook.obs H0k (F0 w os) = Hook.val H0k w := map_to (f := getT (trF w.params) 1641) (fun _ _ h => getT_abs (l := life0) h) as0 (K0 w.params) (kk_eq w os)
theorem left0 : LeftO P0 V0 loose0 Xt0 (Hook.obs H0k) (Hook.val H0k) 20214 :=
  left_of (H₀ := fun P => boot_heap P) (H₁ := HF) (gs₁ := gens0) (d₁ := drawn0) (k₁ := 2510) (F := F0) (fun _ _ => rfl) (boot_open (by kernel_rfl) (by kernel_rfl) (fun _ => by kernel_rfl)) (fun w => sz_eq w default) run0 (by kernel_rfl)
    (fun w os => l1_eq w os) (fun w os => l2_eq w os) (fun w os => (l3_and w os).1.1.1.1.1.1.1) (fun w os => (l3_and w os).1.1.1.1.1.1.2)
    (fun w os => os_of (s1_eq w os) (s2_eq w os) (l4_eq w os) (l3_and w os).1.1.1.1.1.2 (l3_and w os).1.1.1.1.2 (l3_and w os).1.1.1.2 (l3_and w os).1.1.2 (l3_and w os).1.2 (l3_and w os).2 (l5_eq w os) (s3_eq w os) (s4_eq w os) (s5_eq w os) (s6_eq w os) (s7_eq w os))
    (fun w os => kk0 w os)

noncomputable abbrev wsAlg (f : Scope → Str → Option Pos → Bool) : TablesWhole.Alg Bool := ⟨f, fun _ _ _ _ => true, fun _ => true, true, false, fun a b => a && b⟩
theorem filter_none {f : Str → Bool} {a b c : Str} (ha : f a = false) (hb : f b = false) (hc : f c = false) : List.filter f [a, b, c] = [] := by simp [ha, hb, hc]
noncomputable def wsP : Program := PySem.Challenge.rw_pq1381_01.prog
def wsB : List Stmt := wsP.main.body
noncomputable def wsU : List Stmt := PySem.Challenge.rw_pq1381_01.above
section
open TablesWhole
set_option genInjectivity false in
set_option genSizeOf false in
structure Rl where
  α : Type
  β : Type
  A : Alg α
  B : Alg β
  R : α → β → Prop
  a : ∀ {sc n p}, R (A.ask sc n p) (B.ask sc n p)
  c : ∀ {w sc n b}, R (A.check w sc n b) (B.check w sc n b)
  e : ∀ {sc}, R (A.enter sc) (B.enter sc)
  u : R A.unit B.unit
  b : R A.bad B.bad
  o : ∀ {x y x' y'}, R x x' → R y y' → R (A.both x y) (B.both x' y')
abbrev AF := (γ : Type) → Alg γ → γ
def Qr (t : Rl) (F : AF) : Prop := t.R (F t.α t.A) (F t.β t.B)
variable {t : Rl}
theorem qa {sc n p} : Qr t fun _ X => X.ask sc n p := t.a
theorem qc {w sc n} {b : Bool} : Qr t fun _ X => X.check w sc n b := t.c
theorem qe {sc} : Qr t fun _ X => X.enter sc := t.e
theorem qu : Qr t fun _ X => X.unit := t.u
theorem qb : Qr t fun _ X => X.bad := t.b
theorem qo {F G : AF} (p : Qr t F) (q : Qr t G) : Qr t fun γ X => X.both (F γ X) (G γ X) := t.o p q
theorem qm {ι : Type} {F : ι → AF} (k : ∀ x, Qr t (F x)) {l : List ι} : Qr t fun γ X => X.all (l.map fun x => F x γ X) :=
  l.rec qu fun x _ h => qo (k x) h
theorem qi {P : Prop} [d : Decidable P] {F G : AF} (k : Qr t F) (l : Qr t G) : Qr t fun γ X => @ite _ P d (F γ X) (G γ X) :=
  match d with
  | .isTrue _ => k
  | .isFalse _ => l
theorem qBind {cx sc n p} : Qr t fun _ X => X.bind cx sc n p := qo qa qc
theorem qOpt {cx sc p n} : Qr t fun _ X => X.optName cx sc n p := n.rec qu fun _ => qBind
theorem qNames {sc ns p} : Qr t fun _ X => X.names sc ns p := qm fun _ => qa
theorem qInl {f o} : Qr t fun _ X => X.inlined f o := qi qu (qm fun _ => qc)
theorem qEf {ch cls gl p o} : Qr t fun _ X => X.enterFrom ch cls gl p o :=
  qo qe (qo qc (qo (qm fun _ => qo qa qc) (qo (qm fun _ => qc) (qo (qi (qm fun _ => qc) qu) (qo (qi qu (qm fun _ => qc)) (qo (qi (qo qa qc) qu) qu))))))
theorem qPar {o p} : Qr t fun _ X => X.params o p := qm fun _ => qBind
variable (t)
structure N1 (x : Expr) : Prop where
  p : ∀ {cx sc o}, Qr t fun _ X => wE X cx sc o x
  q : ∀ {cx sc o}, Qr t fun _ X => wT X cx sc o x
structure N2 (x : List Expr) : Prop where
  p : ∀ {cx sc o}, Qr t fun _ X => wEs X cx sc o x
  q : ∀ {cx sc o}, Qr t fun _ X => wTs X cx sc o x
structure N3 (x : Arguments) : Prop where
  p : ∀ {cx sc o}, Qr t fun _ X => wDefaults X cx sc o x
  q : ∀ {cx sc o}, Qr t fun _ X => wAnns X cx sc o x
def NK (x : List Keyword) : Prop := ∀ cx sc o, Qr t fun _ X => wKs X cx sc o x
def NT (x : List TypeParam) : Prop := ∀ cx sc o, Qr t fun _ X => wTPs X cx sc o x
def NS (x : List Stmt) : Prop := ∀ top cx sc, Qr t fun _ X => wSs X top cx sc x
def NP (x : Pattern) : Prop := ∀ cx sc, Qr t fun _ X => wP X cx sc x
def NQ (x : List Pattern) : Prop := ∀ cx sc, Qr t fun _ X => wPs X cx sc x
def NG (x : List Comprehension) : Prop := ∀ cx co a ow u o f, Qr t fun _ X => wGens X cx co a ow u o f x
def NA (x : List Arg) : Prop := ∀ cx sc o, Qr t fun _ X => wArgAnns X cx sc o x
def NO : Option Expr → Prop
  | none => True
  | some e => N1 t e
variable {t}
theorem NK.p {x} (k : NK t x) {cx sc o} : Qr t fun _ X => wKs X cx sc o x := k cx sc o
theorem NT.p {x} (k : NT t x) {cx sc o} : Qr t fun _ X => wTPs X cx sc o x := k cx sc o
theorem NS.p {x} (k : NS t x) {top cx sc} : Qr t fun _ X => wSs X top cx sc x := k top cx sc
theorem NP.p {x} (k : NP t x) {cx sc} : Qr t fun _ X => wP X cx sc x := k cx sc
theorem NQ.p {x} (k : NQ t x) {cx sc} : Qr t fun _ X => wPs X cx sc x := k cx sc
theorem NG.p {x} (k : NG t x) {cx co a ow u o f} : Qr t fun _ X => wGens X cx co a ow u o f x := k cx co a ow u o f
theorem NA.p {x} (k : NA t x) {cx sc o} : Qr t fun _ X => wArgAnns X cx sc o x := k cx sc o
theorem qO {cx sc o} : ∀ {e}, NO t e → Qr t fun _ X => wEo X cx sc o e
  | none, _ => qu
  | some _, k => k.p
theorem qLz {ch cls p} : ∀ {e o}, NO t e → Qr t fun _ X => wLazy X ch cls p e o
  | none, _, _ => qu
  | some _, some _, k => qo qEf k.p
  | some _, none, _ => qb
theorem qHead {cx sc a d r tp o ts b p g} (kd : N2 t d) (ka : N3 t a) (kr : NO t r) (kt : NT t tp) : Qr t fun _ X => wDefHead X cx sc a d r tp o ts b p g :=
  qo kd.p (qo ka.p (qo qBind (qo qPar (qo (match tp, ts, kt with
    | [], _, _ => qo qEf (qo ka.q (qo (qO kr) qu))
    | _ :: _, some _, kt => qo qEf (qo qEf (qo kt.p (qo ka.q (qo (qO kr) (qo qBind (qo (qi qu qBind) qu))))))
    | _ :: _, none, _ => qb) qu))))
theorem qClass {cx sc bs k d tp o ts b p g} (kd : N2 t d) (kb : N2 t bs) (kk : NK t k) (kt : NT t tp) : Qr t fun _ X => wClassHead X cx sc bs k d tp o ts b p g :=
  qo kd.p (qo qBind (qo (match tp, ts, kt with
    | [], _, _ => qo qEf (qo kb.p (qo kk.p qu))
    | _ :: _, some _, kt => qo qEf (qo qEf (qo kt.p (qo qBind (qo qBind (qo qa (qo qBind (qo kb.p (qo kk.p qu))))))))
    | _ :: _, none, _ => qb) qu))
theorem qAll : ∀ l, NS t l :=
  @Expr.rec_6 (N1 t)  (fun e => ∀ {top cx sc}, Qr t fun _ X => wS X top cx sc e)
   (fun g => N1 t g.target ∧ N1 t g.iter ∧ N2 t g.ifs)
   (fun | .ExceptHandler e _ b _ => NO t e ∧ NS t b)
   (N3 t)
   (fun a => NO t a.annotation)
   (fun a => N1 t a.value)
   (fun a => N1 t a.context_expr ∧ NO t a.optional_vars)
   (fun c => NP t c.pattern ∧ NO t c.guard ∧ NS t c.body)
   (NP t)
   (fun x => ∀ {ch cls ts}, Qr t fun _ X => wTP X ch cls ts x)
   (N2 t)
   (fun e => ∀ {cx sc o}, Qr t fun _ X => wEos X cx sc o e)
   (NG t)
   (NO t)
   (NK t)
   (NS t)
   (NT t)
   (fun e => ∀ {cx sc}, Qr t fun _ X => wItems X cx sc e)
   (fun e => ∀ {top cx sc}, Qr t fun _ X => wCs X top cx sc e)
   (fun e => ∀ {top cx sc}, Qr t fun _ X => wHs X top cx sc e)
   (NA t)
   (fun e => ∀ {cx sc o}, Qr t fun _ X => wArgAnnO X cx sc o e)
   (NQ t)
   (fun e => ∀ {cx sc}, Qr t fun _ X => wPo X cx sc e)
   (fun _ _ _ k => ⟨k.p, qb⟩)
   (fun x _ _ j k => ⟨fun {_ _ o} => qo k.p (match o, x, j with
      | none, _, j => j.q
      | some _, x, _ => by cases x <;> first | exact qb | exact qo qa (qo qa (qo qc qu))), qb⟩)
   (fun _ _ _ _ j k => ⟨qo j.p k.p, qb⟩)
   (fun _ _ _ k => ⟨k.p, qb⟩)
   (fun _ _ _ _ j k => ⟨qo j.p (qo qEf (qo qPar (qo k.p qu))), qb⟩)
   (fun _ _ _ _ i j k => ⟨qo i.p (qo j.p (qo k.p qu)), qb⟩)
   (fun _ _ _ j k => ⟨qo j k.p, qb⟩)
   (fun _ _ _ k => ⟨k.p, qb⟩)
   (fun _ _ _ _ k g => ⟨qo qEf (qo qInl (qo qBind (qo g.p (qo k.p qu)))), qb⟩)
   (fun _ _ _ _ k g => ⟨qo qEf (qo qInl (qo qBind (qo g.p (qo k.p qu)))), qb⟩)
   (fun _ _ _ _ _ j k g => ⟨qo qEf (qo qInl (qo qBind (qo g.p (qo j.p (qo k.p qu))))), qb⟩)
   (fun _ _ _ _ k g => ⟨qo qEf (qo qBind (qo g.p (qo k.p qu))), qb⟩)
   (fun _ _ k => ⟨k.p, qb⟩)
   (fun _ _ k => ⟨qO k, qb⟩)
   (fun _ _ k => ⟨k.p, qb⟩)
   (fun _ _ _ _ j k => ⟨qo j.p k.p, qb⟩)
   (fun _ _ _ _ i j k => ⟨qo i.p (qo j.p (qo k.p qu)), qb⟩)
   (fun _ _ _ _ j k => ⟨qo j.p (qO k), qb⟩)
   (fun _ _ k => ⟨k.p, qb⟩)
   (fun _ _ _ => ⟨qu, qb⟩)
   (fun _ _ _ k => ⟨k.p, k.p⟩)
   (fun _ _ _ j k => ⟨qo j.p k.p, qo j.p k.p⟩)
   (fun _ _ k => ⟨k.p, k.q⟩)
   (fun _ _ => ⟨qi (qo qa qa) qa, qBind⟩)
   (fun _ _ k => ⟨k.p, k.q⟩)
   (fun _ _ _ k => ⟨k.p, k.q⟩)
   (fun _ _ _ _ i j k => ⟨qo (qO i) (qo (qO j) (qo (qO k) qu)), qb⟩)
   (fun _ _ _ _ _ _ _ _ _ _ ka kb kd kr kt => qo (qHead kd ka kr kt) kb.p)
   (fun _ _ _ _ _ _ _ _ _ _ ka kb kd kr kt => qo (qHead kd ka kr kt) kb.p)
   (fun _ _ _ _ _ _ _ _ _ _ _ kb kk ks kd kt => qo (qClass kd kb kk kt) ks.p)
   (fun _ _ k => qO k)
   (fun _ _ k => k.q)
   (fun _ _ _ j k => qo k.p j.q)
   (fun _ tp _ _ ts _ _ _ kt k => qo qBind (qo k.p (qo (match tp, ts, kt with
      | [], _, _ => qEf
      | _ :: _, some _, kt => qo qEf (qo qEf (qo kt.p qu))
      | _ :: _, none, _ => qb) qu)))
   (fun _ _ _ _ j k => qo j.q k.p)
   (fun x _ v _ _ j i k => qo (match v, x, j, k with
      | some _, _, j, k => qo k.p j.q
      | none, x, j, _ => by cases x <;> first | exact qi qu qBind | exact j.q) (qo i.p qu))
   (fun _ _ _ _ _ i j k l => qo j.p (qo i.q (qo k.p (qo l.p qu))))
   (fun _ _ _ _ _ i j k l => qo j.p (qo i.q (qo k.p (qo l.p qu))))
   (fun _ _ _ _ i j k => qo i.p (qo j.p (qo k.p qu)))
   (fun _ _ _ _ i j k => qo i.p (qo j.p (qo k.p qu)))
   (fun _ _ _ j k => qo j k.p)
   (fun _ _ _ j k => qo j k.p)
   (fun _ _ _ j k => qo j.p k)
   (fun _ _ _ j k => qo (qO j) (qO k))
   (fun _ _ _ _ _ i j k l => qo i.p (qo j (qo k.p (qo l.p qu))))
   (fun _ _ _ _ _ i j k l => qo i.p (qo j (qo k.p (qo l.p qu))))
   (fun _ _ _ j k => qo j.p (qO k))
   (fun _ _ => qm fun _ => qBind)
   (fun _ _ _ _ => qm fun _ => qi qu qBind)
   (fun _ _ => qo qNames (qo (qm fun _ => qc) (qo (qm fun _ => qa) qu)))
   (fun _ _ => qo qNames (qm fun _ => qc))
   (fun _ _ k => k.p)
   (fun _ => qu)
   (fun _ => qu)
   (fun _ => qu)
   (fun _ _ _ _ i j k => ⟨i, j, k⟩)
   (fun _ _ _ _ j k => ⟨j, k⟩)
   (fun _ _ _ _ _ _ _ a b c d e f g => ⟨qo g.p e, qo a.p (qo b.p (qo c (qo d.p (qo f qu))))⟩)
   (fun _ _ _ k => k)
   (fun _ _ _ k => k)
   (fun _ _ j k => ⟨j, k⟩)
   (fun _ _ _ i j k => ⟨i, j, k⟩)
   (fun _ _ k => fun _ _ => k.p)
   (fun _ _ => fun _ _ => qu)
   (fun _ _ k => fun _ _ => k.p)
   (fun _ _ _ _ j k => fun _ _ => qo j.p (qo k.p (qo qOpt qu)))
   (fun _ _ _ _ _ i j k => fun _ _ => qo i.p (qo j.p (qo k.p qu)))
   (fun _ _ => fun _ _ => qOpt)
   (fun _ _ _ k => fun _ _ => qo k qOpt)
   (fun _ _ k => fun _ _ => k.p)
   (fun _ _ _ _ _ _ _ j k => qo qBind (qo (qLz j) (qo (qLz k) qu)))
   (fun _ _ _ _ _ k => qo qBind (qLz k))
   (fun _ _ _ _ _ k => qo qBind (qLz k))
   (⟨qu, qu⟩)
   (fun _ _ j k => ⟨qo j.p k.p, qo j.q k.q⟩)
   (qu)
   (fun _ _ j k => qo (qO j) k)
   (fun _ _ _ _ _ _ _ => qu)
   (fun ⟨_, _, _, _⟩ _ j k => fun _ _ _ _ _ _ _ => qo (qi j.2.1.p j.2.1.p) (qo j.1.q (qo j.2.2.p (qo k.p qu))))
   (trivial)
   (fun _ k => k)
   (fun _ _ _ => qu)
   (fun ⟨_, _, _⟩ _ j k => fun _ _ _ => qo (N1.p j) k.p)
   (fun _ _ _ => qu)
   (fun _ _ j k => fun _ _ _ => qo j k.p)
   (fun _ _ _ => qu)
   (fun _ _ j k => fun _ _ _ => qo j k.p)
   (qu)
   (fun ⟨_, v⟩ _ j k => qo (qo j.1.p (match v, j with
      | some _, j => N1.q j.2
      | none, _ => qu)) k)
   (qu)
   (fun ⟨_, _, _⟩ _ j k => qo j.1.p (qo (qO j.2.1) (qo j.2.2.p (qo k qu))))
   (qu)
   (fun (.ExceptHandler _ _ _ _) _ j k => qo (qO j.1) (qo qOpt (qo j.2.p (qo k qu))))
   (fun _ _ _ => qu)
   (fun ⟨_, _, _⟩ _ j k => fun _ _ _ => qo (qO j) k.p)
   (qu)
   (fun ⟨_, _, _⟩ k => qO k)
   (fun _ _ => qu)
   (fun _ _ j k => fun _ _ => qo j.p k.p)
   (qu)
   (fun _ k => k.p)
noncomputable def cdL : List Nat → Nat
  | [] => 0
  | c :: l => cdL l * 2097152 + (c + 1)
noncomputable def okL (l : List Nat) : Bool := l.all fun c => Nat.blt c 2097151
theorem cd_1 {x y c d : Nat} (h1 : c < 2097151) (h3 : d < 2097151) (h : x * 2097152 + (c + 1) = y * 2097152 + (d + 1)) : x = y ∧ c = d := by omega
theorem cd_0 {x c : Nat} (h : 0 = x + (c + 1)) : False := Nat.succ_ne_zero (x + c) h.symm
theorem cdL_inj : ∀ {a b}, okL a = true → okL b = true → cdL a = cdL b → a = b
  | [], [], _, _, _ => rfl
  | [], _ :: _, _, _, h => (cd_0 h).elim
  | _ :: _, [], _, _, h => (cd_0 h.symm).elim
  | c :: a, d :: b, ha, hb, h => by
    obtain ⟨h1, h2⟩ := Bool.and_eq_true_iff.mp ha
    obtain ⟨h3, h4⟩ := Bool.and_eq_true_iff.mp hb
    obtain ⟨h5, h6⟩ := cd_1 (Nat.blt_eq.mp h1) (Nat.blt_eq.mp h3) h
    rw [cdL_inj h2 h4 h5, h6]
def eqN (a b : Str) : Bool := Nat.beq (cdL a.cps.toList) (cdL b.cps.toList) && ((okL a.cps.toList && okL b.cps.toList) || a == b)
theorem eqN_eq : eqN = (· == ·) := by
  funext a b
  refine Bool.eq_iff_iff.mpr ⟨fun e => ?_, fun e => ?_⟩
  · obtain ⟨h, k⟩ := Bool.and_eq_true_iff.mp e
    refine (Bool.or_eq_true_iff.mp k).elim (fun k => ?_) id
    obtain ⟨h1, h2⟩ := Bool.and_eq_true_iff.mp k
    exact beq_iff_eq.mpr (congrArg Str.mk (Array.toList_inj.mp (cdL_inj h1 h2 (Nat.eq_of_beq_eq_true h))))
  · exact Bool.and_eq_true_iff.mpr ⟨by rw [eq_of_beq e]; exact Nat.beq_refl _, by rw [show (a == b) = true from e]; exact Bool.or_true _⟩
abbrev EqS := Str → Str → Bool
noncomputable def hasE (e : EqS) (n : Str) (l : List Str) : Bool := l.any (e n)
theorem has_eq (n : Str) (l : List Str) : hasE (· == ·) n l = l.contains n := List.contains_eq_any_beq.symm
noncomputable def lookE (e : EqS) (n : Str) : List (Str × NameKind) → Option NameKind
  | [] => none
  | (k, b) :: r => match e n k with
    | true => some b
    | false => lookE e n r
theorem look_eq (n : Str) : ∀ l, lookE (· == ·) n l = l.lookup n
  | [] => rfl
  | (k, b) :: r => by
    show (match n == k with | true => some b | false => lookE (· == ·) n r) = _
    rw [look_eq n r]; rfl
noncomputable def twE (e : EqS) (sc : Scope) : Bool := sc.names.all fun (n, _) => match sc.names.filter (fun p => e p.1 n) with
    | [_] => true
    | [(_, a), (_, b)] => sc.kind == .class && a != .free && b == .free
    | _ => false
theorem tw_eq (sc : Scope) : twE eqN sc = noTwice sc := eqN_eq ▸ rfl
noncomputable def biE (e : EqS) (n : Str) : Bool := Manifest.builtinsNames.any fun y => e (Str.ofString y.1) n
theorem bi_eq : builtinNamed = biE eqN := eqN_eq ▸ rfl
theorem all_bi {l : OpenLaw} {f g : Str → Bool} (h : ((l.prog.boundNames.filter fun n => !hasE eqN n l.own).all fun n => !biE eqN n || f n || g n) = true) : (l.bound'.all fun n => !builtinNamed n || f n || g n) = true := by
  have e : (fun n => !l.own.contains n) = fun n => !hasE eqN n l.own := funext fun n => by rw [eqN_eq, has_eq]
  show ((l.prog.boundNames.filter fun n => !l.own.contains n).all _) = true
  rw [e, bi_eq]; exact h
def attrE (e : EqS) (n : Str) : Bool := !hasE e n frameAttrs && (!(n.opensWith "__" && n.endsWith "__") || hasE e n letByL)
theorem attr_eq (n : Str) : attrE (· == ·) n = attrL n := by
  unfold attrE; rw [has_eq, has_eq]; rfl
def wrE (e : EqS) (n : Str) : Bool := hasE e n wsP.boundNames || e n "__name__" || e n "__debug__" || (biE e n && !hasE e n worldNames && !n.opensWith "__")
def askE (e : EqS) (o : List Str) (sc : Scope) (n : Str) : Bool := match lookE e n sc.names with
  | none => false
  | some k => attrE e n && (!hasE e n o && match k with
    | .globalImplicit | .globalExplicit => wrE e n && (!e n "vars" && (!e n "dir" && !e n "locals"))
    | _ => true)
def algU (o : List Str) : Alg Bool := ⟨fun sc n _ => askE eqN o sc n, fun w _ _ ok => ok && !(w == walrusThrough || w == declaredGlobal), fun _ => true, true, false, fun a b => a && b⟩
theorem wr_of {n : Str} (h : wrE (· == ·) n = true) : (wsP.boundNames.contains n || n == ("__name__" : Str) || n == ("__debug__" : Str) || (builtinNamed n && !worldNames.contains n && !n.opensWith "__")) = true := by
  rw [← has_eq, ← has_eq]
  exact h
theorem ask_of {e : EqS} {o : List Str} {sc : Scope} {n : Str} (h : askE e o sc n = true) : ∃ k, lookE e n sc.names = some k ∧ attrE e n = true ∧ (!hasE e n o) = true ∧ ((k = .globalImplicit ∨ k = .globalExplicit) → wrE e n = true ∧ (!e n "vars") = true ∧ (!e n "dir") = true ∧ (!e n "locals") = true) := by
  unfold askE at h
  split at h
  · cases h
  · obtain ⟨h1, h⟩ := Bool.and_eq_true_iff.mp h
    obtain ⟨h2, h⟩ := Bool.and_eq_true_iff.mp h
    refine ⟨_, ‹_›, h1, h2, fun k => ?_⟩
    rcases k with rfl | rfl <;>
    · obtain ⟨h3, h⟩ := Bool.and_eq_true_iff.mp h
      obtain ⟨h4, h⟩ := Bool.and_eq_true_iff.mp h
      obtain ⟨h5, h⟩ := Bool.and_eq_true_iff.mp h
      exact ⟨h3, h4, h5, h⟩
noncomputable abbrev cx0 (sc : Scope) : TablesWhole.Ctx := ⟨sc, [], [], [], none⟩
variable {o : List Str} {f : Scope → Str → Option Pos → Bool}
theorem and_i {a b c d : Bool} (h : a = true → c = true) (k : b = true → d = true) (e : (a && b) = true) : (c && d) = true := by
  obtain ⟨e1, e2⟩ := Bool.and_eq_true_iff.mp e
  rw [h e1, k e2]; rfl
def relF (k : ∀ {sc n}, askE (· == ·) o sc n = true → ∀ p, f sc n p = true) : Rl :=
  ⟨_, _, algU o, wsAlg f, fun a b => a = true → b = true, fun {_ _ p} h => k (eqN_eq ▸ h) p, fun _ => rfl, fun _ => rfl, fun _ => rfl, id, and_i⟩
def relH (o : List Str) : Rl :=
  ⟨_, _, algU o, holds, fun a b => a = true → b = true, fun {sc n p} h => by
    obtain ⟨k, e, _⟩ := ask_of (eqN_eq ▸ h : askE (· == ·) o sc n = true)
    show (List.lookup _ _).isSome = true
    rw [← look_eq, e]; rfl, fun e => (Bool.and_eq_true_iff.mp e).1, fun _ => rfl, fun _ => rfl, id, and_i⟩
def relG (o : List Str) : Rl :=
  ⟨_, _, algU o, gather, fun a l => a = true → l = [], fun _ => rfl, fun {w sc n b} e => by
    have h := (Bool.and_eq_true_iff.mp e).2
    rw [Bool.not_eq_true', Bool.or_eq_false_iff] at h
    show (if (w == walrusThrough && _ || w == declaredGlobal) = true then _ else _) = _
    rw [h.1, h.2]; rfl, fun _ => rfl, fun _ => rfl, fun _ => rfl, fun h k e => by
    obtain ⟨e1, e2⟩ := Bool.and_eq_true_iff.mp e
    rw [h e1, k e2]; rfl⟩
section
variable {α : Type} {A : Alg α} {top sc : Scope} {cx : TablesWhole.Ctx} (u : ∀ x, A.both A.unit x = x) (s : ∀ x y z, A.both (A.both x y) z = A.both x (A.both y z))
include u s
theorem wSs_app : ∀ a b : List Stmt, wSs A top cx sc (a ++ b) = A.both (wSs A top cx sc a) (wSs A top cx sc b)
  | [], b => (u _).symm
  | x :: a, b => (congrArg (A.both (wS A top cx sc x)) (wSs_app a b)).trans (s _ _ _).symm
theorem hB {v : α} {l a b : List Stmt} (e : l = a ++ b) (t : A.both v v = v) (h1 : wSs A top cx sc a = v) (h2 : wSs A top cx sc b = v) : wSs A top cx sc l = v := by
  rw [e, wSs_app u s, h1, h2, t]
end
theorem wMod_of {m : Module} (hg : wSs gather m.scope (cx0 m.scope) m.scope m.body = []) (h : wSs (wsAlg f) m.scope (cx0 m.scope) m.scope m.body = true) : wModule (wsAlg f) m = true := by
  show (true && (true && (wSs (wsAlg f) m.scope ⟨m.scope, [], _, [], none⟩ m.scope m.body && true))) = true
  rw [hg, h]; rfl
theorem wMod_h {m : Module} (h0 : noTwice m.scope = true) (hg : wSs gather m.scope (cx0 m.scope) m.scope m.body = []) (h : wSs holds m.scope (cx0 m.scope) m.scope m.body = true) : wModule holds m = true := by
  show (true && (noTwice m.scope && (wSs holds m.scope ⟨m.scope, [], _, [], none⟩ m.scope m.body && true))) = true
  rw [hg, h, h0]; rfl
theorem tw_of {p : Program} (hm : p.modules = []) (hp : p.parses = []) (hh : p.harvested = []) (h : wModule holds p.main = true) : p.tablesWhole = true := by
  show (wModule holds p.main && (holds.all (p.modules.map fun (_, _, m) => wModule holds m) && (holds.all (p.parses.map (wParse holds)) && (holds.all (p.harvested.map (wParse holds)) && true)))) = true
  rw [hm, hp, hh, h]; rfl
abbrev wsS := wsP.main.scope
abbrev wsO := PySem.Challenge.rw_pq1381_01.own
abbrev wsF := PySem.Challenge.rw_pq1381_01.footing
theorem wu4 : wSs (algU wsO) wsS (cx0 wsS) wsS (wsU.take 90) = true := by kernel_rfl
theorem wu5 : wSs (algU wsO) wsS (cx0 wsS) wsS ((wsU.drop 90).take 50) = true := by kernel_rfl
theorem wu6 : wSs (algU wsO) wsS (cx0 wsS) wsS ((wsU.drop 90).drop 50) = true := by kernel_rfl
theorem wu1 : wSs (algU wsO) wsS (cx0 wsS) wsS wsU = true :=
  have k {l n} := hB (A := algU wsO) (v := true) (top := wsS) (cx := cx0 wsS) (sc := wsS) (fun _ => rfl) Bool.and_assoc (List.take_append_drop n l).symm rfl
  k wu4 (k wu5 wu6)
theorem wu3 : wSs (algU []) wsS (cx0 wsS) wsS wsF = true := by kernel_rfl
theorem ab_ft (l : OpenLaw) : l.prog.main.body = l.above ++ l.footing := (List.take_append_drop _ _).symm
theorem wsB_eq : wsB = wsU ++ wsF := ab_ft _
theorem u_f (k : ∀ {o sc n}, askE (· == ·) o sc n = true → ∀ p, f sc n p = true) : wSs (wsAlg f) wsS (cx0 wsS) wsS wsB = true :=
  hB (A := wsAlg f) (fun _ => rfl) Bool.and_assoc wsB_eq rfl (qAll (t := relF k) wsU wsS (cx0 wsS) wsS wu1) (qAll (t := relF k) wsF wsS (cx0 wsS) wsS wu3)
theorem u_gU : wSs gather wsS (cx0 wsS) wsS wsU = [] := qAll (t := relG wsO) wsU wsS (cx0 wsS) wsS wu1
theorem u_g : wSs gather wsS (cx0 wsS) wsS wsB = [] :=
  hB (A := gather) (fun _ => rfl) List.append_assoc wsB_eq rfl u_gU (qAll (t := relG []) wsF wsS (cx0 wsS) wsS wu3)
theorem wsTw : wsP.tablesWhole = true := tw_of (by kernel_rfl) (by kernel_rfl) (by kernel_rfl) (wMod_h ((tw_eq _).symm.trans (by kernel_rfl)) u_g
  (hB (A := holds) (fun _ => rfl) Bool.and_assoc wsB_eq rfl (qAll (t := relH wsO) wsU wsS (cx0 wsS) wsS wu1) (qAll (t := relH []) wsF wsS (cx0 wsS) wsS wu3)))
theorem nrWhole : namesResolve wsP = true := wMod_of u_g (u_f fun {o sc n} h _ => by
  obtain ⟨k, e, _, _, h⟩ := ask_of h
  rw [← look_eq, e]
  cases k <;> first | rfl | exact wr_of (h (.inl rfl)).1 | exact wr_of (h (.inr rfl)).1)
theorem naWhole : namesMeet wsP wsB (fun _ n => attrL n) = true := wMod_of (m := { wsP.main with body := wsB }) u_g (u_f fun {o sc n} h _ => (ask_of h).elim fun _ h => (attr_eq n).symm.trans h.2.1)
theorem noWhole : namesMeet wsP wsU (fun _ n => !wsO.contains n) = true :=
  wMod_of (m := { wsP.main with body := wsU }) u_gU (qAll (t := relF fun {sc n} h _ => (ask_of h).elim fun _ h => by
    show (!List.contains wsO n) = true
    rw [← has_eq]; exact h.2.2.1) wsU wsS (cx0 wsS) wsS wu1)
theorem ro_of {v : Str} (hv : ∀ {n : Str}, (!(n == ("vars" : Str))) = true ∧ (!(n == ("dir" : Str))) = true ∧ (!(n == ("locals" : Str))) = true → (n != v) = true) : readsOut wsP wsB v = false := by
  refine congrArg not (wMod_of (m := { wsP.main with body := wsB }) u_g (u_f fun {o sc n} h _ => ?_) : _ = true)
  obtain ⟨k, e, _, _, h⟩ := ask_of h
  show (n != v || !(sc.names.lookup n == _ || sc.names.lookup n == _)) = true
  rw [← look_eq, e]
  cases k with
  | globalImplicit => rw [hv (h (.inl rfl)).2]; rfl
  | globalExplicit => rw [hv (h (.inr rfl)).2]; rfl
  | _ => exact Bool.or_true _
end
noncomputable abbrev wsL : Look := { strict := false, foot := none, bare := [] }
theorem rdAll : noRoadLSs wsL wsB = true := by kernel_rfl
theorem rdWhole : noRoadLSs { strict := !(importedModules wsB).all cThrough.contains, foot := none, bare := List.filter (readsOut wsP wsB) (["vars", "dir", "locals"] : List Str) } wsB = true := by
  rw [show (!(importedModules wsB).all cThrough.contains) = false by kernel_rfl, filter_none (ro_of fun h => h.1) (ro_of fun h => h.2.1) (ro_of fun h => h.2.2)]; exact rdAll
theorem ws : PySem.Challenge.rw_pq1381_01.wellSaid = true := by
  unfold OpenLaw.wellSaid OpenRow.wellSaid OpenRow.partSaid looksOpen
  repeat' (with_reducible refine look_both ?_ ?_)
  iterate 2 (· as_aux_lemma => kernel_rfl)
  · exact nrWhole
  · as_aux_lemma => kernel_rfl
  · exact rdWhole
  · exact naWhole
  iterate 24 (· as_aux_lemma => kernel_rfl)
  · exact all_bi (by as_aux_lemma => kernel_rfl)
  iterate 6 (· as_aux_lemma => kernel_rfl)
  · exact noWhole
  as_aux_lemma => kernel_rfl
noncomputable def DD : DefRec := ⟨Str.ofString "law", da s193, db s193, ds s193, (match s193 with | .FunctionDef _ _ _ _ _ _ _ _ _ p => p | _ => q0)⟩
theorem hd (walk : WalkO V0 loose0 (XL V0 []) (Hook.says H0k) PySem.Challenge.rw_pq1381_01.row.toRowW DD [] (fun f vs => PySem.call f vs)) : PySem.Challenge.rw_pq1381_01.Holds := by
  w_on
  refine holds_law ws fun said => ?_
  refine holds_open (q := V0) (loose := loose0) (Xt := Xt0) (XP := XL V0 []) (Yf := Hook.obs H0k) (Ya := Hook.val H0k) (YP := Hook.says H0k) (N := 20214) left0 (Hook.of H0k) (Hook.keeps H0k)
    (fun s e => xl_of s (Bool.and_eq_true_iff.mp e).1) XL.keeps (by rfl) (by rfl) (by rfl) (fun s e => recFacts_of (Bool.and_eq_true_iff.mp e).2) (by rfl) (by assumption) (by decide +kernel) ⟨rfl, rfl, rfl, rfl, rfl, wsTw⟩ ?hw ?hc
  case hw => w_witness2
  case hc => exact walk
end
end Mine
open PySem PySem.W PySem.Calls PyProof.Rows PySem.Spec
set_option maxHeartbeats 4000000
set_option rowWalk.seconds 0
set_option genInjectivity false
set_option genSizeOfSpec false
namespace Mine
noncomputable section
variable {P0 P1 R P2 P3 P4 P5 : Prop} {l a b L v C x dx sl pl I e c cl il ad nv dn nl D ix dv dix ixl rv dI sy ge gfr dc fr2 bl sy1 sy2 bf ids dval vil al t0 sy3 wl ib : Addr} {d u i j n k n' kt na np nx nb nt : Nat} {h h₀ h' h₁ b₀ b₁ hp r' gh H H' b₁' b₂ : Heap} {o od ox o' gfo o2 o2' ol bfo o3 : Obj} {news mt news' own l' mtN extra pre rows fx own' : List (Addr × Obj)} {w : World} {s s₀ s₁ : Shared} {K : Frag} {p prog : Program} {loose xs : List Str} {mg mb G : Str → Option Value} {f a₀ z num gnum num2 many bnum mn : Int} {args items vs first ys us : List Value} {kw binds kvs bkv : List (Str × Value)} {P : Value → Heap → Prop} {Q E : Value → Shared → Prop} {tk t t₀ u₀ v₀ ty tk2 tp tn tm tf tc tkL tkx t1 t2 tv t3 t4 t5 : Tok} {name qual y cn kn nm : Str} {params : Arguments} {body rest : List Stmt} {scope cs : Scope} {dV kV doc pm cdv ct oc dflt itc ccd nmV kd gl x0 a1 a2 a3 v0 v1 vv pa v2 : Value} {an : Option Addr} {osl : Array (Option Value)} {pos px yp py : Pos} {A : Around} {value slice elt target iter : PySem.Expr} {fp as foot : List Addr} {St : Nat → Heap → Prop} {rs : List (List Stmt)} {op : CmpOp} {fs : List Int} {id : String} {ifs : List PySem.Expr} {QQ : Addr → Shared → Prop} {ps ps' : List (Str × Int)} {ex sh vis shv shx by_ : Bool} {onm : Option (List Str)} {fo : Option Int} {ins : List (Str × Option Int)} {g2 g3 : Obj → List (Addr × Obj)} {its : Array Value} {ve : Nat → Value}
def hk (l : List String) (s : Lean.TSyntax `str) : Lean.MacroM (Lean.TSyntax `tactic) := do
 let ts ← l.toArray.mapM fun p => let a := Lean.Syntax.mkStrLit (p ++ s.getString); `(Lean.Parser.Tactic.tacticSeq| k_extra $a)
 `(tactic| first $[| $ts]*)
theorem fC {α : Type} {p : α → Prop} {a : α} {l : List α} : (∀ x, x ∈ a :: l → p x) ↔ p a ∧ ∀ x, x ∈ l → p x := List.forall_mem_cons
theorem fN {α : Type} {p : α → Prop} : ∀ x, x ∈ [] → p x := List.forall_mem_nil p
theorem mcm {α : Type} {a : α} (y : α) {l : List α} (h : a ∈ l) : a ∈ y :: l := List.mem_cons_of_mem y h
theorem mcs {α : Type} {a : α} {l : List α} : a ∈ a :: l := List.mem_cons_self
theorem mc1 {α : Type} {a b : α} {l : List α} : a ∈ b :: l → a = b ∨ a ∈ l := List.mem_cons.mp
theorem ms1 {α : Type} {a b : α} : a ∈ [b] → a = b := List.mem_singleton.mp
theorem mal {α : Type} {a : α} {l : List α} (k : List α) : a ∈ l → a ∈ l ++ k := List.mem_append_left k
theorem mar {α : Type} {a : α} {k : List α} (l : List α) : a ∈ k → a ∈ l ++ k := List.mem_append_right l
theorem ma1 {α : Type} {a : α} {l k : List α} : a ∈ l ++ k → a ∈ l ∨ a ∈ k := List.mem_append.mp
theorem nmn {α : Type} {a : α} : ¬ a ∈ [] := List.not_mem_nil
theorem lines_x : True := by
 k_with "fr" => (first | exact FrOf.nil | (refine' FrOf.cons ?a ?b; (case a => tb_rel); (case b => k_extra "fr")))
 k_with "fm" => repeat' (first | exact rfl | assumption | refine (setM_ne ?_).trans ?_ | refine (if_neg ?_).trans ?_)
 k_with "x84" =>
  k_extra "x143"
  intro d u g L' h₁ rm F N Xg Tg Sr Sg Sg' hlt hL PP
  k_extra "x189"
 k_with "x85" =>
  k_extra "x258"
  k_extra "x84"
 k_with "x86" =>
  k_extra "x149"
  k_extra "x250"
 k_with "x87" =>
  case ho => k_is
  case hcd => k_is
  case hm => exact fcons hdI (fcons hF (fcons hdv fN))
  case hr => exact fcons hrI (fcons hrF (fcons hrv fN))
  k_extra "x94"
  have hvg := Sr _ _ hv
  have hkr := G.row
  k_extra "x229"
  k_extra "x203"
  rename OwnOff _ _ => hoff
 k_with "x88" =>
  k_extra "x93"
  k_extra "x143"
  intro d u g L' h₁ rm F N Xg Tg Sr hg hL PP
  k_extra "x189"
  have hvg := hv.mono Sr
 k_with "x89" =>
  k_extra "x93"
  case hm => exact fcons hdI (fcons hF (fcons hBF fN))
  case hr => exact fcons hrI (fcons hrF (fcons hrB fN))
  k_extra "x84"
  k_extra "x141"
  have hBg := hB.mono Sr
  have hkb := G.box
  k_extra "x229"
  k_extra "x86"
  rename (Obj.IsDictOf _ _ (stored bkv _ _)) => d₂
 k_with "x90" =>
  k_extra "x93"
  case hm => exact fcons hdv fN
  case hr => exact fcons hrd fN
  k_extra "x84"
  k_extra "x129"
 k_with "x91" =>
  ·k_extra "x92"
 k_with "x92" =>
  intro D h tk ys F' hD hD0 hDL hJ
  refine o1_3 (done ys _ hJ) fun mtO hm hm0 go => ?_
  have mo' : ∀ p ∈ mtO, p.1 ≠ L ∧ p.1 ≠ D := fun p hp => ⟨fun e => (hid_of (hm p hp)).2 (e ▸ .head _), fun e => (hid_of (hm p hp)).2 (e ▸ .tail _ (.head _))⟩
  refine go D h tk (ledgerOf h₀ h (L :: D :: adrs mtO)) F' (fC.mpr ⟨⟨hD, hDL, hD0⟩, fun p hp => ?_⟩) (fun p hp b hb e => (mem_ledger hp).2.1 (.tail _ (e ▸ hb))) (fun p hp => (mo' p hp).2) fun b o e => ?_
  ·k_extra "x152"
  ·k_extra "x132"
 k_with "x93" =>
  case hl => decide
  case ho => k_is
  case hcd => k_is
 k_with "x94" =>
  k_extra "x84"
  k_extra "x252"
  k_extra "x141"
 k_with "x95" =>
  have m1 := upd_in U
  have Sr := stay_hid F N S (on1 m1)
  have S0 := stay_hid F N (fun _ _ e => e) (on1 m1)
 k_with "x96" =>
  ·k_extra "x97"
 k_with "x97" =>
  skip
  k_extra "x212"
  refine ⟨_, _, News.get Nz (by tb_rel), News.get Nz (by tb_rel), _, _, _, _, ?f1, ?f2, ?g1, ?g2, ht⟩
  k_extra "x140"
 k_with "x98" =>
  w_on
  refine' does_def (mt := [(dval, vecD hsv (.str "integer" tk2) (.ref vil) .none (.bool sh) (.bool false))]) (binds := [("v", Value.ref v), ("ix", Value.ref ix), ("value", Value.ref val), ("notes", Value.ref nl)]) X T st ?hm ?hr ?ho ?hcd ?hbind ?hloc ?_ ?hco ?hgen ?hk ?hcell ?hl
  k_extra "x90"
  k_extra "x150"
 k_with "x99" =>
  intro i v m₁ news₁ s₁ own₁ hz1 hin hP hJ off hown hget hall hst₁ F₁ N₁
  refine o2_1 hz1 fun h tk zq2 => ?_
  clear hz1
  subst zq2
  have hJh : J i m₁ (hideAll h [env.locals, I]) := by
   refine o1_2 hJ fun H hJ C => ?_
   refine mono _ _ _ _ hJ fun b o e => hideAll_get _ ?_ ?_
   ·rcases C b o e with e | e
    ·exact F₁.keep _ _ e
    ·exact (N₁ _ (mar _ e)).1
   ·intro q
    rcases C b o e with e' | e'
    ·rcases mc1 q with rfl | q
     ·exact absurd (Heap.lt_size e') (Nat.not_lt.mpr F₁.above)
     ·rw [ms1 q, hw] at e'; cases e'
    ·rcases mc1 q with rfl | q
     ·exact (N₁ _ (mar _ e')).2.1 rfl
     ·exact off _ e' q
 k_with "x100" =>
  ·k_extra "x102"
 k_with "x101" =>
  have out : ∀ i m news h, JL i m news → Fr h₀ env.locals h m → News h₀ env.locals h news → (∀ p ∈ news, p.1 ∉ [I]) → J i m (hideAll h [env.locals, I]) := by
   intro i m news h hz1 F N off
   refine o1_2 hz1 fun H hJ C => ?_
   clear hz1
   refine mono _ _ _ _ hJ fun b o e => hideAll_get _ ?_ ?_
   ·rcases C b o e with e | e
    ·exact F.keep _ _ e
    ·exact (N _ e).1
   ·intro q
    rcases C b o e with e' | e'
    ·rcases mc1 q with rfl | q
     ·exact absurd (Heap.lt_size e') (Nat.not_lt.mpr F.above)
     ·rw [ms1 q, hw] at e'; cases e'
    ·rcases mc1 q with rfl | q
     ·exact (N _ e').2.1 rfl
     ·exact off _ e' q
 k_with "x102" =>
  skip
  k_extra "x212"
  refine ⟨_, News.get Nz (by tb_rel), _, _, _, _, ?f1, ?f2, ?g1, ?g2, ht⟩
  k_extra "x147"
 k_with "x103" =>
  have S : h₀.StaysIn h₀ := fun _ _ e => e
  k_extra "x211"
  w_on
  k_fold
  k_steps
 k_with "x104" =>
  have sub : ∀ (h : Heap) (mtO : List (Addr × Obj)) own, Cov (hideAll h (env.locals :: adrs mtO)) h₀ own → Cov (hideAll (hideAll h [env.locals, I]) (adrs mtO)) h₀ own := fun h mtO own C b o e => by
   refine o0_2 (hid_of e) fun e1 n1 => ?_
   refine o0_2 (hid_of e1) fun e2 n2 => ?_
   refine C b o (hideAll_get _ e2 fun q => ?_)
   rcases mc1 q with rfl | q
   ·exact n2 (.head _)
   ·exact n1 q
  refine o1_3 (back 0 m₀ s.heap h0 F) fun news₀ hJ₀ N₀ off₀ => ?_
  refine ⟨I, fp, [I], n, P, St, m₀, news₀, JL, rfl, W, hLf, fun b hb => by rw [ms1 hb]; exact hw, off₀, hst, F, N₀, hJ₀, ?_, ?_⟩
 k_with "x105" =>
  refine o4_2 (id hS2g) fun ds qs ks ts hs1 hs2 => ?_
  refine o5_3 (hC.mono Sr) fun dc qc kc cil ctg hc1 hc2 hcl => ?_
  k_extra "x86"
 k_with "x106" =>
  w_on
  refine' does_def (mt := []) (binds := [("name", Value.str nm tn), ("args", Value.ref l)]) X T st ?hm ?hr ?ho ?hcd ?hbind ?hloc ?_ ?hco ?hgen ?hk ?hcell ?hl
  k_extra "x85"
  k_extra "x214"
  k_extra "x86"
  refine ⟨_, rfl, _, _, _, (fun i => match i with | 0 => (_, _) | 1 => (_, _) | 2 => (_, _) | 3 => (_, _) | _ => (_, _)), _, _, _, ?f1, ?f2, ?f3, News.get Nz (.head _), News.get Nz (mem_at 1 rfl), News.get Nz (mem_at 4 rfl)⟩
  case f1 => exact fresh_of Sg Nz (.head _)
  case f2 => exact fresh_of Sg Nz (mem_at 1 rfl)
  case f3 => exact fresh_of Sg Nz (mem_at 4 rfl)
 k_with "x107" =>
  k_extra "x128"
  k_extra "x155"
  k_extra "x86"
  rename OwnOff _ _ => hoff
  rename (∀ H : Heap, _ → _ → _ → RowRest _ H _ _ _) => hrow
 k_with "x108" =>
  k_extra "x185"
  case hs2 => exact fcons (by tb_rel) (fcons (by tb_rel) (fcons (by tb_rel) fN))
  k_extra "x179"
  case off2 => exact off_row (off3 (by k_ne) (by k_ne) (by k_ne)) (off_row (off3 (by k_ne) (by k_ne) (by k_ne)) (off_row (off3 (by k_ne) (by k_ne) (by k_ne)) (off_none)))
  case offx => exact off_cons (hoff.ne (by tb_rel)) (off_cons (hoff.ne (by tb_rel)) (off_cons (hoff.ne (by tb_rel)) (off_nil)))
 k_with "x109" =>
  k_extra "x203"
  dsimp only [PP]
  rw [← hg]
  refine setDone_ Nz ?hs (by assumption) (by assumption) ht
  intro p hp
  repeat (first | exact hp | refine mcm _ ?_)
 k_with "x110" =>
  k_extra "x212"
  exact ⟨_, _, _, _, fresh_of Sg Nz (.head _), fresh_of Sg Nz (mem_at 1 rfl), News.get Nz (.head _), News.get Nz (mem_at 1 rfl), ht⟩
 k_with "x111" =>
  k_extra "x258"
  k_extra "x198"
  case hkind => exact rfl
  case hnd => decide +kernel
  k_extra "x242"
  intro d u g L' h₁ tk₁ cells rm F N Y offc Xg Tg Sr Sg Sg' hlt hL PP
  k_extra "x189"
  k_cells Y
  (try simp only [List.cons_append, List.nil_append, List.append_nil] at N)
 k_with "x112" =>
  have hz := hN.small
  k_extra "x257"
  have hlen : xs.length = items.length := hN.len
  have hz2 : xs.length ≤ 1000 := by omega
 k_with "x113" =>
  k_extra "x185"
  case hs2 => exact fcons (by tb_rel) (fcons (by tb_rel) fN)
  k_extra "x179"
  case off2 => exact off_row (off3 (by k_ne) (by k_ne) (by k_ne)) (off_row (off3 (by k_ne) (by k_ne) (by k_ne)) (off_none))
  case offx => exact off_cons (hoff.ne (by tb_rel)) (off_cons (hoff.ne (by tb_rel)) (off_nil))
 k_with "x114" =>
  have back : ∀ i m h, J i m (hideAll h [env.locals, I]) → Fr h₀ env.locals h m → ∃ news, JL i m news ∧ News h₀ env.locals h news ∧ ∀ p ∈ news, p.1 ∉ [I] := by
   intro i m h hJ F
   refine ⟨ledgerOf h₀ h [env.locals, I], ⟨_, hJ, cov_ledger F.keep⟩, fun p hp => ?_, fun p hp q => ?_⟩
   ·refine o0_3 (mem_ledger hp) fun a b c => ?_
    exact ⟨a, fun e => b (e ▸ .head _), c⟩
   ·exact (mem_ledger hp).2.1 (.tail _ q)
 k_with "x115" =>
  have m1 := upd_in U
  have m2 : (dv, vecD hs (.str "list" tk) (.ref il) at_ (.bool sh) (.bool false)) ∈ news := by
   rcases upd_mem U _ _ (upd_in U2) with e | ⟨e, _⟩
   ·exact absurd (congrArg Prod.fst e).symm hne
   ·exact e
 k_with "x116" =>
  have hag : AttsAt w g (.ref ad) (some xs) := ⟨ad, o, nv, rfl, lo, Sr' _ _ hao, had, hch.mono Sr'⟩
 k_with "x117" =>
  w_on
  refine' does_def (mt := [(dI, evD q v gl vis), (dv, vecD hs (.str "list" tk) (.ref il) at_ (.bool sh) (.bool false))]) (binds := [("interp", Value.ref I), ("call", Value.ref cl), ("env", Value.ref ge)]) X T st ?hm ?hr ?ho ?hcd ?hbind ?hloc ?_ ?hco ?hgen ?hk ?hcell ?hl
  k_extra "x151"
  k_extra "x94"
  k_extra "x193"
 k_with "x118" =>
  ·k_extra "x121"
 k_with "x119" =>
  induction ys generalizing xs with
  | nil => cases xs with
   | nil => exact .nil
   | cons x r => simp at h
  | cons v r ih => cases xs with
   | nil => simp at h
   | cons x q =>
    simp only [List.map_cons, List.cons.injEq] at h
    cases v <;> simp only [strOf, Option.some.injEq, reduceCtorEq, false_and] at h
    refine o0_2 h fun zq0 h2 => ?_
    clear h
    subst zq0
    exact .cons _ _ (ih h2)
 k_with "x120" =>
  refine o2_5 (id hrow) fun items onm hil ha hN hIt hnm => ?_
  have hag := ha.mono Sr'
  k_extra "x159"
  rename SetTell _ _ _ _ _ _ _ _ => ht
  rename OwnOff _ _ => hoff
  refine ⟨News.get Nz (by tb_rel), News.get Nz (by tb_rel), set_close Sg Nz ?hs ?off ?hmn ht⟩
  k_extra "x185"
 k_with "x121" =>
  intro m H hJ
  refine o1_3 (done m H hJ) fun mtO a b go => ?_
  k_extra "x209"
 k_with "x122" =>
  k_extra "x85"
  have hpg := hp.mono fun b o e => Sr _ _ (hr' _ _ e)
  refine o1_2 (pairs_iff.mp hp) fun items hil0 hPL => ?_
  have hil : g.IsList pl items.toArray := IsList.mono hil0 fun b o e => Sr _ _ (hr' _ _ e)
  have hPLg := hPL.mono fun b o e => Sr _ _ (hr' _ _ e)
  have hlen := hPL.len
  have hit := hPLg.get
  have hz2 : items.length ≤ 1000 := by omega
  k_extra "x253"
 k_with "x123" =>
  w_on
  refine' does_def (mt := [(dI, evD q v gl vis)]) (binds := [("self", Value.ref I), ("e", Value.ref sy), ("env", Value.ref ge)]) X T st ?hm ?hr ?ho ?hcd ?hbind ?hloc ?_ ?hco ?hgen ?hk ?hcell ?hl
  k_extra "x219"
  k_extra "x84"
  k_extra "x221"
  have hFg := Sr _ _ hF
 k_with "x124" =>
  k_extra "x238"
  refine o1_2 zr fun o' e1 hd' => ?_
  clear zr
  subst zq0
  exact k o' h' tk' (hk'.fr F N (on1 m1)) (led1 (mt := []) N U hk'.all e1) hd'
 k_with "x125" =>
  subst hL
  refine wpAny_pyIter_range hr hsmall ?_
  have W := Walks.range (prog := prog) (w := w) hh s.heap.objs.size a₀ 1 n
  have ex := fresh_hide (h' := s.heap.push { cls := .type "range_iterator", data := .fields #[rawInt a₀, rawInt (Builtin.Range.rangeSize a₀ b₀ 1), rawInt 1] }) F N rfl (fun b o e => Heap.get?_push_of_some _ e)
 k_with "x126" =>
  intro d u rm
  have Xs : K.In s.heap := X.keeps st
  have nr : ∀ b o, r.get? b = some o → b ∉ adrs mt := fun b o e q => by
   refine o1_2 (List.mem_map.mp q) fun p hp zq2 => ?_
   subst zq2
   rw [hr p hp] at e; cases e
  have sg : r.StaysIn (hideAll s.heap (adrs mt)) := fun b o e => hideAll_get _ (st b o e) (nr b o e)
 k_with "x127" =>
  have W := Walks.dictKeys (prog := thePr) (w := w) (knd := strKind thePr w) hh s.heap.objs.size d (Nat.ne_of_lt hdl) kvs ep
  have ex := fresh_hide (h' := s.heap.push { cls := .type "dict_keyiterator", data := .fields #[.ref d, .int 0 0, .int kvs.length 0, .int ep 0] }) F N rfl (fun b o e => Heap.get?_push_of_some _ e)
 k_with "x128" =>
  refine o2_2 (id hvg) fun hs sh' hx hd => ?_
 k_with "x129" =>
  k_extra "x252"
  k_extra "x189"
  have hvg := hv.mono Sr
  have hilg := IsList.mono hil Sr'
 k_with "x130" =>
  k_steps
  k_extra "x156"
  unfold Stop
  refine iter_rangeUnr (n := 1) rfl R₃ (small_one (by omega) (by omega) (by omega) (by omega)) (by rw [rangeSize_nat]; omega) F₃ N₃ ?_
  intro I' lI
  k_lt lI
  k_extra "x86"
 k_with "x131" =>
  k_extra "x107"
  exact ⟨News.get Nz (by tb_rel), rowNew Sg Nz (.head _) (mem_at 1 rfl) (off1 (by k_ne)) (off1 (by k_ne)) (by k_ne)
   (fun p hp => ⟨mcm _ (mcm _ (mcm _ (mcm _ hp))), off1 (hoff p hp _ (mem_at 3 rfl)), hoff p hp _ (mem_at 1 rfl), hoff p hp _ (.head _)⟩) hrow⟩
 k_with "x132" =>
  refine o0_2 (hid_of e) fun e1 n1 => ?_
  refine o0_2 (hid_of e1) fun e2 n2 => ?_
  refine cov_ledger F'.keep b o (hideAll_get _ e2 fun q => ?_)
  k_extra "x186"
  ·exact n2 (q ▸ .head _)
  ·k_extra "x237"
 k_with "x133" =>
  refine codeAny_call_def (fd := fnOf name qual params body scope dV kV doc pm an cdv ct) (body := body) (binds := binds) (by have := rm.d; show d < 1000; omega) (Xs _ _ ho) rfl (T.nolimit.keeps st) (codeRec_of Xs hcd) rfl hbind hcell hloc (fun h₁ hns hk₁ => ?_) hco hgen hk
 k_with "x134" =>
  let J2 : Nat → Value → Value → Prop := fun i v1 v2 => ∃ nm tn f tf, v1 = .str nm tn ∧ v2 = .int f tf ∧ ps[i]? = some (nm, f)
 k_with "x135" =>
  refine o2_4 hp fun c extra zq2 em ee ht => ?_
  clear hp
  subst zq2
 k_with "x136" =>
  have Sr := stay_hid F N S (on2 m1 m2)
  have S0 := stay_hid F N (fun _ _ e => e) (on2 m1 m2)
 k_with "x137" =>
  refine o7_5 (id heg) fun de qe kt nt pa lk ol he1 he2 he3 llo hld => ?_
 k_with "x138" =>
  case hl => decide
  k_extra "x87"
  refine ⟨_, _, _, _, News.get Nz (by tb_rel), ⟨News.get Nz (by tb_rel), by assumption, G.fresh⟩, News.get Nz (by tb_rel), set_close Sg Nz (all_app ?hs ?hs2) (off_app ?off ?off2) fN (ht.absorb ?offx)⟩
 k_with "x139" =>
  case hl => decide
  k_extra "x87"
  refine ⟨_, _, _, _, News.get Nz (by tb_rel), ⟨News.get Nz (by tb_rel), by assumption, G.up⟩, News.get Nz (by tb_rel), set_close Sg Nz (all_app ?hs ?hs2) (off_app ?off ?off2) fN (ht.absorb ?offx)⟩
 k_with "x140" =>
  k_extra "x213"
  case f1 => exact fresh_mt Sg Nz (by tb_rel) (off2 (by k_ne) (by k_ne))
  case f2 => exact fresh_mt Sg Nz (by tb_rel) (off2 (by k_ne) (by k_ne))
 k_with "x141" =>
  k_extra "x189"
  k_extra "x221"
 k_with "x142" =>
  w_on
  refine' does_def (mt := []) (binds := [("self", Value.ref v)]) X T st ?hm ?hr ?ho ?hcd ?hbind ?hloc ?_ ?hco ?hgen ?hk ?hcell ?hl
  k_extra "x220"
  have hilg := IsList.mono hil (Sall Sg)
 k_with "x143" =>
  k_extra "x198"
  case hloc => exact locs rfl
  k_extra "x242"
  case hcell => decide
 k_with "x144" =>
  w_on
  refine' does_def (mt := []) (binds := [("v", Value.ref v), ("ix", Value.ref ix), ("value", Value.ref val), ("notes", Value.ref nl)]) X T st ?hm ?hr ?ho ?hcd ?hbind ?hloc ?_ ?hco ?hgen ?hk ?hcell ?hl
  k_extra "x85"
 k_with "x145" =>
  have ex := fresh_hide (h' := s.heap.push { cls := .type "list_iterator", data := .fields #[.ref l, .int 0 0] }) F N rfl (fun b o e => Heap.get?_push_of_some _ e)
  have hsz : items.toArray.size = items.length := by simp
 k_with "x146" =>
  k_extra "x86"
  k_extra "x210"
  exact ⟨rfl, _, News.get Nz (by tb_rel), d₂⟩
 k_with "x147" =>
  k_extra "x213"
  case f1 => exact fresh_mt Sg Nz (by tb_rel) (off1 (by k_ne))
  case f2 => exact fresh_mt Sg Nz (by tb_rel) (off1 (by k_ne))
 k_with "x148" =>
  w_on
  refine' does_def (mt := []) (binds := [("v", Value.ref x)]) X T st ?hm ?hr ?ho ?hcd ?hbind ?hloc ?_ ?hco ?hgen ?hk ?hcell ?hl
  k_extra "x240"
 k_with "x149" =>
  k_steps
  all_goals unfold Stop
 k_with "x150" =>
  have hixg := hix.mono Sr
  have hxlg := IsList.mono hxl Sr
 k_with "x151" =>
  k_extra "x93"
  case hm => exact fcons hdI (fcons hdv fN)
  case hr => exact fcons hrI (fcons hrv fN)
 k_with "x152" =>
  k_extra "x199"
  ·k_extra "x254"
  ·k_extra "x160"
 k_with "x153" =>
  have m1 := upd_in U
  have S0 := stay_hid F N (fun _ _ e => e) (on1 m1)
 k_with "x154" =>
  refine o7_5 (id Eg) fun de qe kt nt pa lk ol he1 he2 he3 llo hld => ?_
 k_with "x155" =>
  refine o2_2 (id hixg) fun hs2 sh2 hx2 hd2 => ?_
 k_with "x156" =>
  rename IsRange _ _ _ _ _ _ _ _ => R₃
  rename Fr _ _ _ _ => F₃
  rename News _ _ _ _ => N₃
 k_with "x157" =>
  w_on
  refine' does_def (mt := []) (binds := [("env", Value.ref e), ("name", Value.str y ty)]) X T st ?hm ?hr ?ho ?hcd ?hbind ?hloc ?_ ?hco ?hgen ?hk ?hcell ?hl
  k_extra "x85"
 k_with "x158" =>
  k_extra "x95"
  have S2 : r'.StaysIn (hideAll s.heap [dval]) := fun _ _ e => Sr _ _ (Sr' _ _ e)
 k_with "x159" =>
  have hS1g := hS1.mono Sr
  have hS2g := hS2.mono Sr
  have hS3g := hS3.mono Sr
  k_extra "x105"
 k_with "x160" =>
  refine o0_3 (mem_ledger hp) fun a b c => ?_
  exact ⟨a, fun e => b (e ▸ .head _), c⟩
 k_with "x161" =>
  cases f with
  | ret v => exact LoopStepV.ret ht
  | brk => exact LoopStepV.brk ht
  | next => exact LoopStepV.next (next ht)
  | cont => exact LoopStepV.cont (next ht)
 k_with "x162" =>
  k_extra "x93"
  case hm => exact fcons hf fN
  case hr => exact fcons hrf fN
  k_extra "x84"
 k_with "x163" =>
  k_extra "x219"
  k_extra "x94"
  have hFg := Sr _ _ hF
  have hBg := hB.mono Sr
  have hBFg := Sr _ _ hBF
 k_with "x164" =>
  k_extra "x85"
  have hlg : g.IsList l vs.toArray := let ⟨o, ho, q⟩ := hl; ⟨o, Sg _ _ ho nmn, q⟩
  have hvl : vs.length ≤ 1000 := hz.length ▸ hlen
 k_with "x165" =>
  refine o1_1 (pairs_reads (hp0.mono F.keep)) fun as ha => ?_
  refine o1_3 he fun o h1 h2 zr => ?_
  clear he
  refine o1_1 zr fun n h3 => ?_
  clear zr
 k_with "x166" =>
  k_extra "x128"
  k_extra "x86"
  k_extra "x230"
  rename (_ == sysModules) = false => lo'
 k_with "x167" =>
  ·k_extra "x171"
 k_with "x168" =>
  have hag := AttsAt.mono ha (Sall Sg)
  have hilg := IsList.mono hil (Sall Sg)
 k_with "x169" =>
  refine ⟨mtO, a, b, fun p hp q => ?_, fun h tk own F₁ N₁ off C => go h tk own F₁ N₁ off C⟩
  k_extra "x186"
  ·exact q
 k_with "x170" =>
  ·intro b hb
   rw [ms1 hb]
   exact next_is_new F
  ·k_extra "x208"
 k_with "x171" =>
  show IsRangeIter _ _ _ _ _
  rw [hn]; simpa using Heap.get?_push_size _ rfl
 k_with "x172" =>
  rcases mc1 hm with q | q
  ·k_extra "x222"
 k_with "x173" =>
  refine o0_2 hp fun zq0 e1 => ?_
  clear hp
  subst zq0
  exact k h' tk' (hk'.fr F N (on1 m1)) (led1 (mt := []) N U hk'.all e1)
 k_with "x174" =>
  clear hp
  refine o4_5 zr fun a b o o2 n1 n2 g1 g2' ht => ?_
  clear zr
  refine o1_2 (id ht) fun c zq1 hT => ?_
  subst zq1
 k_with "x175" =>
  refine o2_2 (id hvg) fun hs sh hx hd => ?_
 k_with "x176" =>
  refine o4_2 (hS.mono Sr) fun ds qs ks ts hs1 hs2 => ?_
  k_extra "x86"
 k_with "x177" =>
  have halg := IsList.mono hal Sr
  have h0g := IsTup.keeps h0 Sr
  have h1g := IsTup.keeps h1 Sr
  have h2g := IsTup.keeps h2 Sr
 k_with "x178" =>
  clear hp
  refine o4_5 zr fun a c o o2 n1 n2 g3 g4 zr => ?_
  refine o1_2 zr fun x zq1 tell => ?_
  clear zr
  subst zq1
 k_with "x179" =>
  case off => exact off_cons (hoff.ne (by tb_rel)) (off_cons (hoff.ne (by tb_rel)) (off_cons (hoff.ne (by tb_rel)) (off_nil)))
 k_with "x180" =>
  k_extra "x243"
  exact k _ _ ⟨_, _, _, _, _, _, _, _, _, _⟩ _ _ (by k_asm) (by k_asm) (by k_asm) (by k_asm)
 k_with "x181" =>
  have hidsg := IsList.mono hids (Sall Sg)
  have hxlg := IsList.mono hxl (Sall Sg)
  have hixg := VecAt.mono hix (Sall Sg)
 k_with "x182" =>
  refine o0_3 hp fun e1 e2 zr => ?_
  clear hp
  refine o2_4 zr fun c extra zq2 em ee ht => ?_
  clear zr
  subst zq2
 k_with "x183" =>
  have hki : (k : Int) < (items.length : Int) := Int.ofNat_lt.mpr hk
 k_with "x184" =>
  ·k_extra "x187"
 k_with "x185" =>
  case hs => intro p hp; repeat (first | exact hp | refine mcm _ ?_)
 k_with "x186" =>
  rcases mc1 q with q | q
 k_with "x187" =>
  refine o0_2 st fun zq0 _ => ?_
  clear st
  refine o1_3 zq0 fun o ho hc _ => ?_
  clear zq0
  exact ⟨o, ho, hc⟩
 k_with "x188" =>
  intro h' tk m' news' F' N' off' hJ
  refine o1_3 (done m' _ (out _ _ _ _ hJ F' N' off')) fun mtO hm hn go => ?_
 k_with "x189" =>
  have S : g.StaysIn g := fun _ _ e => e
 k_with "x190" =>
  let JL : Nat → LocMap → List (Addr × Obj) → Prop := fun i m news => ∃ H, J i m H ∧ Cov H h₀ news
 k_with "x191" =>
  refine h₂ _ fun I fp n P St Bd J e W hsz hIo fpb hfp hIL hI0 hst F mono h0 bind turn done => ?_
  subst e
 k_with "x192" =>
  refine o1_1 S fun D S => ?_
 k_with "x193" =>
  have hFg := Sr _ _ hF
  have hvg := Sr _ _ hv
 k_with "x194" =>
  k_extra "x90"
  k_extra "x116"
  have haog := Sr' _ _ hao
  k_extra "x223"
  have hz := hN.small
 k_with "x195" =>
  exact k c a b o o2 h' tk' F' (news_new F (news_new F N' n2 g2') n1 g1) (ne_news N n1) (ne_news N n2) ht
 k_with "x196" =>
  have hS1g := hS1.mono Sr
  have hS2g := hS2.mono Sr
  k_extra "x105"
  rename Tells2 _ _ _ _ _ _ _ => ht
 k_with "x197" =>
  have heg := he.mono (Sall Sg)
  have hfg := Sall Sg _ _ hf
 k_with "x198" =>
  case hbind => first | exact BindsTo.of_eq rfl | exact binds_K (X.keeps st) rfl (by k_is) rfl rfl rfl
 k_with "x199" =>
  rcases ma1 hp with hp | hp
 k_with "x200" =>
  k_extra "x85"
  k_extra "x149"
  exact rfl
 k_with "x201" =>
  rw [← hg] at hm
  k_extra "x128"
 k_with "x202" =>
  refine o3_2 F.ns fun oL _ _ hoL _ => ?_
 k_with "x203" =>
  k_extra "x86"
  rename SetTell _ _ _ _ _ _ _ _ => ht
 k_with "x204" =>
  intro i v m H hi hz1 hJ
  refine o1_1 hz1 fun t zq1 => ?_
  clear hz1
  subst zq1
 k_with "x205" =>
  k_extra "x85"
  have hvg := VecAt.mono hv (Sall Sg)
 k_with "x206" =>
  refine o4_3 (ValAt.mono (o := none) hval Sr) fun c' dx nh nt e hn1 hn2 => ?_
  cases e
 k_with "x207" =>
  rcases H with H | ⟨dx, hs, tk, il, at_, ex, h1, h2, ne, he, row⟩
  ·exact .inl H
 k_with "x208" =>
  intro p hp q
  exact absurd (Heap.lt_size (N p hp).1) ((ms1 q) ▸ Nat.lt_irrefl _)
 k_with "x209" =>
  exact ⟨mtO, a, b, fun h tk own F₁ N₁ off C => go h tk own F₁ N₁ off C⟩
 k_with "x210" =>
  rename (Obj.IsDictOf _ _ (stored _ _ _)) => d₂
 k_with "x211" =>
  show wpAny _ _ _ (fun v s' => Stop (Q v s')) E s
 k_with "x212" =>
  k_extra "x86"
  rename Tells2 _ _ _ _ _ _ _ => ht
 k_with "x213" =>
  case g1 => exact News.get Nz (by tb_rel)
  case g2 => exact News.get Nz (by tb_rel)
 k_with "x214" =>
  have hlg := IsList.mono hl (Sall Sg)
 k_with "x215" =>
  all_goals first | assumption | omega | exact ltIn58 (by assumption) (by tb_rel)
 k_with "x216" =>
  refine o2_2 hv fun hs sh hx hd => ?_
  clear hv
 k_with "x217" =>
  unfold SeqAt.shaped
  rw [Bool.and_eq_true]
  refine ⟨i1, decide_eq_true ?_⟩
 k_with "x218" =>
  k_extra "x84"
  k_extra "x141"
  have hFg := Sr _ _ hF
  have hBg := hB.mono Sr
 k_with "x219" =>
  k_extra "x93"
  case hm => exact fcons hdI fN
  case hr => exact fcons hrI fN
 k_with "x220" =>
  k_extra "x85"
  have hvg := hv.mono (Sall Sg)
 k_with "x221" =>
  have Eg := hE.mono Sr
  have hIg := Sr _ _ hI
 k_with "x222" =>
  exact absurd F.ns.lt (q ▸ Nat.lt_irrefl _)
 k_with "x223" =>
  have hvalg := Sr' _ _ hval
 k_with "x224" =>
  unfold hits
  rw [List.zipIdx_append, List.filter_append, List.map_append]
 k_with "x225" =>
  have rm1 : Rm 1 (d + 1) (u + 3) := Rm.g (i := 1) (j := 3) rm rfl
  k_steps
 k_with "x226" =>
  have F' := hk'.fr F N (on1 m1)
  have N' := led1 (mt := []) N U hk'.all e1
 k_with "x227" =>
  intro i v m H hi hz1 hJ
  refine o2_2 hz1 fun k u hku hkv => ?_
  clear hz1
 k_with "x228" =>
  clear hp
  refine o1_2 zr fun o' e3 hd' => ?_
  clear zr
  subst zq0
 k_with "x229" =>
  have hlen : kvs.length ≤ 900 := Nat.le_trans G.len hn9
  k_extra "x154"
 k_with "x230" =>
  rename Obj.IsDictOf (strKind thePr w) _ [("names", Value.ref _)] => hod
 k_with "x231" =>
  ·k_extra "x239"
 k_with "x232" =>
  refine o7_5 (id hBg) fun de qe kt nt pa lk ol he1 he2 he3 llo hld => ?_
 k_with "x233" =>
  ·k_extra "x241"
 k_with "x234" =>
  case mono => rintro i ys a b q _; exact q
  case h0 => intro H _ _; rfl
 k_with "x235" =>
  intro q
  k_extra "x186"
  ·exact absurd hLlt (q ▸ Nat.lt_irrefl _)
 k_with "x236" =>
  have h1 := congrArg List.length e2
  simp only [List.length_map] at h1
 k_with "x237" =>
  k_extra "x186"
  ·exact n2 (q ▸ .tail _ (.head _))
  ·exact n1 q
 k_with "x238" =>
  refine o0_2 hp fun zq0 zr => ?_
  clear hp
 k_with "x239" =>
  exact ⟨⟨_, Heap.get?_push_size _ rfl, rfl, rfl⟩, hat.push _⟩
 k_with "x240" =>
  k_extra "x85"
  have hxg := Sg _ _ hx nmn
  have hdg := Sg _ _ hd nmn
 k_with "x241" =>
  exact ⟨⟨_, Heap.get?_push_size _ rfl, rfl, rfl⟩, hl.push _⟩
 k_with "x242" =>
  case hco => exact rfl
  case hgen => exact rfl
  case hk => exact rfl
 k_with "x243" =>
  k_extra "x103"
  unfold Stop
 k_with "x244" =>
  refine o2_5 hrow fun items onm hil ha hN hIt hnm => ?_
  clear hrow
 k_with "x245" =>
  have hz2 : (onm.getD []).length ≤ 1000 := hN.len ▸ hN.small
 k_with "x246" =>
  refine o0_2 hz1 fun hM zq1 => ?_
  clear hz1
  subst zq1
 k_with "x247" =>
  k_extra "x98"
  k_extra "x116"
  k_extra "x223"
  k_extra "x112"
 k_with "x248" =>
  ·exact ⟨ho, (N _ (upd_in U)).2⟩
 k_with "x249" =>
  unfold Stop
  have hvx : vs.length = xs.length := hz.length
 k_with "x250" =>
  rename News _ _ _ _ => Nz
 k_with "x251" =>
  induction h with
  | nil => rfl
  | cons _ _ ih => simp [ih]
 k_with "x252" =>
  have Sr' : r'.StaysIn g := fun _ _ e => Sr _ _ (hr' _ _ e)
 k_with "x253" =>
  k_steps
  unfold Stop
 k_with "x254" =>
  exact ⟨(hid_of (hm p hp)).1, (mo' p hp).1, hm0 p hp⟩
 k_with "x255" =>
  k_extra "x176"
  exact ⟨rfl, News.get Nz (by tb_rel)⟩
 k_with "x256" =>
  have hilg := IsList.mono hil Sr
  have hag := ha.mono Sr
 k_with "x257" =>
  have hne : ∀ x ∈ xs, x ≠ Str.ofString "" := hN.ne
 k_with "x258" =>
  k_extra "x93"
  case hm => exact fN
  case hr => exact fN
 trivial
section
theorem o0_2{P0 P1:Prop}{R:Prop}(h:P0∧P1)(k:P0→P1→R):R:=k h.1 h.2
theorem o0_3{P0 P1 P2:Prop}{R:Prop}(h:P0∧P1∧P2)(k:P0→P1→P2→R):R:=k h.1 h.2.1 h.2.2
theorem o0_4{P0 P1 P2 P3:Prop}{R:Prop}(h:P0∧P1∧P2∧P3)(k:P0→P1→P2→P3→R):R:=k h.1 h.2.1 h.2.2.1 h.2.2.2
theorem o0_5{P0 P1 P2 P3 P4:Prop}{R:Prop}(h:P0∧P1∧P2∧P3∧P4)(k:P0→P1→P2→P3→P4→R):R:=k h.1 h.2.1 h.2.2.1 h.2.2.2.1 h.2.2.2.2
theorem o0_6{P0 P1 P2 P3 P4 P5:Prop}{R:Prop}(h:P0∧P1∧P2∧P3∧P4∧P5)(k:P0→P1→P2→P3→P4→P5→R):R:=k h.1 h.2.1 h.2.2.1 h.2.2.2.1 h.2.2.2.2.1 h.2.2.2.2.2
theorem o0_7{P0 P1 P2 P3 P4 P5 P6:Prop}{R:Prop}(h:P0∧P1∧P2∧P3∧P4∧P5∧P6)(k:P0→P1→P2→P3→P4→P5→P6→R):R:=k h.1 h.2.1 h.2.2.1 h.2.2.2.1 h.2.2.2.2.1 h.2.2.2.2.2.1 h.2.2.2.2.2.2
theorem o1_1{A0:Type}{P0:A0→Prop}{R:Prop}(h:∃x,P0 x)(k:∀x,P0 x→R):R:=h.elim fun x h=>k x h
theorem o1_2{A0:Type}{P0 P1:A0→Prop}{R:Prop}(h:∃x,P0 x∧P1 x)(k:∀x,P0 x→P1 x→R):R:=h.elim fun x h=>k x h.1 h.2
theorem o1_3{A0:Type}{P0 P1 P2:A0→Prop}{R:Prop}(h:∃x,P0 x∧P1 x∧P2 x)(k:∀x,P0 x→P1 x→P2 x→R):R:=h.elim fun x h=>k x h.1 h.2.1 h.2.2
theorem o1_4{A0:Type}{P0 P1 P2 P3:A0→Prop}{R:Prop}(h:∃x,P0 x∧P1 x∧P2 x∧P3 x)(k:∀x,P0 x→P1 x→P2 x→P3 x→R):R:=h.elim fun x h=>k x h.1 h.2.1 h.2.2.1 h.2.2.2
theorem o1_12{A0:Type}{P0 P1 P2 P3 P4 P5 P6 P7 P8 P9 P10 P11:A0→Prop}{R:Prop}(h:∃x,P0 x∧P1 x∧P2 x∧P3 x∧P4 x∧P5 x∧P6 x∧P7 x∧P8 x∧P9 x∧P10 x∧P11 x)(k:∀x,P0 x→P1 x→P2 x→P3 x→P4 x→P5 x→P6 x→P7 x→P8 x→P9 x→P10 x→P11 x→R):R:=h.elim fun x h=>k x h.1 h.2.1 h.2.2.1 h.2.2.2.1 h.2.2.2.2.1 h.2.2.2.2.2.1 h.2.2.2.2.2.2.1 h.2.2.2.2.2.2.2.1 h.2.2.2.2.2.2.2.2.1 h.2.2.2.2.2.2.2.2.2.1 h.2.2.2.2.2.2.2.2.2.2.1 h.2.2.2.2.2.2.2.2.2.2.2
theorem o2_1{A0 A1:Type}{P0:A0→A1→Prop}{R:Prop}(h:∃x y,P0 x y)(k:∀x y,P0 x y→R):R:=h.elim fun x h=>h.elim fun y h=>k x y h
theorem o2_2{A0 A1:Type}{P0 P1:A0→A1→Prop}{R:Prop}(h:∃x y,P0 x y∧P1 x y)(k:∀x y,P0 x y→P1 x y→R):R:=h.elim fun x h=>h.elim fun y h=>k x y h.1 h.2
theorem o2_3{A0 A1:Type}{P0 P1 P2:A0→A1→Prop}{R:Prop}(h:∃x y,P0 x y∧P1 x y∧P2 x y)(k:∀x y,P0 x y→P1 x y→P2 x y→R):R:=h.elim fun x h=>h.elim fun y h=>k x y h.1 h.2.1 h.2.2
theorem o2_4{A0 A1:Type}{P0 P1 P2 P3:A0→A1→Prop}{R:Prop}(h:∃x y,P0 x y∧P1 x y∧P2 x y∧P3 x y)(k:∀x y,P0 x y→P1 x y→P2 x y→P3 x y→R):R:=h.elim fun x h=>h.elim fun y h=>k x y h.1 h.2.1 h.2.2.1 h.2.2.2
theorem o2_5{A0 A1:Type}{P0 P1 P2 P3 P4:A0→A1→Prop}{R:Prop}(h:∃x y,P0 x y∧P1 x y∧P2 x y∧P3 x y∧P4 x y)(k:∀x y,P0 x y→P1 x y→P2 x y→P3 x y→P4 x y→R):R:=h.elim fun x h=>h.elim fun y h=>k x y h.1 h.2.1 h.2.2.1 h.2.2.2.1 h.2.2.2.2
theorem o2_6{A0 A1:Type}{P0 P1 P2 P3 P4 P5:A0→A1→Prop}{R:Prop}(h:∃x y,P0 x y∧P1 x y∧P2 x y∧P3 x y∧P4 x y∧P5 x y)(k:∀x y,P0 x y→P1 x y→P2 x y→P3 x y→P4 x y→P5 x y→R):R:=h.elim fun x h=>h.elim fun y h=>k x y h.1 h.2.1 h.2.2.1 h.2.2.2.1 h.2.2.2.2.1 h.2.2.2.2.2
theorem o2_12{A0 A1:Type}{P0 P1 P2 P3 P4 P5 P6 P7 P8 P9 P10 P11:A0→A1→Prop}{R:Prop}(h:∃x y,P0 x y∧P1 x y∧P2 x y∧P3 x y∧P4 x y∧P5 x y∧P6 x y∧P7 x y∧P8 x y∧P9 x y∧P10 x y∧P11 x y)(k:∀x y,P0 x y→P1 x y→P2 x y→P3 x y→P4 x y→P5 x y→P6 x y→P7 x y→P8 x y→P9 x y→P10 x y→P11 x y→R):R:=h.elim fun x h=>h.elim fun y h=>k x y h.1 h.2.1 h.2.2.1 h.2.2.2.1 h.2.2.2.2.1 h.2.2.2.2.2.1 h.2.2.2.2.2.2.1 h.2.2.2.2.2.2.2.1 h.2.2.2.2.2.2.2.2.1 h.2.2.2.2.2.2.2.2.2.1 h.2.2.2.2.2.2.2.2.2.2.1 h.2.2.2.2.2.2.2.2.2.2.2
theorem o3_2{A0 A1 A2:Type}{P0 P1:A0→A1→A2→Prop}{R:Prop}(h:∃x y z,P0 x y z∧P1 x y z)(k:∀x y z,P0 x y z→P1 x y z→R):R:=h.elim fun x h=>h.elim fun y h=>h.elim fun z h=>k x y z h.1 h.2
theorem o3_3{A0 A1 A2:Type}{P0 P1 P2:A0→A1→A2→Prop}{R:Prop}(h:∃x y z,P0 x y z∧P1 x y z∧P2 x y z)(k:∀x y z,P0 x y z→P1 x y z→P2 x y z→R):R:=h.elim fun x h=>h.elim fun y h=>h.elim fun z h=>k x y z h.1 h.2.1 h.2.2
theorem o3_4{A0 A1 A2:Type}{P0 P1 P2 P3:A0→A1→A2→Prop}{R:Prop}(h:∃x y z,P0 x y z∧P1 x y z∧P2 x y z∧P3 x y z)(k:∀x y z,P0 x y z→P1 x y z→P2 x y z→P3 x y z→R):R:=h.elim fun x h=>h.elim fun y h=>h.elim fun z h=>k x y z h.1 h.2.1 h.2.2.1 h.2.2.2
theorem o3_5{A0 A1 A2:Type}{P0 P1 P2 P3 P4:A0→A1→A2→Prop}{R:Prop}(h:∃x y z,P0 x y z∧P1 x y z∧P2 x y z∧P3 x y z∧P4 x y z)(k:∀x y z,P0 x y z→P1 x y z→P2 x y z→P3 x y z→P4 x y z→R):R:=h.elim fun x h=>h.elim fun y h=>h.elim fun z h=>k x y z h.1 h.2.1 h.2.2.1 h.2.2.2.1 h.2.2.2.2
theorem o3_6{A0 A1 A2:Type}{P0 P1 P2 P3 P4 P5:A0→A1→A2→Prop}{R:Prop}(h:∃x y z,P0 x y z∧P1 x y z∧P2 x y z∧P3 x y z∧P4 x y z∧P5 x y z)(k:∀x y z,P0 x y z→P1 x y z→P2 x y z→P3 x y z→P4 x y z→P5 x y z→R):R:=h.elim fun x h=>h.elim fun y h=>h.elim fun z h=>k x y z h.1 h.2.1 h.2.2.1 h.2.2.2.1 h.2.2.2.2.1 h.2.2.2.2.2
theorem o4_2{A0 A1 A2 A3:Type}{P0 P1:A0→A1→A2→A3→Prop}{R:Prop}(h:∃x y z a,P0 x y z a∧P1 x y z a)(k:∀x y z a,P0 x y z a→P1 x y z a→R):R:=h.elim fun x h=>h.elim fun y h=>h.elim fun z h=>h.elim fun a h=>k x y z a h.1 h.2
theorem o4_3{A0 A1 A2 A3:Type}{P0 P1 P2:A0→A1→A2→A3→Prop}{R:Prop}(h:∃x y z a,P0 x y z a∧P1 x y z a∧P2 x y z a)(k:∀x y z a,P0 x y z a→P1 x y z a→P2 x y z a→R):R:=h.elim fun x h=>h.elim fun y h=>h.elim fun z h=>h.elim fun a h=>k x y z a h.1 h.2.1 h.2.2
theorem o4_4{A0 A1 A2 A3:Type}{P0 P1 P2 P3:A0→A1→A2→A3→Prop}{R:Prop}(h:∃x y z a,P0 x y z a∧P1 x y z a∧P2 x y z a∧P3 x y z a)(k:∀x y z a,P0 x y z a→P1 x y z a→P2 x y z a→P3 x y z a→R):R:=h.elim fun x h=>h.elim fun y h=>h.elim fun z h=>h.elim fun a h=>k x y z a h.1 h.2.1 h.2.2.1 h.2.2.2
theorem o4_5{A0 A1 A2 A3:Type}{P0 P1 P2 P3 P4:A0→A1→A2→A3→Prop}{R:Prop}(h:∃x y z a,P0 x y z a∧P1 x y z a∧P2 x y z a∧P3 x y z a∧P4 x y z a)(k:∀x y z a,P0 x y z a→P1 x y z a→P2 x y z a→P3 x y z a→P4 x y z a→R):R:=h.elim fun x h=>h.elim fun y h=>h.elim fun z h=>h.elim fun a h=>k x y z a h.1 h.2.1 h.2.2.1 h.2.2.2.1 h.2.2.2.2
theorem o4_7{A0 A1 A2 A3:Type}{P0 P1 P2 P3 P4 P5 P6:A0→A1→A2→A3→Prop}{R:Prop}(h:∃x y z a,P0 x y z a∧P1 x y z a∧P2 x y z a∧P3 x y z a∧P4 x y z a∧P5 x y z a∧P6 x y z a)(k:∀x y z a,P0 x y z a→P1 x y z a→P2 x y z a→P3 x y z a→P4 x y z a→P5 x y z a→P6 x y z a→R):R:=h.elim fun x h=>h.elim fun y h=>h.elim fun z h=>h.elim fun a h=>k x y z a h.1 h.2.1 h.2.2.1 h.2.2.2.1 h.2.2.2.2.1 h.2.2.2.2.2.1 h.2.2.2.2.2.2
theorem o5_2{A0 A1 A2 A3 A4:Type}{P0 P1:A0→A1→A2→A3→A4→Prop}{R:Prop}(h:∃x y z a b,P0 x y z a b∧P1 x y z a b)(k:∀x y z a b,P0 x y z a b→P1 x y z a b→R):R:=h.elim fun x h=>h.elim fun y h=>h.elim fun z h=>h.elim fun a h=>h.elim fun b h=>k x y z a b h.1 h.2
theorem o5_3{A0 A1 A2 A3 A4:Type}{P0 P1 P2:A0→A1→A2→A3→A4→Prop}{R:Prop}(h:∃x y z a b,P0 x y z a b∧P1 x y z a b∧P2 x y z a b)(k:∀x y z a b,P0 x y z a b→P1 x y z a b→P2 x y z a b→R):R:=h.elim fun x h=>h.elim fun y h=>h.elim fun z h=>h.elim fun a h=>h.elim fun b h=>k x y z a b h.1 h.2.1 h.2.2
theorem o5_6{A0 A1 A2 A3 A4:Type}{P0 P1 P2 P3 P4 P5:A0→A1→A2→A3→A4→Prop}{R:Prop}(h:∃x y z a b,P0 x y z a b∧P1 x y z a b∧P2 x y z a b∧P3 x y z a b∧P4 x y z a b∧P5 x y z a b)(k:∀x y z a b,P0 x y z a b→P1 x y z a b→P2 x y z a b→P3 x y z a b→P4 x y z a b→P5 x y z a b→R):R:=h.elim fun x h=>h.elim fun y h=>h.elim fun z h=>h.elim fun a h=>h.elim fun b h=>k x y z a b h.1 h.2.1 h.2.2.1 h.2.2.2.1 h.2.2.2.2.1 h.2.2.2.2.2
theorem o5_9{A0 A1 A2 A3 A4:Type}{P0 P1 P2 P3 P4 P5 P6 P7 P8:A0→A1→A2→A3→A4→Prop}{R:Prop}(h:∃x y z a b,P0 x y z a b∧P1 x y z a b∧P2 x y z a b∧P3 x y z a b∧P4 x y z a b∧P5 x y z a b∧P6 x y z a b∧P7 x y z a b∧P8 x y z a b)(k:∀x y z a b,P0 x y z a b→P1 x y z a b→P2 x y z a b→P3 x y z a b→P4 x y z a b→P5 x y z a b→P6 x y z a b→P7 x y z a b→P8 x y z a b→R):R:=h.elim fun x h=>h.elim fun y h=>h.elim fun z h=>h.elim fun a h=>h.elim fun b h=>k x y z a b h.1 h.2.1 h.2.2.1 h.2.2.2.1 h.2.2.2.2.1 h.2.2.2.2.2.1 h.2.2.2.2.2.2.1 h.2.2.2.2.2.2.2.1 h.2.2.2.2.2.2.2.2
theorem o5_12{A0 A1 A2 A3 A4:Type}{P0 P1 P2 P3 P4 P5 P6 P7 P8 P9 P10 P11:A0→A1→A2→A3→A4→Prop}{R:Prop}(h:∃x y z a b,P0 x y z a b∧P1 x y z a b∧P2 x y z a b∧P3 x y z a b∧P4 x y z a b∧P5 x y z a b∧P6 x y z a b∧P7 x y z a b∧P8 x y z a b∧P9 x y z a b∧P10 x y z a b∧P11 x y z a b)(k:∀x y z a b,P0 x y z a b→P1 x y z a b→P2 x y z a b→P3 x y z a b→P4 x y z a b→P5 x y z a b→P6 x y z a b→P7 x y z a b→P8 x y z a b→P9 x y z a b→P10 x y z a b→P11 x y z a b→R):R:=h.elim fun x h=>h.elim fun y h=>h.elim fun z h=>h.elim fun a h=>h.elim fun b h=>k x y z a b h.1 h.2.1 h.2.2.1 h.2.2.2.1 h.2.2.2.2.1 h.2.2.2.2.2.1 h.2.2.2.2.2.2.1 h.2.2.2.2.2.2.2.1 h.2.2.2.2.2.2.2.2.1 h.2.2.2.2.2.2.2.2.2.1 h.2.2.2.2.2.2.2.2.2.2.1 h.2.2.2.2.2.2.2.2.2.2.2
theorem o6_7{A0 A1 A2 A3 A4 A5:Type}{P0 P1 P2 P3 P4 P5 P6:A0→A1→A2→A3→A4→A5→Prop}{R:Prop}(h:∃x y z a b c,P0 x y z a b c∧P1 x y z a b c∧P2 x y z a b c∧P3 x y z a b c∧P4 x y z a b c∧P5 x y z a b c∧P6 x y z a b c)(k:∀x y z a b c,P0 x y z a b c→P1 x y z a b c→P2 x y z a b c→P3 x y z a b c→P4 x y z a b c→P5 x y z a b c→P6 x y z a b c→R):R:=h.elim fun x h=>h.elim fun y h=>h.elim fun z h=>h.elim fun a h=>h.elim fun b h=>h.elim fun c h=>k x y z a b c h.1 h.2.1 h.2.2.1 h.2.2.2.1 h.2.2.2.2.1 h.2.2.2.2.2.1 h.2.2.2.2.2.2
theorem o7_3{A0 A1 A2 A3 A4 A5 A6:Type}{P0 P1 P2:A0→A1→A2→A3→A4→A5→A6→Prop}{R:Prop}(h:∃x y z a b c d,P0 x y z a b c d∧P1 x y z a b c d∧P2 x y z a b c d)(k:∀x y z a b c d,P0 x y z a b c d→P1 x y z a b c d→P2 x y z a b c d→R):R:=h.elim fun x h=>h.elim fun y h=>h.elim fun z h=>h.elim fun a h=>h.elim fun b h=>h.elim fun c h=>h.elim fun d h=>k x y z a b c d h.1 h.2.1 h.2.2
theorem o7_5{A0 A1 A2 A3 A4 A5 A6:Type}{P0 P1 P2 P3 P4:A0→A1→A2→A3→A4→A5→A6→Prop}{R:Prop}(h:∃x y z a b c d,P0 x y z a b c d∧P1 x y z a b c d∧P2 x y z a b c d∧P3 x y z a b c d∧P4 x y z a b c d)(k:∀x y z a b c d,P0 x y z a b c d→P1 x y z a b c d→P2 x y z a b c d→P3 x y z a b c d→P4 x y z a b c d→R):R:=h.elim fun x h=>h.elim fun y h=>h.elim fun z h=>h.elim fun a h=>h.elim fun b h=>h.elim fun c h=>h.elim fun d h=>k x y z a b c d h.1 h.2.1 h.2.2.1 h.2.2.2.1 h.2.2.2.2
theorem o7_6{A0 A1 A2 A3 A4 A5 A6:Type}{P0 P1 P2 P3 P4 P5:A0→A1→A2→A3→A4→A5→A6→Prop}{R:Prop}(h:∃x y z a b c d,P0 x y z a b c d∧P1 x y z a b c d∧P2 x y z a b c d∧P3 x y z a b c d∧P4 x y z a b c d∧P5 x y z a b c d)(k:∀x y z a b c d,P0 x y z a b c d→P1 x y z a b c d→P2 x y z a b c d→P3 x y z a b c d→P4 x y z a b c d→P5 x y z a b c d→R):R:=h.elim fun x h=>h.elim fun y h=>h.elim fun z h=>h.elim fun a h=>h.elim fun b h=>h.elim fun c h=>h.elim fun d h=>k x y z a b c d h.1 h.2.1 h.2.2.1 h.2.2.2.1 h.2.2.2.2.1 h.2.2.2.2.2
theorem o7_8{A0 A1 A2 A3 A4 A5 A6:Type}{P0 P1 P2 P3 P4 P5 P6 P7:A0→A1→A2→A3→A4→A5→A6→Prop}{R:Prop}(h:∃x y z a b c d,P0 x y z a b c d∧P1 x y z a b c d∧P2 x y z a b c d∧P3 x y z a b c d∧P4 x y z a b c d∧P5 x y z a b c d∧P6 x y z a b c d∧P7 x y z a b c d)(k:∀x y z a b c d,P0 x y z a b c d→P1 x y z a b c d→P2 x y z a b c d→P3 x y z a b c d→P4 x y z a b c d→P5 x y z a b c d→P6 x y z a b c d→P7 x y z a b c d→R):R:=h.elim fun x h=>h.elim fun y h=>h.elim fun z h=>h.elim fun a h=>h.elim fun b h=>h.elim fun c h=>h.elim fun d h=>k x y z a b c d h.1 h.2.1 h.2.2.1 h.2.2.2.1 h.2.2.2.2.1 h.2.2.2.2.2.1 h.2.2.2.2.2.2.1 h.2.2.2.2.2.2.2
theorem o8_1{A0 A1 A2 A3 A4 A5 A6 A7:Type}{P0:A0→A1→A2→A3→A4→A5→A6→A7→Prop}{R:Prop}(h:∃x y z a b c d e,P0 x y z a b c d e)(k:∀x y z a b c d e,P0 x y z a b c d e→R):R:=h.elim fun x h=>h.elim fun y h=>h.elim fun z h=>h.elim fun a h=>h.elim fun b h=>h.elim fun c h=>h.elim fun d h=>h.elim fun e h=>k x y z a b c d e h
abbrev thePr : Program := OpenLaw.prog PySem.Challenge.rw_pq1381_01
abbrev AA (d u : Nat) : Around := { handled := none, depth := d, frames := none, guards := none, units := u }
abbrev adrs (l : List (Addr × Obj)) : List Addr := l.map fun p => p.1
structure Rm (l d u : Nat) : Prop where
 d : d + 10 * l ≤ 900
 u : u + 100 * l ≤ 9000
theorem Rm.g {l m : Nat} (h : Rm l d u) (e : (Nat.ble (i + 10 * m) (10 * l) && Nat.ble (j + 100 * m) (100 * l)) = true) : Rm m (d + i) (u + j) := by
 refine o0_2 (Bool.and_eq_true_iff.mp e) fun e1 e2 => ?_
 have e1 := Nat.le_of_ble_eq_true e1
 have e2 := Nat.le_of_ble_eq_true e2
 have h1 := h.d
 have h2 := h.u
 exact ⟨by omega, by omega⟩
theorem Rm.r {l : Nat} (h : Rm l d u) (e : Nat.ble i 90 = true) : d + i < 1000 := by
 have e := Nat.le_of_ble_eq_true e
 have h1 := h.d
 omega
theorem fcons {α : Type} {p : α → Prop} {a : α} {l : List α} (h : p a) (t : ∀ x, x ∈ l → p x) : ∀ x, x ∈ a :: l → p x := fC.mpr ⟨h, t⟩
noncomputable def nth? {α : Type} : List α → Nat → Option α
 | [], _ => none
 | a :: _, 0 => some a
 | _ :: l, n + 1 => nth? l n
theorem mem_at {α : Type} {l : List α} {x : α} (i : Nat) (h : nth? l i = some x) : x ∈ l := by
 induction l generalizing i with
 | nil => cases h
 | cons a l ih =>
  cases i with
  | zero => cases h; exact mcs
  | succ i => exact mcm _ (ih i h)
theorem ne_of_get (x : h.get? a = some o) (y : h.get? b = none) : a ≠ b := fun e => by rw [e, y] at x; cases x
section
variable {m : Str → Option Value}
structure Keep (mt : List Addr) (h h' : Heap) : Prop where
 all : ∀ b o, h.get? b = some o → b ∉ mt → h'.get? b = some o
 dum : ∃ o, h'.get? h.objs.size = some o
theorem Sall {g : Heap} (Sg : ∀ b o, h.get? b = some o → b ∉ adrs [] → g.get? b = some o) : h.StaysIn g := fun b o e => Sg b o e nmn
theorem Keep.pure (k : Keep [] h h') : ∀ b o, h.get? b = some o → h'.get? b = some o := fun b o e => k.all b o e (nmn)
theorem Keep.fr {mt : List Addr} (k : Keep mt h h') (F : Fr h₀ L h m) (N : News h₀ L h news) (hm : ∀ a ∈ mt, a ∈ adrs news) : Fr h₀ L h' m := by
 refine o3_2 F.ns fun oL es ep hL r => ?_
 refine ⟨⟨oL, es, ep, k.all _ _ hL fun q => ?_, r⟩, fun b o e => k.all _ _ (F.keep b o e) fun q => ?_, F.above⟩
 ·refine o1_2 (List.mem_map.mp (hm _ q)) fun p hp e => ?_
  exact (N p hp).2.1 e
 ·refine o1_2 (List.mem_map.mp (hm _ q)) fun p hp e' => ?_
  have := (N p hp).2.2
  rw [e', e] at this; cases this
theorem Keep.led {mt : List Addr} (k : Keep mt h h') (N : News h₀ L h news) (hs : ∀ p ∈ news', p ∈ news ∧ p.1 ∉ mt) : News h₀ L h' news' :=
 fun p hp => ⟨k.all _ _ (N p (hs p hp).1).1 (hs p hp).2, (N p (hs p hp).1).2⟩
theorem news_new (F : Fr h₀ L h m) (N : News h₀ L h' news) (hn : h.get? a = none) (ho : h'.get? a = some o) : News h₀ L h' ((a, o) :: news) := by
 intro p hp
 rcases mc1 hp with rfl | hp
 ·refine ⟨ho, fun e => ?_, ?_⟩
  ·refine o3_2 F.ns fun oL es ep hL _ => ?_
   rw [← e, hn] at hL; cases hL
  ·cases q : h₀.get? a with
   | none => rfl
   | some o' => have := F.keep _ _ q; rw [hn] at this; cases this
 ·exact N p hp
end
def Does (w : World) (l : Nat) (f : Value) (args : Args) (mt : List Addr) (s : Shared) (P : Value → Heap → Prop) : Prop :=
 ∀ d u, Rm l d u → codeAny (model thePr w) (AA d u) (.call f args) (fun r s' => ∃ v h' tk, r = .ok (.ret v) ∧ s' = { s with heap := h', toks := tk } ∧ Keep mt s.heap h' ∧ P v h') s
theorem Does.use {l : Nat} {f : Value} {mt : List Addr} (H : Does w l f ⟨args, kw⟩ mt s P) (rm : Rm l d u) (k : ∀ v h' tk, Keep mt s.heap h' → P v h' → Q v { s with heap := h', toks := tk }) : wpAny (model thePr w) (AA d u) (call f args kw) Q E s :=
 wpAny_call (codeAny_mono (H d u rm) fun r s' ⟨v, h', tk, e1, e2, hk, hp⟩ => by subst e1; subst e2; exact k v h' tk hk hp)
theorem hide_fr {m : Str → Option Value} (hns : h₁.Ns s.heap.objs.size m) (hk : ∀ b o, s.heap.get? b = some o → h₁.get? b = some o) : Fr (hideAll s.heap (adrs mt)) s.heap.objs.size h₁ m :=
 ⟨hns, fun b o e => hk b o (of_hideAll _ e), Nat.le_of_eq (hideAll_size _ _)⟩
theorem hide_news (hm : ∀ p ∈ mt, s.heap.get? p.1 = some p.2) (hk : ∀ b o, s.heap.get? b = some o → h₁.get? b = some o) : News (hideAll s.heap (adrs mt)) s.heap.objs.size h₁ mt :=
 fun p hp => ⟨hk _ _ (hm p hp), Nat.ne_of_lt (Heap.lt_size (hm p hp)), hideAll_none _ (List.mem_map_of_mem hp)⟩
def Back (g : Heap) (L : Addr) (P : Value → Heap → Prop) (s₀ : Shared) (v : Value) (s' : Shared) : Prop :=
 ∃ h' tk m news, s' = { s₀ with heap := h', toks := tk } ∧ Fr g L h' m ∧ News g L h' news ∧ P v h'
theorem back_ {g : Heap} {v : Value} {tk : Nat} {m : Str → Option Value} (F : Fr g L h' m) (N : News g L h' news) (hp : P v h') : Back g L P s₀ v { s₀ with heap := h', toks := tk } :=
 ⟨h', tk, m, news, rfl, F, N, hp⟩
theorem does_def {l : Nat} {r : Heap} {od : Option Addr} {f : Addr} {args : Args} (X : K.In r) (T : TopRead p loose mg mb r) (st : r.StaysIn s.heap) (hm : ∀ p ∈ mt, s.heap.get? p.1 = some p.2) (hr : ∀ p ∈ mt, r.get? p.1 = none) (ho : K.lookup f = some ⟨oc, od, .func (fnOf name qual params body scope dV kV doc pm an cdv ct), osl⟩) (hcd : codeIn K cdv qual = true) (hbind : BindsTo s (fnOf name qual params body scope dV kV doc pm an cdv ct) args binds) (hloc : ∀ y ∈ binds, scope.names.lookup y.1 = some .local) (h : ∀ d u g L' h₁, Rm l d u → Fr g L' h₁ (fun y => binds.reverse.lookup y) → News g L' h₁ mt → K.In g → TopRead p loose mg mb g → r.StaysIn g → (∀ b o, s.heap.get? b = some o → b ∉ adrs mt → g.get? b = some o) → (∀ b o, g.get? b = some o → s.heap.get? b = some o) → (∀ p ∈ mt, p.1 < L') → L' = s.heap.objs.size →
   let PP := P
   wpAny (model thePr w) (AA (d + 1) (u + 3)) (execs body (envOf qual scope L' f cdv))
    (fun fl s' => Back g L' PP s (match fl with | .ret v => v | _ => .none) s') (fun _ _ => False)
    { s with heap := h₁, toks := s.toks + binds.length }) (hco : scope.isCoroutine = false) (hgen : scope.isGenerator = false) (hk : scope.kind = .function) (hcell : ∀ x ∈ scope.names, x.2 ≠ .cell) (hl : 0 < l) : Does w l (.ref f) args (adrs mt) s P := by
 k_extra "x126"
 k_extra "x133"
 refine wpAny_mono (h d u (hideAll s.heap (adrs mt)) s.heap.objs.size h₁ rm (hide_fr hns hk₁) (hide_news hm hk₁) (X.keeps sg) (T.keeps sg) sg (fun b o e q => hideAll_get _ e q) (fun b o e => of_hideAll _ e) (fun p hp => Heap.lt_size (hm p hp)) rfl) (fun fl s' hb => ?_) (fun _ _ x => x.elim)
 refine o4_4 hb fun h' tk m news e F N hp => ?_
 clear hb
 k_extra "x202"
 exact ⟨_, h', tk, rfl, e, ⟨fun b o e q => F.keep b o (hideAll_get _ e q), oL, hoL⟩, hp⟩
theorem code_in {m : Str → Option Value} {R : Result → Shared → Prop} {od : Option Addr} {f : Addr} {args : Args} (F : Fr h₀ L s.heap m) (X₀ : K.In h₀) (N : News h₀ L s.heap news) (T : TopRead p loose mg mb h₀) (S : b₀.StaysIn h₀) (ho : K.lookup f = some ⟨oc, od, .func (fnOf name qual params body scope dV kV doc pm an cdv ct), osl⟩) (hcd : codeIn K cdv qual = true) (hroom : d < 1000) (hbind : BindsTo s (fnOf name qual params body scope dV kV doc pm an cdv ct) args binds) (hloc : ∀ y ∈ binds, scope.names.lookup y.1 = some .local) (h : ∀ g L' h₁, Fr g L' h₁ (fun y => binds.reverse.lookup y) → News g L' h₁ news → K.In g → TopRead p loose mg mb g → b₀.StaysIn g → (∀ p ∈ news, p.1 < L') →
   wpAny (model thePr w) (AA (d + 1) (u + 3)) (execs body (envOf qual scope L' f cdv))
    (fun fl s' => LeaveK h₀ L m g R (match fl with | .ret v => v | _ => .none) s') (fun _ _ => False)
    { s with heap := h₁, toks := s.toks + binds.length }) (hco : scope.isCoroutine = false) (hgen : scope.isGenerator = false) (hk : scope.kind = .function) (hcell : ∀ x ∈ scope.names, x.2 ≠ .cell) : codeAny (model thePr w) (AA d u) (.call (.ref f) args) R s := by
 have X := X₀.keeps F.keep
 refine codeAny_call_def (fd := fnOf name qual params body scope dV kV doc pm an cdv ct) (body := body) (binds := binds) hroom (X _ _ ho) rfl (T.nolimit.keeps F.keep) (codeRec_of X hcd) rfl hbind hcell hloc (fun h₁ hns hk₁ => ?_) hco hgen hk
 have nm : ∀ b o, h₀.get? b = some o → b ∉ adrs news := fun b o e q => by
  refine o1_2 (List.mem_map.mp q) fun p hp zq2 => ?_
  subst zq2
  rw [(N p hp).2.2] at e; cases e
 have st : h₀.StaysIn (hideAll s.heap (adrs news)) := fun b o e => hideAll_get _ (F.keep b o e) (nm b o e)
 refine o3_4 F.ns fun oL es ep hL hLd hLk hLf => ?_
 have nL : L ∉ adrs news := fun q => by
  refine o1_2 (List.mem_map.mp q) fun p hp e => ?_
  exact (N p hp).2.1 e
 have hLg := hideAll_get (adrs news) hL nL
 refine wpAny_mono (h _ s.heap.objs.size h₁ (hide_fr hns hk₁) (hide_news (fun p hp => (N p hp).1) hk₁) (X₀.keeps st) (T.keeps st) (fun b o e => st b o (S b o e)) (fun p hp => Heap.lt_size (N p hp).1)) (fun fl s' hl => ?_) fun _ _ y => y.elim
 refine o3_3 hl fun L' m' news' F' N' k => ?_
 clear hl
 refine k ⟨⟨oL, es, ep, F'.keep L oL hLg, hLd, hLk, hLf⟩, fun b o e => F'.keep b o (st b o e), F.above⟩ fun p hp => ⟨(N' p hp).1, fun q => ?_, ?_⟩
 ·have := (N' p hp).2.2; rw [q, hLg] at this; cases this
 ·cases q : h₀.get? p.1 with
  | none => rfl
  | some o => have := (N' p hp).2.2; rw [st _ _ q] at this; cases this
theorem call_clsA {m : Str → Option Value} {pos : List Value} {fI : Addr} (F : Fr h₀ L s.heap m) (X₀ : K.In h₀) (N : News h₀ L s.heap news) (hm : makesIn K C = true) (hi : findIn K (.ref C) "__init__" = some (some (.ref fI))) (hf : isFn K (.ref fI) = true) (h : ∀ x dx h', Fr h₀ L h' m → let nw := (x, instObj C dx) :: (dx, dictOf [] 0) :: news; News h₀ L h' nw → (∀ p ∈ news, p.1 < dx) → dx < x →
   codeAny (model thePr w) (AA (d + 1) (u + 1)) (.call (.ref fI) ⟨.ref x :: pos, kw⟩) (InitBack x fun r s' => match r with | .ok (.ret v) => Q v s' | .ok _ => False | .error e => E e s') { s with heap := h' }) :
  wpAny (model thePr w) (AA d u) (call (.ref C) pos kw) Q E s := call_cls F X₀ N hm hi hf h
theorem inst_base {m : Str → Option Value} {sl : Array (Option Value)} (F : Fr h₀ L h m) (S : b₀.StaysIn h₀) (h1 : b₀.get? x = some (⟨.ref C, some dx, .plain, sl⟩ : Obj)) (h2 : b₀.get? dx = some od) :
  InstAt h x ⟨.ref C, some dx, .plain, sl⟩ C (some od) := ⟨F.keep _ _ (S _ _ h1), rfl, rfl, F.keep _ _ (S _ _ h2)⟩
theorem inst_mixed {m : Str → Option Value} {sl : Array (Option Value)} (F : Fr h₀ L h m) (S : b₀.StaysIn h₀) (h1 : b₀.get? x = some (⟨.ref C, some dx, .plain, sl⟩ : Obj)) (N : News h₀ L h news) (h2 : (dx, od) ∈ news) :
  InstAt h x ⟨.ref C, some dx, .plain, sl⟩ C (some od) := ⟨F.keep _ _ (S _ _ h1), rfl, rfl, (N _ h2).1⟩
theorem st_let {m : Str → Option Value} {C : Prop} (F : Fr h₀ L h m) (N : News h₀ L h news) (k : let nw := news; let mm := m; Fr h₀ L h mm → News h₀ L h nw → C) : C := k F N
theorem neA {l : List (Addr × Obj)} (h : ∀ p ∈ l, p.1 ≠ x) (m : (a, o) ∈ l) : @Ne Nat a x := h _ m
theorem neL {l : List (Addr × Obj)} (h : ∀ p ∈ l, p.1 < x) (m : (a, o) ∈ l) : @Ne Nat a x := Nat.ne_of_lt (h _ m)
theorem neL2 {l : List (Addr × Obj)} {d : Addr} (e : @LT.lt Nat _ d x) (h : ∀ p ∈ l, p.1 < d) (m : (a, o) ∈ l) : @Ne Nat a x := Nat.ne_of_lt (Nat.lt_trans (h _ m) e)
theorem ltNe {d : Addr} (e : @LT.lt Nat _ d x) : @Ne Nat d x := Nat.ne_of_lt e
theorem neLall {l : List (Addr × Obj)} (h : ∀ p ∈ l, p.1 < x) : ∀ p ∈ l, p.1 ≠ x := fun p m => Nat.ne_of_lt (h p m)
theorem neL2all {l : List (Addr × Obj)} {d : Addr} (e : @LT.lt Nat _ d x) (h : ∀ p ∈ l, p.1 < d) : ∀ p ∈ l, p.1 ≠ x := fun p m => Nat.ne_of_lt (Nat.lt_trans (h p m) e)
end
section
structure H2 where
 a : Int
 b : Int
 ta : Nat
 tb : Nat
variable {hn : H2}
structure H5 where
 a : Int
 b : Int
 c : Int
 d : Int
 e : Int
 ta : Nat
 tb : Nat
 tc : Nat
 td : Nat
 te : Nat
variable {hs hsv hsx : H5}
noncomputable abbrev vecEs (v : H5) (kd il at_ sh lo : Value) : List DictEntry := [⟨v.a, .str "kind" v.ta, kd⟩, ⟨v.b, .str "items" v.tb, il⟩, ⟨v.c, .str "attrs" v.tc, at_⟩, ⟨v.d, .str "shared" v.td, sh⟩, ⟨v.e, .str "loose" v.te, lo⟩]
noncomputable abbrev vecD (v : H5) (kd il at_ sh lo : Value) : Obj := dictOf (vecEs v kd il at_ sh lo) 5
noncomputable abbrev nulD (v : H2) (t : Nat) : Obj := dictOf [⟨v.a, .str "kind" v.ta, .str "NULL" t⟩, ⟨v.b, .str "attrs" v.tb, .none⟩] 2
section
variable {d : Addr} {m : Str → Option Value} {x : Str} {ivs : List (Int × Value)} {i : Int} {v : Value}
theorem dct_base {K : Type} [DecidableEq K] {knd : KeyKind prog w K} {ks : List (K × Value)} (F : Fr h₀ L s.heap m) (S : b₀.StaysIn h₀) (hb : b₀.get? d = some o) (hd : o.IsDictOf knd ks) : s.heap.DictOf knd d ks := Heap.dictOf_iff.mpr ⟨o, F.keep _ _ (S _ _ hb), hd⟩
theorem d_in (D : s.heap.DictOf (strKind thePr w) d kvs) (lo : (d == sysModules) = false) (h : Q (.bool (valueAt kvs x).isSome) { s with toks := s.toks + 1 }) : wpAny (model thePr w) A (compareOp .In (.str x t) (.ref d)) Q E s :=
 wpAny_in_of (strKind_is _ _ _ _) lo D.mapOf h
theorem d_notin (D : s.heap.DictOf (strKind thePr w) d kvs) (lo : (d == sysModules) = false) (h : Q (.bool (!(valueAt kvs x).isSome)) { s with toks := s.toks + 1 }) : wpAny (model thePr w) A (compareOp .NotIn (.str x t) (.ref d)) Q E s :=
 wpAny_notIn_of (strKind_is _ _ _ _) lo D.mapOf h
theorem d_notinI (D : s.heap.DictOf (intKind thePr w) d ivs) (lo : (d == sysModules) = false) (h : Q (.bool (!(valueAt ivs i).isSome)) { s with toks := s.toks + 1 }) : wpAny (model thePr w) A (compareOp .NotIn (.int i t) (.ref d)) Q E s :=
 wpAny_notIn_of (intKind_is _ _ _ _) lo D.mapOf h
theorem d_item (D : s.heap.DictOf (strKind thePr w) d kvs) (hl : valueAt kvs x = some v) (h : Q v { s with toks := s.toks + 1 }) (hs : subscripted slice false (.ref d) (.str x t) = operate [.ref d, .str x t] (getItem (.ref d) (.str x t)) := by with_unfolding_all rfl) (hg : ∀ r, letTemporaryGo value (.ref d) r = pure () := by intro _; with_unfolding_all rfl) :
  wpAny (model thePr w) A (subscriptTail value slice (.ref d) (.str x t)) Q E s :=
 subscriptTail_builtin D.typeIs slot_dict_getitem.lookup (wpAny_getItem_of (strKind_is _ _ _ _) D.mapOf hl h) hs hg
theorem d_get1 (D : s.heap.DictOf (strKind thePr w) d kvs) (lo : (d == sysModules) = false) (h : Q ((valueAt kvs x).getD .none) { s with toks := s.toks + 1 }) :
  wpAny (model thePr w) A (call (.builtin "dict.get") [.ref d, .str x t]) Q E s :=
 call_meetsIn PySem.F.slot_dict_get D.typeIs PySem.F.entry_dict_get (PySem.F.args_dict_get_2 _ _) (meets_dict_get (strKind thePr w) d (strKind_is _ _ _ _) lo) ⟨_, D.mapOf, h⟩
theorem d_get2 (D : s.heap.DictOf (strKind thePr w) d kvs) (lo : (d == sysModules) = false) (h : Q ((valueAt kvs x).getD dflt) { s with toks := s.toks + 1 }) :
  wpAny (model thePr w) A (call (.builtin "dict.get") [.ref d, .str x t, dflt]) Q E s :=
 call_meetsIn PySem.F.slot_dict_get D.typeIs PySem.F.entry_dict_get (PySem.F.args_dict_get_3 _ _ _) (meets_dict_get_default (strKind thePr w) d (strKind_is _ _ _ _) lo dflt) ⟨_, D.mapOf, h⟩
theorem d_getm {pl : Sem Bool} {Q : Value × List Value → Shared → Prop} (D : s.heap.DictOf (strKind thePr w) d kvs) (h : Q (.builtin "dict.get", [.ref d]) s) : wpAny (model thePr w) A (getMethod (.ref d) "get" pl) Q E s :=
 getMethod_builtin D.typeIs PySem.F.plainAttrs_dict PySem.F.slot_dict_get PySem.F.type_dict_get D.mapOf.noDict h
theorem lst_base {items : Array Value} (F : Fr h₀ L h m) (S : b₀.StaysIn h₀) (hl : b₀.IsList l items) : h.IsList l items := let ⟨o, ho, r⟩ := hl; ⟨o, F.keep _ _ (S _ _ ho), r⟩
theorem stay2 (F : Fr h₀ L h m) (S : b₀.StaysIn h₀) : b₀.StaysIn h := fun b o e => F.keep _ _ (S _ _ e)
theorem root_in {r : Heap} (F : Fr h₀ L h m) (S : b₀.StaysIn h₀) (Sr : r.StaysIn b₀) : r.StaysIn h := fun b o e => F.keep _ _ (S _ _ (Sr _ _ e))
theorem use_pure {l : Nat} {f : Value} (rm : Rm l d u) (F : Fr h₀ L s.heap m) (N : News h₀ L s.heap news) (H : Does w l f ⟨args, kw⟩ (adrs []) s P) (k : ∀ v h' tk, Fr h₀ L h' m → News h₀ L h' news → Keep [] s.heap h' → P v h' → Q v { s with heap := h', toks := tk }) : wpAny (model thePr w) (AA d u) (call f args kw) Q E s :=
 H.use rm fun v h' tk hk hp => k v h' tk (hk.fr F N fun _ h => nomatch h) (hk.led N fun _ hq => ⟨hq, nmn⟩) hk hp
theorem fresh_of {g : Heap} (Sg : ∀ b o, s.heap.get? b = some o → b ∉ adrs [] → g.get? b = some o) (N : News g L h' news) (hm : (a, o) ∈ news) : s.heap.get? a = none := by
 cases q : s.heap.get? a with
 | none => rfl
 | some o' => have := Sg _ _ q nmn; rw [(N _ hm).2.2] at this; cases this
end
inductive Strs : List Value → List Str → Prop
 | nil : Strs [] []
 | cons (x : Str) (t : Tok) {vs : List Value} {xs : List Str} : Strs vs xs → Strs (.str x t :: vs) (x :: xs)
theorem Strs.length (h : Strs vs xs) : vs.length = xs.length := by
 induction h with
 | nil => rfl
 | cons _ _ _ ih => simp [ih]
theorem Strs.get (h : Strs vs xs) : ∀ (i : Nat) (x : Str), xs[i]? = some x → ∃ t, vs[i]? = some (.str x t) := by
 induction h with
 | nil => intro i x e; simp at e
 | cons y t _ ih =>
  intro i x e
  cases i with
  | zero => simp at e; exact ⟨t, by simp [e]⟩
  | succ i => simpa using ih i x (by simpa using e)
def VecAt (h : Heap) (x dx : Addr) (kd il at_ : Value) : Prop := ∃ hs sh, h.get? x = some (instObj 182 dx) ∧ h.get? dx = some (vecD hs kd il at_ (.bool sh) (.bool false))
def CharAt (h : Heap) (x : Addr) (xs : List Str) : Prop := ∃ dx tk il vs, VecAt h x dx (.str "character" tk) (.ref il) .none ∧ h.IsList il vs.toArray ∧ Strs vs xs
def AttsAt (w : World) (h : Heap) (at_ : Value) : Option (List Str) → Prop
 | none => at_ = .none
 | some xs => ∃ ad o nv, at_ = .ref ad ∧ (ad == sysModules) = false ∧ h.get? ad = some o ∧ o.IsDictOf (strKind thePr w) [("names", .ref nv)] ∧ CharAt h nv xs
end
variable {hn : H2} {hs hsv hsx : H5}
section
abbrev LocMap := Str → Option Value
variable {m m' m₀ : LocMap} {J : LocMap → Heap → Prop} {Bd : Nat → Value → LocMap → Prop} {mo : Addr → LocMap}
theorem hid_of {l : List Addr} (e : (hideAll h l).get? b = some o) : h.get? b = some o ∧ b ∉ l :=
 ⟨of_hideAll _ e, fun q => by rw [hideAll_none l q] at e; cases e⟩
def Cov (b₁ h₀ : Heap) (own : List (Addr × Obj)) : Prop := ∀ b o, b₁.get? b = some o → h₀.get? b = some o ∨ (b, o) ∈ own
theorem Cov.stays (C : Cov b₁ h₀ own) (F : Fr h₀ L h m) (N : News h₀ L h news) (hs : ∀ p ∈ own, p ∈ news) : b₁.StaysIn h := fun b o e => by
 rcases C b o e with e | e
 ·exact F.keep _ _ e
 ·exact (N _ (hs _ e)).1
noncomputable def ledgerOf (h₀ h : Heap) (l : List Addr) : List (Addr × Obj) := (List.range h.objs.size).filterMap fun a => match (hideAll h l).get? a, h₀.get? a with
 | some o, none => some (a, o)
 | _, _ => none
theorem mem_ledger {l : List Addr} {p : Addr × Obj} (hp : p ∈ ledgerOf h₀ h l) : h.get? p.1 = some p.2 ∧ p.1 ∉ l ∧ h₀.get? p.1 = none := by
 refine o1_2 (List.mem_filterMap.mp hp) fun a _ e => ?_
 split at e
 ·next o e1 e2 => cases e; exact ⟨(hid_of e1).1, (hid_of e1).2, e2⟩
 ·cases e
theorem cov_ledger {l : List Addr} (K : h₀.StaysIn h) : Cov (hideAll h l) h₀ (ledgerOf h₀ h l) := fun b o e => by
 cases q : h₀.get? b with
 | some o' => left; have := K _ _ q; rw [(hid_of e).1] at this; cases this; rfl
 | none =>
  right
  refine List.mem_filterMap.mpr ⟨b, List.mem_range.mpr (Heap.lt_size (hid_of e).1), ?_⟩
  rw [e, q]
theorem recover {mtO : List (Addr × Obj)} (F : Fr h₀ L h m) (N : News h₀ L h mtO) :
  ∃ own, News h₀ L h (mtO ++ own) ∧ OwnOff own (adrs mtO) ∧ Cov (hideAll h (L :: adrs mtO)) h₀ own := by
 refine ⟨ledgerOf h₀ h (L :: adrs mtO), fun p hp => ?_, fun p hp b hb e => ?_, cov_ledger F.keep⟩
 ·k_extra "x199"
  ·exact N p hp
  ·k_extra "x160"
 ·refine o0_3 (mem_ledger hp) fun _ q _ => ?_
  exact q (.tail _ (e ▸ hb))
def TurnB (h₀ : Heap) (L : Addr) (b₁ : Heap) (own : List (Addr × Obj)) (itc : Value) (J : LocMap → Heap → Prop) (s₁ : Shared) (Q : Flow → Shared → Prop) (f : Flow) (s₂ : Shared) : Prop :=
 match f with
 | .ret v => Q (.ret v) s₂
 | .brk => Q .next s₂
 | _ => ∃ h' tk m' news, s₂ = { s₁ with heap := h', toks := tk } ∧ Fr h₀ L h' m' ∧ News h₀ L h' news ∧ (∀ p ∈ own, p ∈ news) ∧
   ∀ H' : Heap, b₁.StaysIn H' → (∀ p ∈ news, p.2.cls ≠ itc → H'.get? p.1 = some p.2) → J m' H'
theorem TurnB.intro {Q : Flow → Shared → Prop} {tk : Nat} (F : Fr h₀ L h' m') (N : News h₀ L h' news) (hs : ∀ p ∈ own, p ∈ news) (hJ : ∀ H' : Heap, b₁.StaysIn H' → (∀ p ∈ news, p.2.cls ≠ itc → H'.get? p.1 = some p.2) → J m' H') : TurnB h₀ L b₁ own itc J s₁ Q .next { s₁ with heap := h', toks := tk } :=
 ⟨h', tk, m', news, rfl, F, N, hs, hJ⟩
theorem TurnB.introC {Q : Flow → Shared → Prop} {tk : Nat} (F : Fr h₀ L h' m') (N : News h₀ L h' news) (hs : ∀ p ∈ own, p ∈ news) (hJ : ∀ H' : Heap, b₁.StaysIn H' → (∀ p ∈ news, p.2.cls ≠ itc → H'.get? p.1 = some p.2) → J m' H') : TurnB h₀ L b₁ own itc J s₁ Q .cont { s₁ with heap := h', toks := tk } :=
 ⟨h', tk, m', news, rfl, F, N, hs, hJ⟩
section
variable {env : Env} {x : Str} {Q : Flow → Shared → Prop}
theorem loop_h {P : Nat → Value → Prop} (J : Nat → LocMap → Heap → Prop) (W : Walks prog w A I fp [I] n P St) (hI : ∀ i h, St i h → ∃ o, h.get? I = some o ∧ o.cls = itc) (hLf : env.locals ∉ fp) (hw : h₀.get? I = none) (mono : ∀ i m g g', J i m g → g.StaysIn g' → J i m g') (hst : St 0 s.heap) (F : Fr h₀ env.locals s.heap m₀) (h0 : J 0 m₀ (hideAll s.heap [env.locals, I])) (turn : ∀ i v m H, i < n → P i v → J i m H → ∃ mtO : List (Addr × Obj), (∀ p ∈ mtO, H.get? p.1 = some p.2) ∧ (∀ p ∈ mtO, h₀.get? p.1 = none) ∧ (∀ p ∈ mtO, p.1 ∈ fp → p.1 = I) ∧
   ∀ h tk own, Fr h₀ env.locals h (fun y => if y = x then some v else m y) → News h₀ env.locals h (mtO ++ own) → OwnOff own (adrs mtO) → Cov (hideAll H (adrs mtO)) h₀ own →
    wpAny (model prog w) A (execs body env) (TurnB h₀ env.locals (hideAll H (adrs mtO)) own itc (J (i + 1)) { s with heap := h, toks := tk } Q) E { s with heap := h, toks := tk }) (done : ∀ m H, J n m H → ∃ mtO : List (Addr × Obj), (∀ p ∈ mtO, H.get? p.1 = some p.2) ∧ (∀ p ∈ mtO, h₀.get? p.1 = none) ∧
   ∀ h tk own, Fr h₀ env.locals h m → News h₀ env.locals h (mtO ++ own) → OwnOff own (adrs mtO) → Cov (hideAll H (adrs mtO)) h₀ own → Q .next { s with heap := h, toks := tk }) :
  LoopAtV prog w A h₀ env x body Q E (.ref I) s := by
 k_extra "x190"
 -- what is told of H stands in the heap, off the frame and off the iterator
 k_extra "x101"
 -- and can be made a ledger again
 k_extra "x114"
 have pick : ∀ (h : Heap) (m : LocMap) (mtO : List (Addr × Obj)), Fr h₀ env.locals h m → (∀ p ∈ mtO, (hideAll h [env.locals, I]).get? p.1 = some p.2) → (∀ p ∈ mtO, h₀.get? p.1 = none) →
   ∃ own, News h₀ env.locals h (mtO ++ own) ∧ OwnOff own (adrs mtO) ∧ Cov (hideAll h (env.locals :: adrs mtO)) h₀ own := fun h m mtO F a b =>
  recover F fun p hp => ⟨(hid_of (a p hp)).1, fun e => (hid_of (a p hp)).2 (e ▸ .head _), b p hp⟩
 k_extra "x104"
 ·k_extra "x99"
  refine o1_4 (turn i v m₁ _ hin hP hJh) fun mtO hm hn hq go => ?_
  refine o1_3 (pick h _ mtO F₁ hm hn) fun own N off' C => ?_
  refine wpAny_mono (go h tk own F₁ N off' (sub h mtO own C)) ?_ (fun _ _ e => e)
  intro f s₂ ht
  -- the iterator's own rows stay
  have hIt : ∀ p ∈ own₁, p ∈ own := fun p hp => by
   have hp' := N₁ p (mal _ hp)
   have hg : (hideAll h (env.locals :: adrs mtO)).get? p.1 = some p.2 := by
    refine hideAll_get _ hp'.1 fun q => ?_
    rcases mc1 q with e | q
    ·exact hp'.2.1 e
    ·refine o1_2 (List.mem_map.mp q) fun r hr e => ?_
     have e' : r.1 = p.1 := e
     have h1 : r.1 = I := hq r hr (e' ▸ hown p hp)
     exact (hid_of (hm r hr)).2 (h1 ▸ .tail _ (.head _))
   rcases C _ _ hg with e | e
   ·rw [hp'.2.2] at e; cases e
   ·exact e
  have next : (∃ h' tk' m' news, s₂ = { s with heap := h', toks := tk' } ∧ Fr h₀ env.locals h' m' ∧ News h₀ env.locals h' news ∧ (∀ p ∈ own, p ∈ news) ∧
   ∀ H' : Heap, (hideAll (hideAll h [env.locals, I]) (adrs mtO)).StaysIn H' → (∀ p ∈ news, p.2.cls ≠ itc → H'.get? p.1 = some p.2) → J (i + 1) m' H') → LoopStepU h₀ env.locals [I] own₁ (JL (i + 1)) { s with heap := h, toks := tk } .next s₂ := by
   intro hz1
   refine o4_5 hz1 fun h' tk' m' news zq4 F' N' hs hJ' => ?_
   clear hz1
   subst zq4
   refine o1_2 (hI _ _ hst₁) fun oI hoI hc => ?_
   have hIown : (I, oI) ∈ own := by
    have hg : (hideAll h (env.locals :: adrs mtO)).get? I = some oI := by
     refine hideAll_get _ hoI fun q => ?_
     rcases mc1 q with e | q
     ·exact hLf (e ▸ W.sub _ (.head _))
     ·refine o1_2 (List.mem_map.mp q) fun r hr e => ?_
      exact (hid_of (hm r hr)).2 (e ▸ .tail _ (.head _))
    rcases C _ _ hg with e | e
    ·rw [hw] at e; cases e
    ·exact e
   have hI' : h'.get? I = some oI := (N' _ (hs _ hIown)).1
   have hJ2 : J (i + 1) m' (hideAll h' [env.locals, I]) := by
    refine hJ' _ (fun b o e => ?_) fun p hp hcl => ?_
    ·have hb := hid_of (hid_of e).1
     refine hideAll_get _ ?_ hb.2
     rcases sub h mtO own C b o e with e' | e'
     ·exact F'.keep _ _ e'
     ·exact (N' _ (hs _ e')).1
    ·refine hideAll_get _ (N' p hp).1 fun q => ?_
     rcases mc1 q with e | q
     ·exact (N' p hp).2.1 e
     ·have e := ms1 q
      have := (N' p hp).1
      rw [e, hI'] at this
      cases this
      exact hcl hc
   refine o1_3 (back _ _ _ hJ2 F') fun news' hJL N2 off2 => ?_
   refine ⟨rfl, h', tk', m', news', rfl, F', fun p hp => ?_, off2, hJL⟩
   rcases ma1 hp with hp | hp
   ·exact N' _ (hs _ (hIt p hp))
   ·exact N2 p hp
  k_extra "x161"
 ·k_extra "x188"
  refine o1_3 (pick h' _ mtO F' hm hn) fun own N off2 C => ?_
  exact go h' tk own F' N off2 (sub h' mtO own C)
end
end
variable {m m' m₀ : LocMap} {J : LocMap → Heap → Prop} {Bd : Nat → Value → LocMap → Prop} {mo : Addr → LocMap}
section
section
variable {env : Env} {x : Str} {Q : Flow → Shared → Prop}
theorem fresh_hide (F : Fr h₀ L h m) (N : News h₀ L h news) (hI : I = h.objs.size) (k : ∀ b o, h.get? b = some o → h'.get? b = some o) :
  h₀.StaysIn (hideAll h' [L, I]) ∧ ∀ p ∈ news, (hideAll h' [L, I]).get? p.1 = some p.2 := by
 refine ⟨fun b o e => hideAll_get _ (k _ _ (F.keep _ _ e)) fun q => ?_, fun p hp => hideAll_get _ (k _ _ (N p hp).1) fun q => ?_⟩
 ·rcases mc1 q with rfl | q
  ·exact absurd (Heap.lt_size e) (Nat.not_lt.mpr F.above)
  ·have := ms1 q
   exact absurd (Heap.lt_size (F.keep _ _ e)) (by rw [this, hI]; exact Nat.lt_irrefl _)
 ·k_extra "x186"
  ·exact (N p hp).2.1 q
  ·have := ms1 q
   exact absurd (Heap.lt_size (N p hp).1) (by rw [this, hI]; exact Nat.lt_irrefl _)
theorem iter_range_h {r : Addr} {b₀ : Int} (J : LocMap → Nat → LocMap → Heap → Prop) (hL : env.locals = L) (hh : A.handled = none) (hr : IsRange s.heap r a₀ b₀ 1 t₀ u₀ v₀) (hsmall : Builtin.Range.small a₀ b₀ 1 = true) (hn : Builtin.Range.rangeSize a₀ b₀ 1 = (n : Int)) (F : Fr h₀ L s.heap m₀) (N : News h₀ L s.heap news) (mono : ∀ i m g g', J m₀ i m g → g.StaysIn g' → J m₀ i m g') (h0 : ∀ H : Heap, h₀.StaysIn H → (∀ p ∈ news, H.get? p.1 = some p.2) → J m₀ 0 m₀ H) (turn : ∀ i t m H, i < n → J m₀ i m H → ∃ mtO : List (Addr × Obj), (∀ p ∈ mtO, H.get? p.1 = some p.2) ∧ (∀ p ∈ mtO, h₀.get? p.1 = none) ∧
   ∀ h tk own, Fr h₀ L h (fun y => if y = x then some (.int (a₀ + (i : Int)) t) else m y) → News h₀ L h (mtO ++ own) → OwnOff own (adrs mtO) → Cov (hideAll H (adrs mtO)) h₀ own →
    wpAny (model prog w) A (execs body env) (TurnB h₀ L (hideAll H (adrs mtO)) own (.type "range_iterator") (J m₀ (i + 1)) { s with heap := h, toks := tk } Q) E { s with heap := h, toks := tk }) (done : ∀ m H, J m₀ n m H → ∃ mtO : List (Addr × Obj), (∀ p ∈ mtO, H.get? p.1 = some p.2) ∧ (∀ p ∈ mtO, h₀.get? p.1 = none) ∧
   ∀ h tk own, Fr h₀ L h m → News h₀ L h (mtO ++ own) → OwnOff own (adrs mtO) → Cov (hideAll H (adrs mtO)) h₀ own → Q .next { s with heap := h, toks := tk }) :
  wpAny (model prog w) A (pyIter (.ref r)) (fun it s₂ => LoopAtV prog w A h₀ env x body Q E it s₂) E s := by
 k_extra "x125"
 refine loop_h (itc := .type "range_iterator") (J m₀) W (fun i h st => ⟨_, st, rfl⟩) (fun hm => absurd F.ns.lt ((ms1 hm) ▸ Nat.lt_irrefl _)) (next_is_new F) mono ?_ (F.push _) (h0 _ ex.1 ex.2) ?_ ?_
 k_extra "x167"
 ·k_extra "x204"
  refine o1_3 (turn i t m H hi hJ) fun mtO a b go => ?_
  refine ⟨mtO, a, b, fun p _ q => ms1 q, fun h tk own F₁ N₁ off C => ?_⟩
  have := go h tk own (by simpa using F₁) N₁ off C
  exact this
 k_extra "x118"
theorem loc1 {x : Str} (h : ∀ z, z ≠ x → m z = m₀ z) : m = fun z => if z = x then m x else m₀ z := by
 funext z; by_cases e : z = x
 ·simp [e]
 ·simp [e, h z e]
theorem loc2 {x : Str} (h : ∀ z, z ≠ x → z ≠ y → m z = m₀ z) : m = fun z => if z = x then m x else if z = y then m y else m₀ z := by
 funext z; by_cases e : z = x
 ·simp [e]
 ·by_cases e' : z = y
  ·subst e'; simp [e]
  ·simp [e, e', h z e e']
theorem locD {x : Str} {u v : Option Value} : (fun z => if z = x then u else if z = x then v else m₀ z) = fun z => if z = x then u else m₀ z := by
 funext z; by_cases e : z = x <;> simp [e]
end
end
section
section
variable {K : Type} [DecidableEq K]
theorem va_nil (k : K) : valueAt ([] : List (K × Value)) k = none := rfl
theorem va_cons (p : K × Value) (l : List (K × Value)) (k : K) : valueAt (p :: l) k = if p.1 = k then some p.2 else valueAt l k := by
 unfold valueAt
 rw [List.find?_cons]
 by_cases h : p.1 = k <;> simp [h]
theorem va_app (l l' : List (K × Value)) (k : K) : valueAt (l ++ l') k = (valueAt l k).or (valueAt l' k) := by
 induction l with
 | nil => simp [va_nil]
 | cons p l ih => rw [List.cons_append, va_cons, va_cons, ih]; split <;> simp
theorem va_any {l : List (K × Value)} {k : K} : l.any (fun kv => decide (kv.1 = k)) = (valueAt l k).isSome := by
 induction l with
 | nil => rfl
 | cons p l ih => rw [List.any_cons, va_cons, ih]; by_cases h : p.1 = k <;> simp [h]
theorem va_map {l : List (K × Value)} {k y : K} {v : Value} : valueAt (l.map fun kv => if kv.1 = k then (kv.1, v) else kv) y = if y = k then (valueAt l k).map (fun _ => v) else valueAt l y := by
 induction l with
 | nil => simp [va_nil]
 | cons p l ih =>
  rw [List.map_cons, va_cons, ih, va_cons, va_cons]
  by_cases h : p.1 = k
  ·by_cases h2 : y = k
   ·simp [h, h2]
   ·have : ¬ k = y := fun e => h2 e.symm
    simp [h, h2, this]
  ·by_cases h2 : y = k
   ·subst h2; simp [h]
   ·simp [h, h2]
theorem va_stored (l : List (K × Value)) (k y : K) (v : Value) : valueAt (stored l k v) y = if y = k then some v else valueAt l y := by
 unfold stored
 rw [va_any]
 cases h : valueAt l k with
 | some u => simp [va_map, h]
 | none =>
  simp only [Option.isSome_none, Bool.false_eq_true, if_false]
  rw [va_app, va_cons, va_nil]
  by_cases e : y = k
  ·subst e; simp [h]
  ·have : ¬ k = y := fun q => e q.symm
   simp [e, this]
theorem len_stored (l : List (K × Value)) (k : K) (v : Value) : (stored l k v).length ≤ l.length + 1 := by
 unfold stored; split <;> simp
end
def fst (xs : List Str) (y : Str) : Option Nat := xs.findIdx? fun z => decide (z = y)
theorem fst_snoc (xs : List Str) (x y : Str) : fst (xs ++ [x]) y = (fst xs y).or (if x = y then some xs.length else none) := by
 unfold fst
 rw [List.findIdx?_append]
 by_cases h : x = y <;> simp [h]
theorem fst_none : fst xs y = none ↔ y ∉ xs := by
 unfold fst
 rw [List.findIdx?_eq_none_iff]
 constructor
 ·intro h q; have := h y q; simp at this
 ·intro h z hz; simp; rintro rfl; exact h hz
theorem fst_lt (h : fst xs y = some k) : k < xs.length ∧ xs[k]? = some y := by
 unfold fst at h
 rw [List.findIdx?_eq_some_iff_getElem] at h
 obtain ⟨hk, e, _⟩ := h
 exact ⟨hk, by rw [List.getElem?_eq_getElem hk]; simpa using e⟩
def TabR (xs : List Str) (kvs : List (Str × Value)) : Prop := (∀ y, match fst xs y with | none => valueAt kvs y = none | some k => ∃ t, valueAt kvs y = some (.int k t)) ∧ kvs.length ≤ xs.length
theorem TabR.nil : TabR [] [] := ⟨fun _ => rfl, Nat.le_refl _⟩
theorem TabR.at_ {xs kvs} (h : TabR xs kvs) {y k} (e : fst xs y = some k) : ∃ t, valueAt kvs y = some (.int (k : Int) t) := by have := h.1 y; rw [e] at this; exact this
theorem TabR.off {xs kvs} (h : TabR xs kvs) {y} (e : fst xs y = none) : valueAt kvs y = none := by have := h.1 y; rw [e] at this; exact this
theorem TabR.old {xs kvs} (h : TabR xs kvs) {x : Str} (e : (valueAt kvs x).isSome = true) : TabR (xs ++ [x]) kvs := by
 refine ⟨fun y => ?_, by have := h.2; simp; omega⟩
 have hy := h.1 y
 rw [fst_snoc]
 cases q : fst xs y with
 | some k => rw [q] at hy; simpa using hy
 | none =>
  rw [q] at hy
  by_cases hx : x = y
  ·subst hx
   have hy : valueAt kvs x = none := hy
   rw [hy] at e; cases e
  ·simpa [hx] using hy
theorem TabR.new {xs kvs} (h : TabR xs kvs) {x : Str} (e : (valueAt kvs x).isSome = false) : TabR (xs ++ [x]) (stored kvs x (.int xs.length t)) := by
 refine ⟨fun y => ?_, by have := h.2; have := len_stored kvs x (.int xs.length t); simp; omega⟩
 have hy := h.1 y
 rw [fst_snoc, va_stored]
 by_cases hx : y = x
 ·subst hx
  cases q : fst xs y with
  | some k => rw [q] at hy; refine o1_1 hy fun t' ht => ?_; clear hy; rw [ht] at e; cases e
  | none => simp
 ·have hx' : ¬ x = y := fun e => hx e.symm
  cases q : fst xs y with
  | some k => rw [q] at hy; simpa [hx] using hy
  | none => rw [q] at hy; simpa [hx, hx'] using hy
end
section
section
variable {M : Model}
theorem ex_ret {e : PySem.Expr} {env : Env} {Q : Flow → Shared → Prop} (h : wpAny M A (eval e env) (fun v => Q (.ret v)) E s) : wpAny M A (execs (.Return (some e) pos :: rest) env) Q E s := wpAny_execs_cons (wpAny_Return_some h)
theorem ex_set {x : Str} {env : Env} {Q : Flow → Shared → Prop} (h : wpAny M A (eval value env) (fun v s₁ => wpAny M A (storeName env x v) (fun _ s₂ => wpAny M A (execs rest env) Q E s₂) E s₁) E s) (hs : swapsWith value (some (.Name x px)) pos.line env = pure false := by rfl) : wpAny M A (execs (.Assign [.Name x px] value pos :: rest) env) Q E s := wpAny_execs_cons (wpAny_Assign_Name h hs)
end
theorem ex_expr {e : PySem.Expr} {env : Env} {Q : Flow → Shared → Prop} (h : wpAny (model prog w) A (eval e env) (fun _ s₂ => wpAny (model prog w) A (execs rest env) Q E s₂) E s) (hi : interactive env = false := by rfl) (hs : swapsWith e none pos.line env = pure false := by rfl) : wpAny (model prog w) A (execs (.Expr e pos :: rest) env) Q E s := wpAny_execs_cons (wpAny_Expr_any h hi hs)
end
structure Cx where
 w : World
 A : Around
 E : Value → Shared → Prop
 Q : Flow → Shared → Prop
 cn : Str
 cs : Scope
 L : Addr
 a : Addr
 ccd : Value
 cl : List (Str × Addr)
 s : Shared
noncomputable abbrev Cx.env (C : Cx) : Env := envX C.cn C.cs C.L C.a C.ccd C.cl
noncomputable abbrev Cx.M (C : Cx) : Model := model thePr C.w
noncomputable def plOf (o : PySem.Expr) (env : Env) : PySem.Sem Bool := do return (← importBound o env).getD true
inductive Fm
 | set (x : Str) (rest : List Stmt)
 | ret
 | drop (rest : List Stmt)
 | arg (pos : Pos) (rest : List PySem.Expr)
 | attr (name : Str)
 | meth (o : PySem.Expr) (name : Str) (pos : Pos) (args : List PySem.Expr)
 | cmpR (op : CmpOp) (r : PySem.Expr)
 | cmpT (op : CmpOp) (a : Value)
 | truth
 | subI (value slice : PySem.Expr)
 | subT (value slice : PySem.Expr) (o : Value)
 | binR (op : Operator) (r : PySem.Expr)
 | binT (op : Operator) (a : Value)
 | bIf (body orelse rest : List Stmt)
 | bIfE (body orelse : PySem.Expr)
 | bNot
 | bAnd (pos : Pos) (rest : List PySem.Expr)
 | bOr (pos : Pos) (rest : List PySem.Expr)
 | lVal (v : Value)
 | lCall (f : Value) (first : List Value)
 | lNew (tup : Bool)
inductive Rv
 | v (x : Value)
 | b (x : Bool)
 | l (x : List Value)
noncomputable def SemF (C : Cx) : List (List Stmt) → Flow → Shared → Prop
 | [], fl, s => C.Q fl s
 | rest :: rs, fl, s => match fl with
  | .next => wpAny C.M C.A (execs rest C.env) (SemF C rs) C.E s
  | fl => SemF C rs fl s
noncomputable def SemR (C : Cx) (rs : List (List Stmt)) : List Fm → Rv → Shared → Prop
 | .set x rest :: _, .v v, s => wpAny C.M C.A (storeName C.env x v) (fun _ s₂ => wpAny C.M C.A (execs rest C.env) (SemF C rs) C.E s₂) C.E s
 | .ret :: _, .v v, s => SemF C rs (.ret v) s
 | .drop rest :: _, .v _, s => wpAny C.M C.A (execs rest C.env) (SemF C rs) C.E s
 | .arg pos rest :: fs, .v v, s => wpAny C.M C.A (spliced (backTo pos (starEach rest C.env))) (fun vs s₂ => SemR C rs fs (.l (v :: vs)) s₂) C.E s
 | .attr name :: fs, .v v, s => wpAny C.M C.A (getAttr v name true) (fun v s => SemR C rs fs (.v v) s) C.E s
 | .meth o name pos args :: fs, .v v, s => wpAny C.M C.A (getMethod v name (plOf o C.env)) (fun fx s₂ => wpAny C.M C.A (callWith pos fx.1 fx.2 (backTo pos (starEach args C.env)) []) (fun v s => SemR C rs fs (.v v) s) C.E s₂) C.E s
 | .cmpR op r :: fs, .v a, s => wpAny C.M C.A (eval r C.env) (fun b s₂ => wpAny C.M C.A (compareOp op a b) (fun v s => SemR C rs fs (.v v) s) C.E s₂) C.E s
 | .cmpT op a :: fs, .v b, s => wpAny C.M C.A (compareOp op a b) (fun v s => SemR C rs fs (.v v) s) C.E s
 | .truth :: fs, .v v, s => wpAny C.M C.A (truthy v) (fun b s => SemR C rs fs (.b b) s) C.E s
 | .subI value slice :: fs, .v o, s => wpAny C.M C.A (eval slice C.env) (fun i s₂ => wpAny C.M C.A (subscriptTail value slice o i) (fun v s => SemR C rs fs (.v v) s) C.E s₂) C.E s
 | .subT value slice o :: fs, .v i, s => wpAny C.M C.A (subscriptTail value slice o i) (fun v s => SemR C rs fs (.v v) s) C.E s
 | .binR op r :: fs, .v a, s => wpAny C.M C.A (eval r C.env) (fun b s₂ => wpAny C.M C.A (binaryOp op a b) (fun v s => SemR C rs fs (.v v) s) C.E s₂) C.E s
 | .binT op a :: fs, .v b, s => wpAny C.M C.A (binaryOp op a b) (fun v s => SemR C rs fs (.v v) s) C.E s
 | .bIf body orelse rest :: _, .b b, s => if b then wpAny C.M C.A (execs body C.env) (SemF C (rest :: rs)) C.E s else wpAny C.M C.A (execs orelse C.env) (SemF C (rest :: rs)) C.E s
 | .bIfE body orelse :: fs, .b b, s => if b then wpAny C.M C.A (eval body C.env) (fun v s => SemR C rs fs (.v v) s) C.E s else wpAny C.M C.A (eval orelse C.env) (fun v s => SemR C rs fs (.v v) s) C.E s
 | .bNot :: fs, .b b, s => SemR C rs fs (.b !b) s
 | .bAnd pos rest :: fs, .b b, s => if b then wpAny C.M C.A (isTrue (.BoolOp .And rest pos) C.env (eval (.BoolOp .And rest pos) C.env)) (fun b s => SemR C rs fs (.b b) s) C.E s else SemR C rs fs (.b false) s
 | .bOr pos rest :: fs, .b b, s => if b then SemR C rs fs (.b true) s else wpAny C.M C.A (isTrue (.BoolOp .Or rest pos) C.env (eval (.BoolOp .Or rest pos) C.env)) (fun b s => SemR C rs fs (.b b) s) C.E s
 | .lVal v :: fs, .l vs, s => SemR C rs fs (.l (v :: vs)) s
 | .lCall f first :: fs, .l vs, s => (K0 C.w.params).In s.heap ∧ wpAny C.M C.A (call f (first ++ vs)) (fun v s => SemR C rs fs (.v v) s) C.E s
 | .lNew tup :: fs, .l vs, s => match tup with
  | true => wpAny C.M C.A (newTuple vs) (fun v s => SemR C rs fs (.v v) s) C.E s
  | false => wpAny C.M C.A (newList vs) (fun v s => SemR C rs fs (.v v) s) C.E s
 | _, _, _ => False
noncomputable def SemV (C : Cx) (rs : List (List Stmt)) (fs : List Fm) (v : Value) (s : Shared) : Prop := SemR C rs fs (.v v) s
noncomputable def SemB (C : Cx) (rs : List (List Stmt)) (fs : List Fm) (b : Bool) (s : Shared) : Prop := SemR C rs fs (.b b) s
noncomputable def SemL (C : Cx) (rs : List (List Stmt)) (fs : List Fm) (l : List Value) (s : Shared) : Prop := SemR C rs fs (.l l) s
noncomputable def SemM (C : Cx) (rs : List (List Stmt)) (fs : List Fm) (pos : Pos) (args : List PySem.Expr) (fx : Value × List Value) (s : Shared) : Prop := wpAny C.M C.A (callWith pos fx.1 fx.2 (backTo pos (starEach args C.env)) []) (SemV C rs fs) C.E s
noncomputable def SemS (C : Cx) (rs : List (List Stmt)) (rest : List Stmt) (_ : Unit) (s : Shared) : Prop := wpAny C.M C.A (execs rest C.env) (SemF C rs) C.E s
inductive Ctl
 | ev (e : PySem.Expr)
 | v (v : Value)
 | b (b : Bool)
 | l (vs : List Value)
 | st (b : List Stmt)
 | ts (e : PySem.Expr)
 | ar (pos : Pos) (es : List PySem.Expr)
noncomputable def fall (C : Cx) (c : Ctl) (rs : List (List Stmt)) (fs : List Fm) (s : Shared) : Prop := match c with
 | .ev e => wpAny C.M C.A (eval e C.env) (SemV C rs fs) C.E s
 | .v v => SemV C rs fs v s
 | .b b => SemB C rs fs b s
 | .l vs => SemL C rs fs vs s
 | .st b => wpAny C.M C.A (execs b C.env) (SemF C rs) C.E s
 | .ts e => wpAny C.M C.A (isTrue e C.env (eval e C.env)) (SemB C rs fs) C.E s
 | .ar pos es => wpAny C.M C.A (spliced (backTo pos (starEach es C.env))) (SemL C rs fs) C.E s
noncomputable def notStar : PySem.Expr → Bool
 | .Starred _ _ => false
 | _ => true
noncomputable def notComp : PySem.Expr → Bool
 | .ListComp _ _ _ _ => false
 | .SetComp _ _ _ _ => false
 | .DictComp _ _ _ _ _ => false
 | _ => true
noncomputable def nameIn (C : Cx) (G : Str → Option Value) (m : LocMap) (x : Str) : Option Value := match C.env.kindOf x with
 | some .local => if x == ("__debug__" : Str) then none else m x
 | some .globalImplicit => if x == ("__debug__" : Str) then none else G x
 | _ => none
noncomputable def locIn (C : Cx) (m : LocMap) (y : Str) : Option Value := match C.env.kindOf y with
 | some .local => if y == ("__debug__" : Str) then none else m y
 | _ => none
noncomputable def callIn (C : Cx) (G : Str → Option Value) (x : Str) (a : PySem.Expr) (r : List PySem.Expr) : Option Value := match C.env.kindOf x with
 | some .globalImplicit => if (x == ("__debug__" : Str)) || !(notStar a && r.all notStar) then none else G x
 | _ => none
noncomputable def isNo (a : Value) : Value → Option Bool
 | .none => some (a == .none)
 | _ => none
noncomputable def eqOf (f : Str → Str → Bool) (g : Int → Int → Bool) : Value → Value → Option Bool
 | .str x _, b => match b with
  | .str y _ => some (f x y)
  | _ => none
 | .int x _, b => match b with
  | .int y _ => some (g x y)
  | _ => none
 | _, _ => none
noncomputable def cmpOf (op : CmpOp) (a b : Value) : Option Bool := match op with
 | .Is => isNo a b
 | .IsNot => (isNo a b).map not
 | .Eq => eqOf BEq.beq BEq.beq a b
 | .NotEq => eqOf bne bne a b
 | _ => none
noncomputable def truthOf : Value → Option Bool
 | .bool b => some b
 | .none => some false
 | _ => none
noncomputable def methOk (args : List PySem.Expr) (apos pos : Pos) : Bool := args.all notStar && decide (args.length < 30) && apos.endLine == pos.line
noncomputable def run (C : Cx) (G : Str → Option Value) (m : LocMap) (s : Shared) (h : Heap) : Nat → Ctl → List (List Stmt) → List Fm → Nat → Prop
 | 0, c, rs, fs, tk => fall C c rs fs { s with heap := h, toks := tk }
 | n + 1, .ev e, rs, fs, tk => match e with
  | .Name x _ => match nameIn C G m x with
   | some v => run C G m s h n (.v v) rs fs tk
   | none => fall C (.ev e) rs fs { s with heap := h, toks := tk }
  | .Constant .none _ _ => run C G m s h n (.v .none) rs fs tk
  | .Constant (.bool b) _ _ => run C G m s h n (.v (.bool b)) rs fs tk
  | .Constant (.int i) _ _ => run C G m s h n (.v (.int i tk)) rs fs (tk + 1)
  | .Constant (.str x) _ _ => run C G m s h n (.v (.str x tk)) rs fs (tk + 1)
  | .Call (.Name x _) (a :: r) [] pos => match callIn C G x a r with
   | some f => run C G m s h n (.ar pos (a :: r)) rs (.lCall f [] :: fs) tk
   | none => fall C (.ev e) rs fs { s with heap := h, toks := tk }
  | .Call (.Attribute (.Name y yp) name apos) args [] pos => match (if methOk args apos pos then locIn C m y else none) with
   | some v => wpAny C.M C.A (getMethod v name (plOf (.Name y yp) C.env)) (SemM C rs fs pos args) C.E { s with heap := h, toks := tk }
   | none => fall C (.ev e) rs fs { s with heap := h, toks := tk }
  | .Attribute (.Name y _) name _ => match locIn C m y with
   | some v => wpAny C.M C.A (getAttr v name true) (SemV C rs fs) C.E { s with heap := h, toks := tk }
   | none => fall C (.ev e) rs fs { s with heap := h, toks := tk }
  | .Subscript _ (.Slice _ _ _ _) _ => fall C (.ev e) rs fs { s with heap := h, toks := tk }
  | .Subscript value slice _ => run C G m s h n (.ev value) rs (.subI value slice :: fs) tk
  | .List es pos => run C G m s h n (.ar pos es) rs (.lNew false :: fs) tk
  | .Tuple es _ pos => run C G m s h n (.ar pos es) rs (.lNew true :: fs) tk
  | .Compare l [op] [r] _ => match behindInMarks op r with
   | false => run C G m s h n (.ev l) rs (.cmpR op r :: fs) tk
   | true => fall C (.ev e) rs fs { s with heap := h, toks := tk }
  | .BinOp l op r _ => run C G m s h n (.ev l) rs (.binR op r :: fs) tk
  | .IfExp t b o _ => run C G m s h n (.ts t) rs (.bIfE b o :: fs) tk
  | _ => fall C (.ev e) rs fs { s with heap := h, toks := tk }
 | n + 1, .v v, rs, fs, tk => match fs with
  | .set x rest :: _ => wpAny C.M C.A (storeName C.env x v) (SemS C rs rest) C.E { s with heap := h, toks := tk }
  | .ret :: _ => C.Q (.ret v) { s with heap := h, toks := tk }
  | .drop rest :: _ => run C G m s h n (.st rest) rs [] tk
  | .arg pos rest :: fs => run C G m s h n (.ar pos rest) rs (.lVal v :: fs) tk
  | .attr name :: fs => wpAny C.M C.A (getAttr v name true) (SemV C rs fs) C.E { s with heap := h, toks := tk }
  | .meth o name pos args :: fs => wpAny C.M C.A (getMethod v name (plOf o C.env)) (SemM C rs fs pos args) C.E { s with heap := h, toks := tk }
  | .cmpR op r :: fs => run C G m s h n (.ev r) rs (.cmpT op v :: fs) tk
  | .cmpT op a :: fs => match cmpOf op a v with
   | some b => run C G m s h n (.v (.bool b)) rs fs tk
   | none => wpAny C.M C.A (compareOp op a v) (SemV C rs fs) C.E { s with heap := h, toks := tk }
  | .truth :: fs => match truthOf v with
   | some b => run C G m s h n (.b b) rs fs tk
   | none => wpAny C.M C.A (truthy v) (SemB C rs fs) C.E { s with heap := h, toks := tk }
  | .subI value slice :: fs => run C G m s h n (.ev slice) rs (.subT value slice v :: fs) tk
  | .subT value slice o :: fs => wpAny C.M C.A (subscriptTail value slice o v) (SemV C rs fs) C.E { s with heap := h, toks := tk }
  | .binR op r :: fs => run C G m s h n (.ev r) rs (.binT op v :: fs) tk
  | .binT op a :: fs => wpAny C.M C.A (binaryOp op a v) (SemV C rs fs) C.E { s with heap := h, toks := tk }
  | fs => SemV C rs fs v { s with heap := h, toks := tk }
 | n + 1, .b b, rs, fs, tk => match fs with
  | .bIf body orelse rest :: _ => if b then run C G m s h n (.st body) (rest :: rs) [] tk else run C G m s h n (.st orelse) (rest :: rs) [] tk
  | .bIfE x y :: fs => if b then run C G m s h n (.ev x) rs fs tk else run C G m s h n (.ev y) rs fs tk
  | .bNot :: fs => run C G m s h n (.b !b) rs fs tk
  | .bAnd pos rest :: fs => if b then run C G m s h n (.ts (.BoolOp .And rest pos)) rs fs tk else run C G m s h n (.b false) rs fs tk
  | .bOr pos rest :: fs => if b then run C G m s h n (.b true) rs fs tk else run C G m s h n (.ts (.BoolOp .Or rest pos)) rs fs tk
  | fs => SemB C rs fs b { s with heap := h, toks := tk }
 | n + 1, .l vs, rs, fs, tk => match fs with
  | .lVal v :: fs => run C G m s h n (.l (v :: vs)) rs fs tk
  | .lCall f [] :: fs => wpAny C.M C.A (call f vs) (SemV C rs fs) C.E { s with heap := h, toks := tk }
  | .lCall f [x] :: fs => wpAny C.M C.A (call f (x :: vs)) (SemV C rs fs) C.E { s with heap := h, toks := tk }
  | .lNew true :: fs => wpAny C.M C.A (newTuple vs) (SemV C rs fs) C.E { s with heap := h, toks := tk }
  | .lNew false :: fs => wpAny C.M C.A (newList vs) (SemV C rs fs) C.E { s with heap := h, toks := tk }
  | fs => SemL C rs fs vs { s with heap := h, toks := tk }
 | n + 1, .st b, rs, fs, tk => match b with
  | [] => match rs with
   | [] => C.Q .next { s with heap := h, toks := tk }
   | r :: rs => run C G m s h n (.st r) rs [] tk
  | .Assign [.Name x px] value pos :: rest => match notComp value with
   | true => run C G m s h n (.ev value) rs [.set x rest] tk
   | false => wpAny C.M C.A (exec (.Assign [.Name x px] value pos) C.env) (SemF C (rest :: rs)) C.E { s with heap := h, toks := tk }
  | .Expr e pos :: rest => match notComp e && !(interactive C.env) with
   | true => run C G m s h n (.ev e) rs [.drop rest] tk
   | false => wpAny C.M C.A (exec (.Expr e pos) C.env) (SemF C (rest :: rs)) C.E { s with heap := h, toks := tk }
  | .Return (some e) _ :: _ => run C G m s h n (.ev e) rs [.ret] tk
  | .If t body orelse _ :: rest => run C G m s h n (.ts t) rs [.bIf body orelse rest] tk
  | st :: rest => wpAny C.M C.A (exec st C.env) (SemF C (rest :: rs)) C.E { s with heap := h, toks := tk }
 | n + 1, .ts e, rs, fs, tk => match e with
  | .BoolOp .And [] _ => run C G m s h n (.b true) rs fs tk
  | .BoolOp .And (x :: r) pos => run C G m s h n (.ts x) rs (.bAnd pos r :: fs) tk
  | .BoolOp .Or [] _ => run C G m s h n (.b false) rs fs tk
  | .BoolOp .Or (x :: r) pos => run C G m s h n (.ts x) rs (.bOr pos r :: fs) tk
  | .UnaryOp .Not x _ => run C G m s h n (.ts x) rs (.bNot :: fs) tk
  | .Compare l [op] [r] _ => match behindInMarks op r with
   | false => run C G m s h n (.ev l) rs (.cmpR op r :: .truth :: fs) tk
   | true => fall C (.ts e) rs fs { s with heap := h, toks := tk }
  | .Name x p => run C G m s h n (.ev (.Name x p)) rs (.truth :: fs) tk
  | .Call f a k p => run C G m s h n (.ev (.Call f a k p)) rs (.truth :: fs) tk
  | .Attribute o x p => run C G m s h n (.ev (.Attribute o x p)) rs (.truth :: fs) tk
  | _ => fall C (.ts e) rs fs { s with heap := h, toks := tk }
 | n + 1, .ar pos es, rs, fs, tk => match es with
  | [] => run C G m s h n (.l []) rs fs tk
  | e :: r => match notStar e with
   | true => run C G m s h n (.ev e) rs (.arg pos r :: fs) tk
   | false => fall C (.ar pos (e :: r)) rs fs { s with heap := h, toks := tk }
section
def GOk (w : World) (G : Str → Option Value) : Prop := ∀ x f, G x = some f →
 (nsIn (K0 w.params) mainGlobals x = some (some f) ∧ keepIn (K0 w.params) f = true) ∨
 (nsIn (K0 w.params) mainGlobals x = some none ∧ bootBuiltins x = some f ∧ x ≠ "__name__" ∧ ((∃ id, f = .builtin id) ∨ ∃ T, f = .type T))
theorem star_cons {e : PySem.Expr} (h : notStar e = true) (rest : List PySem.Expr) (env : Env) : starEach (e :: rest) env = (false, eval e env) :: starEach rest env := by
 cases e <;> first | rfl | cases h
theorem star_all {pos : Pos} {env : Env} : ∀ {r : List PySem.Expr}, r.all notStar = true → (backTo pos (starEach r env)).any (·.1) = false
 | [], _ => rfl
 | e :: r, h => by
  rw [List.all_cons, Bool.and_eq_true] at h
  rw [star_cons h.1]
  show (false || (backTo pos (starEach r env)).any (·.1)) = false
  rw [star_all h.2]; rfl
theorem star_none {pos : Pos} {env : Env} : ∀ {r : List PySem.Expr}, r.all notStar = true → (backTo pos (starEach r env)).all (!·.1) = true
 | [], _ => rfl
 | e :: r, h => by
  rw [List.all_cons, Bool.and_eq_true] at h
  rw [star_cons h.1]
  show (true && (backTo pos (starEach r env)).all (!·.1)) = true
  rw [star_none h.2]; rfl
theorem swaps_no {e : PySem.Expr} (h : notComp e = true) (t : Option PySem.Expr) (l : Nat) (env : Env) : swapsWith e t l env = pure false := by
 cases e <;> first | rfl | cases h
section
variable {C : Cx} {m : Str → Option Value}
theorem name_ok (F : Fr h₀ C.L s.heap m) (X : (K0 C.w.params).In h₀) (T : TopRead p loose mg mb h₀) (hk : C.cs.kind = .function) (hG : GOk C.w G) {x : Str} {v : Value} (h : nameIn C G m x = some v) (hq : Q v s) :
  wpAny C.M C.A (eval (.Name x pos) C.env) Q C.E s := by
 unfold nameIn at h
 split at h
 ·rename_i hx
  split at h
  ·cases h
  ·rename_i hd
   exact nameX_L F h hq hk hx (by simpa using hd)
 ·rename_i hx
  split at h
  ·cases h
  ·rename_i hd
   rcases hG x v h with ⟨a, _⟩ | ⟨a, b, c, _⟩
   ·exact nameX_K F X T a hq hk hx (by simpa using hd)
   ·exact nameX_B F X T a b c hq hk hx (by simpa using hd)
 ·cases h
theorem SemF_ret (C : Cx) (v : Value) (s : Shared) : ∀ rs, SemF C rs (.ret v) s = C.Q (.ret v) s
 | [] => rfl
 | _ :: rs => by
  show SemF C rs (.ret v) s = _
  exact SemF_ret C v s rs
theorem SemF_cons {st : Stmt} (h : wpAny C.M C.A (exec st C.env) (SemF C (rest :: rs)) C.E s) : wpAny C.M C.A (execs (st :: rest) C.env) (SemF C rs) C.E s :=
 wpAny_execs_cons (wpAny_mono h (fun fl s' h' => by cases fl <;> exact h') fun _ _ x => x)
theorem call_n (F : Fr h₀ C.L s.heap m) (X : (K0 C.w.params).In h₀) (T : TopRead p loose mg mb h₀) (hk : C.cs.kind = .function) (hG : GOk C.w G) {x : Str} {f : Value} {a : PySem.Expr} {r : List PySem.Expr} (hx : C.env.kindOf x = some .globalImplicit) (hf : G x = some f) (hr : r.all notStar = true) (ha : notStar a = true) (hd : (x == ("__debug__" : Str)) = false) (h : wpAny C.M C.A (spliced (backTo pos (starEach (a :: r) C.env))) (fun vs s₁ => (K0 C.w.params).In s₁.heap ∧ wpAny C.M C.A (call f ([] ++ vs)) Q C.E s₁) C.E s) : wpAny C.M C.A (eval (.Call (.Name x px) (a :: r) [] pos) C.env) Q C.E s := by
 refine Call_ ?_
 rcases hG x f hf with ⟨a1, a2⟩ | ⟨a1, a2, a3, ⟨id, rfl⟩ | ⟨T', rfl⟩⟩
 ·exact nameX_K F X T a1 (callWith_K X a2 h (star_cons ha _ _) (star_all hr)) hk hx hd
 ·exact nameX_B F X T a1 a2 a3 (callWith_method1 (wpAny_mono h (fun _ _ y => y.2) fun _ _ y => y) (star_cons ha _ _) (star_all hr)) hk hx hd
 ·exact nameX_B F X T a1 a2 a3 (Pv.callWith_type1 (wpAny_mono h (fun _ _ y => y.2) fun _ _ y => y) (star_cons ha _ _) (star_all hr)) hk hx hd
theorem attr_he {attr : Str} {env : Env} : eval (.Attribute (.Name y yp) attr pos) env = (do
   let o ← eval (.Name y yp) env
   standAt pos.atName
   let r ← holding [o] (getAttr o attr true)
   letTemporaryGo (.Name y yp) o r
   pure r) := by with_unfolding_all rfl
theorem meth_he {apos : Pos} {args : List PySem.Expr} {env : Env} (h : methOk args apos pos = true) : eval (.Call (.Attribute (.Name y yp) name apos) args [] pos) env = (do
   let ov ← eval (.Name y yp) env
   standAt apos.atName
   let (f, first) ← holding [ov] (getMethod ov name (plOf (.Name y yp) env))
   callWith pos f first (backTo pos (starEach args env)) []) := by
 unfold methOk at h
 rw [Bool.and_eq_true, Bool.and_eq_true] at h
 refine o0_2 h fun zq0 h3 => ?_
 clear h
 refine o0_2 zq0 fun h1 h2 => ?_
 clear zq0
 have hf : methodCallForm (args.length + ([] : List Keyword).length) (backTo pos (starEach args env)) (backToKw pos (keywordEach [] env)) = true := by
  show ((backTo pos (starEach args env)).all (!·.1) && true && decide (args.length + 0 + 0 < 30)) = true
  rw [star_none h1]
  simpa using h2
 rw [arm_eval_Call]
 show (do
  let ov ← eval (.Name y yp) env
  standAt apos.atName
  methodCall (.Name y yp) name apos pos env ov (args.length + ([] : List Keyword).length) (backTo pos (starEach args env)) (backToKw pos (keywordEach [] env))) = _
 unfold methodCall
 rw [hf]
 unfold methodCallPos
 rw [h3]
 rfl
end
end
section
theorem nnS {α : Type} {c : α} (h : none = some c) : R := by cases h
theorem isNo_ok {a b : Value} {c : Bool} (h : isNo a b = some c) : b = .none ∧ c = (a == .none) := by
 cases b <;> first | exact ⟨rfl, (Option.some.inj h).symm⟩ | exact nnS h
theorem eqOf_ok {f g} {a b : Value} {c : Bool} (h : eqOf f g a b = some c) (k : ∀ x t y u, a = .str x t → b = .str y u → c = f x y → R) (l : ∀ x t y u, a = .int x t → b = .int y u → c = g x y → R) : R := by
 cases a with
 | str x t => cases b <;> first | exact k _ _ _ _ rfl rfl (Option.some.inj h).symm | exact nnS h
 | int x t => cases b <;> first | exact l _ _ _ _ rfl rfl (Option.some.inj h).symm | exact nnS h
 | _ => exact nnS h
theorem cmpOf_ok {a b : Value} {c : Bool} (h : cmpOf op a b = some c) (hq : Q (.bool c) s) : wpAny (model prog w) A (compareOp op a b) Q E s := by
 cases op with
 | Is => obtain ⟨rfl, rfl⟩ := isNo_ok h; exact is_none hq
 | IsNot =>
  obtain ⟨d, k, rfl⟩ := Option.map_eq_some_iff.mp (h : (isNo a b).map not = some c)
  obtain ⟨rfl, rfl⟩ := isNo_ok k; exact isNot_none hq
 | Eq => exact eqOf_ok h (fun _ _ _ _ e f g => by subst e f g; exact eq_str hq) (fun _ _ _ _ e f g => by subst e f g; exact eq_int hq)
 | NotEq => exact eqOf_ok h (fun _ _ _ _ e f g => by subst e f g; exact ne_str hq) (fun _ _ _ _ e f g => by subst e f g; exact ne_int hq)
 | _ => exact nnS h
theorem truthOf_ok {M : Model} {v : Value} {b : Bool} {Q : Bool → Shared → Prop} (h : truthOf v = some b) (hq : Q b s) : wpAny M A (truthy v) Q E s := by
 unfold truthOf at h
 split at h
 ·cases h; exact wpAny_truthy_bool hq
 ·cases h; exact truthy_none hq
 ·cases h
section
variable {C : Cx} {m : Str → Option Value}
theorem locIn_ok {v : Value} (h : locIn C m y = some v) : C.env.kindOf y = some .local ∧ m y = some v ∧ (y == ("__debug__" : Str)) = false := by
 unfold locIn at h
 cases hk : C.env.kindOf y with
 | none => rw [hk] at h; cases h
 | some k =>
  rw [hk] at h
  cases k with
  | «local» =>
   cases hd : (y == ("__debug__" : Str)) with
   | true => simp [hd] at h
   | false => exact ⟨rfl, by simpa [hd] using h, rfl⟩
  | _ => cases h
theorem callIn_ok {x : Str} {a : PySem.Expr} {r : List PySem.Expr} {f : Value} (h : callIn C G x a r = some f) : C.env.kindOf x = some .globalImplicit ∧ G x = some f ∧ r.all notStar = true ∧ notStar a = true ∧ (x == ("__debug__" : Str)) = false := by
 unfold callIn at h
 cases hk : C.env.kindOf x with
 | none => rw [hk] at h; cases h
 | some k =>
  rw [hk] at h
  cases k with
  | globalImplicit =>
   cases hd : (x == ("__debug__" : Str)) with
   | true => simp [hd] at h
   | false =>
    cases h1 : notStar a with
    | false => simp [hd, h1] at h
    | true =>
     cases h2 : r.all notStar with
     | false => simp [hd, h1, h2] at h
     | true => exact ⟨rfl, by simpa [hd, h1, h2] using h, rfl, rfl, rfl⟩
  | _ => cases h
theorem run_ok (F : Fr h₀ C.L hp m) (X : (K0 C.w.params).In h₀) (T : TopRead p loose mg mb h₀) (hk : C.cs.kind = .function) (hG : GOk C.w G) : ∀ (n : Nat) (c : Ctl) (rs : List (List Stmt)) (fs : List Fm) (tk : Nat), run C G m s hp n c rs fs tk → fall C c rs fs { s with heap := hp, toks := tk }
 | 0, c, rs, fs, tk, h => h
 | n + 1, .ev e, rs, fs, tk, h => by
  have F' : ∀ tk : Nat, Fr h₀ C.L ({ s with heap := hp, toks := tk } : Shared).heap m := fun _ => F
  have ih := run_ok F X T hk hG n
  show wpAny C.M C.A (eval e C.env) (SemV C rs fs) C.E { s with heap := hp, toks := tk }
  cases e with
  | Name x p =>
   have h' : (match nameIn C G m x with | some v => run C G m s hp n (.v v) rs fs tk | none => fall C (.ev (.Name x p)) rs fs { s with heap := hp, toks := tk }) := h
   cases hv : nameIn C G m x with
   | some v => rw [hv] at h'; exact name_ok (F' tk) X T hk hG hv (ih _ _ _ _ h')
   | none => rw [hv] at h'; exact h'
  | Constant c k p =>
   cases c with
   | none => exact wpAny_Constant_none (ih _ _ _ _ h)
   | bool b => exact wpAny_Constant_bool (ih _ _ _ _ h)
   | int i => exact wpAny_Constant_int (ih _ _ _ _ h)
   | str x => exact wpAny_Constant_str (ih _ _ _ _ h)
   | _ => exact h
  | Call f args kws pos =>
   cases f with
   | Name x px =>
    cases args with
    | nil => exact h
    | cons a r =>
     cases kws with
     | cons _ _ => exact h
     | nil =>
      have h' : (match callIn C G x a r with | some f => run C G m s hp n (.ar pos (a :: r)) rs (.lCall f [] :: fs) tk | none => fall C (.ev (.Call (.Name x px) (a :: r) [] pos)) rs fs { s with heap := hp, toks := tk }) := h
      cases hv : callIn C G x a r with
      | some f => rw [hv] at h'; refine o0_5 (callIn_ok hv) fun h1 h2 h3 h4 h5 => ?_; exact call_n (F' tk) X T hk hG h1 h2 h3 h4 h5 (ih _ _ _ _ h')
      | none => rw [hv] at h'; exact h'
   | Attribute o name apos =>
    cases o with
    | Name y yp =>
     cases kws with
     | cons _ _ => exact h
     | nil =>
      have h' : (match (if methOk args apos pos then locIn C m y else none) with | some v => wpAny C.M C.A (getMethod v name (plOf (.Name y yp) C.env)) (SemM C rs fs pos args) C.E { s with heap := hp, toks := tk } | none => fall C (.ev (.Call (.Attribute (.Name y yp) name apos) args [] pos)) rs fs { s with heap := hp, toks := tk }) := h
      cases hm : methOk args apos pos with
      | false => rw [hm] at h'; exact h'
      | true =>
       rw [hm] at h'
       cases hv : locIn C m y with
       | some v => rw [hv] at h'; refine o0_3 (locIn_ok hv) fun h1 h2 h3 => ?_; exact MethodCall_ (nameX_L (F' tk) h2 h' hk h1 h3) (meth_he hm)
       | none => rw [hv] at h'; exact h'
    | _ => exact h
   | _ => exact h
  | Attribute o name p =>
   cases o with
   | Name y yp =>
    have h' : (match locIn C m y with | some v => wpAny C.M C.A (getAttr v name true) (SemV C rs fs) C.E { s with heap := hp, toks := tk } | none => fall C (.ev (.Attribute (.Name y yp) name p)) rs fs { s with heap := hp, toks := tk }) := h
    cases hv : locIn C m y with
    | some v => rw [hv] at h'; refine o0_3 (locIn_ok hv) fun h1 h2 h3 => ?_; exact Attribute_Name_ (nameX_L (F' tk) h2 h' hk h1 h3) attr_he
    | none => rw [hv] at h'; exact h'
   | _ => exact h
  | Subscript value slice p => cases slice <;> first | exact h | exact Subscript_ (ih _ _ _ _ h)
  | List es p => exact List_ (ih _ _ _ _ h)
  | Tuple es k p => exact Tuple_ (ih _ _ _ _ h)
  | Compare l ops rs' p =>
   cases ops with
   | nil => exact h
   | cons op o2 =>
    cases o2 with
    | cons _ _ => exact h
    | nil =>
     cases rs' with
     | nil => exact h
     | cons r r2 =>
      cases r2 with
      | cons _ _ => exact h
      | nil =>
       have h' : (match behindInMarks op r with | false => run C G m s hp n (.ev l) rs (.cmpR op r :: fs) tk | true => fall C (.ev (.Compare l [op] [r] p)) rs fs { s with heap := hp, toks := tk }) := h
       cases hb : behindInMarks op r with
       | false => rw [hb] at h'; exact wpAny_Compare1 (ih _ _ _ _ h') hb
       | true => rw [hb] at h'; exact h'
  | BinOp l op r p => exact wpAny_BinOp (ih _ _ _ _ h)
  | IfExp a b c p => exact IfExp_ (ih _ _ _ _ h)
  | _ => exact h
 | n + 1, .v v, rs, fs, tk, h => by
  have ih := run_ok F X T hk hG n
  show SemV C rs fs v { s with heap := hp, toks := tk }
  cases fs with
  | nil => exact h
  | cons f fs =>
   cases f with
   | ret => show SemF C rs (.ret v) _; rw [SemF_ret]; exact h
   | drop rest => exact ih _ _ _ _ h
   | arg pos rest => exact ih _ _ _ _ h
   | cmpR op r => exact ih _ _ _ _ h
   | cmpT op a =>
    have h' : (match cmpOf op a v with | some b => run C G m s hp n (.v (.bool b)) rs fs tk | none => wpAny C.M C.A (compareOp op a v) (SemV C rs fs) C.E { s with heap := hp, toks := tk }) := h
    cases hc : cmpOf op a v with
    | some b => rw [hc] at h'; exact cmpOf_ok hc (ih _ _ _ _ h')
    | none => rw [hc] at h'; exact h'
   | truth =>
    have h' : (match truthOf v with | some b => run C G m s hp n (.b b) rs fs tk | none => wpAny C.M C.A (truthy v) (SemB C rs fs) C.E { s with heap := hp, toks := tk }) := h
    cases hc : truthOf v with
    | some b => rw [hc] at h'; exact truthOf_ok hc (ih _ _ _ _ h')
    | none => rw [hc] at h'; exact h'
   | subI value slice => exact ih _ _ _ _ h
   | binR op r => exact ih _ _ _ _ h
   | _ => exact h
 | n + 1, .b b, rs, fs, tk, h => by
  have ih := run_ok F X T hk hG n
  show SemB C rs fs b { s with heap := hp, toks := tk }
  cases fs with
  | nil => exact h
  | cons f fs =>
   cases f with
   | bIf body orelse rest => cases b <;> exact ih _ _ _ _ h
   | bIfE x y => cases b <;> exact ih _ _ _ _ h
   | bNot => exact ih _ _ _ _ h
   | bAnd pos rest => cases b <;> exact ih _ _ _ _ h
   | bOr pos rest => cases b <;> exact ih _ _ _ _ h
   | _ => exact h
 | n + 1, .l vs, rs, fs, tk, h => by
  have ih := run_ok F X T hk hG n
  show SemL C rs fs vs { s with heap := hp, toks := tk }
  cases fs with
  | nil => exact h
  | cons f fs =>
   cases f with
   | lVal v => exact ih _ _ _ _ h
   | lCall f first =>
    cases first with
    | nil => exact ⟨X.keeps F.keep, h⟩
    | cons x r =>
     cases r with
     | nil => exact ⟨X.keeps F.keep, h⟩
     | cons _ _ => exact h
   | lNew tup => cases tup <;> exact h
   | _ => exact h
 | n + 1, .st b, rs, fs, tk, h => by
  have ih := run_ok F X T hk hG n
  show wpAny C.M C.A (execs b C.env) (SemF C rs) C.E { s with heap := hp, toks := tk }
  cases b with
  | nil =>
   cases rs with
   | nil => exact wpAny_execs_nil h
   | cons r rs => exact wpAny_execs_nil (ih _ _ _ _ h)
  | cons st rest =>
   cases st with
   | Assign targets value pos =>
    cases targets with
    | nil => exact SemF_cons h
    | cons t r =>
     cases r with
     | cons _ _ => cases t <;> exact SemF_cons h
     | nil =>
      cases t with
      | Name x px =>
       have h' : (match notComp value with | true => run C G m s hp n (.ev value) rs [.set x rest] tk | false => wpAny C.M C.A (exec (.Assign [.Name x px] value pos) C.env) (SemF C (rest :: rs)) C.E { s with heap := hp, toks := tk }) := h
       cases hc : notComp value with
       | true => rw [hc] at h'; exact ex_set (ih _ _ _ _ h') (swaps_no hc _ _ _)
       | false => rw [hc] at h'; exact SemF_cons h'
      | _ => exact SemF_cons h
   | Expr e pos =>
    have h' : (match notComp e && !(interactive C.env) with | true => run C G m s hp n (.ev e) rs [.drop rest] tk | false => wpAny C.M C.A (exec (.Expr e pos) C.env) (SemF C (rest :: rs)) C.E { s with heap := hp, toks := tk }) := h
    cases hc : notComp e && !(interactive C.env) with
    | true =>
     rw [hc] at h'
     rw [Bool.and_eq_true] at hc
     exact ex_expr (ih _ _ _ _ h') (by simpa using hc.2) (swaps_no hc.1 _ _ _)
    | false => rw [hc] at h'; exact SemF_cons h'
   | Return e pos =>
    cases e with
    | none => exact SemF_cons h
    | some e => refine ex_ret ?_; exact ih _ _ _ _ h
   | If t body orelse pos => refine SemF_cons (wpAny_If ?_); exact ih _ _ _ _ h
   | _ => exact SemF_cons h
 | n + 1, .ts e, rs, fs, tk, h => by
  have ih := run_ok F X T hk hG n
  show wpAny C.M C.A (isTrue e C.env (eval e C.env)) (SemB C rs fs) C.E { s with heap := hp, toks := tk }
  cases e with
  | BoolOp op vs p =>
   cases op with
   | And =>
    cases vs with
    | nil => exact isTrue_and_nil (ih _ _ _ _ h)
    | cons x r => exact isTrue_and (ih _ _ _ _ h)
   | Or =>
    cases vs with
    | nil => exact isTrue_or_nil (ih _ _ _ _ h)
    | cons x r => exact isTrue_or (ih _ _ _ _ h)
  | UnaryOp op x p =>
   cases op with
   | Not => exact isTrue_not (ih _ _ _ _ h)
   | _ => exact h
  | Compare l ops rs' p =>
   cases ops with
   | nil => exact h
   | cons op o2 =>
    cases o2 with
    | cons _ _ => exact h
    | nil =>
     cases rs' with
     | nil => exact h
     | cons r r2 =>
      cases r2 with
      | cons _ _ => exact h
      | nil =>
       have h' : (match behindInMarks op r with | false => run C G m s hp n (.ev l) rs (.cmpR op r :: .truth :: fs) tk | true => fall C (.ts (.Compare l [op] [r] p)) rs fs { s with heap := hp, toks := tk }) := h
       cases hb : behindInMarks op r with
       | false => rw [hb] at h'; exact wpAny_isTrue_Compare1 (ih _ _ _ _ h') hb
       | true => rw [hb] at h'; exact h'
  | Name x p => exact isTrue_plain (ih _ _ _ _ h)
  | Call f a k p => exact isTrue_plain (ih _ _ _ _ h)
  | Attribute o x p => exact isTrue_plain (ih _ _ _ _ h)
  | _ => exact h
 | n + 1, .ar pos es, rs, fs, tk, h => by
  have ih := run_ok F X T hk hG n
  show wpAny C.M C.A (spliced (backTo pos (starEach es C.env))) (SemL C rs fs) C.E { s with heap := hp, toks := tk }
  cases es with
  | nil => exact args_nil (ih _ _ _ _ h)
  | cons e r =>
   have h' : (match notStar e with | true => run C G m s hp n (.ev e) rs (.arg pos r :: fs) tk | false => fall C (.ar pos (e :: r)) rs fs { s with heap := hp, toks := tk }) := h
   cases hc : notStar e with
   | true => rw [hc] at h'; exact args_cons (ih _ _ _ _ h') (star_cons hc _ _)
   | false => rw [hc] at h'; exact h'
variable {tk : Nat} {fs : List Fm}
theorem go_st (n : Nat) {b : List Stmt} (F : Fr h₀ C.L hp m) (X : (K0 C.w.params).In h₀) (T : TopRead p loose mg mb h₀) (hk : C.cs.kind = .function) (hG : GOk C.w G) (h : run C G m s hp n (.st b) rs [] tk) : wpAny C.M C.A (execs b C.env) (SemF C rs) C.E { s with heap := hp, toks := tk } := run_ok F X T hk hG n _ rs [] tk h
theorem go_s (n : Nat) {b : List Stmt} {u : Unit} (F : Fr h₀ C.L hp m) (X : (K0 C.w.params).In h₀) (T : TopRead p loose mg mb h₀) (hk : C.cs.kind = .function) (hG : GOk C.w G) (h : run C G m s hp n (.st b) rs [] tk) : SemS C rs b u { s with heap := hp, toks := tk } := run_ok F X T hk hG n _ rs [] tk h
theorem go_f (n : Nat) {b : List Stmt} (F : Fr h₀ C.L hp m) (X : (K0 C.w.params).In h₀) (T : TopRead p loose mg mb h₀) (hk : C.cs.kind = .function) (hG : GOk C.w G) (h : run C G m s hp n (.st b) rs [] tk) : SemF C (b :: rs) .next { s with heap := hp, toks := tk } := run_ok F X T hk hG n _ rs [] tk h
theorem go_r {v : Value} (h : C.Q (.ret v) s) : SemF C rs (.ret v) s := by rw [SemF_ret]; exact h
theorem SemF_brk (C : Cx) (s : Shared) : ∀ rs, SemF C rs .brk s = C.Q .brk s
 | [] => rfl
 | _ :: rs => by
  show SemF C rs .brk s = _
  exact SemF_brk C s rs
theorem SemF_cont (C : Cx) (s : Shared) : ∀ rs, SemF C rs .cont s = C.Q .cont s
 | [] => rfl
 | _ :: rs => by
  show SemF C rs .cont s = _
  exact SemF_cont C s rs
theorem go_k (h : C.Q .brk s) : SemF C rs .brk s := by rw [SemF_brk]; exact h
theorem go_c (h : C.Q .cont s) : SemF C rs .cont s := by rw [SemF_cont]; exact h
theorem go_n (h : C.Q .next s) : SemF C [] .next s := h
theorem go_v (n : Nat) {v : Value} (F : Fr h₀ C.L hp m) (X : (K0 C.w.params).In h₀) (T : TopRead p loose mg mb h₀) (hk : C.cs.kind = .function) (hG : GOk C.w G) (h : run C G m s hp n (.v v) rs fs tk) : SemV C rs fs v { s with heap := hp, toks := tk } := run_ok F X T hk hG n _ rs fs tk h
theorem go_b (n : Nat) {b : Bool} (F : Fr h₀ C.L hp m) (X : (K0 C.w.params).In h₀) (T : TopRead p loose mg mb h₀) (hk : C.cs.kind = .function) (hG : GOk C.w G) (h : run C G m s hp n (.b b) rs fs tk) : SemB C rs fs b { s with heap := hp, toks := tk } := run_ok F X T hk hG n _ rs fs tk h
theorem go_l (n : Nat) (F : Fr h₀ C.L hp m) (X : (K0 C.w.params).In h₀) (T : TopRead p loose mg mb h₀) (hk : C.cs.kind = .function) (hG : GOk C.w G) (h : run C G m s hp n (.l vs) rs fs tk) : SemL C rs fs vs { s with heap := hp, toks := tk } := run_ok F X T hk hG n _ rs fs tk h
theorem go_m (n : Nat) {f : Value} {e : PySem.Expr} {r : List PySem.Expr} (F : Fr h₀ C.L hp m) (X : (K0 C.w.params).In h₀) (T : TopRead p loose mg mb h₀) (hk : C.cs.kind = .function) (hG : GOk C.w G) (hf : keepIn (K0 C.w.params) f = true) (hs : (e :: r).all notStar = true) (h : run C G m s hp n (.ar pos (e :: r)) rs (.lCall f first :: fs) tk) : SemM C rs fs pos (e :: r) (f, first) { s with heap := hp, toks := tk } := by
 rw [List.all_cons, Bool.and_eq_true] at hs
 exact callWith_K X hf (run_ok F X T hk hG n _ rs _ tk h) (star_cons hs.1 _ _) (star_all hs.2)
theorem go_m0 {f : Value} (F : Fr h₀ C.L hp m) (X : (K0 C.w.params).In h₀) (hf : keepIn (K0 C.w.params) f = true) (h : wpAny C.M C.A (call f (first ++ [])) (SemV C rs fs) C.E { s with heap := hp, toks := tk }) : SemM C rs fs pos [] (f, first) { s with heap := hp, toks := tk } := callWith_K0 (X.keeps F.keep) hf h
theorem go_mb (n : Nat) {e : PySem.Expr} {r : List PySem.Expr} (F : Fr h₀ C.L hp m) (X : (K0 C.w.params).In h₀) (T : TopRead p loose mg mb h₀) (hk : C.cs.kind = .function) (hG : GOk C.w G) (hs : (e :: r).all notStar = true) (h : run C G m s hp n (.ar pos (e :: r)) rs (.lCall (.builtin id) first :: fs) tk) : SemM C rs fs pos (e :: r) (.builtin id, first) { s with heap := hp, toks := tk } := by
 rw [List.all_cons, Bool.and_eq_true] at hs
 refine callWith_method1 ?_ (star_cons hs.1 _ _) (star_all hs.2)
 exact wpAny_mono (run_ok F X T hk hG n _ rs _ tk h) (fun _ _ y => y.2) fun _ _ y => y
theorem go_mb0 (h : wpAny C.M C.A (call (.builtin id) first) (SemV C rs fs) C.E s) : SemM C rs fs pos [] (.builtin id, first) s := callWith_method0 h
end
end
theorem fill_BG : (Mine.K0 = Mine.K0 ∧ PySem.Challenge.rw_pq1381_01.most = PySem.Challenge.rw_pq1381_01.most) → True := by
 k_fill
 exact fun _ => trivial
def Good (w : World) (q : Str × Value) : Prop :=
 (nsIn (K0 w.params) mainGlobals q.1 = some (some q.2) ∧ keepIn (K0 w.params) q.2 = true) ∨
 (nsIn (K0 w.params) mainGlobals q.1 = some none ∧ bootBuiltins q.1 = some q.2 ∧ q.1 ≠ "__name__" ∧ ((∃ id, q.2 = .builtin id) ∨ ∃ T, q.2 = .type T))
theorem gI {x : Str} {v : Value} (a : nsIn (K0 w.params) mainGlobals x = some (some v)) (b : keepIn (K0 w.params) v = true) : Good w (x, v) := .inl ⟨a, b⟩
theorem gB {x : Str} {v : Value} (a : nsIn (K0 w.params) mainGlobals x = some none) (b : bootBuiltins x = some v) (c : x ≠ "__name__") (d : (∃ id, v = .builtin id) ∨ ∃ T, v = .type T) : Good w (x, v) := .inr ⟨a, b, c, d⟩
theorem g_dict (w) : Good w ("dict", .type "dict") := gB (by k_is) (by boot_fast) (by decide) (.inr ⟨_, rfl⟩)
theorem g_isinstance (w) : Good w ("isinstance", .builtin "isinstance") := gB (by k_is) (by boot_fast) (by decide) (.inl ⟨_, rfl⟩)
theorem g_len (w) : Good w ("len", .builtin "len") := gB (by k_is) (by boot_fast) (by decide) (.inl ⟨_, rfl⟩)
theorem g_list (w) : Good w ("list", .type "list") := gB (by k_is) (by boot_fast) (by decide) (.inr ⟨_, rfl⟩)
theorem g_range (w) : Good w ("range", .type "range") := gB (by k_is) (by boot_fast) (by decide) (.inr ⟨_, rfl⟩)
theorem g_sorted (w) : Good w ("sorted", .builtin "sorted") := gB (by k_is) (by boot_fast) (by decide) (.inl ⟨_, rfl⟩)
theorem g_str (w) : Good w ("str", .type "str") := gB (by k_is) (by boot_fast) (by decide) (.inr ⟨_, rfl⟩)
noncomputable def gRows : List (Addr × List (Str × Value)) := [
 (136, [(Str.ofString "Refusal", .ref 51), (Str.ofString "len", .builtin "len")]),
 (179, [(Str.ofString "dict", .type "dict"), (Str.ofString "Vector", .ref 182), (Str.ofString "list", .type "list")]),
 (300, [(Str.ofString "Refusal", .ref 51), (Str.ofString "str", .type "str")]),
 (307, [(Str.ofString "Null", .ref 153)]),
 (314, [(Str.ofString "Vector", .ref 182), (Str.ofString "list", .type "list")]),
 (321, [(Str.ofString "Vector", .ref 182)]),
 (328, [(Str.ofString "Vector", .ref 182)]),
 (342, [(Str.ofString "list", .type "list"), (Str.ofString "Symbol", .ref 203), (Str.ofString "Call", .ref 225), (Str.ofString "len", .builtin "len")]),
 (349, [(Str.ofString "isinstance", .builtin "isinstance"), (Str.ofString "Vector", .ref 182), (Str.ofString "len", .builtin "len")]),
 (356, [(Str.ofString "isinstance", .builtin "isinstance"), (Str.ofString "Vector", .ref 182)]),
 (384, [(Str.ofString "isinstance", .builtin "isinstance"), (Str.ofString "Vector", .ref 182)]),
 (398, [(Str.ofString "len", .builtin "len")]),
 (405, [(Str.ofString "share", .ref 384)]),
 (410, [(Str.ofString "sorted", .builtin "sorted"), (Str.ofString "dim_of", .ref 417), (Str.ofString "len", .builtin "len"), (Str.ofString "get_attr", .ref 391), (Str.ofString "list", .type "list")]),
 (417, [(Str.ofString "get_attr", .ref 391), (Str.ofString "list", .type "list")]),
 (915, [(Str.ofString "Refusal", .ref 51)]),
 (929, [(Str.ofString "range", .type "range"), (Str.ofString "len", .builtin "len")]),
 (936, [(Str.ofString "first_places", .ref 929), (Str.ofString "range", .type "range"), (Str.ofString "len", .builtin "len")]),
 (943, [(Str.ofString "partial_place", .ref 936), (Str.ofString "first_places", .ref 929)]),
 (957, [(Str.ofString "one_name", .ref 943), (Str.ofString "Refusal", .ref 51), (Str.ofString "len", .builtin "len")]),
 (971, [(Str.ofString "Null", .ref 153)]),
 (992, [(Str.ofString "is_list_kind", .ref 978), (Str.ofString "Vector", .ref 182)]),
 (999, [(Str.ofString "len", .builtin "len"), (Str.ofString "one_place", .ref 957), (Str.ofString "names_of", .ref 410), (Str.ofString "is_list_kind", .ref 978), (Str.ofString "Vector", .ref 182), (Str.ofString "Null", .ref 153), (Str.ofString "Refusal", .ref 51), (Str.ofString "one_item", .ref 992)]),
 (1013, [(Str.ofString "Null", .ref 153)]),
 (1018, [(Str.ofString "Null", .ref 153), (Str.ofString "environment_item", .ref 1013), (Str.ofString "Refusal", .ref 51), (Str.ofString "len", .builtin "len"), (Str.ofString "one_place", .ref 957), (Str.ofString "is_vector", .ref 356), (Str.ofString "vector_element", .ref 999)]),
 (1030, [(Str.ofString "is_vector", .ref 356), (Str.ofString "is_list_kind", .ref 978), (Str.ofString "len", .builtin "len")]),
 (1037, [(Str.ofString "Refusal", .ref 51), (Str.ofString "len", .builtin "len"), (Str.ofString "one_item", .ref 992), (Str.ofString "Null", .ref 153), (Str.ofString "is_vector", .ref 356), (Str.ofString "element_step", .ref 1018), (Str.ofString "is_long_index", .ref 1030), (Str.ofString "is_list_kind", .ref 978), (Str.ofString "range", .type "range")]),
 (1042, [(Str.ofString "Null", .ref 153), (Str.ofString "environment_item", .ref 1013), (Str.ofString "one_place", .ref 957), (Str.ofString "character", .ref 314), (Str.ofString "len", .builtin "len"), (Str.ofString "is_vector", .ref 356), (Str.ofString "is_list_kind", .ref 978), (Str.ofString "Refusal", .ref 51), (Str.ofString "vector_element", .ref 999)]),
 (1049, [(Str.ofString "is_list_kind", .ref 978)]),
 (1056, [(Str.ofString "own", .ref 377), (Str.ofString "dict", .type "dict"), (Str.ofString "Vector", .ref 182), (Str.ofString "list", .type "list"), (Str.ofString "converted_items", .ref 1049)]),
 (1063, [(Str.ofString "len", .builtin "len"), (Str.ofString "range", .type "range"), (Str.ofString "room", .ref 300), (Str.ofString "lacking_item", .ref 971), (Str.ofString "drop_attr", .ref 398), (Str.ofString "list", .type "list"), (Str.ofString "put_attr", .ref 405), (Str.ofString "character", .ref 314)]),
 (1077, [(Str.ofString "names_of", .ref 410), (Str.ofString "room", .ref 300), (Str.ofString "len", .builtin "len"), (Str.ofString "first_count", .ref 1070), (Str.ofString "range", .type "range"), (Str.ofString "Null", .ref 153), (Str.ofString "Vector", .ref 182), (Str.ofString "put_attr", .ref 405), (Str.ofString "character", .ref 314)]),
 (1096, [(Str.ofString "is_list_kind", .ref 978), (Str.ofString "is_atomic", .ref 363), (Str.ofString "Refusal", .ref 51)]),
 (1103, [(Str.ofString "names_of", .ref 410), (Str.ofString "is_list_kind", .ref 978), (Str.ofString "length", .ref 349), (Str.ofString "Refusal", .ref 51), (Str.ofString "element_kind", .ref 1096), (Str.ofString "raised", .ref 1056), (Str.ofString "len", .builtin "len"), (Str.ofString "extend_vector", .ref 1063), (Str.ofString "share", .ref 384), (Str.ofString "converted_items", .ref 1049)]),
 (1110, [(Str.ofString "Vector", .ref 182), (Str.ofString "is_atomic", .ref 363), (Str.ofString "len", .builtin "len"), (Str.ofString "one_place", .ref 957), (Str.ofString "names_of", .ref 410), (Str.ofString "Refusal", .ref 51), (Str.ofString "is_list_kind", .ref 978), (Str.ofString "delete_places", .ref 1077), (Str.ofString "put_element", .ref 1103)]),
 (1117, [(Str.ofString "assign_down", .ref 1117), (Str.ofString "is_vector", .ref 356), (Str.ofString "len", .builtin "len"), (Str.ofString "assign_step", .ref 1110), (Str.ofString "element_step", .ref 1018), (Str.ofString "Refusal", .ref 51)]),
 (1124, [(Str.ofString "Refusal", .ref 51), (Str.ofString "len", .builtin "len"), (Str.ofString "put_element", .ref 1103), (Str.ofString "is_vector", .ref 356), (Str.ofString "is_list_kind", .ref 978), (Str.ofString "is_long_index", .ref 1030), (Str.ofString "assign_down", .ref 1117)]),
 (1131, [(Str.ofString "assign_dollar", .ref 1131), (Str.ofString "Vector", .ref 182), (Str.ofString "is_vector", .ref 356), (Str.ofString "is_list_kind", .ref 978), (Str.ofString "raised", .ref 1056), (Str.ofString "len", .builtin "len"), (Str.ofString "assign_step", .ref 1110), (Str.ofString "character", .ref 314)]),
 (1138, [(Str.ofString "len", .builtin "len"), (Str.ofString "Refusal", .ref 51)]),
 (1152, [(Str.ofString "index_args", .ref 1138), (Str.ofString "opened", .ref 1145), (Str.ofString "element", .ref 1037)]),
 (1159, [(Str.ofString "len", .builtin "len"), (Str.ofString "Refusal", .ref 51)]),
 (1166, [(Str.ofString "setter_parts", .ref 1159), (Str.ofString "define", .ref 915), (Str.ofString "len", .builtin "len"), (Str.ofString "Refusal", .ref 51), (Str.ofString "one_text", .ref 136), (Str.ofString "assign_element", .ref 1124)]),
 (1173, [(Str.ofString "len", .builtin "len"), (Str.ofString "field_name", .ref 1173), (Str.ofString "Refusal", .ref 51)]),
 (1180, [(Str.ofString "len", .builtin "len"), (Str.ofString "Refusal", .ref 51), (Str.ofString "field_name", .ref 1173), (Str.ofString "has_class", .ref 805), (Str.ofString "text", .ref 328), (Str.ofString "opened", .ref 1145), (Str.ofString "dollar", .ref 1042)]),
 (1187, [(Str.ofString "define", .ref 915), (Str.ofString "assign_dollar", .ref 1131)]),
 (1194, [(Str.ofString "len", .builtin "len"), (Str.ofString "Refusal", .ref 51), (Str.ofString "field_name", .ref 1173), (Str.ofString "has_class", .ref 805), (Str.ofString "text", .ref 328), (Str.ofString "put_field", .ref 1187)]),
 (1328, [(Str.ofString "len", .builtin "len")]),
 (1385, [(Str.ofString "Environment", .ref 247)]),
 (1429, [(Str.ofString "share", .ref 384)]),
 (1436, [(Str.ofString "is_dots_place", .ref 1328), (Str.ofString "lookup", .ref 901), (Str.ofString "share", .ref 384)]),
 (1580, [(Str.ofString "range", .type "range")]),
 (1587, [(Str.ofString "len", .builtin "len")]),
 (1594, [(Str.ofString "Null", .ref 153), (Str.ofString "Vector", .ref 182)]),
 (1606, [(Str.ofString "len", .builtin "len")]),
 (1616, [(Str.ofString "Vector", .ref 182), (Str.ofString "_law_whole", .ref 1594)]),
 (1621, [(Str.ofString "_law_shown", .ref 1601)]),
 (1628, [(Str.ofString "s_dollar", .ref 1180), (Str.ofString "call_of", .ref 342), (Str.ofString "Symbol", .ref 203), (Str.ofString "Vector", .ref 182), (Str.ofString "flag", .ref 321), (Str.ofString "b_element", .ref 1152)]),
 (1635, [(Str.ofString "define", .ref 915), (Str.ofString "s_set_dollar", .ref 1194), (Str.ofString "_law_whole", .ref 1594), (Str.ofString "call_of", .ref 342), (Str.ofString "Symbol", .ref 203), (Str.ofString "b_set_element", .ref 1166), (Str.ofString "Vector", .ref 182)]),
 (1640, [(Str.ofString "_law_beans", .ref 1580), (Str.ofString "Evaluator", .ref 1569), (Str.ofString "range", .type "range"), (Str.ofString "_law_bean", .ref 1587), (Str.ofString "define", .ref 915), (Str.ofString "_law_list", .ref 1616), (Str.ofString "_law_set", .ref 1635), (Str.ofString "_law_read", .ref 1628), (Str.ofString "_law_after", .ref 1611), (Str.ofString "_law_found", .ref 1606), (Str.ofString "_law_shown", .ref 1601), (Str.ofString "_law_is", .ref 1621), (Str.ofString "sorted", .builtin "sorted")])]
noncomputable def gOf (a : Addr) (x : Str) : Option Value := ((gRows.lookup a).getD []).lookup x
theorem mem_lookup {α β : Type} [BEq α] [LawfulBEq α] {x : α} {v : β} : ∀ {l : List (α × β)}, l.lookup x = some v → (x, v) ∈ l
 | [], h => by cases h
 | (k, u) :: r, h => by
  rw [List.lookup_cons] at h
  split at h
  ·rename_i e
   cases h
   rw [beq_iff_eq.mp e]; exact .head _
  ·exact .tail _ (mem_lookup h)
noncomputable def cdOf (s : Str) : Nat := s.cps.toList.foldl (fun a c => a * 2097152 + c + 1) 7
noncomputable def keyCd : Value → Nat
 | .str s _ => cdOf s
 | _ => 0
theorem isStr_cd {v : Value} {x : Str} (h : v.isStr x = true) : keyCd v = cdOf x := by
 cases v <;> first | exact congrArg cdOf (eq_of_beq h) | cases h
noncomputable def fnd (c : Nat) (l : List DictEntry) : Option DictEntry := l.find? fun e => Nat.beq (keyCd e.key) c
theorem fnd_ok {x : Str} {e : DictEntry} (hk : e.key.isStr x = true) {l : List DictEntry} (h : fnd (cdOf x) l = some e) : l.find? (·.key.isStr x) = some e := by
 obtain ⟨_, i, hi, h2, h3⟩ := List.find?_eq_some_iff_getElem.mp h
 exact List.find?_eq_some_iff_getElem.mpr ⟨hk, i, hi, h2, fun j hj => by
  have h4 := h3 j hj
  cases hs : (l[j]'(Nat.lt_trans hj hi)).key.isStr x with
  | false => rfl
  | true => rw [isStr_cd hs, Nat.beq_refl] at h4; cases h4⟩
noncomputable def gEs (P : Params) : List DictEntry := match (K0 P).lookup mainGlobals with
 | some ⟨_, _, .dict es _, _⟩ => es.toList
 | _ => []
theorem nsIn_eq (P : Params) (x : Str) : nsIn (K0 P) mainGlobals x = (match (gEs P).find? (·.key.isStr x) with
   | some e => some (some e.val)
   | none => if (gEs P).any (·.refKey) then none else some none) := by kernel_rfl
noncomputable def gBI : List (Str × Value) := [("dict", .type "dict"), ("isinstance", .builtin "isinstance"), ("len", .builtin "len"), ("list", .type "list"), ("range", .type "range"), ("sorted", .builtin "sorted"), ("str", .type "str")]
theorem gBI_ok (w : World) : ∀ q ∈ gBI, Good w q := fC.mpr ⟨g_dict w, fC.mpr ⟨g_isinstance w, fC.mpr ⟨g_len w, fC.mpr ⟨g_list w, fC.mpr ⟨g_range w, fC.mpr ⟨g_sorted w, fC.mpr ⟨g_str w, fN⟩⟩⟩⟩⟩⟩⟩
noncomputable def okQ (P : Params) (l : List DictEntry) (q : Str × Value) : Bool := (fnd (cdOf q.1) l).any (fun e => e.key.isStr q.1 && (decide (e.val = q.2) && keepIn (K0 P) q.2)) || decide (q ∈ gBI)
theorem okQ_ok {q : Str × Value} (h : okQ w.params (gEs w.params) q = true) : Good w q :=
 (Bool.or_eq_true_iff.mp h).elim (fun h => by
  cases hd : fnd (cdOf q.1) (gEs w.params) with
  | none => rw [hd] at h; cases h
  | some d =>
   rw [hd] at h
   obtain ⟨h1, h2⟩ := Bool.and_eq_true_iff.mp h
   obtain ⟨h2, h3⟩ := Bool.and_eq_true_iff.mp h2
   exact .inl ⟨(nsIn_eq _ _).trans (by rw [fnd_ok h1 hd]; exact congrArg (fun v => some (some v)) (of_decide_eq_true h2)), h3⟩) (fun h => gBI_ok w q (of_decide_eq_true h))
theorem gAll (P : Params) : (gRows.all fun r => r.2.all (okQ P (gEs P))) = true := by kernel_rfl
theorem gRows_ok (w : World) : ∀ r ∈ gRows, ∀ q ∈ r.2, Good w q := fun r hr q hq => okQ_ok (List.all_eq_true.mp (List.all_eq_true.mp (gAll w.params) r hr) q hq)
theorem gOk (w : World) (a : Addr) : GOk w (gOf a) := fun x f h => by
 unfold gOf at h
 cases e : gRows.lookup a with
 | none => rw [e] at h; cases h
 | some l =>
  rw [e] at h
  exact gRows_ok w (a, l) (mem_lookup e) (x, f) (mem_lookup h)
section
def goes (C : Cx) (m : LocMap) (h : Heap) (c : Ctl) (rs : List (List Stmt)) (fs : List Fm) : Prop := ∀ tk, run C (gOf C.a) m C.s h 300 c rs fs tk
theorem q_out {Q : Flow → Shared → Prop} {cl : List (Str × Addr)} {fl : Flow} (h : Q fl s) : Cx.Q ⟨w, A, E, Q, cn, cs, L, a, ccd, cl, s₀⟩ fl s := h
theorem ite_id {b : Bool} {p q : Prop} (h : if b = true then p else q) : if b = true then p else q := h
section
variable {C : Cx} {m : Str → Option Value} {st : Shared} {fs : List Fm}
def Wk (C : Cx) (h₀ : Heap) : Prop := ∀ P : Prop, (∀ (p : Program) (loose : List Str) (mg mb : Str → Option Value), (K0 C.w.params).In h₀ → TopRead p loose mg mb h₀ → C.cs.kind = .function → P) → P
theorem wk_of {C : Cx} {g : Heap} (W : Wk C g) (X : (K0 C.w.params).In h₀) (T : TopRead p loose mg mb h₀) : Wk C h₀ := fun P k => W P fun _ _ _ _ _ _ hk => k p loose mg mb X T hk
theorem start_t {Q : Flow → Shared → Prop} {cl : List (Str × Addr)} {b : List Stmt} (F : Fr h₀ L hp m) (N : News h₀ L hp news) (X : (K0 w.params).In h₀) (T : TopRead p loose mg mb h₀) (hk : cs.kind = .function) (e : st = { s with heap := hp, toks := st.toks }) (h : let C : Cx := ⟨w, A, E, Q, cn, cs, L, a, ccd, cl, s⟩; let nw := news; let mm := m; Wk C h₀ → Fr h₀ C.L hp mm → News h₀ C.L hp nw → goes C mm hp (.st b) [] []) : wpAny (model thePr w) A (execs b (envX cn cs L a ccd cl)) Q E st := by
 rw [e]; exact go_st (C := ⟨w, A, E, Q, cn, cs, L, a, ccd, cl, s⟩) 300 F X T hk (gOk _ _) (h (fun _ k => k p loose mg mb X T hk) F N _)
theorem m_st {b : List Stmt} (F : Fr h₀ C.L hp m) (W : Wk C h₀) (e : st = { C.s with heap := hp, toks := st.toks }) (h : goes C m hp (.st b) rs []) : wpAny C.M C.A (execs b C.env) (SemF C rs) C.E st := by
 rw [e]; exact W _ fun _ _ _ _ X T hk => go_st 300 F X T hk (gOk _ _) (h _)
theorem m_s {b : List Stmt} {u : Unit} (F : Fr h₀ C.L hp m) (W : Wk C h₀) (e : st = { C.s with heap := hp, toks := st.toks }) (h : goes C m hp (.st b) rs []) : SemS C rs b u st := by
 rw [e]; exact W _ fun _ _ _ _ X T hk => go_s 300 F X T hk (gOk _ _) (h _)
theorem m_f {b : List Stmt} (F : Fr h₀ C.L hp m) (W : Wk C h₀) (e : st = { C.s with heap := hp, toks := st.toks }) (h : goes C m hp (.st b) rs []) : SemF C (b :: rs) .next st := by
 rw [e]; exact W _ fun _ _ _ _ X T hk => go_f 300 F X T hk (gOk _ _) (h _)
theorem m_v {v : Value} (F : Fr h₀ C.L hp m) (W : Wk C h₀) (e : st = { C.s with heap := hp, toks := st.toks }) (h : goes C m hp (.v v) rs fs) : SemV C rs fs v st := by
 rw [e]; exact W _ fun _ _ _ _ X T hk => go_v 300 F X T hk (gOk _ _) (h _)
theorem m_b {b : Bool} (F : Fr h₀ C.L hp m) (W : Wk C h₀) (e : st = { C.s with heap := hp, toks := st.toks }) (h : goes C m hp (.b b) rs fs) : SemB C rs fs b st := by
 rw [e]; exact W _ fun _ _ _ _ X T hk => go_b 300 F X T hk (gOk _ _) (h _)
theorem m_m {f : Value} {x : PySem.Expr} {r : List PySem.Expr} (F : Fr h₀ C.L hp m) (W : Wk C h₀) (hf : keepIn (K0 C.w.params) f = true) (hs : (x :: r).all notStar = true) (e : st = { C.s with heap := hp, toks := st.toks }) (h : goes C m hp (.ar pos (x :: r)) rs (.lCall f first :: fs)) : SemM C rs fs pos (x :: r) (f, first) st := by
 rw [e]; exact W _ fun _ _ _ _ X T hk => go_m 300 F X T hk (gOk _ _) hf hs (h _)
theorem m_mb {x : PySem.Expr} {r : List PySem.Expr} (F : Fr h₀ C.L hp m) (W : Wk C h₀) (hs : (x :: r).all notStar = true) (e : st = { C.s with heap := hp, toks := st.toks }) (h : goes C m hp (.ar pos (x :: r)) rs (.lCall (.builtin id) first :: fs)) : SemM C rs fs pos (x :: r) (.builtin id, first) st := by
 rw [e]; exact W _ fun _ _ _ _ X T hk => go_mb 300 F X T hk (gOk _ _) hs (h _)
noncomputable def entsOf (o : Obj) : List DictEntry := match o.data with
 | .dict a _ => a.toList
 | _ => []
theorem lookIn_get {v : Value} (h : getL name (entsOf od) = some (some v)) : lookIn name od = some (some v) := by
 unfold entsOf at h
 unfold lookIn
 cases hd : od.data with
 | dict a n => rw [hd] at h; exact h
 | _ => rw [hd] at h; cases h
noncomputable abbrev setM (m : Str → Option Value) (x : Str) (v : Value) : Str → Option Value := fun y => if y = x then some v else m y
theorem setM_ne {m : Str → Option Value} {x z : Str} {v : Value} (h : z ≠ x) : setM m x v z = m z := if_neg h
theorem frD {g : Heap} {m : Str → Option Value} {x : Str} {u v : Option Value} (F : Fr g L h fun z => if z = x then u else if z = x then v else m z) : Fr g L h fun z => if z = x then u else m z := locD ▸ F
theorem st_store {b : List Stmt} {x : Str} {v : Value} (F : Fr h₀ C.L hp m) (N : News h₀ C.L hp news) (W : Wk C h₀) (hx : C.env.kindOf x = some .local) (e : st = { C.s with heap := hp, toks := st.toks }) (h : ∀ h', let nw := news; let mm := setM m x v; Fr h₀ C.L h' mm → News h₀ C.L h' nw → goes C mm h' (.st b) rs []) : wpAny C.M C.A (storeName C.env x v) (SemS C rs b) C.E st := by
 rw [e]
 exact W _ fun _ _ _ _ X T hk => storeX_L F N (fun h' F' N' => m_s F' W rfl (h h' F' N')) hk hx
theorem st_list (F : Fr h₀ C.L hp m) (N : News h₀ C.L hp news) (W : Wk C h₀) (e : st = { C.s with heap := hp, toks := st.toks }) (hz : vs.length ≤ sizeLine) (h : ∀ l h', (∀ p ∈ news, p.1 < l) → let nw := (l, listOf vs.toArray 0) :: news; let mm := m; Fr h₀ C.L h' mm → News h₀ C.L h' nw → goes C mm h' (.v (.ref l)) rs fs) : wpAny C.M C.A (newList vs) (SemV C rs fs) C.E st := by
 rw [e]
 exact newList_K F N (fun l h' F' N' l1 => m_v F' W rfl (h l h' l1 F' N')) hz
theorem ev_v {v : Value} (F : Fr h₀ C.L hp m) (N : News h₀ C.L hp news) (W : Wk C h₀) (e : st = { C.s with heap := hp, toks := st.toks }) (h : let nw := news; let mm := m; Fr h₀ C.L hp mm → News h₀ C.L hp nw → goes C mm hp (.v v) rs fs) : SemV C rs fs v st := m_v F W e (h F N)
theorem st_get {expr : Bool} {attr : Option Value} {v : Value} (F : Fr h₀ C.L hp m) (W : Wk C h₀) (I : InstAt hp x ox cl (some od)) (hg : plainGet (K0 C.w.params) cl name = true) (hh : hasDictIn (K0 C.w.params) cl = true) (ha : findIn (K0 C.w.params) (.ref cl) name = some attr) (hn : noGet (K0 C.w.params) attr = true) (hl : getL name (entsOf od) = some (some v)) (hv : handedIn v = true) (e : st = { C.s with heap := hp, toks := st.toks }) (h : goes C m hp (.v v) rs fs) : wpAny C.M C.A (getAttr (.ref x) name expr) (SemV C rs fs) C.E st := by
 rw [e]
 exact W _ fun _ _ _ _ X T hk => get_value (X.keeps F.keep) I (plainGet_of hg).1 (findObj_own hh ha hn (lookIn_get hl)) hv (m_v F W rfl h)
theorem updF_upd {d : Addr} {l : List (Addr × Obj)} {g : Obj → List (Addr × Obj)} (H : UpdF d o l g) : Upd d o o' l (g o') := by
 induction H with
 | head h => exact .head h
 | tail h _ ih => exact .tail h ih
theorem set_at {es' : List DictEntry} {g : Obj → List (Addr × Obj)} {v : Value} {Q : Unit → Shared → Prop} (F : Fr h₀ L s.heap m) (X : (K0 w.params).In h₀) (N : News h₀ L s.heap news) (I : InstAt s.heap x ox cl (some od)) (hd : ox.dict = some dx) (hs : findIn (K0 w.params) (.ref cl) "__setattr__" = some (some (.builtin "object.__setattr__"))) (hp : plainOver (K0 w.params) cl = true) (ht : takerIn (K0 w.params) cl name = some none) (hh : hasDictIn (K0 w.params) cl = true) (ho : dictOf (entsOf od) n = od) (hl : (getL name (entsOf od)).isSome = true) (e : (putL name (PyData.keyHash w.params name) (.str name (s.toks + 1)) v (entsOf od), putN name (entsOf od) n) = (es', n')) (U : UpdF dx od news g) (hz : es'.length ≤ 1000) (h : let od' := dictOf es' n'; let nw := g od'; ∀ h', Fr h₀ L h' m → News h₀ L h' nw → Q () { s with heap := h', toks := s.toks + 2 }) :
  wpAny (model thePr w) A (setAttr (.ref x) name v) Q E s :=
 set_dict (es := entsOf od) (n := n) F X N (ho.symm ▸ I) hd hs hp ht hh hl e (ho.symm ▸ updF_upd U) hz h
theorem in_t {m : Str → Option Value} {R : Result → Shared → Prop} {od : Option Addr} {f : Addr} {args : Args} (F : Fr h₀ L s.heap m) (X₀ : (K0 w.params).In h₀) (N : News h₀ L s.heap news) (T : TopRead p loose mg mb h₀) (S : b₀.StaysIn h₀) (e : s = { s₀ with heap := s.heap, toks := s.toks }) (ho : (K0 w.params).lookup f = some ⟨oc, od, .func (fnOf name qual params body scope dV kV doc pm an cdv ct), osl⟩) (hcd : codeIn (K0 w.params) cdv qual = true) (hroom : d < 1000) (hbind : BindsTo s (fnOf name qual params body scope dV kV doc pm an cdv ct) args binds) (hloc : ∀ y ∈ binds, scope.names.lookup y.1 = some .local) (h : ∀ g L' h₁, (K0 w.params).In g → TopRead p loose mg mb g → b₀.StaysIn g →
   let C : Cx := ⟨w, AA (d + 1) (u + 3), fun _ _ => False, fun fl s' => LeaveK h₀ L m g R (match fl with | .ret v => v | _ => .none) s', qual, scope, L', f, cdv, [], s₀⟩
   let nw := news
   let mm := fun y => binds.reverse.lookup y
   Wk C g → Fr g C.L h₁ mm → News g C.L h₁ nw → goes C mm h₁ (.st body) [] []) (hco : scope.isCoroutine = false) (hgen : scope.isGenerator = false) (hk : scope.kind = .function) (hcell : ∀ x ∈ scope.names, x.2 ≠ .cell) : codeAny (model thePr w) (AA d u) (.call (.ref f) args) R s := by
 refine code_in F X₀ N T S ho hcd hroom hbind hloc (fun g L' h₁ F' N' X' T' S' _ => ?_) hco hgen hk hcell
 refine start_t (s := s₀) F' N' X' T' hk ?_ (h g L' h₁ X' T' S')
 have a : s.gens = ({ s₀ with heap := s.heap, toks := s.toks } : Shared).gens := congrArg Shared.gens e
 have b : s.drawn = ({ s₀ with heap := s.heap, toks := s.toks } : Shared).drawn := congrArg Shared.drawn e
 have c : s.os = ({ s₀ with heap := s.heap, toks := s.toks } : Shared).os := congrArg Shared.os e
 show Shared.mk _ s.gens s.drawn _ s.os = _
 rw [a, b, c]
end
theorem neSub {l : List (Addr × Obj)} (h : ∀ p ∈ l, p.1 < x) (s : ∀ p ∈ l', p ∈ l) : ∀ p ∈ l', p.1 ≠ x := fun p m => Nat.ne_of_lt (h p (s p m))
theorem neSubA {l : List (Addr × Obj)} (h : ∀ p ∈ l, p.1 ≠ x) (s : ∀ p ∈ l', p ∈ l) : ∀ p ∈ l', p.1 ≠ x := fun p m => h p (s p m)
theorem neSub2 {l : List (Addr × Obj)} {d : Addr} (e : @LT.lt Nat _ d x) (h : ∀ p ∈ l, p.1 < d) (s : ∀ p ∈ l', p ∈ l) : ∀ p ∈ l', p.1 ≠ x := fun p m => Nat.ne_of_lt (Nat.lt_trans (h p (s p m)) e)
theorem cmpT_out {C : Cx} {fs : List Fm} {a v : Value} {st : Shared} (h : wpAny C.M C.A (compareOp op a v) (SemV C rs fs) C.E st) : SemV C rs (.cmpT op a :: fs) v st := h
theorem truth_out {C : Cx} {fs : List Fm} {v : Value} {st : Shared} (h : wpAny C.M C.A (truthy v) (SemB C rs fs) C.E st) : SemV C rs (.truth :: fs) v st := h
theorem cmpR_out {C : Cx} {fs : List Fm} {r : PySem.Expr} {a : Value} {st : Shared} (h : wpAny C.M C.A (eval r C.env) (fun b s₂ => wpAny C.M C.A (compareOp op a b) (SemV C rs fs) C.E s₂) C.E st) : SemV C rs (.cmpR op r :: fs) a st := h
end
theorem fill : (Mine.K0 = Mine.K0 ∧ PySem.Challenge.rw_pq1381_01.most = PySem.Challenge.rw_pq1381_01.most) → True := by
 k_fill
 exact fun _ => trivial
local macro_rules | `(tactic| k_lt $_h:ident) => `(tactic| skip)
local macro_rules | `(tactic| k_mem) => `(tactic| tb_rel)
theorem mac1 : True := by
 k_with "tb_rel" => k_dflt (first | (refine mem_at 0 ?_; eq_refl) | (refine mem_at 1 ?_; eq_refl) | (refine mem_at 2 ?_; eq_refl) | (refine mem_at 3 ?_; eq_refl) | (refine mem_at 4 ?_; eq_refl) | (refine mem_at 5 ?_; eq_refl) | (refine mem_at 6 ?_; eq_refl) | (refine mem_at 7 ?_; eq_refl) | (refine mem_at 8 ?_; eq_refl) | (refine mem_at 9 ?_; eq_refl) | (refine mem_at 10 ?_; eq_refl) | (refine mem_at 11 ?_; eq_refl) | (refine mem_at 12 ?_; eq_refl) | (refine mem_at 13 ?_; eq_refl) | (refine mem_at 14 ?_; eq_refl) | (refine mem_at 15 ?_; eq_refl) | (refine mem_at 16 ?_; eq_refl) | (refine mem_at 17 ?_; eq_refl) | (refine mem_at 18 ?_; eq_refl) | (refine mem_at 19 ?_; eq_refl) | (refine mem_at 20 ?_; eq_refl) | (refine mem_at 21 ?_; eq_refl) | (refine mem_at 22 ?_; eq_refl) | (refine mem_at 23 ?_; eq_refl) | (refine mem_at 24 ?_; eq_refl) | (refine mem_at 25 ?_; eq_refl))
 k_with "got_up" => first | ((refine' neA ?hq2 ?mq2); (case hq2 => assumption); (case mq2 => tb_rel)) | ((refine' neL ?hq2 ?mq2); (case hq2 => assumption); (case mq2 => tb_rel)) | ((refine' ltNe ?hq2); (case hq2 => assumption)) | ((refine' neL2 ?eq2 ?hq2 ?mq2); (case eq2 => assumption); (case hq2 => assumption); (case mq2 => tb_rel))
 k_with "k_ne" => (refine neN ?_; (try dsimp only); with_reducible first | assumption | exact _root_.Ne.symm (by assumption) | got_up | (refine' _root_.Ne.symm ?_; got_up) | omega)
 k_with "k_all" => first | exact fN | with_reducible assumption | with_reducible exact neLall (by assumption) | with_reducible exact neL2all (by assumption) (by assumption) | exact OwnOff.ne (by assumption) (by k_memK) | (with_reducible refine' neSub ?hq4 ?sq4; (case hq4 => assumption); (case sq4 => (intro p hp; (repeat (with_reducible (first | exact hp | refine' mcm _ ?_))); done))) | (with_reducible refine' neSubA ?hq4 ?sq4; (case hq4 => assumption); (case sq4 => (intro p hp; (repeat (with_reducible (first | exact hp | refine' mcm _ ?_))); done))) | (with_reducible refine' neSub2 ?eq4 ?hq4 ?sq4; (case eq4 => assumption); (case hq4 => assumption); (case sq4 => (intro p hp; (repeat (with_reducible (first | exact hp | refine' mcm _ ?_))); done))) | (refine' fcons ?aq4 ?bq4; (case aq4 => k_ne); (case bq4 => k_all))
 k_with "f_fact" => (refine neN ?_; (try dsimp only); with_reducible first | assumption | exact _root_.Ne.symm (by assumption) | (refine' _root_.Ne.symm ?_; got_up) | got_up | omega)
 k_with "k_upd" => first | (refine' Upd.head ?aq6; (case aq6 => k_all)) | (refine' Upd.tail ?aq6 ?bq6; (case aq6 => f_fact); (case bq6 => k_upd))
 k_with "k_updF" => first | (refine' UpdF.head ?aq7; (case aq7 => k_all)) | (refine' UpdF.tail ?aq7 ?bq7; (case aq7 => f_fact); (case bq7 => k_updF))
 k_with "isplit" => first | (refine' (?_ : wpAny _ _ _ _ _ _)) | (refine' ite_id ?_) | ((refine' (?_ : Cx.Q _ _ _)); (first | (with_reducible refine' (?_ : LeaveK _ _ _ _ _ _ _)) | (with_reducible refine' (?_ : Back _ _ _ _ _ _)) | (with_reducible refine' (?_ : TurnB _ _ _ _ _ _ _ _ _ _)) | (refine' q_out ?_)); (try dsimp only))
 k_with "fold_depth" => (with_reducible rename Fr _ _ _ _ => oF'; with_reducible rename News _ _ _ _ => oN'; first | ((with_reducible show SemV _ _ _ _ _); k_dflt (refine' ev_v oF' oN' ?Wq9 ?eq9 ?_); (case Wq9 => first | k_asm | exact wk_of (by assumption) (by assumption) (by assumption)); (case eq9 => exact rfl); clear oF' oN'; acc_keep; acc_open) | (refine' st_let oF' oN' ?_; clear oF' oN'; acc_keep))
 k_with "cw" => ((case Fq10 => k_asm); (case Wq10 => first | k_asm | exact wk_of (by assumption) (by assumption) (by assumption)); (case eq10 => exact rfl); acc_open)
 k_with "tb_start" => first | ((with_reducible refine' m_v ?Fq10 ?Wq10 ?eq10 ?_); k_extra "cw") | ((with_reducible refine' m_s ?Fq10 ?Wq10 ?eq10 ?_); k_extra "cw") | ((with_reducible refine' m_st ?Fq10 ?Wq10 ?eq10 ?_); k_extra "cw") | ((with_reducible refine' m_f ?Fq10 ?Wq10 ?eq10 ?_); k_extra "cw") | ((with_reducible refine' m_b ?Fq10 ?Wq10 ?eq10 ?_); k_extra "cw") | ((with_reducible refine' m_m ?Fq10 ?Wq10 ?fq10 ?sq10 ?eq10 ?_); (case fq10 => k_is); (case sq10 => exact rfl); k_extra "cw") | ((with_reducible refine' m_mb ?Fq10 ?Wq10 ?sq10 ?eq10 ?_); (case sq10 => exact rfl); k_extra "cw") | ((with_reducible refine' go_m0 ?Fq10 ?Xq10 ?fq10 ?_); (case Fq10 => k_asm); (case Xq10 => k_asm); (case fq10 => k_is); (try dsimp only [List.nil_append, List.cons_append])) | ((with_reducible refine' go_mb0 ?_); (try dsimp only [List.nil_append, List.cons_append])) | (with_reducible refine' cmpT_out ?_) | (with_reducible refine' truth_out ?_) | (with_reducible refine' cmpR_out ?_) | ((with_reducible refine' go_r ?_); isplit) | ((with_reducible refine' go_n ?_); isplit) | ((with_reducible refine' go_k ?_); isplit) | ((with_reducible refine' go_c ?_); isplit) | ((with_reducible show run _ _ _ _ _ _ _ _ _ _); isplit) | ((with_reducible show wpAny _ _ (execs _ _) _ _ _); (refine' start_t ?Fq10 ?Nq10 ?Xq10 ?Tq10 ?kq10 ?eq10 ?_); (case Fq10 => k_asm); (case Nq10 => k_asm); (case Xq10 => k_asm); (case Tq10 => k_asm); (case kq10 => exact rfl); (case eq10 => exact rfl); intro _ _ _ _ _ _ _; isplit)
 k_with "k_steps" => ((repeat' ((fail_if_success (with_reducible show Stop _)); first | tb_start | ((fail_if_success (fail_if_success k_unfold)); (first | (refine' (?_ : wpAny _ _ _ _ _ _); (try dsimp only)) | (k_unfold; (try dsimp only)))) | (k_end; wrow_close) | walk1 | (dsimp only; walk1) | (leave1; walk_say "STEP leave1"; try dsimp only) | fail "no step")); all_goals (try (with_reducible show Stop _)))
 k_with "k_room" => first | exact Rm.r (i := 1) (by assumption) (by exact rfl) | exact Rm.r (i := 0) (by assumption) (by exact rfl) | exact Rm.r (i := 2) (by assumption) (by exact rfl) | exact Rm.r (i := 3) (by assumption) (by exact rfl) | (have hrm := Rm.d (by assumption); omega)
 k_with "k_inst" => first | (refine' inst_mixed ?Fq13 ?Sq13 ?h1q13 ?Nq13 ?h2q13; (case Fq13 => k_asm); (case Sq13 => assumption); (case h1q13 => assumption); (case Nq13 => k_asm); (case h2q13 => tb_rel)) | (refine' inst_base ?Fq13 ?Sq13 ?h1q13 ?h2q13; (case Fq13 => k_asm); (case Sq13 => assumption); (case h1q13 => assumption); (case h2q13 => assumption))
 k_with "k_enter" => (refine' in_t ?k1q14 ?k2q14 ?k3q14 ?k4q14 ?kSq14 ?kEq14 ?k6q14 ?k7q14 ?k8q14 ?k9q14 ?kBq14 ?_ ?c2q14 ?c3q14 ?c4q14 ?c5q14; (case k1q14 => k_asm); (case k2q14 => k_asm); (case k3q14 => k_asm); (case k4q14 => k_asm); (case kSq14 => assumption); (case kEq14 => exact rfl); (case k6q14 => k_is); (case k7q14 => k_is); (case k8q14 => k_room); (case k9q14 => first | exact BindsTo.of_eq rfl | exact binds_K (by k_in) rfl (by k_is) rfl rfl rfl | fail "k_enter: no rule for these arguments"); (case c5q14 => decide); (case kBq14 => exact locs rfl); (case c2q14 => exact rfl); (case c3q14 => exact rfl); (case c4q14 => exact rfl); k_whole; intro _ _ _ _ _ _ _ _ _ _ _ _ _; isplit)
 k_with "is_list" => first | exact News.isList (by k_asm) (by tb_rel) | exact lst_base (by k_asm) (by assumption) (by assumption)
 k_with "k_tabat" => first | (refine' kda_dict ?Nq16 ?mq16 ?dq16; (case Nq16 => k_asm); (case mq16 => tb_rel); (case dq16 => assumption)) | (refine' dct_base (prog := thePr) ?Fq16 ?Sq16 ?bq16 ?dq16; (case Fq16 => k_asm); (case Sq16 => assumption); (case bq16 => assumption); (case dq16 => assumption))
 k_with "k_in" => first | with_reducible assumption | exact Frag.In.keeps (by with_reducible assumption) (Fr.keep (by with_reducible assumption))
 trivial
local macro_rules | `(tactic| tb_rel) => `(tactic| k_extra "tb_rel")
local macro_rules | `(tactic| got_up) => `(tactic| k_extra "got_up")
local macro_rules | `(tactic| k_ne) => `(tactic| k_extra "k_ne")
local macro_rules | `(tactic| k_all) => `(tactic| k_extra "k_all")
local macro_rules | `(tactic| f_fact) => `(tactic| k_extra "f_fact")
local macro_rules | `(tactic| k_upd) => `(tactic| k_extra "k_upd")
local macro_rules | `(tactic| k_updF) => `(tactic| k_extra "k_updF")
local macro_rules | `(tactic| acc_keep) => `(tactic| (intro nw' mm' F' N'))
local macro_rules | `(tactic| isplit) => `(tactic| k_extra "isplit")
local macro_rules | `(tactic| acc_open) => `(tactic| (intro tk'; isplit))
local macro_rules | `(tactic| fold_depth) => `(tactic| k_extra "fold_depth")
local macro_rules | `(tactic| tb_start) => `(tactic| k_extra "tb_start")
local macro_rules | `(tactic| k_steps) => `(tactic| k_extra "k_steps")
local macro_rules | `(tactic| k_room) => `(tactic| k_extra "k_room")
local macro_rules | `(tactic| k_inst) => `(tactic| k_extra "k_inst")
local macro_rules | `(tactic| k_enter) => `(tactic| k_extra "k_enter")
local macro_rules | `(tactic| is_list) => `(tactic| k_extra "is_list")
local macro_rules | `(tactic| k_tabat) => `(tactic| k_extra "k_tabat")
local macro_rules | `(tactic| k_asm) => `(tactic| with_reducible assumption)
local macro_rules | `(tactic| k_in) => `(tactic| k_extra "k_in")
theorem lines_base : True := by
 k_with "x1" => (k_dflt (first | exact Rm.g (i := 1) (j := 3) (by assumption) (by exact rfl) | exact Rm.g (i := 0) (j := 0) (by assumption) (by exact rfl) | exact Rm.g (i := 1) (j := 1) (by assumption) (by exact rfl) | exact Rm.g (i := 0) (j := 1) (by assumption) (by exact rfl) | exact Rm.g (i := 2) (j := 6) (by assumption) (by exact rfl) | (have hrmD := Rm.d (by assumption); have hrmU := Rm.u (by assumption); exact ⟨by omega, by omega⟩)))
 k_with "x2" => (k_dflt (first | exact VecAt.mono (by assumption) (stay2 (by k_asm) (by assumption)) | exact vec_in (by k_asm) (by tb_rel) (by tb_rel) | exact vec_mix (by k_asm) (by assumption) (by assumption) (by k_asm) (by tb_rel)))
 k_with "x3" => (k_dflt (first | exact News.get (by k_asm) (by tb_rel) | exact stay2 (by k_asm) (by assumption) _ _ (by assumption)))
 k_with "x4" => (k_dflt (exact AttsAt.mono (by assumption) (stay2 (by k_asm) (by assumption))))
 k_with "x5" => (exact off2 (by k_ne) (by k_ne) )
 k_with "x6" => (k_dflt (exact sym_hid (by k_asm) (by tb_rel) (by tb_rel) (off2 (by k_ne) (by k_ne) ) (off2 (by k_ne) (by k_ne) )))
 k_with "x7" => (k_dflt (exact sym_hid (by k_asm) (by tb_rel) (by tb_rel) (off3 (by k_ne) (by k_ne) (by k_ne) ) (off3 (by k_ne) (by k_ne) (by k_ne) )))
 k_with "x8" => (k_dflt (exact EnvAt.mono (by assumption) (stay2 (by k_asm) (by assumption))))
 k_with "x9" => (k_dflt (first | (refine' re_lst ?a ?b ?c ?d; (case a => assumption); (case b => assumption); (case c => k_asm); (case d => assumption)) | (refine' re_lstN ?a ?b ?c; (case a => k_asm); (case b => assumption); (case c => tb_rel))))
 k_with "x10" => (exact off3 (by k_ne) (by k_ne) (by k_ne) )
 k_with "x11" => (k_dflt (first | exact NamesV.mono (by assumption) (stay2 (by k_asm) (by assumption)) | exact nv_of (by assumption) (by k_asm) (by tb_rel)))
 k_with "x12" => (k_dflt (first | assumption | exact Or.inl rfl | exact Or.inr (Or.inl rfl) | exact Or.inr (Or.inr rfl)))
 k_with "x13" => (first | assumption | exact va_st_ne (by decide) (by assumption))
 k_with "x14" => (first | exact va_st_eq | assumption)
 k_with "x15" => (k_dflt (first | (refine' re_vec ?a ?b ?c ?d; (case a => assumption); (case b => assumption); (case c => k_asm); (case d => assumption)) | (refine' re_vecN ?a ?b ?c ?d; (case a => k_asm); (case b => assumption); (case c => tb_rel); (case d => tb_rel))))
 k_with "x16" => (k_dflt (first | with_reducible assumption | exact News.isTup (by k_asm) (by tb_rel) | exact IsTup.keeps (by assumption) (stay2 (by k_asm) (by assumption))))
 k_with "x17" => (k_dflt (first | assumption | (refine' env_hid1 ?a ?b ?c ?d ?e; (case e => assumption); (case a => k_asm); (case b => k_asm); (case c => assumption); (case d => tb_rel))))
 k_with "x18" => (k_dflt (first | exact get_hid (by k_asm) (by tb_rel) (off1 (by k_ne)) | exact stay_hid (by k_asm) (by k_asm) (by assumption) (on1 (by tb_rel)) _ _ (by assumption)))
 k_with "x19" => (k_dflt (exact call_hid (by k_asm) (by tb_rel) (by tb_rel) (by tb_rel) (off2 (by k_ne) (by k_ne) ) (off2 (by k_ne) (by k_ne) ) (off2 (by k_ne) (by k_ne) )))
 k_with "x20" => (k_dflt (exact call_hid (by k_asm) (by tb_rel) (by tb_rel) (by tb_rel) (off3 (by k_ne) (by k_ne) (by k_ne) ) (off3 (by k_ne) (by k_ne) (by k_ne) ) (off3 (by k_ne) (by k_ne) (by k_ne) )))
 k_with "x21" => (k_dflt (exact sym_hid (by k_asm) (by tb_rel) (by tb_rel) (off2 (by k_ne) (by k_ne)) (off2 (by k_ne) (by k_ne))))
 k_with "x22" => (k_dflt (exact sym_hid (by k_asm) (by tb_rel) (by tb_rel) (off1 (by k_ne)) (off1 (by k_ne))))
 k_with "x23" => ((case rm => k_extra "x1"); (case F | N | X | T => k_asm))
 k_with "x24" => (k_here; (with_reducible show wpAny _ _ (subscriptTail _ _ (Value.ref _) (Value.int _ _)) _ _ _))
 k_with "x25" => ((try k_sweep); (try fold_depth))
 k_with "x26" => ((try simp only [List.cons_append, List.nil_append] at N'); (try simp only [adrs, List.map_cons, List.map_nil] at off'); k_extra "x25")
 k_with "x27" => ((case U => k_updF); k_whole; intro x' dx' hs' tk' il' at' ex' h' tk2' F' nw' N' l1 l2 m1 off' row'; (try dsimp only at N'); (try simp only [List.cons_append, List.nil_append] at N'); k_extra "x25")
 k_with "x28" => ((case rm => k_extra "x1"); (case F | N => k_asm); (case V | hr | hm => assumption); (case X | T => k_asm); (case Sr | Sr' | hv | hrow | hz9 | hy => assumption))
 k_with "x29" => ((try dsimp only at N'); k_extra "x25")
 k_with "x30" => ((case F | N => k_asm); (case hF => k_dflt tb_rel); (case hd => assumption); (case hk => k_extra "x13"); (case hk3 => k_extra "x14"))
 k_with "x31" => (k_here; (with_reducible show wpAny _ _ (subscriptTail _ _ (Value.ref _) (Value.str _ _)) _ _ _))
 k_with "x32" => (k_whole; intro c' a' b' o' o2' h' tk' F' nw' N' l1 l2 ht')
 k_with "x33" => (k_whole; intro c' ex' h' tk' F' nw' N' off' tell'; (try dsimp only at N'); k_extra "x26")
 k_with "x34" => (k_here; (with_reducible show wpAny _ _ (call (Value.ref 1194) [Value.ref _, Value.ref _, Value.ref _]) _ _ _))
 k_with "x35" => ((case hix => k_extra "x15"); (case hxl => k_extra "x9"); k_whole; intro g2' c' own' ex' h' tk' F' N' off' X' T' Sr' G' hmn' hex' tell'; k_extra "x26")
 k_with "x36" => (intro e' dx' fr' lk' oF' oK' q' kt' t2' t3' h' tk' F' nw' N' ne' l1 l2 l3 lo1 lo2 d1 d2; have l5 := fun p hp => (ne' p hp).1; have l6 := fun p hp => (ne' p hp).2.1; have l7 := fun p hp => (ne' p hp).2.2.1; have l8 := fun p hp => (ne' p hp).2.2.2; (try k_lt l1); k_extra "x25")
 k_with "x37" => ((simp only [List.cons_append, List.nil_append] at N'); (have pq' := PairsAt.mono (by assumption) st'); (have ob' := LC.off lc'))
 k_with "x38" => (k_extra "x23"; (case hv => k_extra "x2"); (case hl => k_dflt (is_list)); (case hn => k_extra "x11"); (case hy => assumption); (case he => first | assumption | with_reducible exact rfl); k_whole; intro t' h' tk' F' N'; k_extra "x25")
 k_with "x39" => ((try k_lt l1); k_extra "x25")
 k_with "x40" => ((case rm => k_extra "x1"); (case X | T => k_asm))
 k_with "x41" => (k_whole; intro h' tk' F' N'; k_extra "x25")
 k_with "x42" => (k_extra "x23"; (case S | hI | hS => assumption); (case hyd => k_extra "x12"); (case hE | hF | lo | hd | hk | hc => assumption); (case U => k_updF); k_whole; intro h' tk' F' nw' N'; k_extra "x29")
 k_with "x43" => (k_here; (with_reducible show wpAny _ _ (call (Value.ref 929) [Value.ref _]) _ _ _); refine' use_first ?F ?N ?X ?T ?rm ?l ?z ?len ?ne ?_; (case rm => assumption); (case F | N | X | T => k_asm))
 k_with "x44" => (k_extra "x23"; (case hv => k_extra "x2"); (case hil => k_dflt (is_list)); (case ha => k_extra "x4"))
 k_with "x45" => (k_extra "x23"; (case he => k_extra "x8"); (case hf => k_extra "x3"))
 k_with "x46" => (k_whole; intro o' h' tk' F' nw' N' d'; k_extra "x29")
 k_with "x47" => (k_here; (rename Fr _ _ _ _ => lF'); (with_unfolding_all refine' For_turns lF' ?_; k_whole))
 k_with "x48" => (k_here; (with_reducible show wpAny _ _ (call (Value.ref 410) [Value.ref _]) _ _ _))
 k_with "x49" => (k_here; (with_reducible show wpAny _ _ (call (Value.ref 1187) [_, _, _, _]) _ _ _))
 k_with "x50" => (k_here; (with_reducible show wpAny _ _ (call (Value.ref 1429) [_, _, _]) _ _ _))
 k_with "x51" => (k_here; (with_reducible show wpAny _ _ (call (Value.ref 1166) [_, _, _]) _ _ _))
 k_with "x52" => ((refine' LSok.told S' ?_; intro gdx' q2' kt' nt' pa' lk' bdx' q3' kt3' nt3' pa3' lk3' x1' x2' x3' x4' x5' x6' x7' x8' x9' x10' x11' x12' x13'))
 k_with "x53" => (k_extra "x40"; (case hne => k_ne); (case o1 | o2 | o3 => k_extra "x5"); (case hC => k_extra "x19"); (case hS1 | hS2 | hS3 => k_extra "x6"))
 k_with "x54" => (k_extra "x23"; (case hl => k_dflt (is_list)); k_whole; intro c' dc' il' tg' q' kt' x' n' h' tk' F' nw' N' l1 l2 l3; k_extra "x25")
 k_with "x55" => (k_whole; intro a' o' kvs' h' tk' F' nw' N' lo' d' t'; k_extra "x25")
 k_with "x56" => (k_extra "x23"; (case hv => k_extra "x2"); (case ha => k_extra "x4"))
 k_with "x57" => (k_extra "x23"; (case he => k_extra "x17"); (case U => k_updF); (case lo | hd | hz => assumption); k_extra "x46")
 k_with "x58" => (k_here; (with_reducible show wpAny _ _ (call (Value.ref 1037) [Value.ref _, Value.ref _, Value.bool _]) _ _ _))
 k_with "x59" => ((with_reducible show wpAny _ _ (pyIter (Value.ref _)) (fun it s₂ => TurnsAt _ _ _ _ _ _ _ _ _ it s₂) _ _))
 k_with "x60" => (k_here; (with_reducible show wpAny _ _ (call (Value.ref 1180) [Value.ref _, Value.ref _, Value.ref _]) _ _ _))
 k_with "x61" => ((case hix => k_extra "x2"); (case hxl => k_dflt (is_list)))
 k_with "x62" => ((case U => k_updF); (case U2 => (try dsimp only); k_updF))
 k_with "x63" => (k_here; (with_reducible show wpAny _ _ (call (Value.ref 915) [Value.ref _, Value.str _ _, _]) _ _ _))
 k_with "x64" => (k_here; (with_reducible show wpAny _ _ (call (Value.ref 1042) [Value.ref _, Value.str _ _]) _ _ _))
 k_with "x65" => (k_here; (with_reducible show wpAny _ _ (call (Value.ref 342) [Value.str _ _, Value.ref _]) _ _ _))
 k_with "x66" => (k_extra "x32"; k_extra "x25")
 k_with "x67" => (k_here; (with_reducible show wpAny _ _ (call (Value.builtin "len") [Value.ref _]) _ _ _))
 k_with "x68" => (k_here; (with_reducible show wpAny _ _ (setItem (Value.ref _) (Value.int _ _) _) _ _ _))
 k_with "x69" => (k_here; (with_reducible show wpAny _ _ (call (Value.ref 1385) [Value.ref _, _]) _ _ _))
 k_with "x70" => (k_here; (with_reducible show wpAny _ _ (call (Value.ref 805) [Value.ref _]) _ _ _))
 k_with "x71" => (k_here; (with_reducible show wpAny _ _ (call (Value.type _) [Value.ref _]) _ _ _))
 k_with "x72" => (k_extra "x23"; k_whole; intro x' d' hs' h' tk' F' nw' N' l1 l2; k_extra "x39")
 k_with "x73" => (k_here; (with_reducible show wpAny _ _ (call (Value.ref 179) _ _) _ _ _))
 k_with "x74" => ((case hB => assumption); k_extra "x45"; (case lo | hd => assumption))
 k_with "x75" => ((case hC => k_extra "x20"); (case hS1 | hS2 | hS3 => k_extra "x7"))
 k_with "x76" => ((case U => k_updF); (case U2 | U3 => (try dsimp only); k_updF))
 k_with "x77" => (k_extra "x23"; (case S | hI => assumption); (case U => k_updF))
 k_with "x78" => (intro h' F' N'; k_extra "x25")
 k_with "x79" => ((case S | Sr' | hI | h13 | hv | lo | hz9 | hy => assumption))
 k_with "x80" => ((case S | Sr' => assumption))
 k_with "x81" => (k_here; (rename Fr _ _ _ _ => lF'))
 k_with "x82" => ((case rm => assumption); (case F | N | X | T => k_asm))
 k_with "x83" => (k_extra "x56"; (case hz | hne => assumption); k_whole)
 k_with "L0" => (k_here; k_dflt (first | (refine' call_clsA ?k1z0 ?k2z0 ?k3z0 ?k4z0 ?k5z0 ?k6z0 ?_; (case k1z0 => k_asm); (case k2z0 => k_asm); (case k3z0 => k_asm); (case k4z0 => k_is); (case k5z0 => k_is); (case k6z0 => k_is); k_whole; intro x' d' h' F' nw' N' l1 l2; (try k_lt l1); (try k_lt2 l2); (try k_sweep); (try fold_depth); k_enter) | (refine wpAny_call ?_; k_enter)))
 k_with "L1" => (refine' back_ ?Fz1 ?Nz1 ?_; (case Fz1 | Nz1 => k_asm); refine stop_ ?_; (try dsimp only); walk_say "BACK")
 k_with "L2" => (k_here; k_dflt (refine' d_in ?Dz2 ?lz2 ?_; (case Dz2 => k_tabat); (case lz2 => assumption)))
 k_with "L3" => (k_here; k_dflt (refine' d_notin ?Dz3 ?lz3 ?_; (case Dz3 => k_tabat); (case lz3 => assumption)))
 k_with "L4" => (k_here; k_dflt (refine' d_notinI ?Dz4 ?lz4 ?_; (case Dz4 => k_tabat); (case lz4 => assumption)))
 k_with "L5" => (k_extra "x31"; k_dflt (refine' d_item ?Dz5 ?lz5 ?_; (case Dz5 => k_tabat); (case lz5 => first | assumption | rfl); k_whole))
 k_with "L6" => (k_here; k_dflt (first | (refine' d_get2v ?Dz6 ?lz6 ?vz6 ?_; (case Dz6 => k_tabat); (case lz6 => assumption); (case vz6 => first | assumption | exact va_hit | exact va_miss1 (by decide) | exact rfl); k_whole) | (refine' d_get1v ?Dz6 ?lz6 ?vz6 ?_; (case Dz6 => k_tabat); (case lz6 => assumption); (case vz6 => first | assumption | exact va_hit | exact va_miss1 (by decide) | exact rfl); k_whole)))
 k_with "L7" => (k_here; (with_reducible show wpAny _ _ (getMethod (Value.ref _) "get" _) _ _ _); k_dflt (refine' d_getm ?Dz7 ?_; (case Dz7 => k_tabat)))
 k_with "L8" => (k_extra "x71"; k_dflt (refine' list_copyK ?k1z8 ?k2z8 ?k3z8 ?_ ?zz8; (case k1z8 => k_asm); (case k2z8 => k_asm); (case k3z8 => is_list); (case zz8 => (simp only [List.size_toArray, sizeLine_eq]; omega)); k_whole); intro D' c' h' F' N' l1; k_extra "x39")
 k_with "L9" => (k_extra "x81"; (with_unfolding_all refine' For_invVF lF' ?k1z9 ?k2z9 ?_; (case k1z9 => exact rfl); (case k2z9 => exact rfl); k_whole))
 k_with "L10" => ((with_reducible show wpAny _ _ (pyIter (Value.ref _)) (fun it s₂ => LoopAtV _ _ _ _ _ _ _ _ _ it s₂) _ _); refine stop_ ?_; walk_say "STOP")
 k_with "L11" => first | ((with_reducible show TurnB _ _ _ _ _ _ _ _ Flow.next _); refine' TurnB.intro ?Fz11 ?Nz11 ?hsz11 ?_; (case Fz11 => k_asm); (case Nz11 => k_asm); (case hsz11 => (intro p hp; first | (with_reducible exact hp) | ((repeat (with_reducible (first | exact hp | refine' mcm _ ?_ | refine' mal _ ?_))); done) | exact hp | exact mcm _ hp | exact mcm _ (mcm _ hp) | (simp only [List.mem_cons, List.mem_append]; simp [hp]))); refine stop_ ?_; walk_say "TURN") | ((with_reducible show TurnB _ _ _ _ _ _ _ _ Flow.cont _); refine' TurnB.introC ?Fz11 ?Nz11 ?hsz11 ?_; (case Fz11 => k_asm); (case Nz11 => k_asm); (case hsz11 => (intro p hp; first | (with_reducible exact hp) | ((repeat (with_reducible (first | exact hp | refine' mcm _ ?_ | refine' mal _ ?_))); done) | exact hp | exact mcm _ hp | exact mcm _ (mcm _ hp) | (simp only [List.mem_cons, List.mem_append]; simp [hp]))); refine stop_ ?_; walk_say "TURN") | ((with_reducible show TurnB _ _ _ _ _ _ _ _ (Flow.ret _) _); dsimp only [TurnB]) | ((with_reducible show TurnB _ _ _ _ _ _ _ _ Flow.brk _); dsimp only [TurnB])
 k_with "L12" => (k_here; k_dflt (refine' kda_set (knd := strKind thePr _) ?Fz12 ?Nz12 ?Uz12 ?dz12 (strKind_is _ _ _ _) ?zz12 ?_; (case Fz12 => k_asm); (case Nz12 => k_asm); (case Uz12 => k_updF); (case dz12 => assumption); (case zz12 => (first | (simp only [sizeLine_eq]; omega) | exact Nat.zero_le _ | (simp only [sizeLine_eq, List.length_cons, List.length_nil]; omega))); k_whole); intro h' o' F' N' d'; k_extra "x29")
 k_with "L13" => (k_extra "x67"; k_dflt (refine' len_k ?lz13 ?ez13 ?zz13 ?_; (case lz13 => is_list); (case ez13 => first | exact len0 | exact len1 _ | exact len2 _ _ | exact len3 _ _ _ | exact len4 _ _ _ _ | exact rfl); (case zz13 => first | assumption | (simp only [List.length_cons, List.length_nil]; omega) | omega); k_whole))
 k_with "L14" => (k_extra "x24"; k_dflt (refine' item_l ?lz14 ?zz14 ?xz14 ?_; (case lz14 => is_list); (case zz14 => first | assumption | omega); (case xz14 => assumption); k_whole))
 k_with "L15" => (k_here; k_dflt (refine' set_at ?k1z15 ?k2z15 ?k3z15 ?k4z15 ?k5z15 ?k6z15 ?k7z15 ?k8z15 ?k9z15 ?kaz15 ?k10z15 ?k11z15 ?k12z15 ?k13z15 ?_; (case k1z15 => k_asm); (case k2z15 => k_asm); (case k3z15 => k_asm); (case k4z15 => k_inst); (case k5z15 => exact rfl); (case k6z15 => k_is); (case k7z15 => k_is); (case k8z15 => k_is); (case k9z15 => k_is); (case kaz15 => exact rfl); (case k10z15 => k_get); (case k11z15 => k_put); (case k12z15 => k_updF); (case k13z15 => exact Nat.le_of_ble_eq_true rfl); k_whole; intro od' nw' h' F' N'; (try k_sweep); (try fold_depth)))
 k_with "L16" => (k_here; k_dflt (refine' isi_call ?k1z16 ?k2z16 ?k3z16 ?k4z16 ?_; (case k1z16 => k_in); (case k2z16 => intro M; exact InstAt.type (by k_inst)); (case k3z16 => k_is); (case k4z16 => intro e; cases e); k_whole))
 k_with "L17" => (k_here; (with_reducible refine wpAny_execs_nil ?_))
 k_with "L18" => (k_here; k_dflt (refine' d_inv ?Dz18 ?lz18 ?ez18 ?_; (case Dz18 => k_tabat); (case lz18 => assumption); (case ez18 => first | assumption | exact is_miss1 (by decide) | exact is_hit | exact rfl)))
 k_with "L19" => (k_extra "x71"; k_dflt (refine' list_copyK ?k1z19 ?k2z19 ?k3z19 ?_ ?zz19; (case k1z19 => k_asm); (case k2z19 => k_asm); (case k3z19 => is_list); (case zz19 => (simp only [List.size_toArray, List.length_append, List.length_cons, List.length_nil, sizeLine_eq]; omega)); k_whole); intro D' c' h' F' N' l1; k_extra "x39")
 k_with "L20" => (k_extra "x67"; k_dflt (refine' len_k ?lz20 ?ez20 ?zz20 ?_; (case lz20 => is_list); (case ez20 => first | with_reducible assumption | exact len0 | exact len1 _ | exact len2 _ _ | exact len3 _ _ _ | exact len4 _ _ _ _ | exact rfl); (case zz20 => first | assumption | exact Nat.le_of_ble_eq_true rfl | omega | (simp only [List.length_append, List.length_cons, List.length_nil]; omega)); k_whole))
 k_with "L21" => (k_extra "x24"; k_dflt (refine' item_z ?lz21 ?zz21 ?nz21 ?xz21 ?_; (case lz21 => is_list); (case zz21 => first | assumption | exact Nat.le_of_ble_eq_true rfl | omega); (case nz21 => decide); (case xz21 => exact rfl); k_whole))
 k_with "L22" => (k_extra "x24"; k_dflt (refine' item_tupleT ?lz22 ?nz22 ?n2z22 ?jz22 ?xz22 ?_; (case lz22 => exact News.isTup (by k_asm) (by tb_rel)); (case nz22 => decide); (case n2z22 => decide); (case jz22 => exact rfl); (case xz22 => exact rfl); k_whole))
 k_with "L23" => (k_extra "x24"; k_dflt (refine' item_z ?lz23 ?zz23 ?nz23 ?xz23 ?_; (case lz23 => is_list); (case zz23 => first | assumption | exact Nat.le_of_ble_eq_true rfl | omega); (case nz23 => decide); (case xz23 => exact rfl); k_whole))
 k_with "L24" => (k_extra "x24"; k_dflt (refine' item_tupleT ?lz24 ?nz24 ?n2z24 ?jz24 ?xz24 ?_; (case lz24 => exact News.isTup (by k_asm) (by tb_rel)); (case nz24 => decide); (case n2z24 => decide); (case jz24 => exact rfl); (case xz24 => exact rfl); k_whole))
 k_with "L25" => (k_extra "x24"; k_dflt (refine' item_z ?lz25 ?zz25 ?nz25 ?xz25 ?_; (case lz25 => is_list); (case zz25 => first | assumption | exact Nat.le_of_ble_eq_true rfl | omega); (case nz25 => decide); (case xz25 => exact rfl); k_whole))
 k_with "L26" => (k_extra "x24"; k_dflt (refine' item_tupleT ?lz26 ?nz26 ?n2z26 ?jz26 ?xz26 ?_; (case lz26 => exact News.isTup (by k_asm) (by tb_rel)); (case nz26 => decide); (case n2z26 => decide); (case jz26 => exact rfl); (case xz26 => exact rfl); k_whole))
 k_with "L27" => (k_extra "x24"; k_dflt (refine' item_z ?lz27 ?zz27 ?nz27 ?xz27 ?_; (case lz27 => is_list); (case zz27 => first | assumption | exact Nat.le_of_ble_eq_true rfl | omega); (case nz27 => decide); (case xz27 => exact rfl); k_whole))
 k_with "L28" => (k_extra "x24"; k_dflt (refine' item_tupleT ?lz28 ?nz28 ?n2z28 ?jz28 ?xz28 ?_; (case lz28 => exact News.isTup (by k_asm) (by tb_rel)); (case nz28 => decide); (case n2z28 => decide); (case jz28 => exact rfl); (case xz28 => exact rfl); k_whole))
 k_with "L29" => (k_extra "x24"; k_dflt (refine' item_z ?lz29 ?zz29 ?nz29 ?xz29 ?_; (case lz29 => is_list); (case zz29 => first | assumption | exact Nat.le_of_ble_eq_true rfl | omega); (case nz29 => decide); (case xz29 => exact rfl); k_whole))
 k_with "L30" => (k_extra "x24"; k_dflt (refine' item_tupleT ?lz30 ?nz30 ?n2z30 ?jz30 ?xz30 ?_; (case lz30 => exact News.isTup (by k_asm) (by tb_rel)); (case nz30 => decide); (case n2z30 => decide); (case jz30 => exact rfl); (case xz30 => exact rfl); k_whole))
 k_with "L31" => (k_extra "x24"; k_dflt (refine' item_z ?lz31 ?zz31 ?nz31 ?xz31 ?_; (case lz31 => is_list); (case zz31 => first | assumption | exact Nat.le_of_ble_eq_true rfl | omega); (case nz31 => decide); (case xz31 => exact rfl); k_whole))
 k_with "L32" => (k_extra "x24"; k_dflt (refine' item_z ?lz32 ?zz32 ?nz32 ?xz32 ?_; (case lz32 => is_list); (case zz32 => first | assumption | exact Nat.le_of_ble_eq_true rfl | omega); (case nz32 => decide); (case xz32 => exact rfl); k_whole))
 k_with "L33" => (k_extra "x24"; k_dflt (refine' item_tupleT ?lz33 ?nz33 ?n2z33 ?jz33 ?xz33 ?_; (case lz33 => exact News.isTup (by k_asm) (by tb_rel)); (case nz33 => decide); (case n2z33 => decide); (case jz33 => exact rfl); (case xz33 => exact rfl); k_whole))
 k_with "L34" => (k_extra "x31"; k_dflt (refine kba_turn (value' := PySem.Expr.Name (PySem.Str.ofString "_") ⟨0, 0, 0, 0⟩) (fun _ => rfl) ?_; refine' d_item ?Dz34 ?lz34 ?_; (case Dz34 => k_tabat); (case lz34 => first | assumption | rfl); k_whole))
 k_with "L35" => (k_extra "x31"; k_dflt (refine kba_turn (value' := PySem.Expr.Name (PySem.Str.ofString "_") ⟨0, 0, 0, 0⟩) (fun _ => rfl) ?_; refine' d_item ?Dz35 ?lz35 ?_; (case Dz35 => k_tabat); (case lz35 => first | assumption | rfl); k_whole))
 k_with "L36" => (k_extra "x31"; k_dflt (refine' d_item ?Dz36 ?lz36 ?_; (case Dz36 => k_tabat); (case lz36 => first | assumption | rfl); k_whole))
 k_with "L37" => (k_extra "x24"; k_dflt (refine' item_l ?lz37 ?zz37 ?xz37 ?_; (case lz37 => is_list); (case zz37 => first | assumption | omega); (case xz37 => assumption); k_whole))
 k_with "L38" => (k_extra "x24"; k_dflt (refine' item_l ?lz38 ?zz38 ?xz38 ?_; (case lz38 => is_list); (case zz38 => first | assumption | omega); (case xz38 => assumption); k_whole))
 k_with "L39" => (k_extra "x47")
 k_with "L40" => (k_here; k_dflt (refine' ne_intsK ?k1z40 ?k2z40 ?k3z40 ?k4z40 ?k5z40 ?_; (case k1z40 => is_list); (case k2z40 => exact IntsAre.cons _ _ IntsAre.nil); (case k3z40 => is_list); (case k4z40 => exact IntsAre.cons _ _ IntsAre.nil); (case k5z40 => exact units_lt (by have hrmU := Rm.u (by assumption); omega)); k_whole))
 k_with "L41" => (k_here; k_dflt (refine' newDict_K ?k1z41 ?k2z41 ?k3z41 ?_; (case k1z41 => k_asm); (case k2z41 => k_asm); (case k3z41 => exact TopRead.nolimit (by assumption)); k_whole); intro d' h' o' F' N' l1 lo' hs' fs' hi' fi'; k_extra "x39")
 k_with "L42" => (k_here; (refine' sub_k ?ez42 ?_; (case ez42 => with_reducible assumption)))
 k_with "L43" => (k_here; (with_reducible show wpAny _ _ (binaryOp Operator.Mult (Value.ref _) (Value.int _ _)) _ _ _); k_dflt (first | ((with_reducible show wpAny _ _ (binaryOp Operator.Mult (Value.ref _) (Value.int 0 _)) _ _ _); refine' mul_zero ?Fz43 ?Nz43 ?lz43 ?_; (case Fz43 => k_asm); (case Nz43 => k_asm); (case lz43 => k_dflt (first | exact News.get (by k_asm) (by tb_rel) | exact stay2 (by k_asm) (by assumption) _ _ (by assumption))); k_whole) | (refine' mul_lst ?Fz43 ?Nz43 ?lz43 ?loz43 ?hiz43 ?zz43 ?_; (case Fz43 => k_asm); (case Nz43 => k_asm); (case lz43 => k_dflt (first | exact News.get (by k_asm) (by tb_rel) | exact stay2 (by k_asm) (by assumption) _ _ (by assumption))); (case loz43 => omega); (case hiz43 => omega); (case zz43 => exact Nat.le_of_ble_eq_true rfl); k_whole)); intro D' h' F' nw' N' l1; k_extra "x39")
 k_with "L44" => (k_here; (with_reducible show wpAny _ _ (call (Value.builtin _) [Value.ref _, Value.ref _]) _ _ _); k_dflt (refine' ext_lst ?Fz44 ?Nz44 ?Uz44 ?bz44 ?zz44 ?yz44 ?ez44 ?_; (case Fz44 => k_asm); (case Nz44 => k_asm); (case Uz44 => k_updF); (case bz44 => k_dflt (first | exact News.get (by k_asm) (by tb_rel) | exact stay2 (by k_asm) (by assumption) _ _ (by assumption))); (case zz44 => first | assumption | (simp only [List.length_append, List.length_cons, List.length_nil]; omega)); (case yz44 => first | assumption | exact Nat.le_of_ble_eq_true rfl | (simp only [List.length_append, List.length_cons, List.length_nil]; omega)); (case ez44 => first | exact List.append_nil _ | exact rfl); k_whole); intro h' n' F' nw' N'; k_extra "x29")
 k_with "L45" => (k_extra "x68"; k_dflt (refine' set_lst ?Fz45 ?Nz45 ?Uz45 ?kz45 ?zz45 ?_; (case Fz45 => k_asm); (case Nz45 => k_asm); (case Uz45 => k_upd); (case kz45 => first | assumption | (simp only [List.length_append, List.length_cons, List.length_nil]; omega)); (case zz45 => first | assumption | (simp only [List.length_append, List.length_cons, List.length_nil]; omega)); k_whole); k_extra "x78")
 k_with "L46" => (k_here; k_dflt (first | ((with_reducible refine' st_store ?Fz46 ?Nz46 ?Wz46 ?xz46 ?ez46 ?_); (case Fz46 => k_asm); (case Nz46 => k_asm); (case Wz46 => first | k_asm | exact wk_of (by assumption) (by assumption) (by assumption)); (case xz46 => exact rfl); (case ez46 => exact rfl); k_whole; intro h'; acc_keep; (try k_sweep); acc_open) | (refine' storeX_L ?F2z46 ?N2z46 ?_ ?az46 ?bz46; (case F2z46 => k_asm); (case N2z46 => k_asm); (case az46 => rfl); (case bz46 => rfl); k_whole; intro h' F' N'; (try k_sweep); (try fold_depth))))
 k_with "L47" => (k_here; k_dflt (first | ((with_reducible refine' st_list ?Fz47 ?Nz47 ?Wz47 ?ez47 ?zz47 ?_); (case Fz47 => k_asm); (case Nz47 => k_asm); (case Wz47 => first | k_asm | exact wk_of (by assumption) (by assumption) (by assumption)); (case ez47 => exact rfl); (case zz47 => size_fits); k_whole; intro l' h' l1; acc_keep; (try k_sweep); acc_open) | (refine' newList_K ?k1z47 ?k2z47 ?_; (case k1z47 => k_asm); (case k2z47 => k_asm); k_whole; intro l' h' F' N' l1; (try k_lt l1); (try k_sweep); (try fold_depth))))
 k_with "L48" => (k_here; k_dflt ((with_reducible refine' st_get ?Fz48 ?Wz48 ?Iz48 ?hgz48 ?hhz48 ?haz48 ?hnz48 ?hlz48 ?hvz48 ?ez48 ?_); (case Fz48 => k_asm); (case Wz48 => first | k_asm | exact wk_of (by assumption) (by assumption) (by assumption)); (case Iz48 => k_inst); (case hgz48 => k_is); (case hhz48 => k_is); (case haz48 => k_is); (case hnz48 => k_is); (case hlz48 => k_dflt k_get); (case hvz48 => k_handed); (case ez48 => exact rfl); k_whole; acc_open))
 k_with "L49" => (k_extra "x31"; k_dflt (refine kba_turn (value' := PySem.Expr.Name (PySem.Str.ofString "_") ⟨0, 0, 0, 0⟩) (fun _ => rfl) ?_; refine' d_item ?Dz49 ?lz49 ?_; (case Dz49 => k_tabat); (case lz49 => first | assumption | rfl); k_whole))
 k_with "L50" => k_dflt ktu_end
 k_with "L51" => k_dflt (first | ktu_endR | k_unrEnd)
 k_with "c1call ref" => k_extra "L0"
 k_with "c1Back" => k_extra "L1"
 k_with "c1compareOp In str ref" => first | k_extra "L18" | k_extra "L2"
 k_with "c1compareOp NotIn str ref" => k_extra "L3"
 k_with "c1compareOp NotIn int ref" => k_extra "L4"
 k_with "c1subscriptTail" => first | k_extra "L14" | k_extra "L5"
 k_with "c1call builtin:dict.get" => k_extra "L6"
 k_with "c1getMethod ref" => k_extra "L7"
 k_with "c1call type:list" => k_extra "L8"
 k_with "c1exec For Name Call cons nil" => k_extra "L9"
 k_with "c1pyIter ref" => k_extra "L10"
 k_with "c1TurnB" => k_extra "L11"
 k_with "c1setItem ref str" => k_extra "L12"
 k_with "c1call builtin:len" => k_extra "L13"
 k_with "c1setAttr ref" => k_extra "L15"
 k_with "c1call builtin:isinstance" => k_extra "L16"
 k_with "c1execs nil" => k_extra "L17"
 k_with "c2call ref" => k_extra "L0"
 k_with "c2Back" => k_extra "L1"
 k_with "c2compareOp In str ref" => first | k_extra "L18" | k_extra "L2"
 k_with "c2compareOp NotIn str ref" => k_extra "L3"
 k_with "c2compareOp NotIn int ref" => k_extra "L4"
 k_with "c2subscriptTail" => first | k_extra "L21" | k_extra "L14" | k_extra "L5"
 k_with "c2call builtin:dict.get" => k_extra "L6"
 k_with "c2getMethod ref" => k_extra "L7"
 k_with "c2call type:list" => k_extra "L19"
 k_with "c2exec For Name Call cons nil" => k_extra "L9"
 k_with "c2pyIter ref" => k_extra "L10"
 k_with "c2TurnB" => k_extra "L11"
 k_with "c2setItem ref str" => k_extra "L12"
 k_with "c2call builtin:len" => k_extra "L20"
 k_with "c2setAttr ref" => k_extra "L15"
 k_with "c2call builtin:isinstance" => k_extra "L16"
 k_with "c2execs nil" => k_extra "L17"
 k_with "c2subscriptTail Name Constant ref int" => first | k_extra "L23" | k_extra "L22"
 k_with "c2subscriptTail Subscript Constant ref int" => first | k_extra "L25" | k_extra "L24"
 k_with "c2subscriptTail Attribute Constant ref int" => first | k_extra "L27" | k_extra "L26"
 k_with "c2subscriptTail Attribute Name Constant ref int" => first | k_extra "L29" | k_extra "L28"
 k_with "c2subscriptTail Subscript Name Constant ref int" => first | k_extra "L31" | k_extra "L30"
 k_with "c2subscriptTail Subscript Name Constant Constant ref int" => first | k_extra "L33" | k_extra "L32"
 k_with "c2subscriptTail Attribute Name Name ref str" => k_extra "L34"
 k_with "c2subscriptTail Attribute Name Constant ref str" => k_extra "L35"
 k_with "c2subscriptTail Name Name ref str" => k_extra "L36"
 k_with "c2subscriptTail Name Name ref int" => k_extra "L37"
 k_with "c2subscriptTail Attribute Name Name ref int" => k_extra "L38"
 k_with "c2exec For Tuple Subscript cons nil" => k_extra "L39"
 k_with "c2compareOp NotEq ref ref" => k_extra "L40"
 k_with "c2eval Dict nil nil" => k_extra "L41"
 k_with "c3binaryOp Sub int int" => k_extra "L42"
 k_with "c3binaryOp Mult ref int" => k_extra "L43"
 k_with "c3call builtin:list.extend" => k_extra "L44"
 k_with "c3setItem ref int" => k_extra "L45"
 k_with "c0storeName" => k_extra "L46"
 k_with "c0newList" => k_extra "L47"
 k_with "c0getAttr ref" => k_extra "L48"
 k_with "c0subscriptTail Attribute Attribute Constant ref str" => k_extra "L49"
 k_with "c0UnrEndW" => k_extra "L50"
 k_with "c0UnrEnd" => k_extra "L51"
 trivial
local macro_rules |`(tactic|walk_at "")=>`(tactic|skip)
section
local macro_rules | `(tactic| walk_at $s:str) => hk ["gB6", "c1", "c0"] s
def Stop (P : Prop) : Prop := P
theorem dict_cls {K : Type} [DecidableEq K] {knd : KeyKind thePr w K} {kvs : List (K × Value)} {n : String} (h : o.IsDictOf knd kvs) (hn : n ≠ "dict") : o.cls ≠ .type n := by
 refine o2_2 h fun es ep he _ => ?_
 clear h
 intro e
 have := he.1
 rw [e] at this
 exact hn (Value.type.inj this)
theorem take_snoc {α : Type} {l : List α} {x : α} (h : l[i]? = some x) : l.take (i + 1) = l.take i ++ [x] := by rw [List.take_add_one, h]; rfl
theorem stop_ {P : Prop} (h : Stop P) : P := h
theorem len_l (hl : s.heap.IsList l vs.toArray) (hz : vs.length ≤ 1000) (h : Q (.int vs.length (s.toks + 1)) { s with toks := s.toks + 1 + 1 }) : wpAny (model thePr w) A (call (.builtin "len") [.ref l]) Q E s :=
 Calls.call_len_list hl (by simp only [List.size_toArray]; omega) (by simpa using h)
theorem len0 : (([] : List Value).length : Int) = 0 := rfl
theorem len1 (a : Value) : ([a].length : Int) = 1 := rfl
theorem len2 (a b : Value) : ([a, b].length : Int) = 2 := rfl
theorem len3 (a b c : Value) : ([a, b, c].length : Int) = 3 := rfl
theorem len4 (a b c d : Value) : ([a, b, c, d].length : Int) = 4 := rfl
theorem len_k {n : Int} (hl : s.heap.IsList l vs.toArray) (e : (vs.length : Int) = n) (hz : vs.length ≤ 1000) (h : Q (.int n (s.toks + 1)) { s with toks := s.toks + 1 + 1 }) : wpAny (model thePr w) A (call (.builtin "len") [.ref l]) Q E s := by
 subst e; exact len_l hl hz h
theorem d_inv {d : Addr} {x : Str} {b : Bool} (D : s.heap.DictOf (strKind thePr w) d kvs) (lo : (d == sysModules) = false) (e : (valueAt kvs x).isSome = b) (h : Q (.bool b) { s with toks := s.toks + 1 }) : wpAny (model thePr w) A (compareOp .In (.str x t) (.ref d)) Q E s :=
 d_in D lo (by rw [e]; exact h)
theorem is_miss1 {k : Str} {u : Value} (h : ¬ k = y) : (valueAt [(k, u)] y).isSome = false := by rw [va_cons, if_neg h]; rfl
theorem is_hit {k : Str} {u : Value} {l : List (Str × Value)} : (valueAt ((k, u) :: l) k).isSome = true := by rw [va_cons, if_pos rfl]; rfl
theorem item_l {x : Value} (hl : s.heap.IsList l vs.toArray) (hz : vs.length ≤ 1000) (hx : vs[i]? = some x) (h : Q x s) (hs : subscripted slice false (.ref l) (.int (i : Int) t) = operate [.ref l, .int (i : Int) t] (getItem (.ref l) (.int (i : Int) t)) := by with_unfolding_all rfl) :
  wpAny (model thePr w) A (subscriptTail value slice (.ref l) (.int (i : Int) t)) Q E s := by
 have hi : i < vs.length := (List.getElem?_eq_some_iff.mp hx).1
 exact tail_any hl.typeIs slot_list_getitem.lookup (wpAny_getItem_list hl (by omega) (by omega) (by simpa using hx) h) hs
section
variable {r : Heap}
theorem first_places_some (X : (K0 w.params).In r) (T : TopRead p loose mg mb r) (st : r.StaysIn s.heap) (hl : s.heap.IsList l vs.toArray) (hz : Strs vs xs) (hlen : xs.length ≤ 1000) (hne : ∀ x ∈ xs, x ≠ "") :
  Does w 1 (.ref 929) ⟨[.ref l], []⟩ (adrs []) s fun rv h' => ∃ d o kvs, rv = .ref d ∧ (d == sysModules) = false ∧ s.heap.get? d = none ∧ h'.get? d = some o ∧ o.IsDictOf (strKind thePr w) kvs ∧ TabR xs kvs := by
 w_on
 refine' does_def (mt := []) (binds := [("names", Value.ref l)]) X T st ?hm ?hr ?ho ?hcd ?hbind ?hloc ?_ ?hco ?hgen ?hk ?hcell ?hl
 k_extra "x164"
 k_steps
 rename_i d₁ h₁' o₁ l₁ lo₁ hs₁ fs₁ hi₁ fi₁ _ _ _ F₁ N₁ _ h₃ tk₃ t₁ u₁ v₁ R₃ F₃ N₃ K₃
 k_extra "x249"
 refine iter_range_h (L := L') (n := xs.length) (J := fun _ i m H => (∀ z, z ≠ Str.ofString "i" → z ≠ Str.ofString "name" → m z = if z = Str.ofString "table" then some (Value.ref d₁) else List.lookup z [(Str.ofString "names", Value.ref l)].reverse) ∧
  ∃ o kvs, H.get? d₁ = some o ∧ o.IsDictOf (strKind thePr w) kvs ∧ TabR (xs.take i) kvs) rfl rfl R₃ (small_one (by omega) (by omega) (by omega) (by omega)) (by rw [rangeSize_nat]; omega) F₃ N₃ ?mono ?h0 ?turn ?done
 case mono => intro i m a b hz1 st'; refine o0_2 hz1 fun hm zr => ?_; clear hz1; refine o2_3 zr fun o kvs q1 q2 q3 => ?_; clear zr; exact ⟨hm, o, kvs, st' _ _ q1, q2, q3⟩
 case h0 => intro H _ hN; exact ⟨fun z h1 h2 => rfl, o₁, [], hN _ (.head _), hs₁, by simpa using TabR.nil⟩
 case turn =>
  intro i t m H hi hz1
  refine o0_2 hz1 fun hm zr => ?_
  clear hz1
  refine o2_3 zr fun o kvs q1 q2 q3 => ?_
  clear zr
  refine ⟨[(d₁, o)], fun p hp => ?_, fun p hp => ?_, fun h tk own Ft Nt off C => ?_⟩
  ·cases hp with | head => exact q1 | tail _ h => cases h
  ·cases hp with | head => exact (N₃ _ (.head _)).2.2 | tail _ h => cases h
  rw [loc2 hm] at Ft
  rw [Int.zero_add] at Ft
  replace Ft := frD Ft
  dsimp only [List.cons_append, List.nil_append] at Nt
  dsimp only [adrs, List.map_cons, List.map_nil] at off
  obtain ⟨x, hx⟩ : ∃ x, xs[i]? = some x := ⟨_, List.getElem?_eq_getElem hi⟩
  refine o1_1 (hz.get i x hx) fun tx hv => ?_
  have hkl : kvs.length ≤ 1000 := by have := q3.2; simp at this; omega
  (try fold_depth)
  rename Fr _ _ _ _ => Ft
  rename News _ _ _ _ => Nt
  k_steps
  all_goals unfold Stop
  ·have hm' : (valueAt kvs x).isSome = true := by assumption
   intro H' _ hN
   refine ⟨fun z h1 h2 => by k_extra "fm", o, kvs, hN _ (.head _) (dict_cls q2 (by decide)), q2, ?_⟩
   rw [take_snoc hx]; exact q3.old hm'
  ·have hm' : (valueAt kvs x).isSome = false := by assumption
   rename (Obj.IsDictOf _ _ (stored _ _ _)) => d₂
   intro H' _ hN
   refine ⟨fun z h1 h2 => by k_extra "fm", _, _, hN _ (.head _) (dict_cls d₂ (by decide)), d₂, ?_⟩
   rw [take_snoc hx]
   have e := q3.new (t := t) hm'
   rw [List.length_take, Nat.min_eq_left (Nat.le_of_lt hi)] at e
   exact e
  ·have hm' : (x != "") = false := by assumption
   exact absurd (bne_eq_false_iff_eq.mp hm') (hne x (List.mem_of_getElem? hx))
 case done =>
  intro m H hz1
  refine o0_2 hz1 fun hm zr => ?_
  clear hz1
  refine o2_3 zr fun o kvs q1 q2 q3 => ?_
  clear zr
  refine ⟨[(d₁, o)], fun p hp => ?_, fun p hp => ?_, fun h tk own Ft Nt off C => ?_⟩
  ·cases hp with | head => exact q1 | tail _ h => cases h
  ·cases hp with | head => exact (N₃ _ (.head _)).2.2 | tail _ h => cases h
  rw [loc2 hm] at Ft
  dsimp only [List.cons_append, List.nil_append] at Nt
  dsimp only [adrs, List.map_cons, List.map_nil] at off
  (try fold_depth)
  rename Fr _ _ _ _ => Ft
  rename News _ _ _ _ => Nt
  k_steps
  rw [List.take_length] at q3
  exact ⟨d₁, o, kvs, rfl, lo₁, fresh_of Sg N₃ (.head _), News.get Nt (.head _), q2, q3⟩
end
end
local macro_rules |`(tactic|walk_at "")=>`(tactic|skip)
variable (F : Fr h₀ L s.heap m) (N : News h₀ L s.heap news) (X : (K0 w.params).In h₀) (T : TopRead p loose mg mb h₀)
abbrev wc (w : World) (d u : Nat) (f : Addr) (l : List Value) (Q E : Value → Shared → Prop) (s : Shared) : Prop := wpAny (model thePr w) (AA d u) (call (.ref f) l) Q E s
section
local macro_rules | `(tactic| walk_at $s:str) => hk ["gB7", "c1", "c0"] s
noncomputable def hits (xs : List Str) (y : Str) : List Nat := (xs.zipIdx.filter fun p => Txt.startswith p.1 y).map (·.2)
theorem hits_snoc (xs : List Str) (x y : Str) : hits (xs ++ [x]) y = hits xs y ++ if Txt.startswith x y then [xs.length] else [] := by
 k_extra "x224"
 congr 1
 cases h : Txt.startswith x y <;> simp [h]
theorem hits_pre (xs zs : List Str) (y : Str) : ∃ l, hits (xs ++ zs) y = hits xs y ++ l := by
 k_extra "x224"
 exact ⟨_, rfl⟩
noncomputable def partR (xs : List Str) (y : Str) : Int := match fst xs y with
 | some k => k
 | none => match hits xs y with
  | [j] => j
  | _ => -1
def Found (l : List Nat) (f : Int) : Prop := (l = [] ∧ f = -1) ∨ ∃ j : Nat, l = [j] ∧ f = j
theorem partR_of (h : fst xs y = none) (k : Found (hits xs y) f) : partR xs y = f := by
 unfold partR
 rw [h]
 rcases k with ⟨e, rfl⟩ | ⟨j, e, rfl⟩ <;> simp [e]
theorem found_old {x : Str} (hx : xs[i]? = some x) (k : Found (hits (xs.take i) y) f) (hp : Txt.startswith x y = false) : Found (hits (xs.take (i + 1)) y) f := by
 rw [take_snoc hx, hits_snoc, hp]; simpa using k
theorem found_new {x : Str} (hx : xs[i]? = some x) (hi : i < xs.length) (k : Found (hits (xs.take i) y) f) (h0 : ¬ 0 ≤ f) (hp : Txt.startswith x y = true) : Found (hits (xs.take (i + 1)) y) (i : Int) := by
 rw [take_snoc hx, hits_snoc, hp, if_pos rfl, List.length_take, Nat.min_eq_left (Nat.le_of_lt hi)]
 rcases k with ⟨e, rfl⟩ | ⟨j, e, rfl⟩
 ·exact .inr ⟨i, by simp [e], rfl⟩
 ·exact absurd (Int.natCast_nonneg j) h0
theorem partR_two {x : Str} (h : fst xs y = none) (hx : xs[i]? = some x) (k : Found (hits (xs.take i) y) f) (h0 : 0 ≤ f) (hp : Txt.startswith x y = true) : partR xs y = -1 := by
 rcases k with ⟨e, rfl⟩ | ⟨j, e, rfl⟩
 ·omega
 ·have e1 : hits (xs.take (i + 1)) y = [j, (xs.take i).length] := by rw [take_snoc hx, hits_snoc, hp, e]; rfl
  refine o1_1 (hits_pre (xs.take (i + 1)) (xs.drop (i + 1)) y) fun l hl => ?_
  rw [List.take_append_drop, e1] at hl
  unfold partR
  rw [h, hl]
  rfl
theorem TabR.hit {xs kvs} (h : TabR xs kvs) (e : (valueAt kvs y).isSome = true) : ∃ (k : Nat) (t : Tok), fst xs y = some k ∧ valueAt kvs y = some (.int (k : Int) t) := by
 have := h.1 y
 cases q : fst xs y with
 | none => rw [q] at this; have this : valueAt kvs y = none := this; rw [this] at e; cases e
 | some k => rw [q] at this; refine o1_1 this fun t ht => ?_; clear this; exact ⟨k, t, rfl, ht⟩
theorem TabR.miss {xs kvs} (h : TabR xs kvs) (e : (valueAt kvs y).isSome = false) : fst xs y = none := by
 cases q : fst xs y with
 | none => rfl
 | some k => refine o1_1 (h.at_ q) fun t ht => ?_; rw [ht] at e; cases e
section
variable {r : Heap}
include F N X T in
theorem use_first (rm : Rm 1 d u) (hl : s.heap.IsList l vs.toArray) (hz : Strs vs xs) (hlen : xs.length ≤ 1000) (hne : ∀ x ∈ xs, x ≠ "") (k : ∀ a o kvs h' tk, Fr h₀ L h' m → let nw := (a, o) :: news; News h₀ L h' nw → (a == sysModules) = false → o.IsDictOf (strKind thePr w) kvs → TabR xs kvs → Q (.ref a) { s with heap := h', toks := tk }) :
  wc w d u 929 [.ref l] Q E s :=
 use_pure rm F N (first_places_some X T F.keep hl hz hlen hne) fun v h' tk F' N' _ ⟨a, o, kvs, e, lo, hn, hg, hd, ht⟩ => by
  subst e; exact k a o kvs h' tk F' (news_new F N' hn hg) lo hd ht
end
theorem lines_1 : True := by
 k_with "L52" => (k_extra "x43"; (case l => is_list); (case z | len | ne => assumption); k_extra "x55")
 k_with "gB7call ref" => k_extra "L52"
 trivial
section
variable {r : Heap}
theorem partial_some (X : (K0 w.params).In r) (T : TopRead p loose mg mb r) (st : r.StaysIn s.heap) (hl : s.heap.IsList l vs.toArray) (hz : Strs vs xs) (hlen : xs.length ≤ 1000) (hne : ∀ x ∈ xs, x ≠ "") (hy : y ≠ "") :
  Does w 2 (.ref 936) ⟨[.str y ty, .ref l], []⟩ (adrs []) s fun rv h' => ∃ t, rv = .int (partR xs y) t := by
 w_on
 refine' does_def (mt := []) (binds := [("item", Value.str y ty), ("names", Value.ref l)]) X T st ?hm ?hr ?ho ?hcd ?hbind ?hloc ?_ ?hco ?hgen ?hk ?hcell ?hl
 k_extra "x164"
 k_extra "x225"
 ·rename TabR _ _ => ht
  rename (valueAt _ _).isSome = true => he
  refine o2_2 (ht.hit he) fun k t hf hv => ?_
  k_steps
  exact ⟨t, by unfold partR; rw [hf]⟩
 ·rename (_ == _) = true => he
  exact absurd (beq_iff_eq.mp he) hy
 rename TabR _ _ => ht
 rename (valueAt _ _).isSome = false => he
 have hf := ht.miss he
 clear he
 k_extra "x156"
 k_extra "x249"
 refine iter_range_h (L := L') (n := xs.length) (J := fun m₀ i m H => ∃ f t, (∀ z, z ≠ Str.ofString "i" → z ≠ Str.ofString "found" → m z = m₀ z) ∧
  m "found" = some (.int f t) ∧ Found (hits (xs.take i) y) f) rfl rfl R₃ (small_one (by omega) (by omega) (by omega) (by omega)) (by rw [rangeSize_nat]; omega) F₃ N₃ ?mono ?h0 ?turn ?done
 case mono => exact fun _ _ _ _ h _ => h
 case h0 => intro H _ hN; exact ⟨-1, _, fun _ _ _ => rfl, if_pos rfl, .inl ⟨rfl, rfl⟩⟩
 case turn =>
  intro i t m H hi hz1
  refine o2_3 hz1 fun f tf hm hf' hh => ?_
  clear hz1
  refine ⟨[], fun p hp => (nomatch hp), fun p hp => (nomatch hp), fun h tk own Ft Nt off C => ?_⟩
  rw [loc2 hm, hf', Int.zero_add] at Ft
  dsimp only [List.nil_append] at Nt
  obtain ⟨x, hx⟩ : ∃ x, xs[i]? = some x := ⟨_, List.getElem?_eq_getElem hi⟩
  refine o1_1 (hz.get i x hx) fun tx hv => ?_
  (try fold_depth)
  rename Fr _ _ _ _ => Ft
  rename News _ _ _ _ => Nt
  k_steps
  all_goals unfold Stop
  ·rename (0 ≤ f) => h0
   rename Txt.startswith _ _ = true => hp
   exact ⟨_, by rw [partR_two hf hx hh h0 hp]⟩
  ·rename (¬ 0 ≤ f) => h0
   rename Txt.startswith _ _ = true => hp
   intro H' _ _
   exact ⟨_, _, fun z h1 h2 => by k_extra "fm", if_pos rfl, found_new hx hi hh h0 hp⟩
  ·rename Txt.startswith _ _ = false => hp
   intro H' _ _
   exact ⟨f, tf, fun z h1 h2 => by k_extra "fm", by simp +zetaDelta [setM, show ¬ Str.ofString "found" = Str.ofString "i" by decide], found_old hx hh hp⟩
 case done =>
  intro m H hz1
  refine o2_3 hz1 fun f tf hm hf' hh => ?_
  clear hz1
  refine ⟨[], fun p hp => (nomatch hp), fun p hp => (nomatch hp), fun h tk own Ft Nt off C => ?_⟩
  rw [loc2 hm, hf'] at Ft
  dsimp only [List.nil_append] at Nt
  (try fold_depth)
  rename Fr _ _ _ _ => Ft
  rename News _ _ _ _ => Nt
  k_steps
  rw [List.take_length] at hh
  exact ⟨_, by rw [partR_of hf hh]⟩
end
end
local macro_rules |`(tactic|walk_at "")=>`(tactic|skip)
section
local macro_rules | `(tactic| walk_at $s:str) => hk ["gB8", "c1", "c0"] s
section
variable {d : Addr} {x : Str} {v : Value}
theorem d_get1v (D : s.heap.DictOf (strKind thePr w) d kvs) (lo : (d == sysModules) = false) (e : (valueAt kvs x).getD .none = v) (h : Q v { s with toks := s.toks + 1 }) :
  wpAny (model thePr w) A (call (.builtin "dict.get") [.ref d, .str x t]) Q E s := d_get1 D lo (by rw [e]; exact h)
theorem d_get2v (D : s.heap.DictOf (strKind thePr w) d kvs) (lo : (d == sysModules) = false) (e : (valueAt kvs x).getD dflt = v) (h : Q v { s with toks := s.toks + 1 }) :
  wpAny (model thePr w) A (call (.builtin "dict.get") [.ref d, .str x t, dflt]) Q E s := d_get2 D lo (by rw [e]; exact h)
theorem va_hit {k : Str} {u : Value} {l : List (Str × Value)} : (valueAt ((k, u) :: l) k).getD dflt = u := by rw [va_cons, if_pos rfl]; rfl
theorem va_miss1 {k : Str} {u : Value} (h : ¬ k = y) : (valueAt [(k, u)] y).getD dflt = dflt := by rw [va_cons, if_neg h]; rfl
end
section
variable {r : Heap}
theorem names_none {il : Value} (X : (K0 w.params).In r) (T : TopRead p loose mg mb r) (st : r.StaysIn s.heap) (hv : VecAt s.heap x dx (.str "list" tk) il .none) :
  Does w 1 (.ref 410) ⟨[.ref x], []⟩ (adrs []) s fun rv h' => rv = .none := by
 k_extra "x216"
 k_extra "x148"
 k_steps
 all_goals (unfold Stop; trivial)
theorem names_some {il : Value} (X : (K0 w.params).In r) (T : TopRead p loose mg mb r) (st : r.StaysIn s.heap) (hv : VecAt s.heap x dx (.str "list" tk) il (.ref ad)) (lo : (ad == sysModules) = false) (ha : s.heap.get? ad = some o) (hk : o.IsDictOf (strKind thePr w) [("names", .ref nv)]) (hn : VecAt s.heap nv dn (.str "character" tk2) (.ref nl) .none) (hl : s.heap.IsList nl vs.toArray) (hz : vs.length ≤ 1000) :
  Does w 1 (.ref 410) ⟨[.ref x], []⟩ (adrs []) s fun rv h' => ∃ l o, rv = .ref l ∧ s.heap.get? l = none ∧ h'.get? l = some o ∧ h'.IsList l vs.toArray := by
 k_extra "x216"
 refine o2_2 hn fun hs2 sh2 hx2 hd2 => ?_
 clear hn
 k_extra "x148"
 have hx2g := Sg _ _ hx2 nmn
 have hd2g := Sg _ _ hd2 nmn
 have hag := Sg _ _ ha nmn
 have hlg : g.IsList nl vs.toArray := let ⟨o, ho, q⟩ := hl; ⟨o, Sg _ _ ho nmn, q⟩
 k_steps
 rename News _ _ _ [(_, W.listOf _ _)] => Nz
 unfold Stop
 exact ⟨_, _, rfl, fresh_of Sg Nz (.head _), News.get Nz (.head _), Nz.isList (.head _)⟩
end
end
local macro_rules |`(tactic|walk_at "")=>`(tactic|skip)
section
local macro_rules | `(tactic| walk_at $s:str) => hk ["gB9", "c1", "c0"] s
section
variable {r : Heap}
theorem first_none (X : (K0 w.params).In r) (T : TopRead p loose mg mb r) (st : r.StaysIn s.heap) :
  Does w 1 (.ref 929) ⟨[.none], []⟩ (adrs []) s fun rv h' => ∃ d o, rv = .ref d ∧ (d == sysModules) = false ∧ s.heap.get? d = none ∧ h'.get? d = some o ∧ o.IsDictOf (strKind thePr w) [] := by
 w_on
 refine' does_def (mt := []) (binds := [("names", Value.none)]) X T st ?hm ?hr ?ho ?hcd ?hbind ?hloc ?_ ?hco ?hgen ?hk ?hcell ?hl
 k_extra "x85"
 k_extra "x253"
 rename (_ == sysModules) = false => lo₁
 rename Obj.IsDictOf (strKind thePr w) _ [] => d₁
 k_extra "x250"
 exact ⟨_, _, rfl, lo₁, fresh_of Sg Nz (.head _), News.get Nz (.head _), d₁⟩
end
end
local macro_rules |`(tactic|walk_at "")=>`(tactic|skip)
section
local macro_rules | `(tactic| walk_at $s:str) => hk ["gB10", "c0"] s
include F N X T in
theorem use_firstN (rm : Rm 1 d u) (k : ∀ a o h' tk, Fr h₀ L h' m → let nw := (a, o) :: news; News h₀ L h' nw → (a == sysModules) = false → o.IsDictOf (strKind thePr w) [] → Q (.ref a) { s with heap := h', toks := tk }) :
  wc w d u 929 [.none] Q E s :=
 use_pure rm F N (first_none X T F.keep) fun v h' tk F' N' _ ⟨a, o, e, lo, hn, hg, hd⟩ => by
  subst e; exact k a o h' tk F' (news_new F N' hn hg) lo hd
include F N X T in
theorem use_partial (rm : Rm 2 d u) (hl : s.heap.IsList l vs.toArray) (hz : Strs vs xs) (hlen : xs.length ≤ 1000) (hne : ∀ x ∈ xs, x ≠ "") (hy : y ≠ "") (k : ∀ t h' tk, Fr h₀ L h' m → News h₀ L h' news → Q (.int (partR xs y) t) { s with heap := h', toks := tk }) :
  wc w d u 936 [.str y ty, .ref l] Q E s :=
 use_pure rm F N (partial_some X T F.keep hl hz hlen hne hy) fun v h' tk F' N' _ ⟨t, e⟩ => by
  subst e; exact k t h' tk F' N'
end
local macro_rules |`(tactic|walk_at "")=>`(tactic|skip)
section
local macro_rules | `(tactic| walk_at $s:str) => hk ["gB11", "c1", "c0"] s
theorem lines_2 : True := by
 k_with "L53" => (k_here; (with_reducible show wpAny _ _ (call (Value.ref 929) [Value.none]) _ _ _); refine' use_firstN ?F ?N ?X ?T ?rm ?_; k_extra "x82"; k_whole; intro a' o' h' tk' F' nw' N' lo' d'; k_extra "x25")
 k_with "L54" => (k_here; (with_reducible show wpAny _ _ (call (Value.ref 936) [Value.str _ _, Value.ref _]) _ _ _); refine' use_partial ?F ?N ?X ?T ?rm ?l ?z ?len ?ne ?hy ?_; k_extra "x82"; (case l => k_dflt (is_list)); (case z | len | ne | hy => assumption); k_whole; intro t' h' tk' F' N'; k_extra "x25")
 k_with "L55" => (k_extra "x43"; (case l => k_dflt (is_list)); (case z | len | ne => assumption); k_extra "x55")
 k_with "gB11call ref" => first | k_extra "L55" | k_extra "L54" | k_extra "L53"
 trivial
section
variable {r : Heap}
theorem partial_none (X : (K0 w.params).In r) (T : TopRead p loose mg mb r) (st : r.StaysIn s.heap) :
  Does w 2 (.ref 936) ⟨[.str y ty, .none], []⟩ (adrs []) s fun rv h' => ∃ t, rv = .int (-1) t := by
 w_on
 refine' does_def (mt := []) (binds := [("item", Value.str y ty), ("names", Value.none)]) X T st ?hm ?hr ?ho ?hcd ?hbind ?hloc ?_ ?hco ?hgen ?hk ?hcell ?hl
 k_extra "x85"
 k_extra "x225"
 all_goals (first | (rename (valueAt _ _).isSome = true => he; exact absurd he (by simp [va_nil])) | (unfold Stop; exact ⟨_, rfl⟩))
end
end
local macro_rules |`(tactic|walk_at "")=>`(tactic|skip)
section
local macro_rules | `(tactic| walk_at $s:str) => hk ["gB12", "c0"] s
inductive NamesV (h : Heap) : Value → List Str → Prop
 | none : NamesV h .none []
 | some {l : Addr} {vs : List Value} {xs : List Str} : h.IsList l vs.toArray → Strs vs xs → xs.length ≤ 1000 → (∀ x ∈ xs, x ≠ "") → NamesV h (.ref l) xs
theorem IsList.mono {vs : Array Value} (H : h.IsList l vs) (k : h.StaysIn h') : h'.IsList l vs := let ⟨o, ho, q⟩ := H; ⟨o, k _ _ ho, q⟩
theorem NamesV.mono {v : Value} (H : NamesV h v xs) (k : h.StaysIn h') : NamesV h' v xs := by
 cases H with
 | none => exact .none
 | some a b c d => exact .some (IsList.mono a k) b c d
noncomputable def exactR (xs : List Str) (y : Str) : Int := match fst xs y with
 | some k => k
 | none => -1
theorem TabR.getD {xs kvs} (h : TabR xs kvs) (y : Str) (tk : Tok) : ∃ t, (valueAt kvs y).getD (.int (-1) tk) = .int (exactR xs y) t := by
 unfold exactR
 cases q : fst xs y with
 | some k => refine o1_1 (h.at_ q) fun t e => ?_; exact ⟨t, by rw [e]; rfl⟩
 | none => exact ⟨tk, by rw [h.off q]; rfl⟩
def placeR (exact : Bool) (xs : List Str) (y : Str) : Int := if exact then exactR xs y else partR xs y
include F N X T in
theorem use_partialN (rm : Rm 2 d u) (k : ∀ t h' tk, Fr h₀ L h' m → News h₀ L h' news → Q (.int (-1) t) { s with heap := h', toks := tk }) :
  wc w d u 936 [.str y ty, .none] Q E s :=
 use_pure rm F N (partial_none X T F.keep) fun v h' tk F' N' _ ⟨t, e⟩ => by
  subst e; exact k t h' tk F' N'
include F N X T in
theorem use_partialA (rm : Rm 2 d u) (hn : NamesV s.heap nmV xs) (hy : y ≠ "") (k : ∀ t h' tk, Fr h₀ L h' m → News h₀ L h' news → Q (.int (partR xs y) t) { s with heap := h', toks := tk }) :
  wc w d u 936 [.str y ty, nmV] Q E s := by
 cases hn with
 | none => exact use_partialN F N X T rm k
 | some a b c e => exact use_partial F N X T rm a b c e hy k
include F N X T in
theorem use_firstA (rm : Rm 1 d u) (hn : NamesV s.heap nmV xs) (k : ∀ a o kvs h' tk, Fr h₀ L h' m → let nw := (a, o) :: news; News h₀ L h' nw → (a == sysModules) = false → o.IsDictOf (strKind thePr w) kvs → TabR xs kvs → Q (.ref a) { s with heap := h', toks := tk }) :
  wc w d u 929 [nmV] Q E s := by
 cases hn with
 | none => exact use_firstN F N X T rm fun a o h' tk F' N' lo hd => k a o [] h' tk F' N' lo hd TabR.nil
 | some a b c e => exact use_first F N X T rm a b c e k
end
section
abbrev cTests (w : World) (A : Around) (ifs : List PySem.Expr) (env : Env) (Q : Bool → Shared → Prop) (E : Value → Shared → Prop) (s : Shared) : Prop :=
 wpAny (model thePr w) A (forIn ifs true fun c r => if r = true then do let ok ← isTrue c env (eval c env); pure (ForInStep.yield ok) else pure (ForInStep.yield r)) Q E s
section
variable {env : Env}
theorem comp_loop {it acc : Value} {R : Result → Shared → Prop} (J : Nat → Shared → Prop) (turn : ∀ n s, J n s → wpAny (model thePr w) A (pyNext it) (fun r s₁ => match r with
   | none => R (.ok .next) s₁
   | some v => wpAny (model thePr w) A (letOwnedTupleGo target it v) (fun _ s₂ => wpAny (model thePr w) A (assign target env v) (fun _ s₃ =>
     cTests w A ifs env (fun ok s₄ => if ok = true then wpAny (model thePr w) A (eval elt env) (fun x s₅ =>
       wpAny (model thePr w) A (call (.builtin "list.append") [acc, x]) (fun _ s₆ => ∃ k, k < n ∧ J k s₆) (notedBy (model thePr w) A env fun e s' => R (.error e) s') s₅) (notedBy (model thePr w) A env fun e s' => R (.error e) s') s₄
      else ∃ k, k < n ∧ J k s₄) (notedBy (model thePr w) A env fun e s' => R (.error e) s') s₃) (notedBy (model thePr w) A env fun e s' => R (.error e) s') s₂)
     (notedBy (model thePr w) A env fun e s' => R (.error e) s') s₁) (notedBy (model thePr w) A env fun e s' => R (.error e) s') s) (n : Nat) (h : J n s) : codeAny (model thePr w) A (.compLoop (.ListComp elt [⟨target, iter, ifs, 0⟩] scope pos) 0 it acc env) R s := by
 refine codeAny_loop rfl J (fun n s hJ => ?_) n h
 show wpAny _ A ((compTurn (.ListComp elt [⟨target, iter, ifs, 0⟩] scope pos) 0 it acc env).onRaise (fun x => do noteFrame x env; theTreesLotGoes x)) _ _ s
 refine wpAny_noted ?_
 rw [compTurn_list]
 refine wpAny_bind (wpAny_standAt (wpAny_bind (wpAny_mono (turn n s hJ) (fun r s₁ h₁ => ?_) fun _ _ e => e)))
 cases r with
 | none => exact wpAny_pure h₁
 | some v =>
  refine wpAny_bind (wpAny_mono h₁ (fun _ s₂ h₂ => wpAny_bind (wpAny_mono h₂ (fun _ s₃ h₃ => wpAny_bind (wpAny_mono h₃ (fun ok s₄ h₄ => ?_) fun _ _ e => e)) fun _ _ e => e)) fun _ _ e => e)
  cases ok with
  | false => exact wpAny_pure ⟨rfl, h₄⟩
  | true => exact wpAny_bind (wpAny_bind (wpAny_mono h₄ (fun x s₅ h₅ => wpAny_bind (wpAny_mono h₅ (fun _ s₆ h₆ => wpAny_pure (wpAny_pure ⟨rfl, h₆⟩)) fun _ _ e => e)) fun _ _ e => e))
def EltEnd (h₀ : Heap) (L : Addr) (m : LocMap) (b₁ : Heap) (keep : List (Addr × Obj)) (bad : List Addr) (J : Heap → Prop) (s₁ s₂ : Shared) : Prop :=
 ∃ h' tk news, s₂ = { s₁ with heap := h', toks := tk } ∧ Fr h₀ L h' m ∧ News h₀ L h' news ∧ (∀ p ∈ keep, p ∈ news) ∧ ∀ H' : Heap, b₁.StaysIn H' → (∀ p ∈ news, p.1 ∉ bad → H'.get? p.1 = some p.2) → J H'
theorem EltEnd.intro {keep : List (Addr × Obj)} {bad : List Addr} {J : Heap → Prop} {tk : Nat} (F : Fr h₀ L h' m) (N : News h₀ L h' news) (hs : ∀ p ∈ keep, p ∈ news) (hJ : ∀ H' : Heap, b₁.StaysIn H' → (∀ p ∈ news, p.1 ∉ bad → H'.get? p.1 = some p.2) → J H') : EltEnd h₀ L m b₁ keep bad J s₁ { s₁ with heap := h', toks := tk } := ⟨h', tk, news, rfl, F, N, hs, hJ⟩
abbrev CompTurn (w : World) (A : Around) (h₀ : Heap) (L : Addr) (m : LocMap) (env : Env) (elt : PySem.Expr) (ifs : List PySem.Expr) (scope : Scope) (cl : List (Str × Addr)) (s₂ : Shared) (n : Nat) (P : Nat → Value → Prop) (Bd : Nat → Value → LocMap → Prop) (J : Nat → List Value → Heap → Prop) : Prop :=
 ∀ i v ys H, i < n → P i v → J i ys H → ∃ mtO : List (Addr × Obj), (∀ p ∈ mtO, H.get? p.1 = some p.2) ∧ (∀ p ∈ mtO, h₀.get? p.1 = none) ∧
  ∀ h tk own I oI C oC D m₂ E', LCg.NsObj oC m₂ → Bd i v m₂ → Fr h₀ L h m → News h₀ L h ((I, oI) :: (C, oC) :: (D, LCg.lst ys) :: (mtO ++ own)) → OwnOff own (I :: C :: D :: adrs mtO) → (@Ne Nat I C ∧ @Ne Nat I D ∧ @Ne Nat C D) → (∀ p ∈ mtO, @Ne Nat p.1 I ∧ @Ne Nat p.1 C ∧ @Ne Nat p.1 D) → Cov (hideAll H (adrs mtO)) h₀ own →
   cTests w A ifs (compEnvC scope cl C env) (fun ok s' => if ok = true then wpAny (model thePr w) A (eval elt (compEnvC scope cl C env)) (fun y s'' => EltEnd h₀ L m (hideAll H (adrs mtO)) ((I, oI) :: (C, oC) :: (D, LCg.lst ys) :: own) [I, C, D] (J (i + 1) (ys ++ [y])) { s₂ with heap := h, toks := tk } s'') E' s'
    else EltEnd h₀ L m (hideAll H (adrs mtO)) ((I, oI) :: (C, oC) :: (D, LCg.lst ys) :: own) [I, C, D] (J (i + 1) ys) { s₂ with heap := h, toks := tk } s') E' { s₂ with heap := h, toks := tk }
abbrev CompBind (w : World) (A : Around) (h₀ : Heap) (env : Env) (target : PySem.Expr) (scope : Scope) (cl : List (Str × Addr)) (I : Addr) (P : Nat → Value → Prop) (St : Nat → Heap → Prop) (Bd : Nat → Value → LocMap → Prop) : Prop :=
 ∀ i v C m' (s : Shared) (Q : Unit → Shared → Prop) (E' : Value → Shared → Prop), P i v → St (i + 1) s.heap → h₀.StaysIn s.heap → h₀.get? C = none → s.heap.Ns C m' →
  (∀ h' tk m₂, h'.Ns C m₂ → Bd i v m₂ → (∀ b o, b ≠ C → s.heap.get? b = some o → h'.get? b = some o) → Q () { s with heap := h', toks := tk }) →
  wpAny (model thePr w) A (letOwnedTupleGo target (.ref I) v) (fun _ s₁ => wpAny (model thePr w) A (assign target (compEnvC scope cl C env) v) Q E' s₁) E' s
theorem comp_block {cl : List (Str × Addr)} {s₂ : Shared} {P : Nat → Value → Prop} (J : Nat → List Value → Heap → Prop) {RR : Value → Addr → Result → Shared → Prop} (W : Walks thePr w A I fp [I] n P St) (hsz : n ≤ sizeLine) (hIo : ∀ i h, St i h → ∃ o, h.get? I = some o) (fpb : ∀ b ∈ fp, b = I ∨ ∃ o, h₀.get? b = some o) (hfp : ∀ b ∈ fp, b < s₂.heap.objs.size) (hIL : L ≠ I) (hI0 : h₀.get? I = none) (hst : St 0 s₂.heap) (F : Fr h₀ L s₂.heap m) (hcell : ∀ y ∈ scope.names, y.2 ≠ .cell) (hkind : scope.kind = .function) (mono : ∀ i ys g g', J i ys g → g.StaysIn g' → J i ys g') (h0 : J 0 [] (hideAll s₂.heap [L, I])) (bind : CompBind w A h₀ env target scope cl I P St Bd) (turn : CompTurn w A h₀ L m env elt ifs scope cl s₂ n P Bd J) (hRR : ∀ D C h tk m' ys, Fr h₀ L h m → h.get? D = some (LCg.lst ys) → h.Ns C m' → h₀.get? C = none → h₀.get? D = none → C ≠ L → D ≠ L → C ≠ D → J n ys (hideAll h [L, I, C, D]) → RR (.ref D) C (.ok .next) { s₂ with heap := h, toks := tk }) :
  wpAny (model thePr w) A (newList []) (fun acc s₃ => wpAny (model thePr w) A (newFunctionEnv scope env.globals cl [] env.qual none .none (some env)) (fun cenv s₄ =>
   codeAny (model thePr w) A (.compStart (.ListComp elt [⟨target, iter, ifs, 0⟩] scope pos) 0 (.ref I) acc { cenv with scope := relabel scope env }) (RR acc cenv.locals) s₄) E s₃) E s₂ := by
 refine wpAny_newObj_type (wpAny_newFunctionEnv hcell (by intro y hy; simp at hy) (fun h₁ hns₁ hsb₁ => ?_) hkind)
 dsimp only at hns₁ hsb₁ ⊢
 generalize hH2 : s₂.heap.push { cls := .type "list", dict := none, data := .seq ([] : List Value).toArray } = H2 at hns₁ hsb₁ ⊢
 have hC : H2.objs.size = s₂.heap.objs.size + 1 := by rw [← hH2, Heap.size_push]
 obtain ⟨C, hCe⟩ : ∃ C, C = H2.objs.size := ⟨_, rfl⟩
 obtain ⟨D, hDe⟩ : ∃ D, D = s₂.heap.objs.size := ⟨_, rfl⟩
 rw [← hCe] at hns₁ hsb₁
 have hCD : C ≠ D := by rw [hCe, hDe, hC]; exact (Nat.ne_of_lt (Nat.lt_succ_self _)).symm
 have below : ∀ b, b < s₂.heap.objs.size → b ≠ C ∧ b ≠ D := fun b hb => ⟨by rw [hCe, hC]; exact Nat.ne_of_lt (Nat.lt_succ_of_lt hb), by rw [hDe]; exact Nat.ne_of_lt hb⟩
 have hIlt : I < s₂.heap.objs.size := hfp I (W.sub I (.head _))
 have old : ∀ b o, s₂.heap.get? b = some o → h₁.get? b = some o := fun b o e => hsb₁.extBut b o (below b (Heap.lt_size e)).1 (Heap.get?_push_of_some _ (hH2 ▸ Heap.get?_push_of_some _ e))
 have hacc : h₁.get? D = some (LCg.lst []) := hsb₁.extBut _ _ (Ne.symm hCD) (by rw [hDe]; exact Heap.get?_push_of_some _ (hH2 ▸ Heap.get?_push_size _ rfl))
 have nn : ∀ a, s₂.heap.objs.size ≤ a → h₀.get? a = none := fun a ha => by
  cases e : h₀.get? a with
  | none => rfl
  | some o => exact absurd (Heap.lt_size (F.keep a o e)) (Nat.not_lt.mpr ha)
 have hD0 : h₀.get? D = none := nn _ (by rw [hDe]; exact Nat.le_refl _)
 have hC0 : h₀.get? C = none := nn _ (by rw [hCe, hC]; exact Nat.le_succ _)
 have hLlt := F.ns.lt
 have hLC := (below L hLlt).1
 have hLD := (below L hLlt).2
 have hIC := (below I hIlt).1
 have hID := (below I hIlt).2
 have hst₁ : St 0 h₁ := W.frame _ _ _ hst fun b _ o e => old b o e
 have hCf : ∀ b ∈ fp, b ≠ C ∧ b ≠ D := fun b hb => below b (hfp b hb)
 -- what is told, off the four
 have tell : ∀ {g g' : Heap} {l : List Addr}, (∀ b o, g.get? b = some o → b ∉ l → b ∉ [L, I, C, D] → g'.get? b = some o) → (∀ a ∈ l, a ∈ [L, I, C, D]) → ∀ i ys, J i ys (hideAll g [L, I, C, D]) → J i ys (hideAll g' [L, I, C, D]) := fun hk hl i ys hJ =>
  mono _ _ _ _ hJ fun b o e => hideAll_get _ (hk b o (hid_of e).1 (fun q => (hid_of e).2 (hl b q)) (hid_of e).2) (hid_of e).2
 have j0 : J 0 [] (hideAll h₁ [L, I, C, D]) := mono _ _ _ _ h0 fun b o e => hideAll_get _ (old b o (hid_of e).1) fun q => by
  have hb := below b (Heap.lt_size (hid_of e).1)
  rcases mc1 q with q | q
  ·exact (hid_of e).2 (q ▸ .head _)
  ·rcases mc1 q with q | q
   ·exact (hid_of e).2 (q ▸ .tail _ (.head _))
   ·rcases mc1 q with q | q
    ·exact hb.1 q
    ·exact hb.2 (ms1 q)
 have loop : ∀ s₃ : Shared, s₃ = { s₂ with heap := h₁, toks := s₂.toks + ([] : List (Str × Value)).length } →
   codeAny (model thePr w) A (.compLoop (.ListComp elt [⟨target, iter, ifs, 0⟩] scope pos) 0 (.ref I) (.ref D) (compEnvC scope cl C env)) (RR (.ref D) C) s₃ := by
  rintro s₃ rfl
  refine comp_loop (fun k s' => ∃ h' tk i ys m', s' = { s₂ with heap := h', toks := tk } ∧ i ≤ n ∧ k = n + 1 - i ∧ ys.length ≤ i ∧ St i h' ∧ Fr h₀ L h' m ∧ h'.Ns C m' ∧ h'.get? D = some (LCg.lst ys) ∧ J i ys (hideAll h' [L, I, C, D])) ?_ (n + 1)
   ⟨h₁, _, 0, [], _, rfl, Nat.zero_le _, rfl, Nat.le_refl _, hst₁, F.keeps old, hns₁, hacc, j0⟩
  intro k s' hz1
  refine o5_9 hz1 fun h' tk i ys m' zq5 hi zq7 hyl hst' F' hn' hD' hJ' => ?_
  clear hz1
  subst zq5
  subst zq7
  by_cases hlt : i < n
  ·refine W.item i _ _ _ hlt hst' fun v h₂ tk₂ hP hst₂ hk₂ => ?_
   have hk₂' : ∀ b o, b ≠ I → h'.get? b = some o → h₂.get? b = some o := fun b o hb e => hk₂ b o (by simpa using hb) e
   have F₂ : Fr h₀ L h₂ m := ⟨F'.ns.at' fun o e => hk₂' L o hIL e, fun b o e => hk₂' b o (fun q => by rw [q, hI0] at e; cases e) (F'.keep b o e), F'.above⟩
   refine bind i v C m' _ _ _ hP hst₂ F₂.keep hC0 (hn'.at' fun o e => hk₂' _ o (Ne.symm hIC) e) fun h₃ tk₃ m₂ hn₃ hB hk₃ => ?_
   have F₃ : Fr h₀ L h₃ m := ⟨F₂.ns.at' fun o e => hk₃ L o hLC e, fun b o e => hk₃ b o (fun q => by rw [q, hC0] at e; cases e) (F₂.keep b o e), F₂.above⟩
   have hD₃ : h₃.get? D = some (LCg.lst ys) := hk₃ _ _ (Ne.symm hCD) (hk₂' _ _ (Ne.symm hID) hD')
   have hst₃ : St (i + 1) h₃ := W.frame _ _ _ hst₂ fun b hb o e => hk₃ b o (hCf b hb).1 e
   have hJ₃ : J i ys (hideAll h₃ [L, I, C, D]) := tell (l := [L, I, C, D]) (fun b o e n _ => hk₃ b o (fun q => n (q ▸ .tail _ (.tail _ (.head _)))) (hk₂' b o (fun q => n (q ▸ .tail _ (.head _))) e)) (fun _ h => h) _ _ hJ'
   refine o1_1 (hIo _ _ hst₃) fun oI heI => ?_
   refine o1_2 (LCg.ns_obj hn₃) fun oC heC hoC => ?_
   refine o1_3 (turn i v ys _ hlt hP hJ₃) fun mtO hm hm0 go => ?_
   have mo : ∀ p ∈ mtO, p.1 ≠ L ∧ p.1 ≠ I ∧ p.1 ≠ C ∧ p.1 ≠ D := fun p hp => by
    have q := (hid_of (hm p hp)).2
    exact ⟨fun e => q (e ▸ .head _), fun e => q (e ▸ .tail _ (.head _)), fun e => q (e ▸ .tail _ (.tail _ (.head _))), fun e => q (e ▸ .tail _ (.tail _ (.tail _ (.head _))))⟩
   have led : ∀ p ∈ ledgerOf h₀ h₃ (L :: I :: C :: D :: adrs mtO), h₃.get? p.1 = some p.2 ∧ p.1 ∉ L :: I :: C :: D :: adrs mtO ∧ h₀.get? p.1 = none := fun p hp => mem_ledger hp
   have N₃ : News h₀ L h₃ ((I, oI) :: (C, oC) :: (D, LCg.lst ys) :: (mtO ++ ledgerOf h₀ h₃ (L :: I :: C :: D :: adrs mtO))) := by
    refine fC.mpr ⟨⟨heI, Ne.symm hIL, hI0⟩, fC.mpr ⟨⟨heC, Ne.symm hLC, hC0⟩, fC.mpr ⟨⟨hD₃, Ne.symm hLD, hD0⟩, fun p hp => ?_⟩⟩⟩
    rcases ma1 hp with hp | hp
    ·exact ⟨(hid_of (hm p hp)).1, (mo p hp).1, hm0 p hp⟩
    ·refine o0_3 (led p hp) fun a b c => ?_
     exact ⟨a, fun e => b (e ▸ .head _), c⟩
   have off : OwnOff (ledgerOf h₀ h₃ (L :: I :: C :: D :: adrs mtO)) (I :: C :: D :: adrs mtO) := fun p hp b hb e => (led p hp).2.1 (.tail _ (e ▸ hb))
   have cov : Cov (hideAll (hideAll h₃ [L, I, C, D]) (adrs mtO)) h₀ (ledgerOf h₀ h₃ (L :: I :: C :: D :: adrs mtO)) := fun b o e => by
    refine o0_2 (hid_of e) fun e1 n1 => ?_
    refine o0_2 (hid_of e1) fun e2 n2 => ?_
    refine cov_ledger F₃.keep b o (hideAll_get _ e2 fun q => ?_)
    rcases mc1 q with q | q
    ·exact n2 (q ▸ .head _)
    ·rcases mc1 q with q | q
     ·exact n2 (q ▸ .tail _ (.head _))
     ·rcases mc1 q with q | q
      ·exact n2 (q ▸ .tail _ (.tail _ (.head _)))
      ·rcases mc1 q with q | q
       ·exact n2 (q ▸ .tail _ (.tail _ (.tail _ (.head _))))
       ·exact n1 q
   -- what an end of a turn gives
   have fin : ∀ {ys' : List Value} {s₄ : Shared}, EltEnd h₀ L m (hideAll (hideAll h₃ [L, I, C, D]) (adrs mtO)) ((I, oI) :: (C, oC) :: (D, LCg.lst ys) :: ledgerOf h₀ h₃ (L :: I :: C :: D :: adrs mtO)) [I, C, D] (J (i + 1) ys') { s₂ with heap := h₃, toks := tk₃ } s₄ →
     ∃ h₄ tk₄, s₄ = { s₂ with heap := h₄, toks := tk₄ } ∧ St (i + 1) h₄ ∧ Fr h₀ L h₄ m ∧ h₄.Ns C m₂ ∧ h₄.get? D = some (LCg.lst ys) ∧ J (i + 1) ys' (hideAll h₄ [L, I, C, D]) := by
    intro ys' s₄ hz1
    refine o3_5 hz1 fun h₄ tk₄ news zq3 F₄ N₄ hs hJ₄ => ?_
    clear hz1
    subst zq3
    have zI := (N₄ _ (hs _ (.head _))).1
    have zC := (N₄ _ (hs _ (.tail _ (.head _)))).1
    have zD := (N₄ _ (hs _ (.tail _ (.tail _ (.head _))))).1
    refine ⟨h₄, tk₄, rfl, W.frame _ _ _ hst₃ fun b hb o e => ?_, F₄, hoC.ns zC, zD, hJ₄ _ (fun b o e => ?_) fun p hp nb => ?_⟩
    ·rcases fpb b hb with rfl | ⟨o', e'⟩
     ·rw [heI] at e; cases e; exact zI
     ·have := F₃.keep _ _ e'; rw [e] at this; cases this; exact F₄.keep _ _ e'
    ·have n2 := (hid_of (hid_of e).1).2
     refine hideAll_get _ ?_ n2
     rcases cov b o e with e' | e'
     ·exact F₄.keep _ _ e'
     ·exact (N₄ _ (hs _ (.tail _ (.tail _ (.tail _ e'))))).1
    ·refine hideAll_get _ (N₄ p hp).1 fun q => ?_
     rcases mc1 q with q | q
     ·exact (N₄ p hp).2.1 q
     ·exact nb q
   refine wpAny_mono (go h₃ tk₃ _ I oI C oC D m₂ _ hoC hB F₃ N₃ off ⟨hIC, hID, hCD⟩ (fun p hp => (mo p hp).2) cov) (fun ok s₄ h₄ => ?_) fun _ _ e => e
   cases ok with
   | false =>
    simp only [Bool.false_eq_true, if_false] at h₄ ⊢
    refine o2_6 (fin h₄) fun h₆ tk₄ zq2 a b c d e => ?_
    subst zq2
    exact ⟨n + 1 - (i + 1), by omega, h₆, tk₄, i + 1, ys, m₂, rfl, hlt, rfl, Nat.le_succ_of_le hyl, a, b, c, d, e⟩
   | true =>
    simp only [if_true] at h₄ ⊢
    refine wpAny_mono h₄ (fun y s₅ h₅ => ?_) fun _ _ e => e
    refine o2_6 (fin h₅) fun h₄ tk₄ zq2 a b c d e => ?_
    subst zq2
    refine append_at (hsz := by show ys.toArray.size ≤ sizeLine; rw [List.size_toArray]; exact Nat.le_trans hyl (Nat.le_trans hi hsz)) d fun h₅ hs₅ hD₅ => ?_
    refine ⟨n + 1 - (i + 1), by omega, h₅, tk₄, i + 1, ys ++ [y], m₂, rfl, hlt, rfl, by rw [List.length_append, List.length_singleton]; omega, W.frame _ _ _ a fun b hb o e => hs₅.extBut b o (hCf b hb).2 e, b.change hs₅ (Ne.symm hLD) hD0, c.sameBut hs₅ hCD, hD₅.trans (congrArg some (LCg.lst_snoc ys y)), ?_⟩
    exact tell (l := [D]) (fun b o e n _ => hs₅.extBut b o (fun q => n (q ▸ .head _)) e) (fun a q => by rw [ms1 q]; exact .tail _ (.tail _ (.tail _ (.head _)))) _ _ e
  ·obtain rfl : i = n := Nat.le_antisymm hi (Nat.not_lt.mp hlt)
   refine W.done _ _ _ hst' fun h₂ tk₂ hk₂ => ?_
   have hk₂' : ∀ b o, b ≠ I → h'.get? b = some o → h₂.get? b = some o := fun b o hb e => hk₂ b o (by simpa using hb) e
   exact hRR D C h₂ tk₂ m' ys ⟨F'.ns.at' fun o e => hk₂' L o hIL e, fun b o e => hk₂' b o (fun q => by rw [q, hI0] at e; cases e) (F'.keep b o e), F'.above⟩ (hk₂' _ _ (Ne.symm hID) hD') (hn'.at' fun o e => hk₂' _ o (Ne.symm hIC) e) hC0 hD0 (Ne.symm hLC) (Ne.symm hLD) hCD
    (tell (l := [I]) (fun b o e n _ => hk₂' b o (fun q => n (q ▸ .head _)) e) (fun a q => by rw [ms1 q]; exact .tail _ (.head _)) _ _ hJ')
 have lp := loop _ rfl
 rw [hDe, hCe] at lp
 exact codeAny_compStart_list lp (W.self 0 _ _ _ hst₁ lp)
end
end
section
def CompAt (w : World) (A : Around) (h₀ : Heap) (L : Addr) (m : LocMap) (mo : Addr → LocMap) (env : Env) (elt target : PySem.Expr) (ifs : List PySem.Expr) (scope : Scope) (cl : List (Str × Addr)) (QQ : Addr → Shared → Prop) (it : Value) (s₂ : Shared) : Prop :=
 ∀ Cc : Prop, (∀ (I : Addr) (fp : List Addr) (n : Nat) (P : Nat → Value → Prop) (St : Nat → Heap → Prop) (Bd : Nat → Value → LocMap → Prop) (J : Nat → List Value → Heap → Prop), it = .ref I → Walks thePr w A I fp [I] n P St → n ≤ sizeLine → (∀ i h, St i h → ∃ o, h.get? I = some o) → (∀ b ∈ fp, b = I ∨ ∃ o, h₀.get? b = some o) → (∀ b ∈ fp, b < s₂.heap.objs.size) → L ≠ I → h₀.get? I = none → St 0 s₂.heap → Fr h₀ L s₂.heap m → (∀ i ys g g', J i ys g → g.StaysIn g' → J i ys g') → J 0 [] (hideAll s₂.heap [L, I]) → CompBind w A h₀ env target scope cl I P St Bd → CompTurn w A h₀ L m env elt ifs scope cl s₂ n P Bd J → (∀ D h tk ys, Fr h₀ L h (mo D) → h.get? D = some (LCg.lst ys) → h₀.get? D = none → D ≠ L → J n ys (hideAll h [L, D]) → QQ D { s₂ with heap := h, toks := tk }) → Cc) → Cc
section
variable {env : Env}
theorem four_two (k : ∀ b o, b ≠ C → b ≠ L → h.get? b = some o → h'.get? b = some o) : (hideAll h [L, I, C, D]).StaysIn (hideAll h' [L, D]) := fun b o e => by
 refine o0_2 (hid_of e) fun e1 n => ?_
 refine hideAll_get _ (k b o (fun q => n (q ▸ .tail _ (.tail _ (.head _)))) (fun q => n (q ▸ .head _)) e1) fun q => ?_
 rcases mc1 q with q | q
 ·exact n (q ▸ .head _)
 ·exact n (ms1 q ▸ .tail _ (.tail _ (.tail _ (.head _))))
theorem comp_E {cl : List (Str × Addr)} (_F : Fr h₀ L s.heap m) (hclos : closureFor scope env = pure cl) (hcell : ∀ y ∈ scope.names, y.2 ≠ .cell) (hkind : scope.kind = .function) (hnames : ∀ y ∈ scope.names, y.2 = .local → scope.names.lookup y.1 = some .local) (h : wpAny (model thePr w) A (eval iter env) (fun xv s₁ => wpAny (model thePr w) A (pyIter xv) (fun it s₂ => CompAt w A h₀ L m (fun _ => m) env elt target ifs scope cl (fun D s' => Q (.ref D) s') it s₂) E s₁) E s) (hs : ∀ x, foldedSetIterable iter env x = pure x := by intro _; rfl) :
  wpAny (model thePr w) A (eval (.ListComp elt [⟨target, iter, ifs, 0⟩] scope pos) env) Q E s := by
 rw [eval_ListComp]
 refine wpAny_comprehension_free (use := none) rfl hs hclos hkind hnames (wpAny_mono h (fun xv s₁ h₁ => wpAny_mono h₁ (fun it s₂ h₂ => ?_) fun _ _ e => e) fun _ _ e => e)
 k_extra "x191"
 refine comp_block (RR := fun acc C r s' => compPost (model thePr w) A E none Q acc C r s') J W hsz hIo fpb hfp hIL hI0 hst F hcell hkind mono h0 bind turn fun D C h tk m' ys F' hD hn hC0 hD0 hCL hDL hCD hJ => ?_
 exact ⟨m', hn, fun h'' hs'' => done D h'' tk ys (F'.change hs'' hCL hC0) (hs''.extBut _ _ (Ne.symm hCD) hD) hD0 hDL (mono _ _ _ _ hJ (four_two fun b o hb _ e => hs''.extBut b o hb e))⟩
theorem comp_A {cl : List (Str × Addr)} {spos : Pos} {Q : Flow → Shared → Prop} (_F : Fr h₀ L s.heap m) (hLe : env.locals = L) (hsw : swapsWith (.ListComp elt [⟨target, iter, ifs, 0⟩] scope pos) (some (.Name y py)) spos.line env = pure true) (hclos : closureFor scope env = pure cl) (hcell : ∀ y ∈ scope.names, y.2 ≠ .cell) (hkind : scope.kind = .function) (hnames : ∀ y ∈ scope.names, y.2 = .local → scope.names.lookup y.1 = some .local) (hy : env.kindOf y = some .local) (hp : (env.scope.kind == .class || (env.scope.kind == .module && env.locals != env.globals)) = false) (h : wpAny (model thePr w) A (eval iter env) (fun xv s₁ => wpAny (model thePr w) A (pyIter xv) (fun it s₂ => CompAt w A h₀ L m (fun D z => if z = y then some (.ref D) else m z) env elt target ifs scope cl (fun _ s' => Q .next s') it s₂) E s₁) E s) (hs : ∀ x, foldedSetIterable iter env x = pure x := by intro _; rfl) :
  wpAny (model thePr w) A (exec (.Assign [.Name y py] (.ListComp elt [⟨target, iter, ifs, 0⟩] scope pos) spos) env) Q E s := by
 subst hLe
 rw [exec_Assign_Name_used _ _ _ _ hsw]
 refine wpAny_bind (wpAny_standAt (wpAny_bind ?_))
 show wpAny _ A (do let _ ← comprehension (.ListComp elt [⟨target, iter, ifs, 0⟩] scope pos) scope env _ (newList []) false (eval iter env) (some (assign (.Name y py) env))) _ _ s
 refine wpAny_bind (wpAny_mono (wpAny_comprehension_free (use := some (assign (.Name y py) env)) (Q := fun _ s' => Q .next s') rfl hs hclos hkind hnames (wpAny_mono h (fun xv s₁ h₁ => wpAny_mono h₁ (fun it s₂ h₂ => ?_) fun _ _ e => e) fun _ _ e => e)) (fun _ s' hq => wpAny_pure (wpAny_pure hq)) fun _ _ e => e)
 k_extra "x191"
 refine comp_block (RR := fun acc C r s' => compPost (model thePr w) A E (some (assign (.Name y py) env)) (fun _ s' => Q .next s') acc C r s') J W hsz hIo fpb hfp hIL hI0 hst F hcell hkind mono h0 bind turn fun D C h tk m' ys F' hD hn hC0 hD0 hCL hDL hCD hJ => ?_
 show wpAny _ A (assign (.Name y py) env (.ref D)) _ _ _
 refine wpAny_assign_Name (wpAny_storeName_local hy F'.ns (fun h₂ hn₂ hs₂ => ?_) hp)
 have hL₀ : h₀.get? env.locals = none := Heap.get?_none_of_le F'.above
 have F₂ : Fr h₀ env.locals h₂ (fun z => if z = y then some (.ref D) else m z) := ⟨hn₂, fun b o e => hs₂.extBut b o (fun q => by rw [q, hL₀] at e; cases e) (F'.keep b o e), F'.above⟩
 exact ⟨m', hn.sameBut hs₂ hCL, fun h'' hs'' => done D h'' _ ys (F₂.change hs'' hCL hC0) (hs''.extBut _ _ (Ne.symm hCD) (hs₂.extBut _ _ hDL hD)) hD0 hDL (mono _ _ _ _ hJ (four_two fun b o hb hb2 e => hs''.extBut b o hb (hs₂.extBut b o hb2 e)))⟩
theorem bind_name {x : Str} {cl : List (Str × Addr)} {P : Nat → Value → Prop} (hx : scope.names.lookup x = some .local) (hkind : scope.kind = .function) :
  CompBind w A h₀ env (.Name x px) scope cl I P St (fun _ v m₂ => m₂ x = some v) := fun i v C m' s Q E' _ _ _ _ hn k => by
 refine wpAny_of_eq (show letOwnedTupleGo (.Name x px) (.ref I) v = pure () from rfl) ?_
 exact wpAny_assign_Name (wpAny_storeName_local (lookup_relabel_local hx) hn (fun h₃ hn₃ hs₃ => k h₃ _ _ hn₃ (by simp) fun b o hb e => hs₃.extBut b o hb e) (by simp [compEnvC, relabel, hkind]))
theorem bind_pair {x : Str} {tp : Pos} {tk} {cl : List (Str × Addr)} {P : Nat → Value → Prop} {R : Nat → Value → Value → Prop} (hh : A.handled = none) (hx : scope.names.lookup x = some .local) (hy : scope.names.lookup y = some .local) (hxy : x ≠ y) (hkind : scope.kind = .function) (hP : ∀ i v, P i v → ∃ t v1 v2, v = .ref t ∧ IsTup h₀ t #[v1, v2] ∧ R i v1 v2) (hit : ∀ i h, St i h → ∃ l j, h.IsListIter I l j) :
  CompBind w A h₀ env (.Tuple [.Name x px, .Name y py] tk tp) scope cl I P St (fun i _ m₂ => ∃ v1 v2, R i v1 v2 ∧ m₂ x = some v1 ∧ m₂ y = some v2) := fun i v C m' s Q E' p st k0 hC0 hn k => by
 refine o3_3 (hP i v p) fun t v1 v2 zq3 ht hR => ?_
 subst zq3
 refine o2_1 (hit _ _ st) fun l j hl => ?_
 refine wpAny_letOwnedTupleGo_listiter hl ?_
 refine assign_Tuple_tuple hh (ht.keeps k0) rfl rfl fun h₅ he => ?_
 have he' : ∀ b o, s.heap.get? b = some o → h₅.get? b = some o := fun b o e => he b o (Nat.ne_of_lt (Heap.lt_size e)) e
 refine assignInOrder_cons (wpAny_assign_Name (wpAny_storeName_local (lookup_relabel_local hx) (hn.at' fun o e => he' _ o e) (fun h₆ hn₆ hs₆ => ?_) (by simp [compEnvC, relabel, hkind])))
 refine assignInOrder_cons (wpAny_assign_Name (wpAny_storeName_local (lookup_relabel_local hy) hn₆ (fun h₃ hn₃ hs₃ => ?_) (by simp [compEnvC, relabel, hkind])))
 exact assignInOrder_nil (k h₃ _ _ hn₃ ⟨v1, v2, hR, by simp [hxy], by simp⟩ fun b o hb e => hs₃.extBut b o hb (hs₆.extBut b o hb (he' b o e)))
theorem comp_list_h {cl : List (Str × Addr)} (J : Nat → List Value → Heap → Prop) (hh : A.handled = none) (hl : h₀.IsList l items.toArray) (hz : items.length ≤ 1000) (F : Fr h₀ L s.heap m) (N : News h₀ L s.heap news) (mono : ∀ i ys g g', J i ys g → g.StaysIn g' → J i ys g') (h0 : ∀ H : Heap, h₀.StaysIn H → (∀ p ∈ news, H.get? p.1 = some p.2) → J 0 [] H) (bind : ∀ I, CompBind w A h₀ env target scope cl I (fun i v => items[i]? = some v) (fun i h => h.IsListIter I l i ∧ h.IsList l items.toArray) Bd) (turn : CompTurn w A h₀ L m env elt ifs scope cl s items.length (fun i v => items[i]? = some v) Bd J) (done : ∀ ys H, J items.length ys H → ∃ mtO : List (Addr × Obj), (∀ p ∈ mtO, H.get? p.1 = some p.2) ∧ (∀ p ∈ mtO, h₀.get? p.1 = none) ∧
   ∀ D h tk own, Fr h₀ L h (mo D) → News h₀ L h ((D, LCg.lst ys) :: (mtO ++ own)) → OwnOff own (D :: adrs mtO) → (∀ p ∈ mtO, @Ne Nat p.1 D) → Cov (hideAll H (adrs mtO)) h₀ own → QQ D { s with heap := h, toks := tk }) :
  wpAny (model thePr w) A (pyIter (.ref l)) (fun it s₂ => CompAt w A h₀ L m mo env elt target ifs scope cl QQ it s₂) E s := by
 have hls : s.heap.IsList l items.toArray := IsList.mono hl F.keep
 have hlt : l < s.heap.objs.size := let ⟨_, e, _⟩ := hls; Heap.lt_size e
 refine wpAny_pyIter_list hls ?_
 have W := Walks.list (prog := thePr) (w := w) hh s.heap.objs.size l (Nat.ne_of_lt hlt) items.toArray
 k_extra "x145"
 rw [hsz] at W
 refine fun _ k => k s.heap.objs.size [s.heap.objs.size, l] items.length (fun i v => items[i]? = some v) _ Bd J rfl { sub := W.sub, frame := W.frame, item := fun i s Q E hi st hQ => W.item i s Q E hi st fun v h' tk hP => hQ v h' tk (by simpa using hP), done := W.done, self := W.self } (by rw [sizeLine_eq]; omega) (fun i h st => by refine o0_2 st fun zq0 _ => ?_; clear st; refine o1_2 zq0 fun o e _ => ?_; clear zq0; exact ⟨o, e⟩) (fun b hb => ?_) (fun b hb => ?_) (Nat.ne_of_lt F.ns.lt) (next_is_new F) ⟨⟨_, Heap.get?_push_size _ rfl, rfl, rfl⟩, hls.push _⟩ (F.push _) mono (h0 _ ex.1 ex.2) (bind _) turn ?_
 ·rcases mc1 hb with q | q
  ·exact .inl q
  ·refine o1_2 hl fun o e _ => ?_
   clear hl
   exact .inr ⟨o, (ms1 q) ▸ e⟩
 ·show b < (s.heap.push _).objs.size
  rw [Heap.size_push]
  rcases mc1 hb with q | q
  ·rw [q]; exact Nat.lt_succ_self _
  ·rw [ms1 q]; exact Nat.lt_succ_of_lt hlt
 k_extra "x91"
theorem comp_range_h {r : Addr} {b₀ : Int} {cl : List (Str × Addr)} (J : Nat → List Value → Heap → Prop) (hh : A.handled = none) (hr : IsRange s.heap r 0 b₀ 1 t₀ u₀ v₀) (hsmall : Builtin.Range.small 0 b₀ 1 = true) (hn : Builtin.Range.rangeSize 0 b₀ 1 = (n : Int)) (hz : n ≤ 1000) (F : Fr h₀ L s.heap m) (N : News h₀ L s.heap news) (mono : ∀ i ys g g', J i ys g → g.StaysIn g' → J i ys g') (h0 : ∀ H : Heap, h₀.StaysIn H → (∀ p ∈ news, H.get? p.1 = some p.2) → J 0 [] H) (bind : ∀ I, CompBind w A h₀ env target scope cl I (fun i v => ∃ t, v = .int (i : Int) t) (fun i h => IsRangeIter h I (0 + (i : Nat) * 1) ((n : Int) - (i : Nat)) 1) Bd) (turn : CompTurn w A h₀ L m env elt ifs scope cl s n (fun i v => ∃ t, v = .int (i : Int) t) Bd J) (done : ∀ ys H, J n ys H → ∃ mtO : List (Addr × Obj), (∀ p ∈ mtO, H.get? p.1 = some p.2) ∧ (∀ p ∈ mtO, h₀.get? p.1 = none) ∧
   ∀ D h tk own, Fr h₀ L h (mo D) → News h₀ L h ((D, LCg.lst ys) :: (mtO ++ own)) → OwnOff own (D :: adrs mtO) → (∀ p ∈ mtO, @Ne Nat p.1 D) → Cov (hideAll H (adrs mtO)) h₀ own → QQ D { s with heap := h, toks := tk }) :
  wpAny (model thePr w) A (pyIter (.ref r)) (fun it s₂ => CompAt w A h₀ L m mo env elt target ifs scope cl QQ it s₂) E s := by
 refine wpAny_pyIter_range hr hsmall ?_
 have W := LCg.range_walks (prog := thePr) (w := w) (I := s.heap.objs.size) hh 0 n
 have ex := fresh_hide (h' := s.heap.push { cls := .type "range_iterator", data := .fields #[rawInt 0, rawInt (Builtin.Range.rangeSize 0 b₀ 1), rawInt 1] }) F N rfl (fun b o e => Heap.get?_push_of_some _ e)
 refine fun _ k => k s.heap.objs.size [s.heap.objs.size] n (fun i v => ∃ t, v = .int (i : Int) t) _ Bd J rfl { sub := W.sub, frame := W.frame, item := fun i s Q E hi st hQ => W.item i s Q E hi st fun v h' tk hP => hQ v h' tk (by simpa using hP), done := W.done, self := W.self } (by rw [sizeLine_eq]; omega) (fun i h st => ⟨_, st⟩) (fun b hb => .inl (ms1 hb)) (fun b hb => ?_) (Nat.ne_of_lt F.ns.lt) (next_is_new F) ?_ (F.push _) mono (h0 _ ex.1 ex.2) (bind _) turn ?_
 ·show b < (s.heap.push _).objs.size
  rw [Heap.size_push, ms1 hb]; exact Nat.lt_succ_self _
 k_extra "x167"
 k_extra "x91"
end
end
section
theorem does_def_c {l : Nat} {r : Heap} {od : Option Addr} {f : Addr} {args : Args} (X : K.In r) (T : TopRead p loose mg mb r) (st : r.StaysIn s.heap) (hm : ∀ p ∈ mt, s.heap.get? p.1 = some p.2) (hr : ∀ p ∈ mt, r.get? p.1 = none) (ho : K.lookup f = some ⟨oc, od, .func (fnOf name qual params body scope dV kV doc pm an cdv ct), osl⟩) (hcd : codeIn K cdv qual = true) (hbind : BindsTo s (fnOf name qual params body scope dV kV doc pm an cdv ct) args binds) (hkind : (binds.all fun y => scope.names.lookup y.1 == some .local || scope.names.lookup y.1 == some .cell) = true) (hnd : ((cellsFrom 0 scope.names []).map (·.1)).Nodup) (h : ∀ d u g L' h₁ tk cells, Rm l d u → Fr g L' h₁ (bindL (envOfC qual scope L' f cdv).kindOf binds fun _ => none) → News g L' h₁ (cells ++ mt) → CellsAre (bindC (envOfC qual scope L' f cdv).kindOf binds fun _ => none) (cellsFrom (L' + 1) scope.names []) cells → OwnOff cells (adrs mt) →
   K.In g → TopRead p loose mg mb g → r.StaysIn g → (∀ b o, s.heap.get? b = some o → b ∉ adrs mt → g.get? b = some o) → (∀ b o, g.get? b = some o → s.heap.get? b = some o) → (∀ p ∈ mt, p.1 < L') → L' = s.heap.objs.size →
   let PP := P
   wpAny (model thePr w) (AA (d + 1) (u + 3)) (execs body (envOfC qual scope L' f cdv))
    (fun fl s' => Back g L' PP s (match fl with | .ret v => v | _ => .none) s') (fun _ _ => False)
    { s with heap := h₁, toks := tk }) (hco : scope.isCoroutine = false) (hgen : scope.isGenerator = false) (hk : scope.kind = .function) (hl : 0 < l) : Does w l (.ref f) args (adrs mt) s P := by
 k_extra "x126"
 refine codeAny_call_function (by have := rm.d; show d < 1000; omega) (Xs _ _ ho) rfl hco hgen rfl (codeRec_of Xs hcd) (hbind _ _ _ _ ?_)
 refine wpAny_newFunctionEnv_cells hk (kindsX hkind _) fun env' he s' x => ?_
 subst he
 refine ⟨(T.nolimit.keeps st).keeps x.toInCall.keep, codeAny_func ?_⟩
 refine o2_2 x.done fun h₁ tk zq2 _ => ?_
 subst zq2
 have hk₁ := x.toInCall.keep
 refine o1_2 (Cl.news (h₀ := s.heap) (Nat.le_refl _) fun n c hm => ⟨x.cell n c (lookup_of_mem_nodup (cellsFrom_names scope.names 0 (s.heap.objs.size + 1) [] [] rfl ▸ hnd) hm), x.above n c hm⟩) fun cells NC Y => ?_
 have NM := hide_news hm hk₁
 refine wpAny_mono (h d u (hideAll s.heap (adrs mt)) s.heap.objs.size h₁ tk cells rm (hide_fr x.toInCall.ns hk₁) (fun p hp => ?_) Y (fun p hp b hb e => ?_) (X.keeps sg) (T.keeps sg) sg (fun b o e q => hideAll_get _ e q) (fun b o e => of_hideAll _ e) (fun p hp => Heap.lt_size (hm p hp)) rfl) (fun fl s' hb => ?_) (fun _ _ x => x.elim)
 ·k_extra "x199"
  ·refine ⟨(NC p hp).1, (NC p hp).2.1, ?_⟩
   cases q : (hideAll s.heap (adrs mt)).get? p.1 with
   | none => rfl
   | some o => have := of_hideAll _ q; rw [(NC p hp).2.2] at this; cases this
  ·exact NM p hp
 ·refine o1_2 (List.mem_map.mp hb) fun z hz e1 => ?_
  have := (NC p hp).2.2
  rw [e, ← e1, hm z hz] at this; cases this
 ·refine o4_4 hb fun h' tk' m' news' e F N hp => ?_
  clear hb
  k_extra "x202"
  exact ⟨_, h', tk', rfl, e, ⟨fun b o e q => F.keep b o (hideAll_get _ e q), oL, hoL⟩, hp⟩
def TurnP (h₀ : Heap) (L : Addr) (news own : List (Addr × Obj)) (M : LocMap → Prop) (s₁ : Shared) (Q : Flow → Shared → Prop) (f : Flow) (s₂ : Shared) : Prop :=
 match f with
 | .ret v => Q (.ret v) s₂
 | .brk => Q .next s₂
 | _ => ∃ h' tk m', s₂ = { s₁ with heap := h', toks := tk } ∧ Fr h₀ L h' m' ∧ News h₀ L h' (news ++ own) ∧ M m'
theorem TurnP.intro {M : LocMap → Prop} {Q : Flow → Shared → Prop} {tk : Nat} (F : Fr h₀ L h' m') (N : News h₀ L h' (news ++ own)) (hM : M m') : TurnP h₀ L news own M s₁ Q .next { s₁ with heap := h', toks := tk } := ⟨h', tk, m', rfl, F, N, hM⟩
section
variable {env : Env}
theorem turns_pairs {x : Str} {tp : Pos} {kk : Nat} {Q : Flow → Shared → Prop} {R : Nat → Value → Value → Prop} (M : Nat → LocMap → Prop) (hL : env.locals = L) (hh : A.handled = none) (hx : env.kindOf x = some .local) (hy : env.kindOf y = some .local) (hp : (env.scope.kind == .class || (env.scope.kind == .module && env.locals != env.globals)) = false) (hl : h₀.IsList pl items.toArray) (hT : ∀ k v, items[k]? = some v → ∃ t v1 v2, v = .ref t ∧ IsTup h₀ t #[v1, v2] ∧ R k v1 v2) (F : Fr h₀ L s.heap m) (N : News h₀ L s.heap news) (h0 : M 0 m) (turn : ∀ i v1 v2 m₁ h tk own, i < items.length → R i v1 v2 → M i m₁ → Fr h₀ L h (fun z => if z = y then some v2 else if z = x then some v1 else m₁ z) → News h₀ L h (news ++ own) →
   wpAny (model thePr w) A (execs body env) (TurnP h₀ L news own (M (i + 1)) { s with heap := h, toks := tk } Q) E { s with heap := h, toks := tk }) (done : ∀ m' h' tk, M items.length m' → Fr h₀ L h' m' → News h₀ L h' news → Q .next { s with heap := h', toks := tk }) :
  wpAny (model thePr w) A (pyIter (.ref pl)) (fun it s₂ => TurnsAt thePr w A h₀ env (.Tuple [.Name x px, .Name y py] kk tp) body Q E it s₂) E s := by
 subst hL
 have hls : s.heap.IsList pl items.toArray := IsList.mono hl F.keep
 have hlt : pl < s.heap.objs.size := let ⟨_, e, _⟩ := hls; Heap.lt_size e
 refine o1_2 (id hl) fun ol hol hol' => ?_
 refine wpAny_pyIter_list hls ?_
 have W := Walks.list (prog := thePr) (w := w) hh s.heap.objs.size pl (Nat.ne_of_lt hlt) items.toArray
 have hLlt : env.locals < s.heap.objs.size := F.ns.lt
 have hL0 : h₀.get? env.locals = none := Heap.get?_none_of_le F.above
 refine ⟨s.heap.objs.size, [s.heap.objs.size, pl], [s.heap.objs.size], items.toArray.size, _, _, _, m, news, fun i m₁ news₁ => M i m₁ ∧ news₁ = news, rfl, KTurns.ofWalks W fun i v s Q E st hQ => letGo_listiter st.1 hQ, ?_, ?_, ?_, ?_, F.push _, fun p hp => ⟨Heap.get?_push_of_some _ (N p hp).1, (N p hp).2⟩, ⟨h0, rfl⟩, ?_, ?_⟩
 ·k_extra "x235"
  ·rw [ms1 q, hol] at hL0; cases hL0
 k_extra "x170"
 ·exact ⟨⟨_, Heap.get?_push_size _ rfl, rfl, rfl⟩, hls.push _⟩
 ·intro i v m₁ news₁ h₁ tk₁ own hi hP hz1 _ hfp hown _ _ F₁ N₁
  k_extra "x246"
  refine o3_3 (hT i v (by simpa using hP)) fun t v1 v2 zq3 ht hR => ?_
  subst zq3
  refine assign_Tuple_tuple hh (ht.keeps F₁.keep) rfl rfl fun h₅ he => ?_
  have he' : ∀ b o, h₁.get? b = some o → h₅.get? b = some o := fun b o e => he b o (Nat.ne_of_lt (Heap.lt_size e)) e
  have F₅ := F₁.keeps he'
  have N₅ := N₁.grown he'
  refine assignInOrder_cons (wpAny_assign_Name (wpAny_storeName_local hx F₅.ns (fun h₆ hn₆ hs₆ => ?_) hp))
  have F₆ := F₅.set hn₆ hs₆
  have N₆ := N₅.set hs₆
  refine assignInOrder_cons (wpAny_assign_Name (wpAny_storeName_local hy F₆.ns (fun h₇ hn₇ hs₇ => ?_) hp))
  have F₇ := F₆.set hn₇ hs₇
  have N₇ := N₆.set hs₇
  refine assignInOrder_nil (wpAny_mono (turn i v1 v2 m₁ h₇ _ own (by simpa using hi) hR hM F₇ fun p hp => N₇ p (by rcases ma1 hp with q | q; exact mar _ q; exact mal _ q)) (fun f s₂ hf => ?_) fun _ _ e => e)
  have go : (∃ h' tk m', s₂ = { s with heap := h', toks := tk } ∧ Fr h₀ env.locals h' m' ∧ News h₀ env.locals h' (news₁ ++ own) ∧ M (i + 1) m') → LoopStepU h₀ env.locals [s.heap.objs.size] own (fun m₁ news₂ => M (i + 1) m₁ ∧ news₂ = news₁) { s with heap := h₁, toks := tk₁ } .next s₂ := by
   intro hz1
   refine o3_4 hz1 fun h' tk m' zq3 F' N' hM' => ?_
   clear hz1
   subst zq3
   refine ⟨rfl, h', tk, m', news₁, rfl, F', fun p hp => N' p (by rcases ma1 hp with q | q; exact mar _ q; exact mal _ q), fun p hp q => ?_, hM', rfl⟩
   exact absurd (Heap.lt_size (N p hp).1) ((ms1 q) ▸ Nat.lt_irrefl _)
  cases f with
  | ret v => exact LoopStepV.ret hf
  | brk => exact LoopStepV.brk hf
  | next => exact LoopStepV.next (go hf)
  | cont => exact LoopStepV.cont (go hf)
 ·intro h' tk m' news' F' N' _ hz1
  k_extra "x246"
  exact done m' h' tk (by simpa using hM) F' N'
end
section
variable {M : Model} {m m₂ : Str → Option Value} {cl : List (Str × Addr)} {env : Env} {x : Str} {v : Value} {oC : Obj}
theorem ldc_own (N : News h₀ L s.heap news) (hm : (C, oC) ∈ news) (hC : LCg.NsObj oC m₂) (hx : m₂ x = some v) (h : Q v s) (hk : (compEnvC scope cl C env).scope.kind = .function := by rfl) (hl : (compEnvC scope cl C env).kindOf x = some .local := by rfl) (hd : (x == ("__debug__" : Str)) = false := by decide) :
  wpAny M A (eval (.Name x pos) (compEnvC scope cl C env)) Q E s := LCgL.ld_own N hm hC hx h hk hl hd
theorem ldc_global (F : Fr h₀ L s.heap m) (X : K.In h₀) (T : TopRead p loose mg mb h₀) (e : nsIn K mainGlobals x = some (some v)) (h : Q v s) (hg : env.globals = mainGlobals := by rfl) (hk : (compEnvC scope cl C env).scope.kind = .function := by rfl) (hx : (compEnvC scope cl C env).kindOf x = some .globalImplicit := by rfl) (hd : (x == ("__debug__" : Str)) = false := by decide) :
  wpAny M A (eval (.Name x pos) (compEnvC scope cl C env)) Q E s :=
 Name_function_global hk hx (loadGlobal_global (env := compEnvC scope cl C env) (show s.heap.Ns env.globals mg from hg ▸ T.g.keeps F.keep) (mg_of X T.g e) h) hd
theorem ldc_built (F : Fr h₀ L s.heap m) (X : K.In h₀) (T : TopRead p loose mg mb h₀) (e : nsIn K mainGlobals x = some none) (hv : bootBuiltins x = some v) (hn : x ≠ "__name__") (h : Q v s) (hg : env.globals = mainGlobals := by rfl) (hb : env.builtins = builtinsNs := by rfl) (hk : (compEnvC scope cl C env).scope.kind = .function := by rfl) (hx : (compEnvC scope cl C env).kindOf x = some .globalImplicit := by rfl) (hd : (x == ("__debug__" : Str)) = false := by decide) :
  wpAny M A (eval (.Name x pos) (compEnvC scope cl C env)) Q E s :=
 Name_function_global hk hx (loadGlobal_builtin (env := compEnvC scope cl C env) (show s.heap.Ns env.globals mg from hg ▸ T.g.keeps F.keep) (mg_none_of X T.g e) (show s.heap.Ns env.builtins mb from hb ▸ T.b.keeps F.keep) ((T.builtins x hn).trans hv) h) hd
end
def PairsAt (h : Heap) (pl : Addr) (ps : List (Str × Int)) : Prop :=
 ∃ items : List Value, h.IsList pl items.toArray ∧ items.length = ps.length ∧ ∀ (k : Nat) v, items[k]? = some v → ∃ t v1 v2, v = .ref t ∧ IsTup h t #[v1, v2] ∧ ∃ nm tn f tf, v1 = .str nm tn ∧ v2 = .int f tf ∧ ps[k]? = some (nm, f)
theorem PairsAt.mono (H : PairsAt h pl ps) (k : h.StaysIn h') : PairsAt h' pl ps :=
 let ⟨items, a, b, c⟩ := H; ⟨items, IsList.mono a k, b, fun i v e => let ⟨t, v1, v2, e1, e2, r⟩ := c i v e; ⟨t, v1, v2, e1, e2.keeps k, r⟩⟩
end
local macro_rules |`(tactic|walk_at "")=>`(tactic|skip)
section
local macro_rules | `(tactic| walk_at $s:str) => hk ["gB13", "c1", "c0"] s
theorem lines_3 : True := by
 k_with "L56" => (k_here; (with_reducible show wpAny _ _ (call (Value.ref 929) [_]) _ _ _); refine' use_firstA ?F ?N ?X ?T ?rm ?hn ?_; k_extra "x23"; (case hn => k_extra "x11"); k_extra "x55")
 k_with "L57" => (k_here; (with_reducible show wpAny _ _ (call (Value.ref 936) [Value.str _ _, _]) _ _ _); refine' use_partialA ?F ?N ?X ?T ?rm ?hn ?hy ?_; k_extra "x23"; (case hn => k_extra "x11"); (case hy => assumption); k_whole; intro t' h' tk' F' N'; k_extra "x25")
 k_with "gB13call ref" => first | k_extra "L57" | k_extra "L56"
 trivial
section
variable {r : Heap}
theorem one_place_ (X : (K0 w.params).In r) (T : TopRead p loose mg mb r) (st : r.StaysIn s.heap) (hv : VecAt s.heap ix dx (.str "character" tk) (.ref il) .none) (hl : s.heap.IsList il [Value.str y ty].toArray) (hn : NamesV s.heap nmV xs) (hy : y ≠ "") :
  Does w 4 (.ref 957) ⟨[.ref ix, .int n tn, nmV, .bool ex], []⟩ (adrs []) s fun rv h' => ∃ t, rv = .int (placeR ex xs y) t := by
 k_extra "x216"
 w_on
 refine' does_def (mt := []) (binds := [("ix", Value.ref ix), ("n", Value.int n tn), ("names", nmV), ("exact", Value.bool ex)]) X T st ?hm ?hr ?ho ?hcd ?hbind ?hloc ?_ ?hco ?hgen ?hk ?hcell ?hl
 k_extra "x240"
 k_extra "x214"
 have hng := NamesV.mono hn (Sall Sg)
 have hi0 : [Value.str y ty][0]? = some (Value.str y ty) := rfl
 k_extra "x149"
 ·rename TabR _ _ => ht
  rename (ex = true) => he
  obtain ⟨t, e⟩ := ht.getD y (_ : Nat)
  exact ⟨t, e.trans (by rw [he]; rfl)⟩
 ·rename (ex = false) => he
  exact ⟨_, by rw [he]; rfl⟩
end
end
local macro_rules |`(tactic|walk_at "")=>`(tactic|skip)
section
local macro_rules | `(tactic| walk_at $s:str) => hk ["gB14", "c1", "c0"] s
def AllNe (x : Addr) : List (Addr × Obj) → Prop
 | [] => True
 | p :: r => @Ne Nat p.1 x ∧ AllNe x r
include F N X T in
theorem new_vec3 {il at_ : Value} (rm : Rm 2 d u) (k : ∀ x dx hs h' tk, Fr h₀ L h' m → let nw := (x, instObj 182 dx) :: (dx, vecD hs kd il at_ (.bool false) (.bool false)) :: news; News h₀ L h' nw → (∀ p ∈ news, p.1 < dx) → @LT.lt Nat _ dx x → Q (.ref x) { s with heap := h', toks := tk }) :
  wc w d u 182 [kd, il, at_] Q E s := by
 k_extra "x180"
include F N X T in
theorem new_vec2 {il : Value} (rm : Rm 2 d u) (k : ∀ x dx hs h' tk, Fr h₀ L h' m → let nw := (x, instObj 182 dx) :: (dx, vecD hs kd il .none (.bool false) (.bool false)) :: news; News h₀ L h' nw → (∀ p ∈ news, p.1 < dx) → @LT.lt Nat _ dx x → Q (.ref x) { s with heap := h', toks := tk }) :
  wc w d u 182 [kd, il] Q E s := by
 k_extra "x180"
include F N X T in
theorem new_null (rm : Rm 2 d u) (k : ∀ x dx hs t h' tk, Fr h₀ L h' m → let nw := (x, instObj 153 dx) :: (dx, nulD hs t) :: news; News h₀ L h' nw → (∀ p ∈ news, p.1 < dx) → @LT.lt Nat _ dx x → Q (.ref x) { s with heap := h', toks := tk }) :
  wc w d u 153 [] Q E s := by
 k_extra "x243"
 exact k _ _ ⟨_, _, _, _⟩ _ _ _ (by k_asm) (by k_asm) (by k_asm) (by k_asm)
end
local macro_rules |`(tactic|walk_at "")=>`(tactic|skip)
section
local macro_rules | `(tactic| walk_at $s:str) => hk ["gB15", "c1", "c0"] s
section
variable {r : Heap}
theorem islk_list (X : (K0 w.params).In r) (T : TopRead p loose mg mb r) (st : r.StaysIn s.heap) :
  Does w 1 (.ref 978) ⟨[.str "list" tk], []⟩ (adrs []) s fun rv h' => rv = .bool true := by
 w_on
 refine' does_def (mt := []) (binds := [("kind", Value.str "list" tk)]) X T st ?hm ?hr ?ho ?hcd ?hbind ?hloc ?_ ?hco ?hgen ?hk ?hcell ?hl
 k_extra "x200"
end
include F N X T in
theorem use_islk (rm : Rm 1 d u) (k : ∀ h' tk, Fr h₀ L h' m → News h₀ L h' news → Q (.bool true) { s with heap := h', toks := tk }) :
  wc w d u 978 [.str "list" tk] Q E s :=
 use_pure rm F N (islk_list X T F.keep) fun v h' tk F' N' _ e => by subst e; exact k h' tk F' N'
theorem size_none (h : Heap) : h.get? h.objs.size = none := by
 cases q : h.get? h.objs.size with
 | none => rfl
 | some o => exact absurd (Heap.lt_size q) (Nat.lt_irrefl _)
theorem ne_news (N : News h₀ L s.heap news) (ha : s.heap.get? a = none) : ∀ p ∈ news, p.1 ≠ a := fun p hp => ne_of_get (N p hp).1 ha
theorem dum_new {mt : List Addr} (F : Fr h₀ L s.heap m) (hk : Keep mt s.heap h') (N' : News h₀ L h' news') : ∃ o, News h₀ L h' ((s.heap.objs.size, o) :: news') :=
 let ⟨o, ho⟩ := hk.dum
 ⟨o, news_new F N' (size_none _) ho⟩
include F N X T in
theorem use_names {il at_ : Value} (rm : Rm 1 d u) (hv : VecAt s.heap x dx (.str "list" tk) il at_) (ha : AttsAt w s.heap at_ onm) (hz : (onm.getD []).length ≤ 1000) (hne : ∀ x ∈ onm.getD [], x ≠ "") (k : ∀ nv a o h' tk, Fr h₀ L h' m → let nw := (a, o) :: news; News h₀ L h' nw → (∀ p ∈ news, p.1 ≠ a) → (∀ H : Heap, H.get? a = some o → NamesV H nv (onm.getD [])) → Q nv { s with heap := h', toks := tk }) :
  wc w d u 410 [.ref x] Q E s := by
 cases onm with
 | none =>
  have ha : at_ = .none := ha
  subst ha
  refine use_pure rm F N (names_none X T F.keep hv) fun v h' tk F' N' hk e => ?_
  subst e
  refine o1_1 (dum_new F hk N') fun o N2 => ?_
  exact k _ _ _ h' tk F' N2 (ne_news N (size_none _)) fun _ _ => .none
 | some xs =>
  refine o3_5 ha fun ad o nv zq3 lo ho hd zr => ?_
  clear ha
  refine o4_3 zr fun dn tk2 nl vs hn hl hs => ?_
  clear zr
  subst zq3
  refine use_pure rm F N (names_some X T F.keep hv lo ho hd hn hl (hs.length ▸ hz)) fun v h' tk F' N' hk ⟨l, o, e, hf, hg, hL⟩ => ?_
  subst e
  refine k _ l o h' tk F' (news_new F N' hf hg) (ne_news N hf) fun H hH => .some ?_ hs hz hne
  obtain ⟨o', ho', q⟩ := hL
  rw [hg] at ho'
  cases ho'
  exact ⟨o, hH, q⟩
include F N X T in
theorem use_place (rm : Rm 4 d u) (hv : VecAt s.heap ix dx (.str "character" tk) (.ref il) .none) (hl : s.heap.IsList il [Value.str y ty].toArray) (hn : NamesV s.heap nmV xs) (hy : y ≠ "") {pl : Int} (he : placeR ex xs y = pl) (k : ∀ t h' tk, Fr h₀ L h' m → News h₀ L h' news → Q (.int pl t) { s with heap := h', toks := tk }) :
  wc w d u 957 [.ref ix, .int n tn, nmV, .bool ex] Q E s :=
 use_pure rm F N (one_place_ X T F.keep hv hl hn hy) fun v h' tk F' N' _ ⟨t, e⟩ => by subst e; subst he; exact k t h' tk F' N'
theorem VecAt.mono {il at_ : Value} (H : VecAt h x dx kd il at_) (k : h.StaysIn h') : VecAt h' x dx kd il at_ := let ⟨hs, sh, a, b⟩ := H; ⟨hs, sh, k _ _ a, k _ _ b⟩
theorem CharAt.mono (H : CharAt h x xs) (k : h.StaysIn h') : CharAt h' x xs := let ⟨dx, tk, il, vs, a, b, c⟩ := H; ⟨dx, tk, il, vs, a.mono k, IsList.mono b k, c⟩
theorem AttsAt.mono {v : Value} {o : Option (List Str)} (H : AttsAt w h v o) (k : h.StaysIn h') : AttsAt w h' v o := by
 cases o with
 | none => exact H
 | some xs => refine o3_5 H fun ad o nv e lo a b c => ?_; clear H; exact ⟨ad, o, nv, e, lo, k _ _ a, b, c.mono k⟩
theorem nv_of {v : Value} (f : ∀ H : Heap, H.get? a = some o → NamesV H v xs) (N : News h₀ L h news) (hm : (a, o) ∈ news) : NamesV h v xs := f _ (News.get N hm)
theorem vec_in {il at_ : Value} (N : News h₀ L h news) (h1 : (x, instObj 182 dx) ∈ news) (h2 : (dx, vecD hs kd il at_ (.bool sh) (.bool false)) ∈ news) : VecAt h x dx kd il at_ := ⟨hs, sh, News.get N h1, News.get N h2⟩
theorem vec_mix {il at_ : Value} (F : Fr h₀ L h m) (S : b₀.StaysIn h₀) (h1 : b₀.get? x = some (instObj 182 dx)) (N : News h₀ L h news) (h2 : (dx, vecD hs kd il at_ (.bool sh) (.bool false)) ∈ news) : VecAt h x dx kd il at_ := ⟨hs, sh, F.keep _ _ (S _ _ h1), News.get N h2⟩
end
local macro_rules |`(tactic|walk_at "")=>`(tactic|skip)
section
local macro_rules | `(tactic| walk_at $s:str) => hk ["gB16", "c1", "c0"] s
theorem lines_4 : True := by
 k_with "L58" => (k_here; (with_reducible show wpAny _ _ (call (Value.ref 182) [_, _]) _ _ _); refine' new_vec2 ?F ?N ?X ?T ?rm ?_; k_extra "x72")
 k_with "L59" => (k_here; (with_reducible show wpAny _ _ (call (Value.ref 153) _ _) _ _ _); k_dflt (refine' new_null ?F ?N ?X ?T ?rm ?_; (case rm => k_extra "x1"); (case F => k_asm); (case N => k_asm); (case X => k_asm); (case T => k_asm); k_whole); intro x' d' hs' t' h' tk' F' nw' N' l1 l2; k_extra "x39")
 k_with "L60" => (k_here; (with_reducible show wpAny _ _ (call (Value.ref 978) [_]) _ _ _); refine' use_islk ?F ?N ?X ?T ?rm ?_; k_extra "x23"; k_extra "x41")
 k_with "L61" => (k_extra "x48"; refine' use_names ?F ?N ?X ?T ?rm ?hv ?ha ?hz ?hne ?_; k_extra "x83"; intro nv' a' o' h' tk' F' nw' N' l1 hnv'; k_extra "x25")
 k_with "L62" => (k_here; (with_reducible show wpAny _ _ (call (Value.ref 957) [Value.ref _, Value.int _ _, _, Value.bool _]) _ _ _); refine' use_place ?F ?N ?X ?T ?rm ?hv ?hl ?hn ?hy ?he ?_; k_extra "x38")
 k_with "gB16call ref" => first | k_extra "L62" | k_extra "L61" | k_extra "L60" | k_extra "L59" | k_extra "L58"
 trivial
theorem fst_lt' (h : fst xs y = some k) : k < xs.length := (fst_lt h).1
theorem hits_lt (h : j ∈ hits xs y) : j < xs.length := by
 unfold hits at h
 refine o1_2 (List.mem_map.mp h) fun p hp zq2 => ?_
 subst zq2
 have hp := (List.mem_filter.mp hp).1
 refine o0_3 (List.mem_zipIdx hp) fun a b c => ?_
 omega
theorem placeR_lt (ex : Bool) (xs : List Str) (y : Str) : placeR ex xs y < (xs.length : Int) := by
 unfold placeR
 split
 ·unfold exactR
  split
  ·next k h => have := fst_lt' h; omega
  ·omega
 ·unfold partR
  split
  ·next k h => have := fst_lt' h; omega
  ·split
   ·next j h => have : j < xs.length := hits_lt (by rw [h]; exact List.Mem.head _); omega
   ·omega
structure NamesOk (onm : Option (List Str)) (n : Nat) : Prop where
 len : (onm.getD []).length = n
 small : n ≤ 1000
 ne : ∀ x ∈ onm.getD [], x ≠ Str.ofString ""
def PickR (items : List Value) (pl : Int) (h h' : Heap) (rv : Value) : Prop :=
 (∃ k : Nat, pl = k ∧ items[k]? = some rv) ∨ (pl < 0 ∧ ∃ x dx hs t, rv = .ref x ∧ h.get? x = none ∧ h.get? dx = none ∧ h'.get? x = some (instObj 153 dx) ∧ h'.get? dx = some (nulD hs t))
section
variable {r : Heap}
theorem vector_element_ {at_ : Value} (X : (K0 w.params).In r) (T : TopRead p loose mg mb r) (st : r.StaysIn s.heap) (hv : VecAt s.heap v dv (.str "list" tk) (.ref il) at_) (hil : s.heap.IsList il items.toArray) (ha : AttsAt w s.heap at_ onm) (hN : NamesOk onm items.length) (hix : VecAt s.heap ix dix (.str "character" tk2) (.ref ixl) .none) (hxl : s.heap.IsList ixl [Value.str y ty].toArray) (hy : y ≠ "") :
  Does w 6 (.ref 999) ⟨[.ref v, .ref ix, .bool ex], []⟩ (adrs []) s fun rv h' => PickR items (placeR ex (onm.getD []) y) s.heap h' rv := by
 w_on
 refine' does_def (mt := []) (binds := [("v", Value.ref v), ("ix", Value.ref ix), ("exact", Value.bool ex)]) X T st ?hm ?hr ?ho ?hcd ?hbind ?hloc ?_ ?hco ?hgen ?hk ?hcell ?hl
 k_extra "x205"
 have hixg := VecAt.mono hix (Sall Sg)
 k_extra "x168"
 have hxlg := IsList.mono hxl (Sall Sg)
 k_extra "x175"
 have hz := hN.small
 k_extra "x245"
 have hne := hN.ne
 have hlt := placeR_lt ex (onm.getD []) y
 rw [hN.len] at hlt
 by_cases hp : placeR ex (onm.getD []) y < 0
 ·generalize hk : placeR ex (onm.getD []) y = pl at hp hlt
  k_extra "x253"
  k_extra "x250"
  exact .inr ⟨hk.symm ▸ hp, _, _, _, _, rfl, fresh_of Sg Nz (.head _), fresh_of Sg Nz (mem_at 1 rfl), News.get Nz (.head _), News.get Nz (mem_at 1 rfl)⟩
 ·obtain ⟨k, hk⟩ : ∃ k : Nat, placeR ex (onm.getD []) y = k := ⟨_, (Int.toNat_of_nonneg (Int.not_lt.mp hp)).symm⟩
  rw [hk] at hlt
  obtain ⟨iv, hiv⟩ : ∃ iv, items[k]? = some iv := ⟨_, List.getElem?_eq_getElem (Int.ofNat_lt.mp hlt)⟩
  k_extra "x253"
  exact .inl ⟨k, hk, hiv⟩
end
def IntVec (h : Heap) (v : Value) (n : Int) : Prop := ∃ a dx tk il t, v = .ref a ∧ VecAt h a dx (.str "integer" tk) (.ref il) .none ∧ h.IsList il [Value.int n t].toArray
def NullAt (h : Heap) (v : Value) : Prop := ∃ a dx hs t, v = .ref a ∧ h.get? a = some (instObj 153 dx) ∧ h.get? dx = some (nulD hs t)
def ValAt (h : Heap) (v : Value) : Option Int → Prop
 | none => NullAt h v
 | some n => IntVec h v n
theorem ValAt.mono {v : Value} {o : Option Int} (H : ValAt h v o) (k : h.StaysIn h') : ValAt h' v o := by
 cases o with
 | none => refine o4_3 H fun a dx hs t e x y => ?_; clear H; exact ⟨a, dx, hs, t, e, k _ _ x, k _ _ y⟩
 | some n => refine o5_3 H fun a dx tk il t e x y => ?_; clear H; exact ⟨a, dx, tk, il, t, e, x.mono k, IsList.mono y k⟩
def ItemsAt (h : Heap) (items : List Value) (fs : List Int) : Prop := items.length = fs.length ∧ ∀ (k : Nat) v, items[k]? = some v → ∃ f, fs[k]? = some f ∧ IntVec h v f
theorem ItemsAt.mono (H : ItemsAt h items fs) (k : h.StaysIn h') : ItemsAt h' items fs :=
 ⟨H.1, fun i v e => let ⟨f, a, b⟩ := H.2 i v e; ⟨f, a, ValAt.mono (o := some f) b k⟩⟩
noncomputable def atPl (fs : List Int) (pl : Int) : Option Int := if pl < 0 then none else fs[pl.toNat]?
def Tells2 (r : Heap) (a b : Addr) (o o2 : Obj) (rv : Value) (fo : Option Int) : Prop := ∃ c, rv = .ref c ∧ ∀ H : Heap, r.StaysIn H → H.get? a = some o → H.get? b = some o2 → ValAt H rv fo
theorem pick_tells {r : Heap} {pl : Int} {rv : Value} {mt : List Addr} (hI : ItemsAt r items fs) (hk : Keep mt h h') (hp : PickR items pl h h' rv) :
  ∃ a b o o2, h.get? a = none ∧ h.get? b = none ∧ h'.get? a = some o ∧ h'.get? b = some o2 ∧ Tells2 r a b o o2 rv (atPl fs pl) := by
 rcases hp with ⟨k, rfl, hk'⟩ | ⟨hp, x, dx, hs, t, rfl, n1, n2, g1, g2⟩
 ·refine o1_1 hk.dum fun o ho => ?_
  refine o1_2 (hI.2 k rv hk') fun f hf hv => ?_
  have e : atPl fs (k : Int) = some f := by unfold atPl; rw [if_neg (by omega)]; simpa using hf
  refine o5_3 (id hv) fun c dx tk il t zq5 _ _ => ?_
  subst zq5
  exact ⟨_, _, o, o, size_none h, size_none h, ho, ho, c, rfl, fun H st _ _ => by rw [e]; exact ValAt.mono (o := some f) hv st⟩
 ·have e : atPl fs pl = none := by unfold atPl; rw [if_pos hp]
  exact ⟨x, dx, _, _, n1, n2, g1, g2, x, rfl, fun H _ a b => by rw [e]; exact ⟨x, dx, hs, t, rfl, a, b⟩⟩
include F N X T in
theorem use_vecel {at_ : Value} (rm : Rm 6 d u) (hv : VecAt s.heap v dv (.str "list" tk) (.ref il) at_) (hil : s.heap.IsList il items.toArray) (ha : AttsAt w s.heap at_ onm) (hN : NamesOk onm items.length) (hix : VecAt s.heap ix dix (.str "character" tk2) (.ref ixl) .none) (hxl : s.heap.IsList ixl [Value.str y ty].toArray) (hy : y ≠ "") (hI : ItemsAt b₀ items fs) (k : ∀ c a b o o2 h' tk, Fr h₀ L h' m → let nw := (a, o) :: (b, o2) :: news; News h₀ L h' nw → (∀ p ∈ news, p.1 ≠ a) → (∀ p ∈ news, p.1 ≠ b) → Tells2 b₀ a b o o2 (.ref c) (atPl fs (placeR ex (onm.getD []) y)) → Q (.ref c) { s with heap := h', toks := tk }) :
  wc w d u 999 [.ref v, .ref ix, .bool ex] Q E s :=
 use_pure rm F N (vector_element_ X T F.keep hv hil ha hN hix hxl hy) fun rv h' tk F' N' hk hp => by
  refine o4_5 (pick_tells hI hk hp) fun a b o o2 n1 n2 g1 g2 ht => ?_
  refine o1_2 (id ht) fun c zq1 _ => ?_
  subst zq1
  exact k c a b o o2 h' tk F' (news_new F (news_new F N' n2 g2) n1 g1) (ne_news N n1) (ne_news N n2) ht
end
local macro_rules |`(tactic|walk_at "")=>`(tactic|skip)
section
local macro_rules | `(tactic| walk_at $s:str) => hk ["gB17", "c1", "c0"] s
theorem lines_5 : True := by
 k_with "gB17call ref" => first | k_extra "L62" | k_extra "L61" | k_extra "L60" | k_extra "L59" | k_extra "L58"
 trivial
noncomputable abbrev en (q : Int × Nat) (k : String) (v : Value) : DictEntry := ⟨q.1, .str (Str.ofString k) q.2, v⟩
abbrev Hq := Nat → Int × Nat
variable {q : Hq}
noncomputable abbrev symD (q : Hq) (kt : Nat) (y : Str) (ty : Nat) : Obj := dictOf [en (q 0) "kind" (.str "symbol" kt), en (q 1) "name" (.str y ty), en (q 2) "attrs" .none] 3
noncomputable abbrev envD (q : Hq) (kt nt : Nat) (num : Int) (pa : Value) (fr lk : Addr) : Obj := dictOf [en (q 0) "kind" (.str "environment" kt), en (q 1) "number" (.int num nt), en (q 2) "parent" pa, en (q 3) "attrs" .none, en (q 4) "frame" (.ref fr), en (q 5) "locked" (.bool false), en (q 6) "locks" (.ref lk)] 7
noncomputable abbrev evD (q : Hq) (v : Nat → Value) (gl : Value) (vis : Bool) : Obj := dictOf [en (q 0) "limit" (v 0), en (q 1) "most_frames" (v 1), en (q 2) "steps" (v 2), en (q 3) "next_number" (v 3), en (q 4) "base" (v 4), en (q 5) "globals" gl, en (q 6) "frames" (v 6), en (q 7) "out" (v 7), en (q 8) "warnings" (v 8), en (q 9) "handlers" (v 9), en (q 10) "restarts" (v 10), en (q 11) "targets" (v 11), en (q 12) "visible" (.bool vis), en (q 13) "current" (v 13), en (q 14) "dispatcher" (v 14), en (q 15) "signaller" (v 15), en (q 16) "warner" (v 16), en (q 17) "deparser" (v 17), en (q 18) "s4" (v 18)] 19
def SymAt (h : Heap) (a : Addr) (y : Str) : Prop := ∃ da q kt ty, h.get? a = some (instObj 203 da) ∧ h.get? da = some (symD q kt y ty)
def EnvAt (w : World) (h : Heap) (e : Addr) (num : Int) (fr : Addr) : Prop := ∃ de q kt nt pa lk ol, h.get? e = some (instObj 247 de) ∧ h.get? de = some (envD q kt nt num pa fr lk) ∧ h.get? lk = some ol ∧ (lk == sysModules) = false ∧ ol.IsDictOf (strKind thePr w) []
theorem EnvAt.mono {fr : Addr} (H : EnvAt w h e num fr) (k : h.StaysIn h') : EnvAt w h' e num fr :=
 let ⟨de, q, kt, nt, pa, lk, ol, a, b, c, x⟩ := H; ⟨de, q, kt, nt, pa, lk, ol, k _ _ a, k _ _ b, k _ _ c, x⟩
theorem SymAt.mono (H : SymAt h a y) (k : h.StaysIn h') : SymAt h' a y :=
 let ⟨da, q, kt, ty, x, z⟩ := H; ⟨da, q, kt, ty, k _ _ x, k _ _ z⟩
theorem lines_6 : True := by
 k_with "L63" => (k_here; k_dflt (refine whl_start 3 ?_))
 k_with "gB17exec While Compare cons nil" => k_extra "L63"
 trivial
def NoDots (y : Str) : Prop := y = Str.ofString "row" ∨ y = Str.ofString "box" ∨ y = Str.ofString "fresh"
section
variable {r : Heap}
theorem is_dots_ (X : (K0 w.params).In r) (T : TopRead p loose mg mb r) (st : r.StaysIn s.heap) (hy : NoDots y) :
  Does w 1 (.ref 1328) ⟨[.str y ty], []⟩ (adrs []) s fun rv h' => rv = .bool false := by
 rcases hy with rfl | rfl | rfl
 ·w_on
  refine' does_def (mt := []) (binds := [("name", Value.str "row" ty)]) X T st ?hm ?hr ?ho ?hcd ?hbind ?hloc ?_ ?hco ?hgen ?hk ?hcell ?hl
  k_extra "x200"
 ·w_on
  refine' does_def (mt := []) (binds := [("name", Value.str "box" ty)]) X T st ?hm ?hr ?ho ?hcd ?hbind ?hloc ?_ ?hco ?hgen ?hk ?hcell ?hl
  k_extra "x200"
 ·w_on
  refine' does_def (mt := []) (binds := [("name", Value.str "fresh" ty)]) X T st ?hm ?hr ?ho ?hcd ?hbind ?hloc ?_ ?hco ?hgen ?hk ?hcell ?hl
  k_extra "x200"
theorem lookup_ {fr : Addr} (X : (K0 w.params).In r) (T : TopRead p loose mg mb r) (st : r.StaysIn s.heap) (he : EnvAt w s.heap e num fr) (hf : s.heap.get? fr = some o) (lo : (fr == sysModules) = false) (hd : o.IsDictOf (strKind thePr w) kvs) (hv : valueAt kvs y = some (.ref c)) :
  Does w 1 (.ref 901) ⟨[.ref e, .str y ty], []⟩ (adrs []) s fun rv h' => rv = .ref c := by
 refine o7_5 he fun de q kt nt pa lk ol he1 he2 he3 llo hld => ?_
 clear he
 k_extra "x157"
 have hfg := Sg _ _ hf nmn
 have he1g := Sg _ _ he1 nmn
 have he2g := Sg _ _ he2 nmn
 have he3g := Sg _ _ he3 nmn
 have hv1 : (valueAt kvs y).getD .none = .ref c := by rw [hv]; rfl
 k_extra "x149"
 exact rfl
end
include F N X T in
theorem use_dots (rm : Rm 1 d u) (hy : NoDots y) (k : ∀ h' tk, Fr h₀ L h' m → News h₀ L h' news → Q (.bool false) { s with heap := h', toks := tk }) :
  wc w d u 1328 [.str y ty] Q E s :=
 use_pure rm F N (is_dots_ X T F.keep hy) fun v h' tk F' N' _ e => by subst e; exact k h' tk F' N'
include F N X T in
theorem use_lookup {fr : Addr} (rm : Rm 1 d u) (he : EnvAt w s.heap e num fr) (hf : s.heap.get? fr = some o) (lo : (fr == sysModules) = false) (hd : o.IsDictOf (strKind thePr w) kvs) (hv : valueAt kvs y = some (.ref c)) (k : ∀ h' tk, Fr h₀ L h' m → News h₀ L h' news → Q (.ref c) { s with heap := h', toks := tk }) :
  wc w d u 901 [.ref e, .str y ty] Q E s :=
 use_pure rm F N (lookup_ X T F.keep he hf lo hd hv) fun v h' tk F' N' _ e => by subst e; exact k h' tk F' N'
end
variable {q : Hq}
local macro_rules |`(tactic|walk_at "")=>`(tactic|skip)
section
local macro_rules | `(tactic| walk_at $s:str) => hk ["gB18", "c1", "c0"] s
theorem lines_7 : True := by
 k_with "L64" => (k_here; (with_reducible show wpAny _ _ (call (Value.ref 999) [Value.ref _, Value.ref _, Value.bool _]) _ _ _); refine' use_vecel ?F ?N ?X ?T ?rm ?hv ?hil ?ha ?hN ?hix ?hxl ?hy ?hI ?_; k_extra "x44"; (case hN => assumption); k_extra "x61"; (case hy | hI => assumption); k_extra "x66")
 k_with "L65" => (k_here; (with_reducible show wpAny _ _ (call (Value.ref 1328) [Value.str _ _]) _ _ _); refine' use_dots ?F ?N ?X ?T ?rm ?hy ?_; k_extra "x23"; (case hy => k_extra "x12"); k_extra "x41")
 k_with "L66" => (k_here; (with_reducible show wpAny _ _ (call (Value.ref 901) [Value.ref _, Value.str _ _]) _ _ _); refine' use_lookup ?F ?N ?X ?T ?rm ?he ?hf ?lo ?hd ?hv ?_; k_extra "x45"; (case lo | hd | hv => assumption); k_extra "x41")
 k_with "gB18call ref" => first | k_extra "L66" | k_extra "L65" | k_extra "L64" | k_extra "L62" | k_extra "L61" | k_extra "L60" | k_extra "L59" | k_extra "L58"
 trivial
include F N X T in
theorem new_sym (rm : Rm 2 d u) (k : ∀ x dx q kt h' tk, Fr h₀ L h' m → let nw := (x, instObj 203 dx) :: (dx, symD q kt y ty) :: news; News h₀ L h' nw → (∀ p ∈ news, p.1 < dx) → @LT.lt Nat _ dx x → Q (.ref x) { s with heap := h', toks := tk }) :
  wc w d u 203 [.str y ty] Q E s := by
 k_extra "x243"
 exact k _ _ (fun i => match i with | 0 => (_, _) | 1 => (_, _) | _ => (_, _)) _ _ _ (by k_asm) (by assumption) (by k_asm) (by k_asm)
section
variable {r : Heap}
theorem has_class_vec {il at_ : Value} (X : (K0 w.params).In r) (T : TopRead p loose mg mb r) (st : r.StaysIn s.heap) (hv : VecAt s.heap v dv (.str "list" tk) il at_) (ha : AttsAt w s.heap at_ onm) : Does w 1 (.ref 805) ⟨[.ref v], []⟩ (adrs []) s fun rv h' => rv = .bool false := by
 w_on
 refine' does_def (mt := []) (binds := [("v", Value.ref v)]) X T st ?hm ?hr ?ho ?hcd ?hbind ?hloc ?_ ?hco ?hgen ?hk ?hcell ?hl
 k_extra "x220"
 have hag := ha.mono (Sall Sg)
 refine o2_2 hvg fun hs sh hx hd => ?_
 clear hvg
 cases onm with
 | none =>
  have hag : at_ = .none := hag
  subst hag
  k_steps
  all_goals unfold Stop
  exact rfl
 | some xs =>
  refine o3_5 hag fun ad o nv zq3 lo ho hdk hn => ?_
  clear hag
  subst zq3
  k_steps
  all_goals unfold Stop
  exact rfl
theorem has_class_env {fr : Addr} (X : (K0 w.params).In r) (T : TopRead p loose mg mb r) (st : r.StaysIn s.heap) (he : EnvAt w s.heap e num fr) : Does w 1 (.ref 805) ⟨[.ref e], []⟩ (adrs []) s fun rv h' => rv = .bool false := by
 w_on
 refine' does_def (mt := []) (binds := [("v", Value.ref e)]) X T st ?hm ?hr ?ho ?hcd ?hbind ?hloc ?_ ?hco ?hgen ?hk ?hcell ?hl
 k_extra "x85"
 have heg := he.mono (Sall Sg)
 k_extra "x137"
 k_extra "x149"
 exact rfl
def PickE (kvs : List (Str × Value)) (y : Str) (h h' : Heap) (rv : Value) : Prop :=
 valueAt kvs y = some rv ∨ (valueAt kvs y = none ∧ ∃ x dx hs t, rv = .ref x ∧ h.get? x = none ∧ h.get? dx = none ∧ h'.get? x = some (instObj 153 dx) ∧ h'.get? dx = some (nulD hs t))
theorem env_item {fr : Addr} (X : (K0 w.params).In r) (T : TopRead p loose mg mb r) (st : r.StaysIn s.heap) (he : EnvAt w s.heap e num fr) (hf : s.heap.get? fr = some o) (lo : (fr == sysModules) = false) (hd : o.IsDictOf (strKind thePr w) kvs) :
  Does w 4 (.ref 1013) ⟨[.ref e, .str y ty], []⟩ (adrs []) s fun rv h' => PickE kvs y s.heap h' rv := by
 k_extra "x157"
 k_extra "x197"
 k_extra "x137"
 cases hv : valueAt kvs y with
 | some v =>
  have hs : (valueAt kvs y).isSome = true := by rw [hv]; rfl
  k_steps
  all_goals unfold Stop
  exact .inl hv
 | none =>
  have hs : (valueAt kvs y).isSome = false := by rw [hv]; rfl
  k_steps
  all_goals unfold Stop
  rename News _ _ _ _ => Nz
  exact .inr ⟨hv, _, _, _, _, rfl, fresh_of Sg Nz (.head _), fresh_of Sg Nz (mem_at 1 rfl), News.get Nz (.head _), News.get Nz (mem_at 1 rfl)⟩
end
end
local macro_rules |`(tactic|walk_at "")=>`(tactic|skip)
section
local macro_rules | `(tactic| walk_at $s:str) => hk ["gB20", "c1", "c0"] s
include F N X T in
theorem use_hasV {il at_ : Value} (rm : Rm 1 d u) (hv : VecAt s.heap v dv (.str "list" tk) il at_) (ha : AttsAt w s.heap at_ onm) (k : ∀ h' tk, Fr h₀ L h' m → News h₀ L h' news → Q (.bool false) { s with heap := h', toks := tk }) :
  wc w d u 805 [.ref v] Q E s :=
 use_pure rm F N (has_class_vec X T F.keep hv ha) fun v h' tk F' N' _ e => by subst e; exact k h' tk F' N'
include F N X T in
theorem use_hasE {fr : Addr} (rm : Rm 1 d u) (he : EnvAt w s.heap e num fr) (k : ∀ h' tk, Fr h₀ L h' m → News h₀ L h' news → Q (.bool false) { s with heap := h', toks := tk }) :
  wc w d u 805 [.ref e] Q E s :=
 use_pure rm F N (has_class_env X T F.keep he) fun v h' tk F' N' _ e => by subst e; exact k h' tk F' N'
def BoxAt (h : Heap) (kvs : List (Str × Value)) (ins : List (Str × Option Int)) : Prop := ∀ y, match valueAt kvs y with
 | none => ins.lookup y = none
 | some v => ∃ fo, ins.lookup y = some fo ∧ ValAt h v fo
theorem BoxAt.mono {kvs ins} (H : BoxAt h kvs ins) (k : h.StaysIn h') : BoxAt h' kvs ins := fun y => by
 have := H y
 cases q : valueAt kvs y with
 | none => rw [q] at this; exact this
 | some v => rw [q] at this; refine o1_2 this fun fo a b => ?_; clear this; exact ⟨fo, a, b.mono k⟩
noncomputable def insR (ins : List (Str × Option Int)) (y : Str) : Option Int := (ins.lookup y).getD none
theorem ValAt.ref {v : Value} (H : ValAt h v fo) : ∃ c, v = .ref c := by
 cases fo with
 | none => refine o4_2 H fun a _ _ _ e _ => ?_; clear H; exact ⟨a, e⟩
 | some n => refine o5_2 H fun a _ _ _ _ e _ => ?_; clear H; exact ⟨a, e⟩
theorem pickE_tells {r : Heap} {rv : Value} {mt : List Addr} (hB : BoxAt r kvs ins) (hk : Keep mt h h') (hp : PickE kvs y h h' rv) :
  ∃ a b o o2, h.get? a = none ∧ h.get? b = none ∧ h'.get? a = some o ∧ h'.get? b = some o2 ∧ Tells2 r a b o o2 rv (insR ins y) := by
 have hy := hB y
 rcases hp with e | ⟨e, x, dx, hs, t, rfl, n1, n2, g1, g2⟩
 ·rw [e] at hy
  refine o1_2 hy fun fo hl hv => ?_
  clear hy
  refine o1_1 hk.dum fun o ho => ?_
  refine o1_1 hv.ref fun c zq1 => ?_
  subst zq1
  exact ⟨_, _, o, o, size_none h, size_none h, ho, ho, c, rfl, fun H st _ _ => by unfold insR; rw [hl]; exact hv.mono st⟩
 ·rw [e] at hy
  have hy : ins.lookup y = none := hy
  exact ⟨x, dx, _, _, n1, n2, g1, g2, x, rfl, fun H _ a b => by unfold insR; rw [hy]; exact ⟨x, dx, hs, t, rfl, a, b⟩⟩
include F N X T in
theorem use_envitem {fr : Addr} (rm : Rm 4 d u) (he : EnvAt w s.heap e num fr) (hf : s.heap.get? fr = some o) (lo : (fr == sysModules) = false) (hd : o.IsDictOf (strKind thePr w) kvs) (hB : BoxAt b₀ kvs ins) (k : ∀ c a b o o2 h' tk, Fr h₀ L h' m → let nw := (a, o) :: (b, o2) :: news; News h₀ L h' nw → (∀ p ∈ news, p.1 ≠ a) → (∀ p ∈ news, p.1 ≠ b) → Tells2 b₀ a b o o2 (.ref c) (insR ins y) → Q (.ref c) { s with heap := h', toks := tk }) :
  wc w d u 1013 [.ref e, .str y ty] Q E s :=
 use_pure rm F N (env_item X T F.keep he hf lo hd) fun rv h' tk F' N' hk hp => by
  refine o4_5 (pickE_tells hB hk hp) fun a b o o2 n1 n2 g1 g2 ht => ?_
  refine o1_2 (id ht) fun c zq1 _ => ?_
  subst zq1
  exact k c a b o o2 h' tk F' (news_new F (news_new F N' n2 g2) n1 g1) (ne_news N n1) (ne_news N n2) ht
theorem lines_8 : True := by
 k_with "L67" => (k_extra "x70"; refine' use_hasV ?F ?N ?X ?T ?rm ?hv ?ha ?_; k_extra "x56"; k_extra "x41")
 k_with "L68" => (k_extra "x70"; refine' use_hasE ?F ?N ?X ?T ?rm ?he ?_; k_extra "x23"; (case he => k_extra "x8"); k_extra "x41")
 k_with "L69" => (k_here; (with_reducible show wpAny _ _ (call (Value.ref 1013) [Value.ref _, Value.str _ _]) _ _ _); refine' use_envitem ?F ?N ?X ?T ?rm ?he ?hf ?lo ?hd ?hB ?_; k_extra "x45"; (case lo | hd | hB => assumption); k_extra "x66")
 k_with "gB20call ref" => first | k_extra "L69" | k_extra "L68" | k_extra "L67" | k_extra "L66" | k_extra "L65"
 trivial
section
variable {r : Heap}
theorem eval_vec {v : Nat → Value} {il at_ : Value} (X : (K0 w.params).In r) (T : TopRead p loose mg mb r) (st : r.StaysIn s.heap) (hI : r.get? I = some (instObj 1569 dI)) (hdI : s.heap.get? dI = some (evD q v gl vis)) (hrI : r.get? dI = none) (hS : SymAt r sy y) (hyd : NoDots y) (hE : EnvAt w r ge gnum gfr) (hF : r.get? gfr = some gfo) (lo : (gfr == sysModules) = false) (hd : gfo.IsDictOf (strKind thePr w) kvs) (hk : valueAt kvs y = some (.ref c)) (hv : r.get? c = some (instObj 182 dc)) (hdv : s.heap.get? dc = some (vecD hs (.str kn tk) il at_ (.bool sh) (.bool false))) (hrv : r.get? dc = none) (hne : @Ne Nat dI dc) (k1 : (kn == "promise") = false) (k2 : (kn == "missing") = false) (k3 : (kn == "dots") = false) :
  Does w 5 (.ref 1429) ⟨[.ref I, .ref sy, .ref ge], []⟩ (adrs [(dI, evD q v gl vis), (dc, vecD hs (.str kn tk) il at_ (.bool sh) (.bool false))]) s
   fun rv h' => rv = .ref c ∧ h'.get? dI = some (evD q v gl true) ∧ h'.get? dc = some (vecD hs (.str kn tk) il at_ (.bool true) (.bool false)) := by
 w_on
 refine' does_def (mt := [(dI, evD q v gl vis), (dc, vecD hs (.str kn tk) il at_ (.bool sh) (.bool false))]) (binds := [("self", Value.ref I), ("e", Value.ref sy), ("env", Value.ref ge)]) X T st ?hm ?hr ?ho ?hcd ?hbind ?hloc ?_ ?hco ?hgen ?hk ?hcell ?hl
 k_extra "x151"
 k_extra "x84"
 k_extra "x221"
 k_extra "x193"
 k_extra "x176"
 exact ⟨rfl, News.get Nz (by tb_rel), News.get Nz (by tb_rel)⟩
theorem eval_env {v : Nat → Value} (X : (K0 w.params).In r) (T : TopRead p loose mg mb r) (st : r.StaysIn s.heap) (hI : r.get? I = some (instObj 1569 dI)) (hdI : s.heap.get? dI = some (evD q v gl vis)) (hrI : r.get? dI = none) (hS : SymAt r sy y) (hyd : NoDots y) (hE : EnvAt w r ge gnum gfr) (hF : r.get? gfr = some gfo) (lo : (gfr == sysModules) = false) (hd : gfo.IsDictOf (strKind thePr w) kvs) (hk : valueAt kvs y = some (.ref c)) (hc : EnvAt w r c num2 fr2) :
  Does w 5 (.ref 1429) ⟨[.ref I, .ref sy, .ref ge], []⟩ (adrs [(dI, evD q v gl vis)]) s fun rv h' => rv = .ref c ∧ h'.get? dI = some (evD q v gl true) := by
 k_extra "x123"
 refine o7_5 (hc.mono Sr) fun de qe kt nt pa lk ol he1 he2 he3 llo hld => ?_
 k_extra "x255"
theorem eval_nul {v : Nat → Value} (X : (K0 w.params).In r) (T : TopRead p loose mg mb r) (st : r.StaysIn s.heap) (hI : r.get? I = some (instObj 1569 dI)) (hdI : s.heap.get? dI = some (evD q v gl vis)) (hrI : r.get? dI = none) (hS : SymAt r sy y) (hyd : NoDots y) (hE : EnvAt w r ge gnum gfr) (hF : r.get? gfr = some gfo) (lo : (gfr == sysModules) = false) (hd : gfo.IsDictOf (strKind thePr w) kvs) (hk : valueAt kvs y = some (.ref c)) (hc : NullAt r (.ref c)) :
  Does w 5 (.ref 1429) ⟨[.ref I, .ref sy, .ref ge], []⟩ (adrs [(dI, evD q v gl vis)]) s fun rv h' => rv = .ref c ∧ h'.get? dI = some (evD q v gl true) := by
 k_extra "x123"
 refine o4_3 (ValAt.mono (o := none) hc Sr) fun c' dx nh nt e hn1 hn2 => ?_
 cases e
 k_extra "x255"
end
section
variable {g : Obj → List (Addr × Obj)}
theorem upd_mem : ∀ {news : List (Addr × Obj)} {g : Obj → List (Addr × Obj)}, UpdF a o news g → ∀ o' p, p ∈ g o' → p = (a, o') ∨ (p ∈ news ∧ p.1 ≠ a)
 | _, _, .head h, o', p, hp => by
  rcases mc1 hp with e | hp
  ·exact .inl e
  ·exact .inr ⟨.tail _ hp, h p hp⟩
 | _, _, .tail n U, o', p, hp => by
  rcases mc1 hp with e | hp
  ·subst e; exact .inr ⟨.head _, n⟩
  ·rcases upd_mem U o' p hp with e | ⟨e, n'⟩
   ·exact .inl e
   ·exact .inr ⟨.tail _ e, n'⟩
theorem upd_in : ∀ {news : List (Addr × Obj)} {g : Obj → List (Addr × Obj)}, UpdF a o news g → (a, o) ∈ news
 | _, _, .head _ => .head _
 | _, _, .tail _ U => .tail _ (upd_in U)
theorem led1 {mt : List Addr} (N : News h₀ L h news) (U : UpdF a o news g) (hk : ∀ b o, h.get? b = some o → b ∉ [a] → h'.get? b = some o) (ho : h'.get? a = some o') : News h₀ L h' (g o') := by
 intro p hp
 rcases upd_mem U o' p hp with rfl | ⟨hp, n⟩
 k_extra "x248"
 ·exact ⟨hk _ _ (N p hp).1 (fun q => n (ms1 q)), (N p hp).2⟩
theorem led2 (N : News h₀ L h news) (U : UpdF a o news g) (U2 : UpdF b o2 (g o') g2) (hab : a ≠ b) (hk : ∀ x o, h.get? x = some o → x ∉ [a, b] → h'.get? x = some o) (ho : h'.get? a = some o') (ho2 : h'.get? b = some o2') : News h₀ L h' (g2 o2') := by
 intro p hp
 rcases upd_mem U2 o2' p hp with rfl | ⟨hp, n⟩
 ·refine ⟨ho2, ?_⟩
  rcases upd_mem U o' _ (upd_in U2) with e | ⟨e, _⟩
  ·exact absurd (congrArg Prod.fst e).symm hab
  ·exact (N _ e).2
 ·rcases upd_mem U o' p hp with rfl | ⟨hp, n'⟩
  k_extra "x248"
  ·refine ⟨hk _ _ (N p hp).1 (fun q => ?_), (N p hp).2⟩
   k_extra "x186"
   ·exact n' q
   ·exact n (ms1 q)
theorem stay_hid {l : List Addr} (F : Fr h₀ L h m) (N : News h₀ L h news) (S : b₀.StaysIn h₀) (hl : ∀ x ∈ l, x ∈ adrs news) : b₀.StaysIn (hideAll h l) := fun x o e => by
 refine hideAll_get _ (F.keep _ _ (S _ _ e)) fun q => ?_
 refine o1_2 (List.mem_map.mp (hl x q)) fun p hp e' => ?_
 have := (N p hp).2.2
 rw [e', S _ _ e] at this; cases this
theorem hid_stay {l : List Addr} : (hideAll h l).StaysIn h := fun _ _ e => of_hideAll _ e
theorem get_hid {l : List Addr} (N : News h₀ L h news) (hm : (x, o) ∈ news) (hn : x ∉ l) : (hideAll h l).get? x = some o := hideAll_get _ (N _ hm).1 hn
theorem off1 (h : x ≠ a) : x ∉ [a] := fun q => h (ms1 q)
theorem off2 (h : x ≠ a) (h2 : x ≠ b) : x ∉ [a, b] := fun q => by
 rcases mc1 q with q | q
 ·exact h q
 ·exact h2 (ms1 q)
theorem on1 (h : (a, o) ∈ news) : ∀ x ∈ [a], x ∈ adrs news := fun x q => by rw [ms1 q]; exact List.mem_map.mpr ⟨_, h, rfl⟩
theorem on2 (h : (a, o) ∈ news) (h2 : (b, o2) ∈ news) : ∀ x ∈ [a, b], x ∈ adrs news := fun x q => by
 rcases mc1 q with q | q
 ·rw [q]; exact List.mem_map.mpr ⟨_, h, rfl⟩
 ·rw [ms1 q]; exact List.mem_map.mpr ⟨_, h2, rfl⟩
theorem sym_hid {l : List Addr} {ty : Nat} (N : News h₀ L h news) (h1 : (x, instObj 203 dx) ∈ news) (h2 : (dx, symD q kt y ty) ∈ news) (n1 : x ∉ l) (n2 : dx ∉ l) : SymAt (hideAll h l) x y :=
 ⟨dx, q, kt, ty, get_hid N h1 n1, get_hid N h2 n2⟩
include F N X T in
theorem use_evalV {v : Nat → Value} {il at_ : Value} (rm : Rm 5 d u) (S : b₀.StaysIn h₀) (hI : b₀.get? I = some (instObj 1569 dI)) (hS : SymAt b₀ sy y) (hyd : NoDots y) (hE : EnvAt w b₀ ge gnum gfr) (hF : b₀.get? gfr = some gfo) (lo : (gfr == sysModules) = false) (hd : gfo.IsDictOf (strKind thePr w) kvs) (hk : valueAt kvs y = some (.ref c)) (hv : b₀.get? c = some (instObj 182 dc)) (U : UpdF dI (evD q v gl vis) news g) (U2 : UpdF dc (vecD hs (.str kn tk) il at_ (.bool sh) (.bool false)) (g (evD q v gl true)) g2) (hne : @Ne Nat dI dc) (k1 : (kn == "promise") = false) (k2 : (kn == "missing") = false) (k3 : (kn == "dots") = false) (k : ∀ h' tk', Fr h₀ L h' m → let nw := g2 (vecD hs (.str kn tk) il at_ (.bool true) (.bool false)); News h₀ L h' nw → Q (.ref c) { s with heap := h', toks := tk' }) :
  wc w d u 1429 [.ref I, .ref sy, .ref ge] Q E s := by
 have m1 := upd_in U
 have m2 : (dc, vecD hs (.str kn tk) il at_ (.bool sh) (.bool false)) ∈ news := by
  rcases upd_mem U _ _ (upd_in U2) with e | ⟨e, _⟩
  ·exact absurd (congrArg Prod.fst e).symm hne
  ·exact e
 k_extra "x136"
 refine (eval_vec (r := hideAll s.heap [dI, dc]) (X.keeps S0) (T.keeps S0) hid_stay (Sr _ _ hI) (N _ m1).1 (hideAll_none _ (.head _)) (hS.mono Sr) hyd (hE.mono Sr) (Sr _ _ hF) lo hd hk (Sr _ _ hv) (N _ m2).1 (hideAll_none _ (mem_at 1 rfl)) hne k1 k2 k3).use rm fun rv h' tk' hk' hp => ?_
 refine o0_3 hp fun zq0 e1 e2 => ?_
 clear hp
 subst zq0
 exact k h' tk' (hk'.fr F N (on2 m1 m2)) (led2 N U U2 hne hk'.all e1 e2)
include F N X T in
theorem use_evalE {v : Nat → Value} (rm : Rm 5 d u) (S : b₀.StaysIn h₀) (hI : b₀.get? I = some (instObj 1569 dI)) (hS : SymAt b₀ sy y) (hyd : NoDots y) (hE : EnvAt w b₀ ge gnum gfr) (hF : b₀.get? gfr = some gfo) (lo : (gfr == sysModules) = false) (hd : gfo.IsDictOf (strKind thePr w) kvs) (hk : valueAt kvs y = some (.ref c)) (hc : EnvAt w b₀ c num2 fr2) (U : UpdF dI (evD q v gl vis) news g) (k : ∀ h' tk', Fr h₀ L h' m → let nw := g (evD q v gl true); News h₀ L h' nw → Q (.ref c) { s with heap := h', toks := tk' }) :
  wc w d u 1429 [.ref I, .ref sy, .ref ge] Q E s := by
 k_extra "x95"
 refine (eval_env (r := hideAll s.heap [dI]) (X.keeps S0) (T.keeps S0) hid_stay (Sr _ _ hI) (N _ m1).1 (hideAll_none _ (.head _)) (hS.mono Sr) hyd (hE.mono Sr) (Sr _ _ hF) lo hd hk (hc.mono Sr)).use rm fun rv h' tk' hk' hp => ?_
 k_extra "x173"
include F N X T in
theorem use_evalN {v : Nat → Value} (rm : Rm 5 d u) (S : b₀.StaysIn h₀) (hI : b₀.get? I = some (instObj 1569 dI)) (hS : SymAt b₀ sy y) (hyd : NoDots y) (hE : EnvAt w b₀ ge gnum gfr) (hF : b₀.get? gfr = some gfo) (lo : (gfr == sysModules) = false) (hd : gfo.IsDictOf (strKind thePr w) kvs) (hk : valueAt kvs y = some (.ref c)) (hc : NullAt b₀ (.ref c)) (U : UpdF dI (evD q v gl vis) news g) (k : ∀ h' tk', Fr h₀ L h' m → let nw := g (evD q v gl true); News h₀ L h' nw → Q (.ref c) { s with heap := h', toks := tk' }) :
  wc w d u 1429 [.ref I, .ref sy, .ref ge] Q E s := by
 k_extra "x95"
 refine (eval_nul (r := hideAll s.heap [dI]) (X.keeps S0) (T.keeps S0) hid_stay (Sr _ _ hI) (N _ m1).1 (hideAll_none _ (.head _)) (hS.mono Sr) hyd (hE.mono Sr) (Sr _ _ hF) lo hd hk (ValAt.mono (o := none) hc Sr)).use rm fun rv h' tk' hk' hp => ?_
 k_extra "x173"
end
end
theorem mac18 : True := by
 k_with "k_inst" => first | (refine' inst_mixed ?Fq18 ?Sq18 ?h1q18 ?Nq18 ?h2q18; (case Fq18 => k_asm); (case Sq18 => assumption); (case h1q18 => assumption); (case Nq18 => k_asm); (case h2q18 => tb_rel)) | (refine' inst_base ?Fq18 ?Sq18 ?h1q18 ?h2q18; (case Fq18 => k_asm); (case Sq18 => assumption); (case h1q18 => assumption); (case h2q18 => assumption)) | (refine' InstAt.of_news ?Nq18 ?h1q18 ?h2q18; (case Nq18 => k_asm); (case h1q18 => tb_rel); (case h2q18 => tb_rel)) | (refine' InstAt.of_K ?Xq18 ?h1q18 ?h2q18; (case Xq18 => k_in); (case h1q18 => k_is); (case h2q18 => k_is)) | fail "k_inst"
 trivial
local macro_rules |`(tactic|walk_at "")=>`(tactic|skip)
section
local macro_rules | `(tactic| walk_at $s:str) => hk ["gB50", "c3", "c2", "c0"] s
def FigV : Value → Option Int → Prop
 | v, none => v = .none
 | v, some f => ∃ t, v = .int f t
def intOf : Value → Option Int
 | .int f _ => some f
 | _ => none
noncomputable def begR (nm y : Str) : Bool := Txt.slice nm none (some (y.length : Int)) == y
noncomputable def foundR (ps : List (Str × Int)) (y : Str) (ex : Bool) : Option Int := match ps.find? (fun p => p.1 == y) with
 | some p => some p.2
 | none => if ex then none else match ps.filter (fun p => begR p.1 y) with
  | [p] => some p.2
  | _ => none
theorem lines_9 : True := by
 k_with "L70" => (k_here; k_dflt (refine comp_A (by k_asm) (by rfl) (by with_unfolding_all rfl) (by with_unfolding_all rfl) (by decide) (by rfl) (by decide) (by rfl) (by rfl) ?_))
 k_with "L71" => (k_here; k_dflt (refine comp_E (by k_asm) (by with_unfolding_all rfl) (by decide) (by rfl) (by decide) ?_))
 k_with "L72" => ((with_reducible show wpAny _ _ (pyIter (Value.ref _)) (fun it s₂ => CompAt _ _ _ _ _ _ _ _ _ _ _ _ _ it s₂) _ _); refine stop_ ?_; walk_say "COMP")
 k_with "L73" => (k_extra "x59"; refine stop_ ?_; walk_say "TURNS")
 k_with "L74" => (k_here; (with_reducible show wpAny _ _ (eval (PySem.Expr.Name _ _) (compEnvC _ _ _ _)) _ _ _); k_dflt (first | refine ldc_own (by k_asm) (by tb_rel) (by assumption) (by assumption) ?_ | refine lcf_cell (by k_asm) (by rfl) (by tb_rel) (by k_asm) ?_ (by rfl) (by rfl) | refine ldc_global (by k_asm) (by k_asm) (by k_asm) (by k_is) ?_ | refine ldc_built (by k_asm) (by k_asm) (by k_asm) (by k_is) (by boot_by_name) (by decide) ?_))
 k_with "L75" => (refine' EltEnd.intro ?Fz75 ?Nz75 ?hsz75 ?_; (case Fz75 | Nz75 => k_asm); (case hsz75 => (intro p hp; first | (with_reducible exact hp) | ((repeat (with_reducible (first | exact hp | refine' mcm _ ?_ | refine' mal _ ?_))); done) | exact hp | exact mcm _ hp | exact mcm _ (mcm _ hp) | (simp only [List.mem_cons, List.mem_append]; simp [hp]))); refine stop_ ?_; walk_say "ELT")
 k_with "L76" => first | ((with_reducible show TurnP _ _ _ _ _ _ _ Flow.next _); refine' TurnP.intro ?Fz76 ?Nz76 ?_; (case Fz76 => k_asm); (case Nz76 => k_asm); refine stop_ ?_; walk_say "TURNP") | ((with_reducible show TurnP _ _ _ _ _ _ _ (Flow.ret _) _); dsimp only [TurnP])
 k_with "L77" => (k_extra "x47")
 k_with "L78" => ((with_reducible rename ((List.length _ : Nat) : Int) = 1 => hq9); (with_reducible show wpAny _ _ (subscriptTail _ _ (Value.ref _) _) _ _ _); refine stop_ ?_; walk_say "ONE")
 k_with "L79" => ((with_reducible show wpAny _ _ (subscriptTail _ (Expr.Slice none (some _) none _) _ _) _ _ _); (with_reducible rename Fr _ _ _ _ => F'); (with_reducible rename News _ _ _ _ => N'); k_dflt (refine slice_strN_ns (hsz := ?hszz79) (s := ⟨_, _, _, _, _⟩) F' N' ?_); (case hszz79 => k_dflt (exact le_size (by assumption))); intro _ _ _ _ _)
 k_with "gB50exec Assign cons ListComp" => k_extra "L70"
 k_with "gB50eval ListComp" => k_extra "L71"
 k_with "gB50pyIter ref" => first | k_extra "L73" | k_extra "L72"
 k_with "gB50eval Name" => k_extra "L74"
 k_with "gB50EltEnd" => k_extra "L75"
 k_with "gB50TurnP" => k_extra "L76"
 k_with "gB50exec For Tuple Name cons nil" => k_extra "L77"
 k_with "gB50subscriptTail Name Constant ref int" => k_extra "L78"
 k_with "gB50subscriptTail Name Slice str ref" => k_extra "L79"
 trivial
theorem keep31 {α : Type} {a b c d : α} {own : List α} : ∀ p ∈ a :: b :: c :: own, p ∈ a :: b :: c :: d :: own := by
 intro p hp
 simp only [List.mem_cons] at hp ⊢
 rcases hp with h | h | h | h <;> simp [h]
theorem off3' (h : ∀ p ∈ [(a, o)], @Ne Nat p.1 I ∧ @Ne Nat p.1 C ∧ @Ne Nat p.1 D) : a ∉ [I, C, D] := by
 refine o0_3 (h _ (.head _)) fun h1 h2 h3 => ?_
 intro q
 simp only [List.mem_cons, nmn, or_false] at q
 rcases q with q | q | q
 ·exact h1 q
 ·exact h2 q
 ·exact h3 q
theorem take_succ_get {α : Type} {l : List α} {x : α} (h : l[i]? = some x) : l.take (i + 1) = l.take i ++ [x] := by
 rw [List.take_add_one, h]; rfl
theorem found_hit (e : nm = y) (hi : ps[i]? = some (nm, f)) (hj : ∀ j, j < i → ∀ q, ps[j]? = some q → q.1 ≠ y) : foundR ps y ex = some f := by
 have : ps.find? (fun p => p.1 == y) = some (nm, f) := by
  rw [List.find?_eq_some_iff_getElem]
  obtain ⟨hl, e2⟩ := List.getElem?_eq_some_iff.mp hi
  refine ⟨by simp [e], i, hl, e2, fun j hj2 => ?_⟩
  have := hj j hj2 _ (List.getElem?_eq_getElem (by omega))
  simpa using this
 simp [foundR, this]
theorem one_of {l : List (Str × Int)} (o : Option Int) (hl : l.length ≠ 1) : (match l with | [p] => some p.2 | _ => none) = none := by
 rcases l with _ | ⟨p, _ | ⟨q, r⟩⟩
 ·rfl
 ·exact absurd rfl hl
 ·rfl
theorem found_eq (hno : ps.find? (fun p => p.1 == y) = none) : foundR ps y false = match ps.filter (fun p => begR p.1 y) with | [p] => some p.2 | _ => none := by
 unfold foundR; rw [hno]; rfl
theorem found_no (hno : ps.find? (fun p => p.1 == y) = none) (he : ex = false) (e2 : ys.map intOf = (ps.filter fun q => begR q.1 y).map fun q => some q.2) (hn : (ys.length : Int) ≠ 1) : foundR ps y ex = none := by
 k_extra "x236"
 rw [he, found_eq hno]
 exact one_of none fun e => hn (by rw [h1, e]; rfl)
theorem found_one (hno : ps.find? (fun p => p.1 == y) = none) (he : ex = false) (e2 : ys.map intOf = (ps.filter fun q => begR q.1 y).map fun q => some q.2) (hn : (ys.length : Int) = 1) :
  ∃ v0 f t, ys = [v0] ∧ v0 = .int f t ∧ foundR ps y ex = some f := by
 k_extra "x236"
 have h2 : ys.length = 1 := by exact_mod_cast hn
 refine o1_1 (List.length_eq_one_iff.mp h2) fun v0 zq1 => ?_
 subst zq1
 refine o1_1 (List.length_eq_one_iff.mp (h1.symm.trans h2)) fun p hp => ?_
 rw [hp] at e2
 simp only [List.map_cons, List.map_nil, List.cons.injEq, and_true] at e2
 rw [he, found_eq hno, hp]
 cases v0 <;> simp only [intOf, Option.some.injEq, reduceCtorEq] at e2
 subst e2
 exact ⟨_, _, _, rfl, rfl, rfl⟩
theorem le_size (h : n ≤ 1000) : n ≤ sizeLine := by rw [sizeLine_eq]; omega
section
variable {r : Heap}
theorem found_ (X : (K0 w.params).In r) (T : TopRead p loose mg mb r) (st : r.StaysIn s.heap) (hp : PairsAt s.heap pl ps) (hz : ps.length ≤ 900) (hyl : y.length ≤ 1000) (hnl : ∀ p ∈ ps, p.1.length ≤ 1000) :
  Does w 2 (.ref 1606) ⟨[.ref pl, .str y ty, .bool ex], []⟩ (adrs []) s fun rv h' => FigV rv (foundR ps y ex) := by
 w_on
 refine' does_def_c (mt := []) (binds := [("pairs", Value.ref pl), ("word", Value.str y ty), ("exactly", Value.bool ex)]) X T st ?hm ?hr ?ho ?hcd ?hbind ?hkind ?hnd ?_ ?hco ?hgen ?hk ?hl
 k_extra "x111"
 have hpg := hp.mono (Sall Sg)
 refine o1_3 (id hpg) fun items hil hlen hit => ?_
 have hz2 : items.length ≤ 1000 := by omega
 rename Obj => oW
 rename (oW.data = _) => hoW
 k_extra "x253"
 rename Fr _ _ _ _ => Fz
 have Fz2 : Fr g L' h₁ (fun z => if z = Str.ofString "exactly" then some (Value.bool ex) else if z = Str.ofString "pairs" then some (Value.ref pl) else none) := Fz
 clear Fz
 let J1 : Nat → LocMap → Prop := fun i m₁ => (∀ z, z ≠ Str.ofString "figure" → z ≠ Str.ofString "name" → m₁ z = (if z = Str.ofString "exactly" then some (Value.bool ex) else if z = Str.ofString "pairs" then some (Value.ref pl) else none)) ∧ ∀ j, j < i → ∀ q, ps[j]? = some q → q.1 ≠ y
 k_extra "x134"
 refine turns_pairs (L := L') (M := J1) (R := J2) rfl rfl rfl rfl rfl hil hit Fz2 N ⟨fun _ _ _ => rfl, fun _ h => absurd h (Nat.not_lt_zero _)⟩ ?turn ?done
 case turn =>
  intro i v1 v2 m₁ h tk own hi hz1 hz2 Ft Nt
  refine o4_3 hz1 fun nm tn f tf zq4 zq5 hpi => ?_
  clear hz1
  subst zq4
  subst zq5
  refine o0_2 hz2 fun hm hj => ?_
  clear hz2
  rw [loc2 hm] at Ft
  (try fold_depth)
  rename Fr _ _ _ _ => Ft
  rename News _ _ _ _ => Nt
  k_steps
  all_goals unfold Stop
  ·have he : (nm == y) = true := by assumption
   dsimp only [PP]
   rw [found_hit (eq_of_beq he) hpi hj]
   exact ⟨_, rfl⟩
  ·have he : (nm == y) = false := by assumption
   refine ⟨fun z h1 h2 => by k_extra "fm", fun j hj2 q hq => ?_⟩
   rcases Nat.lt_succ_iff_lt_or_eq.mp hj2 with h1 | rfl
   ·exact hj j h1 q hq
   ·rw [hpi] at hq; cases hq; intro e; exact absurd he (by simp [show nm = y from e])
 case done =>
  intro m' h' tk hz1 Ft Nt
  refine o0_2 hz1 fun hm hj => ?_
  clear hz1
  rw [loc2 hm] at Ft
  (try fold_depth)
  rename Fr _ _ _ _ => Ft
  rename News _ _ _ _ => Nt
  k_steps
  unfold Stop
  rename Fr _ _ _ _ => Fy
  rename News _ _ _ _ => Ny
  let J3 : Nat → List Value → Heap → Prop := fun i ys H => H.get? (L' + 1) = some oW ∧ ys.map intOf = (((ps.take i).filter fun q => begR q.1 y).map fun q => some q.2)
  let J4 : Nat → Value → Value → Prop := fun i v1 v2 => ∃ nm tn f tf, v1 = .str nm tn ∧ v2 = .int f tf ∧ ps[i]? = some (nm, f)
  refine comp_list_h (L := L') (J := J3) rfl hil hz2 Fy Ny ?mono ?h0 (fun I => bind_pair (R := J4) rfl rfl rfl (by decide) rfl (fun i v e => hit i v e) (fun i h e => ⟨_, _, e.1⟩)) ?turn ?done
  case mono => intro i ys a b hz1 st'; refine o0_2 hz1 fun q1 q2 => ?_; clear hz1; exact ⟨st' _ _ q1, q2⟩
  case h0 => intro H _ hN'; exact ⟨hN' _ (.head _), by simp⟩
  case turn =>
   intro i v ys H hi hv hz1
   refine o0_2 hz1 fun q1 q2 => ?_
   clear hz1
   refine ⟨[(L' + 1, oW)], fcons q1 fN, fcons ((N _ (.head _)).2.2) fN, ?_⟩
   intro h tk own I oI C oC D m₂ E' hoC hz1 Ft Nt off hIC hmI cov
   refine o2_3 hz1 fun _ _ zq2 e1 e2 => ?_
   clear hz1
   refine o4_3 zq2 fun nm tn f tf zqq4 zqq5 hpi => ?_
   clear zq2
   subst zqq4
   subst zqq5
   dsimp only [List.cons_append, List.nil_append] at Nt
   have hnl' : nm.length ≤ 1000 := hnl _ (List.mem_of_getElem? hpi)
   refine wpAny_tests_one ?_
   k_steps
   ·have hb : begR nm y = true := by assumption
    rename Fr _ _ _ _ => Fe
    rename News _ _ _ _ => Ne
    refine EltEnd.intro Fe Ne keep31 fun H' hs hp => ⟨hp (L' + 1, oW) (by simp) (off3' hmI), ?_⟩
    rw [take_succ_get hpi, List.filter_append, List.map_append, List.map_append, q2]
    simp [hb, intOf]
   ·have hb : begR nm y = false := by assumption
    rename Fr _ _ _ _ => Fe
    rename News _ _ _ _ => Ne
    refine EltEnd.intro Fe Ne keep31 fun H' hs hp => ⟨hp (L' + 1, oW) (by simp) (off3' hmI), ?_⟩
    rw [take_succ_get hpi, List.filter_append, List.map_append, q2]
    simp [hb]
  case done =>
   intro ys H hz1
   refine o0_2 hz1 fun _ e2 => ?_
   clear hz1
   refine ⟨[], fN, fN, ?_⟩
   intro D h tk own Ft Nt off _ cov
   dsimp only [List.nil_append] at Nt
   rw [List.take_of_length_le (Nat.le_of_eq hlen.symm)] at e2
   have hno : ps.find? (fun p => p.1 == y) = none := List.find?_eq_none.mpr fun q hq => by
    obtain ⟨j, hjl, e⟩ := List.getElem_of_mem hq
    have := hj j (by omega) q (by rw [List.getElem?_eq_getElem hjl, e])
    simpa using this
   have hyz : ys.length ≤ 1000 := by
    have h1 := congrArg List.length e2
    have h2 := List.length_filter_le (fun q : Str × Int => begR q.1 y) ps
    simp only [List.length_map] at h1
    omega
   k_steps
   ·unfold Stop
    rename ex = true => he
    dsimp only [PP]
    simp [FigV, foundR, hno, he]
   ·unfold Stop
    rename ex = false => he
    rename ((ys.length : Nat) : Int) ≠ 1 => hn
    dsimp only [PP]
    rw [found_no hno he e2 hn]
    rfl
   ·unfold Stop
    rename ex = false => he
    rename ((ys.length : Nat) : Int) = 1 => hn
    refine o3_3 (found_one hno he e2 hn) fun v0 f0 t0 zq3 zq4 hf0 => ?_
    subst zq3
    subst zq4
    clear hn
    k_steps
    unfold Stop
    dsimp only [PP]
    rw [hf0]
    exact ⟨_, rfl⟩
end
end
local macro_rules |`(tactic|walk_at "")=>`(tactic|skip)
section
local macro_rules | `(tactic| walk_at $s:str) => hk ["gB51", "c3", "c2", "c0"] s
section
variable {r : Heap}
theorem shown_ {c : Value} (X : (K0 w.params).In r) (T : TopRead p loose mg mb r) (st : r.StaysIn s.heap) (hv : ValAt s.heap c fo) :
  Does w 2 (.ref 1601) ⟨[c], []⟩ (adrs []) s fun rv h' => FigV rv fo := by
 cases fo with
 | none =>
  refine o4_3 hv fun a dx hs t zq4 h1 h2 => ?_
  clear hv
  subst zq4
  w_on
  refine' does_def (mt := []) (binds := [("v", Value.ref a)]) X T st ?hm ?hr ?ho ?hcd ?hbind ?hloc ?_ ?hco ?hgen ?hk ?hcell ?hl
  case hl => decide
  case ho => k_is
  case hcd => k_is
  case hm => exact fN
  case hr => exact fN
  case hbind => first | exact BindsTo.of_eq rfl | exact binds_K (X.keeps st) rfl (by k_is) rfl rfl rfl
  case hloc => exact locs rfl
  case hco => exact rfl
  case hgen => exact rfl
  case hk => exact rfl
  case hcell => decide
  intro d u g L' h₁ rm F N Xg Tg Sr Sg Sg' hlt hL PP
  have S : g.StaysIn g := fun _ _ e => e
  have h1g := Sg _ _ h1 nmn
  have h2g := Sg _ _ h2 nmn
  k_steps
  all_goals unfold Stop
  exact rfl
 | some n =>
  refine o5_3 hv fun a dx tk il t zq5 zq6 h3 => ?_
  clear hv
  subst zq5
  refine o2_2 zq6 fun hs sh h1 h2 => ?_
  clear zq6
  w_on
  refine' does_def (mt := []) (binds := [("v", Value.ref a)]) X T st ?hm ?hr ?ho ?hcd ?hbind ?hloc ?_ ?hco ?hgen ?hk ?hcell ?hl
  case hl => decide
  case ho => k_is
  case hcd => k_is
  case hm => exact fN
  case hr => exact fN
  case hbind => first | exact BindsTo.of_eq rfl | exact binds_K (X.keeps st) rfl (by k_is) rfl rfl rfl
  case hloc => exact locs rfl
  case hco => exact rfl
  case hgen => exact rfl
  case hk => exact rfl
  case hcell => decide
  intro d u g L' h₁ rm F N Xg Tg Sr Sg Sg' hlt hL PP
  have S : g.StaysIn g := fun _ _ e => e
  have h1g := Sg _ _ h1 nmn
  have h2g := Sg _ _ h2 nmn
  have h3g := IsList.mono h3 (Sall Sg)
  k_steps
  all_goals unfold Stop
  exact ⟨_, rfl⟩
theorem bean_ {l : List Int} (X : (K0 w.params).In r) (T : TopRead p loose mg mb r) (st : r.StaysIn s.heap) (hb : s.heap.get? bl = some (listOf us.toArray n)) (hr : r.get? bl = none) (hi : IntsAre us l) (hz : us.length ≤ 1000) (hm : 0 < many) :
  Does w 2 (.ref 1587) ⟨[.ref bl, .int many tm], []⟩ (adrs [(bl, listOf us.toArray n)]) s fun rv h' => ∃ us' l' n' k t, h'.get? bl = some (listOf (List.toArray us') n') ∧ IntsAre us' l' ∧ us'.length ≤ us.length ∧ rv = .int k t ∧ 0 ≤ k ∧ k < many := by
 w_on
 refine' does_def (mt := [(bl, listOf us.toArray n)]) (binds := [("beans", Value.ref bl), ("many", Value.int many tm)]) X T st ?hm ?hr ?ho ?hcd ?hbind ?hloc ?_ ?hco ?hgen ?hk ?hcell ?hl
 k_extra "x93"
 case hm => exact fcons hb fN
 case hr => exact fcons hr fN
 k_extra "x84"
 k_extra "x149"
 ·k_extra "x250"
  exact ⟨_, _, _, _, _, (Nz _ (.head _)).1, hi, Nat.le_refl _, rfl, Int.le_refl _, hm⟩
 ·k_extra "x250"
  rename IntsAre _ _ => hi'
  exact ⟨_, _, _, _, _, (Nz _ (.head _)).1, hi', by rw [List.length_dropLast]; omega, rfl, Int.fmod_nonneg_of_pos _ hm, Int.fmod_lt_of_pos _ hm⟩
end
end
local macro_rules |`(tactic|walk_at "")=>`(tactic|skip)
section
local macro_rules | `(tactic| walk_at $s:str) => hk ["gB52", "c3", "c2", "c0"] s
section
variable {env : Env} {x : Str} {Q : Flow → Shared → Prop}
theorem iter_list_h (J : LocMap → Nat → LocMap → Heap → Prop) (hL : env.locals = L) (hh : A.handled = none) (F : Fr h₀ L s.heap m₀) (N : News h₀ L s.heap news) (hm : (l, ol) ∈ news) (hl : s.heap.IsList l items.toArray) (mono : ∀ i m g g', J m₀ i m g → g.StaysIn g' → J m₀ i m g') (h0 : ∀ H : Heap, h₀.StaysIn H → (∀ p ∈ news, H.get? p.1 = some p.2) → J m₀ 0 m₀ H) (turn : ∀ i v m H, i < items.length → items[i]? = some v → J m₀ i m H → ∃ mtO : List (Addr × Obj), (∀ p ∈ mtO, H.get? p.1 = some p.2) ∧ (∀ p ∈ mtO, h₀.get? p.1 = none) ∧ (∀ p ∈ mtO, @Ne Nat p.1 l) ∧
   ∀ h tk own, Fr h₀ L h (fun y => if y = x then some v else m y) → News h₀ L h (mtO ++ own) → OwnOff own (adrs mtO) → Cov (hideAll H (adrs mtO)) h₀ own →
    wpAny (model prog w) A (execs body env) (TurnB h₀ L (hideAll H (adrs mtO)) own (.type "list_iterator") (J m₀ (i + 1)) { s with heap := h, toks := tk } Q) E { s with heap := h, toks := tk }) (done : ∀ m H, J m₀ items.length m H → ∃ mtO : List (Addr × Obj), (∀ p ∈ mtO, H.get? p.1 = some p.2) ∧ (∀ p ∈ mtO, h₀.get? p.1 = none) ∧
   ∀ h tk own, Fr h₀ L h m → News h₀ L h (mtO ++ own) → OwnOff own (adrs mtO) → Cov (hideAll H (adrs mtO)) h₀ own → Q .next { s with heap := h, toks := tk }) :
  wpAny (model prog w) A (pyIter (.ref l)) (fun it s₂ => LoopAtV prog w A h₀ env x body Q E it s₂) E s := by
 subst hL
 refine o0_3 (N _ hm) fun ho hlL _ => ?_
 have hlt : l < s.heap.objs.size := Heap.lt_size ho
 refine wpAny_pyIter_list hl ?_
 have W := Walks.list (prog := prog) (w := w) hh s.heap.objs.size l (Nat.ne_of_lt hlt) items.toArray
 k_extra "x145"
 refine loop_h (itc := .type "list_iterator") (J m₀) W (fun i h st => by refine o0_2 st fun zq0 _ => ?_; clear st; refine o1_3 zq0 fun o e c _ => ?_; clear zq0; exact ⟨o, e, c⟩) (fun hm => ?_) (next_is_new F) mono ?_ (F.push _) (h0 _ ex.1 ex.2) ?_ ?_
 ·k_extra "x172"
  ·exact hlL (ms1 q).symm
 k_extra "x233"
 ·rintro i v m H hi hP hJ
  refine o1_4 (turn i v m H (hsz ▸ hi) (by simpa using hP) hJ) fun mtO a b c go => ?_
  k_extra "x169"
  ·exact absurd (ms1 q) (c p hp)
 ·intro m H hJ
  refine o1_3 (done m H (hsz ▸ hJ)) fun mtO a b go => ?_
  k_extra "x209"
end
theorem ints_of (h : ∀ v ∈ us, ∃ k t, v = Value.int k t) : ∃ l, IntsAre us l := by
 induction us with
 | nil => exact ⟨_, .nil⟩
 | cons v r ih =>
  refine o2_1 (h _ (.head _)) fun k t zq2 => ?_
  subst zq2
  refine o1_1 (ih fun z hz => h z (.tail _ hz)) fun l hl => ?_
  exact ⟨_, .cons k t hl⟩
theorem ints_each {l : List Int} (h : IntsAre us l) : ∀ v ∈ us, ∃ k t, v = Value.int k t := by
 induction h with
 | nil => intro v hv; cases hv
 | cons k t _ ih =>
  intro v hv
  rcases mc1 hv with rfl | hv
  ·exact ⟨k, t, rfl⟩
  ·exact ih v hv
theorem ints_rev {l : List Int} (h : IntsAre us l) : ∃ l', IntsAre us.reverse l' := ints_of fun v hv => ints_each h v (List.mem_reverse.mp hv)
theorem cls_li : Value.type "list" ≠ Value.type "list_iterator" := by decide
theorem cls_ri : Value.type "list" ≠ Value.type "range_iterator" := by decide
theorem off_not {l : List Addr} (off : OwnOff own l) {p : Addr × Obj} (hp : p ∈ own) : p.1 ∉ l := fun q => off p hp _ q rfl
theorem own_in {g H₁ : Heap} {own₂ : List (Addr × Obj)} {l : List Addr} (N : News g L h (mt ++ own)) (off : OwnOff own l) (q : ∀ p ∈ own, H₁.get? p.1 = some p.2) (C : Cov (hideAll H₁ l) g own₂) : ∀ p ∈ own, p ∈ own₂ := fun p hp => by
 rcases C _ _ (hideAll_get _ (q p hp) (off_not off hp)) with e | e
 ·rw [(N p (mar _ hp)).2.2] at e; cases e
 ·exact e
theorem ints_snoc {l : List Int} {k : Int} (h : IntsAre us l) : IntsAre (us ++ [Value.int k t]) (l ++ [k]) := by
 induction h with
 | nil => exact .cons _ _ .nil
 | cons a b _ ih => exact .cons _ _ ih
theorem loc3 {x u : Str} (h : ∀ z, z ≠ x → z ≠ y → z ≠ u → m z = m₀ z) : m = fun z => if z = x then m x else if z = y then m y else if z = u then m u else m₀ z := by
 funext z
 by_cases e : z = x
 ·simp [e]
 ·by_cases e' : z = y
  ·subst e'; simp [e]
  ·by_cases e2 : z = u
   ·subst e2; simp [e, e']
   ·simp [e, e', e2, h z e e' e2]
theorem lines_10 : True := by
 k_with "L80" => (k_extra "x81"; (with_unfolding_all refine' For_invVF lF' ?k1z80 ?k2z80 ?_; (case k1z80 => exact rfl); (case k2z80 => exact rfl); k_whole))
 k_with "L81" => (k_here; (with_reducible show wpAny _ _ (call (Value.builtin _) [Value.ref _]) _ _ _); k_dflt (refine' kl_reverse ?Fz81 ?Nz81 ?ez81 ?Uz81 ?zz81 ?_; (case Fz81 => k_asm); (case Nz81 => k_asm); (case ez81 => exact rfl); (case Uz81 => k_upd); (case zz81 => (rename IntsAre _ _ => hi9; have hl9 := IntsAre.length hi9; simp only [sizeLine_eq]; simp; omega))); intro h' F' N')
 k_with "gB52exec For Name Subscript cons nil" => k_extra "L80"
 k_with "gB52call builtin:list.reverse" => k_extra "L81"
 trivial
section
variable {r : Heap}
theorem beans_ {l : List Int} (X : (K0 w.params).In r) (T : TopRead p loose mg mb r) (st : r.StaysIn s.heap) (hl : s.heap.IsList sl us.toArray) (hi : IntsAre us l) (hz : l.length ≤ 63) :
  Does w 2 (.ref 1580) ⟨[.ref sl], []⟩ (adrs []) s fun rv h' => ∃ bl us' l' n', rv = .ref bl ∧ s.heap.get? bl = none ∧ h'.get? bl = some (listOf (List.toArray us') n') ∧ IntsAre us' l' ∧ us'.length ≤ 140 := by
 w_on
 refine' does_def (mt := []) (binds := [("script", Value.ref sl)]) X T st ?hm ?hr ?ho ?hcd ?hbind ?hloc ?_ ?hco ?hgen ?hk ?hcell ?hl
 k_extra "x85"
 k_extra "x214"
 k_extra "x253"
 rename_i D ws hd Fz Nz l1a hi5 hC hLe
 have l1 : l' < D := l1a (l', listOf #[] 0) mcs
 have hbl0 := (Nz _ (mem_at 1 rfl)).2.2
 have hws : ws.length ≤ 50 := by rw [hi5.length, List.length_take]; omega
 let J1 : LocMap → Nat → LocMap → Heap → Prop := fun m₀ i m H => (∀ z, z ≠ Str.ofString "cell" → z ≠ Str.ofString "heft" → z ≠ Str.ofString "lap" → m z = m₀ z) ∧ ∃ (vs : List Value) (k : List Int) (n : Nat), H.get? l' = some (listOf vs.toArray n) ∧ IntsAre vs k ∧ vs.length ≤ 12 * i
 refine iter_list_h (J := J1) rfl rfl Fz Nz (.head _) (Nz.isList (.head _)) ?mono ?h0 ?turn ?done
 case mono => intro i m a b hz1 st'; refine o0_2 hz1 fun q1 zr => ?_; clear hz1; refine o3_2 zr fun vs k n q2 q3 => ?_; clear zr; exact ⟨q1, vs, k, n, st' _ _ q2, q3⟩
 case h0 => intro H _ hN; exact ⟨fun _ _ _ _ => rfl, [], [], 0, hN _ (mem_at 1 rfl), .nil, Nat.zero_le _⟩
 case turn =>
  intro i v m H hiL hv hz1
  refine o0_2 hz1 fun hm zr => ?_
  clear hz1
  refine o3_3 zr fun vs k n hb1 hb2 hb3 => ?_
  clear zr
  refine ⟨[(l', listOf vs.toArray n)], fcons hb1 fN, fcons ((Nz _ (mem_at 1 rfl)).2.2) fN, fcons (Nat.ne_of_lt l1) fN, ?_⟩
  intro h tk own Ft Nt off C
  rw [loc3 hm] at Ft
  dsimp only [List.cons_append, List.nil_append] at Nt
  refine o2_1 (ints_each hi5 v (List.mem_of_getElem? hv)) fun kv tv zq2 => ?_
  subst zq2
  (try fold_depth)
  rename Fr _ _ _ _ => Ft
  rename News _ _ _ _ => Nt
  k_steps
  all_goals
   unfold Stop
   rename IsRange _ _ _ _ _ _ _ _ => R₃
   rename Fr _ _ _ _ => F₃
   rename News _ _ _ _ => N₃
   let J2 : LocMap → Nat → LocMap → Heap → Prop := fun m₁ j m H => (∀ z, z ≠ Str.ofString "heft" → z ≠ Str.ofString "lap" → m z = m₁ z) ∧ (∃ hv th, m "heft" = some (.int hv th)) ∧ (∀ p ∈ own, H.get? p.1 = some p.2) ∧ ∃ (vs : List Value) (k : List Int) (n : Nat), H.get? l' = some (listOf vs.toArray n) ∧ IntsAre vs k ∧ vs.length ≤ 12 * i + j
   refine iter_range_h (L := L') (n := 12) (J := J2) rfl rfl R₃ (by decide) (by decide) F₃ N₃ ?_ ?_ ?_ ?_
   ·intro j m a b hz1 st'; refine o0_4 hz1 fun q1 q0 q5 zr => ?_; clear hz1; refine o3_2 zr fun vs k n q2 q3 => ?_; clear zr; exact ⟨q1, q0, fun p hp => st' _ _ (q5 p hp), vs, k, n, st' _ _ q2, q3⟩
   ·intro H _ hN; exact ⟨fun _ _ _ => rfl, ⟨_, _, rfl⟩, fun p hp => hN _ (.tail _ hp), vs, k, n, hN _ (.head _), hb2, hb3⟩
   ·intro j tj m₁ H₁ hj hz1
    refine o0_4 hz1 fun hm₁ zq1 ho zr => ?_
    clear hz1
    refine o3_3 zr fun vs₁ k₁ n₁ hc1 hc2 hc3 => ?_
    clear zr
    obtain ⟨hv1, th, hh⟩ := zq1
    refine ⟨[(l', listOf vs₁.toArray n₁)], fcons hc1 fN, fcons hbl0 fN, ?_⟩
    intro h₂ tk₂ own₂ Ft₂ Nt₂ off₂ C₂
    have hsub := own_in (mt := [(l', listOf vs.toArray n)]) Nt off ho C₂
    rw [loc2 hm₁, hh] at Ft₂
    dsimp only [List.cons_append, List.nil_append] at Nt₂
    k_steps
    ·rename Fr _ _ _ _ => F₄
     rename News _ _ _ _ => N₄
     refine TurnB.intro F₄ N₄ (fun p hp => .tail _ (hsub p hp)) fun H' hs hp => ⟨fun z z1 z2 z3 => by k_extra "fm", vs₁ ++ [_], _, _, (hp (l', _) (.head _) cls_li).trans (by rw [List.push_toArray]), ints_snoc hc2, by rw [List.length_append]; simp only [List.length_cons, List.length_nil]; omega⟩
    ·unfold Stop
     intro H' hs hp
     exact ⟨fun z z1 z2 => by k_extra "fm", ⟨_, _, rfl⟩, fun p hp => hs _ _ (hideAll_get _ (ho p hp) (off_not off hp)), vs₁ ++ [_], _, _, (hp (l', _) (.head _) cls_ri).trans (by rw [List.push_toArray]), ints_snoc hc2, by rw [List.length_append]; simp only [List.length_cons, List.length_nil]; omega⟩
   ·intro m₁ H₁ hz1
    refine o0_4 hz1 fun hm₁ zq1 ho zr => ?_
    clear hz1
    refine o3_3 zr fun vs₁ k₁ n₁ hc1 hc2 hc3 => ?_
    clear zr
    obtain ⟨hv1, th, hh⟩ := zq1
    refine ⟨[(l', listOf vs₁.toArray n₁)], fcons hc1 fN, fcons hbl0 fN, ?_⟩
    intro h₂ tk₂ own₂ Ft₂ Nt₂ off₂ C₂
    have hsub := own_in (mt := [(l', listOf vs.toArray n)]) Nt off ho C₂
    rw [loc2 hm₁, hh] at Ft₂
    dsimp only [List.cons_append, List.nil_append] at Nt₂
    k_steps
    rename Fr _ _ _ _ => F₄
    rename News _ _ _ _ => N₄
    refine TurnB.intro F₄ N₄ (fun p hp => .tail _ (hsub p hp)) fun H' hs hp => ⟨fun z z1 z2 z3 => by k_extra "fm", vs₁, _, _, hp (l', _) (.head _) cls_li, hc2, by omega⟩
 case done =>
  intro m H hz1
  refine o0_2 hz1 fun hm zr => ?_
  clear hz1
  refine o3_3 zr fun vs k n hb1 hb2 hb3 => ?_
  clear zr
  refine ⟨[(l', listOf vs.toArray n)], fcons hb1 fN, fcons hbl0 fN, ?_⟩
  intro h tk own Ft Nt off C
  rw [loc3 hm] at Ft
  dsimp only [List.cons_append, List.nil_append] at Nt
  have hvl : k.length ≤ 600 := by rw [← hb2.length]; omega
  clear hi5 hi
  (try fold_depth)
  rename Fr _ _ _ _ => Ft
  rename News _ _ _ _ => Nt
  k_steps
  unfold Stop
  rename News _ _ _ _ => Nf
  rename IntsAre _ (List.take 140 k) => hi7
  refine o1_1 (ints_rev hi7) fun l9 hl9 => ?_
  exact ⟨_, _, l9, 0, rfl, fresh_of Sg Nf (.head _), (Nf _ (.head _)).1, hl9, by rw [List.length_reverse, hi7.length, List.length_take]; omega⟩
end
end
local macro_rules |`(tactic|walk_at "")=>`(tactic|skip)
section
local macro_rules | `(tactic| walk_at $s:str) => hk ["gB21", "c2", "c0"] s
theorem item_z {i : Int} {x : Value} (hl : s.heap.IsList l vs.toArray) (hz : vs.length ≤ 1000) (h0 : 0 ≤ i) (hx : vs[i.toNat]? = some x) (h : Q x s) (hs : subscripted slice false (.ref l) (.int i t) = operate [.ref l, .int i t] (getItem (.ref l) (.int i t)) := by with_unfolding_all rfl) :
  wpAny (model thePr w) A (subscriptTail value slice (.ref l) (.int i t)) Q E s := by
 have hi : i.toNat < vs.length := (List.getElem?_eq_some_iff.mp hx).1
 exact tail_any hl.typeIs slot_list_getitem.lookup (wpAny_getItem_list hl h0 (by omega) (by simpa using hx) h) hs
noncomputable abbrev callD (q : Hq) (kt : Nat) (il tg : Addr) : Obj := dictOf [en (q 0) "kind" (.str "language" kt), en (q 1) "items" (.ref il), en (q 2) "tags" (.ref tg), en (q 3) "attrs" .none, en (q 4) "code" .none] 5
def CallAt (h : Heap) (c : Addr) (items : List Value) : Prop := ∃ dc q kt il tg, h.get? c = some (instObj 225 dc) ∧ h.get? dc = some (callD q kt il tg) ∧ h.IsList il items.toArray
theorem CallAt.mono (H : CallAt h c items) (k : h.StaysIn h') : CallAt h' c items :=
 let ⟨dc, q, kt, il, tg, x, y, z⟩ := H; ⟨dc, q, kt, il, tg, k _ _ x, k _ _ y, IsList.mono z k⟩
def TellsNew (r h h' : Heap) (rv : Value) (fo : Option Int) : Prop := ∃ a b o o2, h.get? a = none ∧ h.get? b = none ∧ h'.get? a = some o ∧ h'.get? b = some o2 ∧ Tells2 r a b o o2 rv fo
theorem tells_at {r : Heap} {v : Value} (ht : Tells2 r a b o o2 v fo) (N : News h₀ L h news) (h1 : (a, o) ∈ news) (h2 : (b, o2) ∈ news) (st : r.StaysIn h) : ValAt h v fo :=
 let ⟨_, _, k⟩ := ht; k h st (News.get N h1) (News.get N h2)
theorem fresh_mt {g : Heap} (Sg : ∀ b o, s.heap.get? b = some o → b ∉ adrs mt → g.get? b = some o) (N : News g L h' news) (hm : (a, o) ∈ news) (hn : a ∉ adrs mt) : s.heap.get? a = none := by
 cases q : s.heap.get? a with
 | none => rfl
 | some o' => have := Sg _ _ q hn; rw [(N _ hm).2.2] at this; cases this
theorem lines_11 : True := by
 k_with "L82" => (k_extra "x50"; refine' use_evalV ?F ?N ?X ?T ?rm ?S ?hI ?hS ?hyd ?hE ?hF ?lo ?hd ?hk ?hv ?U ?U2 ?hne ?k1 ?k2 ?k3 ?_; k_extra "x23"; (case S | hI | hS => assumption); (case hyd => k_extra "x12"); (case hE | hF | lo | hd | hk | hv => assumption); k_extra "x62"; (case hne => k_ne); (case k1 | k2 | k3 => decide); k_whole; intro h' tk' F' nw' N'; k_extra "x29")
 k_with "L83" => (k_extra "x50"; refine' use_evalE ?F ?N ?X ?T ?rm ?S ?hI ?hS ?hyd ?hE ?hF ?lo ?hd ?hk ?hc ?U ?_; k_extra "x42")
 k_with "L84" => (k_extra "x50"; refine' use_evalN ?F ?N ?X ?T ?rm ?S ?hI ?hS ?hyd ?hE ?hF ?lo ?hd ?hk ?hc ?U ?_; k_extra "x42")
 k_with "gB21call ref" => first | k_extra "L84" | k_extra "L83" | k_extra "L82" | k_extra "L69" | k_extra "L68" | k_extra "L67" | k_extra "L66" | k_extra "L65" | k_extra "L64" | k_extra "L62" | k_extra "L61" | k_extra "L60" | k_extra "L59" | k_extra "L58"
 trivial
section
variable {r : Heap}
theorem opened_ (X : (K0 w.params).In r) (T : TopRead p loose mg mb r) (st : r.StaysIn s.heap) (hv : ValAt s.heap (.ref c) fo) :
  Does w 1 (.ref 1145) ⟨[.ref I, .ref c], []⟩ (adrs []) s fun rv h' => rv = .ref c := by
 w_on
 refine' does_def (mt := []) (binds := [("interp", Value.ref I), ("value", Value.ref c)]) X T st ?hm ?hr ?ho ?hcd ?hbind ?hloc ?_ ?hco ?hgen ?hk ?hcell ?hl
 k_extra "x220"
 cases fo with
 | none =>
  refine o4_3 hvg fun c' dx nh nt e hn1 hn2 => ?_
  clear hvg
  cases e
  k_steps
  all_goals unfold Stop
  exact rfl
 | some n =>
  refine o5_3 hvg fun a dx tk il t e zq6 hl => ?_
  clear hvg
  refine o2_2 zq6 fun hs sh hx hd => ?_
  clear zq6
  cases e
  k_steps
  all_goals unfold Stop
  exact rfl
theorem dollar_row {at_ : Value} (X : (K0 w.params).In r) (T : TopRead p loose mg mb r) (st : r.StaysIn s.heap) (hv : VecAt s.heap v dv (.str "list" tk) (.ref il) at_) (hil : s.heap.IsList il items.toArray) (ha : AttsAt w s.heap at_ onm) (hN : NamesOk onm items.length) (hy : y ≠ "") (hIt : ItemsAt r' items fs) :
  Does w 8 (.ref 1042) ⟨[.ref v, .str y ty], []⟩ (adrs []) s fun rv h' => TellsNew r' s.heap h' rv (atPl fs (placeR false (onm.getD []) y)) := by
 w_on
 refine' does_def (mt := []) (binds := [("v", Value.ref v), ("name", Value.str y ty)]) X T st ?hm ?hr ?ho ?hcd ?hbind ?hloc ?_ ?hco ?hgen ?hk ?hcell ?hl
 k_extra "x205"
 k_extra "x168"
 k_extra "x175"
 k_extra "x110"
theorem dollar_box {fr : Addr} (X : (K0 w.params).In r) (T : TopRead p loose mg mb r) (st : r.StaysIn s.heap) (he : EnvAt w s.heap e num fr) (hf : s.heap.get? fr = some o) (lo : (fr == sysModules) = false) (hd : o.IsDictOf (strKind thePr w) kvs) (hB : BoxAt r' kvs ins) :
  Does w 5 (.ref 1042) ⟨[.ref e, .str y ty], []⟩ (adrs []) s fun rv h' => TellsNew r' s.heap h' rv (insR ins y) := by
 w_on
 refine' does_def (mt := []) (binds := [("v", Value.ref e), ("name", Value.str y ty)]) X T st ?hm ?hr ?ho ?hcd ?hbind ?hloc ?_ ?hco ?hgen ?hk ?hcell ?hl
 k_extra "x85"
 k_extra "x197"
 k_extra "x137"
 k_extra "x110"
end
include F N X T in
theorem use_opened (rm : Rm 1 d u) (hv : ValAt s.heap (.ref c) fo) (k : ∀ h' tk, Fr h₀ L h' m → News h₀ L h' news → Q (.ref c) { s with heap := h', toks := tk }) :
  wc w d u 1145 [.ref I, .ref c] Q E s :=
 use_pure rm F N (opened_ X T F.keep hv) fun v h' tk F' N' _ e => by subst e; exact k h' tk F' N'
include F N X T in
theorem use_dolR {at_ : Value} (rm : Rm 8 d u) (hv : VecAt s.heap v dv (.str "list" tk) (.ref il) at_) (hil : s.heap.IsList il items.toArray) (ha : AttsAt w s.heap at_ onm) (hN : NamesOk onm items.length) (hy : y ≠ "") (hIt : ItemsAt r' items fs) (k : ∀ c a b o o2 h' tk, Fr h₀ L h' m → let nw := (a, o) :: (b, o2) :: news; News h₀ L h' nw → (∀ p ∈ news, p.1 ≠ a) → (∀ p ∈ news, p.1 ≠ b) → Tells2 r' a b o o2 (.ref c) (atPl fs (placeR false (onm.getD []) y)) → Q (.ref c) { s with heap := h', toks := tk }) :
  wc w d u 1042 [.ref v, .str y ty] Q E s :=
 use_pure rm F N (dollar_row X T F.keep hv hil ha hN hy hIt) fun rv h' tk F' N' hk ⟨a, b, o, o2, n1, n2, g1, g2, ht⟩ => by
  refine o1_2 (id ht) fun c zq1 _ => ?_
  subst zq1
  exact k c a b o o2 h' tk F' (news_new F (news_new F N' n2 g2) n1 g1) (ne_news N n1) (ne_news N n2) ht
include F N X T in
theorem use_dolB {fr : Addr} (rm : Rm 5 d u) (he : EnvAt w s.heap e num fr) (hf : s.heap.get? fr = some o) (lo : (fr == sysModules) = false) (hd : o.IsDictOf (strKind thePr w) kvs) (hB : BoxAt r' kvs ins) (k : ∀ c a b o o2 h' tk, Fr h₀ L h' m → let nw := (a, o) :: (b, o2) :: news; News h₀ L h' nw → (∀ p ∈ news, p.1 ≠ a) → (∀ p ∈ news, p.1 ≠ b) → Tells2 r' a b o o2 (.ref c) (insR ins y) → Q (.ref c) { s with heap := h', toks := tk }) :
  wc w d u 1042 [.ref e, .str y ty] Q E s :=
 use_pure rm F N (dollar_box X T F.keep he hf lo hd hB) fun rv h' tk F' N' hk ⟨a, b, o, o2, n1, n2, g1, g2, ht⟩ => by
  refine o1_2 (id ht) fun c zq1 _ => ?_
  subst zq1
  exact k c a b o o2 h' tk F' (news_new F (news_new F N' n2 g2) n1 g1) (ne_news N n1) (ne_news N n2) ht
end
local macro_rules |`(tactic|walk_at "")=>`(tactic|skip)
section
local macro_rules | `(tactic| walk_at $s:str) => hk ["gB22", "c2", "c0"] s
theorem lines_12 : True := by
 k_with "L85" => (k_here; (with_reducible show wpAny _ _ (call (Value.ref 1145) [Value.ref _, Value.ref _]) _ _ _); refine' use_opened ?F ?N ?X ?T ?rm ?hv ?_; k_extra "x23"; (case hv => k_dflt (first | exact tells_at (by assumption) (by k_asm) (by tb_rel) (by tb_rel) (stay2 (by k_asm) (by assumption)) | exact tells_at (by assumption) (by k_asm) (by tb_rel) (by tb_rel) (root_in (by k_asm) (by assumption) (by assumption)))); k_extra "x41")
 k_with "L86" => (k_extra "x64"; refine' use_dolR ?F ?N ?X ?T ?rm ?hv ?hil ?ha ?hN ?hy ?hIt ?_; (case hIt => assumption); k_extra "x44"; (case hN | hy => assumption); k_extra "x66")
 k_with "L87" => (k_extra "x64"; refine' use_dolB ?F ?N ?X ?T ?rm ?he ?hf ?lo ?hd ?hB ?_; k_extra "x74"; k_extra "x66")
 k_with "gB22call ref" => first | k_extra "L87" | k_extra "L86" | k_extra "L85" | k_extra "L84" | k_extra "L83" | k_extra "L82" | k_extra "L69" | k_extra "L68" | k_extra "L67" | k_extra "L66" | k_extra "L65" | k_extra "L64" | k_extra "L62" | k_extra "L61" | k_extra "L60" | k_extra "L59" | k_extra "L58"
 trivial
section
variable {r : Heap}
theorem s_dollar_row {v : Nat → Value} {at_ : Value} (X : (K0 w.params).In r) (T : TopRead p loose mg mb r) (st : r.StaysIn s.heap) (hI : r.get? I = some (instObj 1569 dI)) (hdI : s.heap.get? dI = some (evD q v gl vis)) (hrI : r.get? dI = none) (hC : CallAt r cl [x0, .ref sy1, .ref sy2]) (hS1 : SymAt r sy1 "row") (hS2 : SymAt r sy2 y) (hE : EnvAt w r ge gnum gfr) (hF : r.get? gfr = some gfo) (lo : (gfr == sysModules) = false) (hd : gfo.IsDictOf (strKind thePr w) kvs) (hk : valueAt kvs "row" = some (.ref rv)) (hv : r.get? rv = some (instObj 182 dv)) (hdv : s.heap.get? dv = some (vecD hs (.str "list" tk) (.ref il) at_ (.bool sh) (.bool false))) (hrv : r.get? dv = none) (hne : @Ne Nat dI dv) (hil : r.IsList il items.toArray) (ha : AttsAt w r at_ onm) (hN : NamesOk onm items.length) (hr' : r'.StaysIn r) (hIt : ItemsAt r' items fs) (hy : y ≠ "") :
  Does w 10 (.ref 1180) ⟨[.ref I, .ref cl, .ref ge], []⟩ (adrs [(dI, evD q v gl vis), (dv, vecD hs (.str "list" tk) (.ref il) at_ (.bool sh) (.bool false))]) s
   fun rv h' => h'.get? dI = some (evD q v gl true) ∧ h'.get? dv = some (vecD hs (.str "list" tk) (.ref il) at_ (.bool true) (.bool false)) ∧
    TellsNew r' s.heap h' rv (atPl fs (placeR false (onm.getD []) y)) := by
 k_extra "x117"
 k_extra "x256"
 k_extra "x196"
 refine ⟨News.get Nz (by tb_rel), News.get Nz (by tb_rel), _, _, _, _, ?f1, ?f2, ?g1, ?g2, ht⟩
 k_extra "x140"
theorem s_dollar_box {v : Nat → Value} (X : (K0 w.params).In r) (T : TopRead p loose mg mb r) (st : r.StaysIn s.heap) (hI : r.get? I = some (instObj 1569 dI)) (hdI : s.heap.get? dI = some (evD q v gl vis)) (hrI : r.get? dI = none) (hC : CallAt r cl [x0, .ref sy1, .ref sy2]) (hS1 : SymAt r sy1 "box") (hS2 : SymAt r sy2 y) (hE : EnvAt w r ge gnum gfr) (hF : r.get? gfr = some gfo) (lo : (gfr == sysModules) = false) (hd : gfo.IsDictOf (strKind thePr w) kvs) (hk : valueAt kvs "box" = some (.ref b)) (hB : EnvAt w r b bnum bf) (hBF : r.get? bf = some bfo) (lo2 : (bf == sysModules) = false) (hd2 : bfo.IsDictOf (strKind thePr w) bkv) (hr' : r'.StaysIn r) (hBx : BoxAt r' bkv ins) :
  Does w 10 (.ref 1180) ⟨[.ref I, .ref cl, .ref ge], []⟩ (adrs [(dI, evD q v gl vis)]) s
   fun rv h' => h'.get? dI = some (evD q v gl true) ∧ TellsNew r' s.heap h' rv (insR ins y) := by
 w_on
 refine' does_def (mt := [(dI, evD q v gl vis)]) (binds := [("interp", Value.ref I), ("call", Value.ref cl), ("env", Value.ref ge)]) X T st ?hm ?hr ?ho ?hcd ?hbind ?hloc ?_ ?hco ?hgen ?hk ?hcell ?hl
 k_extra "x163"
 k_extra "x196"
 refine ⟨News.get Nz (by tb_rel), _, _, _, _, ?f1, ?f2, ?g1, ?g2, ht⟩
 k_extra "x147"
end
section
variable {g : Obj → List (Addr × Obj)}
theorem call_hid {l : List Addr} {tg : Addr} (N : News h₀ L h news) (h1 : (c, instObj 225 dc) ∈ news) (h2 : (dc, callD q kt il tg) ∈ news) (h3 : (il, listOf vs.toArray n) ∈ news) (n1 : c ∉ l) (n2 : dc ∉ l) (n3 : il ∉ l) : CallAt (hideAll h l) c vs :=
 ⟨dc, q, kt, il, tg, get_hid N h1 n1, get_hid N h2 n2, _, get_hid N h3 n3, rfl, _, rfl⟩
include F N X T in
theorem use_sdR {v : Nat → Value} {at_ : Value} (rm : Rm 10 d u) (S : b₀.StaysIn h₀) (hI : b₀.get? I = some (instObj 1569 dI)) (hC : CallAt (hideAll s.heap [dI, dv]) cl [x0, .ref sy1, .ref sy2]) (hS1 : SymAt (hideAll s.heap [dI, dv]) sy1 "row") (hS2 : SymAt (hideAll s.heap [dI, dv]) sy2 y) (hE : EnvAt w b₀ ge gnum gfr) (hF : b₀.get? gfr = some gfo) (lo : (gfr == sysModules) = false) (hd : gfo.IsDictOf (strKind thePr w) kvs) (hk : valueAt kvs "row" = some (.ref rv)) (hv : b₀.get? rv = some (instObj 182 dv)) (U : UpdF dI (evD q v gl vis) news g) (U2 : UpdF dv (vecD hs (.str "list" tk) (.ref il) at_ (.bool sh) (.bool false)) (g (evD q v gl true)) g2) (hne : @Ne Nat dI dv) (hil : b₀.IsList il items.toArray) (ha : AttsAt w b₀ at_ onm) (hN : NamesOk onm items.length) (Sr' : r'.StaysIn b₀) (hIt : ItemsAt r' items fs) (hy : y ≠ "") (k : ∀ c a b o o2 h' tk', Fr h₀ L h' m → let nw := (a, o) :: (b, o2) :: g2 (vecD hs (.str "list" tk) (.ref il) at_ (.bool true) (.bool false)); News h₀ L h' nw → (∀ p ∈ news, p.1 ≠ a) → (∀ p ∈ news, p.1 ≠ b) → Tells2 r' a b o o2 (.ref c) (atPl fs (placeR false (onm.getD []) y)) → Q (.ref c) { s with heap := h', toks := tk' }) :
  wc w d u 1180 [.ref I, .ref cl, .ref ge] Q E s := by
 k_extra "x115"
 k_extra "x136"
 refine (s_dollar_row (r := hideAll s.heap [dI, dv]) (X.keeps S0) (T.keeps S0) hid_stay (Sr _ _ hI) (N _ m1).1 (hideAll_none _ (.head _)) hC hS1 hS2 (hE.mono Sr) (Sr _ _ hF) lo hd hk (Sr _ _ hv) (N _ m2).1 (hideAll_none _ (mem_at 1 rfl)) hne
  (IsList.mono hil Sr) (ha.mono Sr) hN (fun x o e => Sr _ _ (Sr' _ _ e)) hIt hy).use rm fun rv h' tk' hk' hp => ?_
 refine o0_3 hp fun e1 e2 zr => ?_
 k_extra "x174"
 have F' := hk'.fr F N (on2 m1 m2)
 have N' := led2 N U U2 hne hk'.all e1 e2
 k_extra "x195"
include F N X T in
theorem use_sdB {v : Nat → Value} (rm : Rm 10 d u) (S : b₀.StaysIn h₀) (hI : b₀.get? I = some (instObj 1569 dI)) (hC : CallAt (hideAll s.heap [dI]) cl [x0, .ref sy1, .ref sy2]) (hS1 : SymAt (hideAll s.heap [dI]) sy1 "box") (hS2 : SymAt (hideAll s.heap [dI]) sy2 y) (hE : EnvAt w b₀ ge gnum gfr) (hF : b₀.get? gfr = some gfo) (lo : (gfr == sysModules) = false) (hd : gfo.IsDictOf (strKind thePr w) kvs) (hk : valueAt kvs "box" = some (.ref b)) (hB : EnvAt w b₀ b bnum bf) (hBF : b₀.get? bf = some bfo) (lo2 : (bf == sysModules) = false) (hd2 : bfo.IsDictOf (strKind thePr w) bkv) (Sr' : r'.StaysIn b₀) (hBx : BoxAt r' bkv ins) (U : UpdF dI (evD q v gl vis) news g) (k : ∀ c a b o o2 h' tk', Fr h₀ L h' m → let nw := (a, o) :: (b, o2) :: g (evD q v gl true); News h₀ L h' nw → (∀ p ∈ news, p.1 ≠ a) → (∀ p ∈ news, p.1 ≠ b) → Tells2 r' a b o o2 (.ref c) (insR ins y) → Q (.ref c) { s with heap := h', toks := tk' }) :
  wc w d u 1180 [.ref I, .ref cl, .ref ge] Q E s := by
 k_extra "x95"
 refine (s_dollar_box (r := hideAll s.heap [dI]) (X.keeps S0) (T.keeps S0) hid_stay (Sr _ _ hI) (N _ m1).1 (hideAll_none _ (.head _)) hC hS1 hS2 (hE.mono Sr) (Sr _ _ hF) lo hd hk (hB.mono Sr) (Sr _ _ hBF) lo2 hd2 (fun x o e => Sr _ _ (Sr' _ _ e)) hBx).use rm fun rv h' tk' hk' hp => ?_
 refine o0_2 hp fun e1 zr => ?_
 k_extra "x174"
 k_extra "x226"
 k_extra "x195"
end
end
local macro_rules |`(tactic|walk_at "")=>`(tactic|skip)
section
local macro_rules | `(tactic| walk_at $s:str) => hk ["gB23", "c2", "c0"] s
theorem lines_13 : True := by
 k_with "L88" => (k_here; (with_reducible show wpAny _ _ (call (Value.ref 203) [Value.str _ _]) _ _ _); refine' new_sym ?F ?N ?X ?T ?rm ?_; k_extra "x23"; k_whole; intro x' d' q' t' h' tk' F' nw' N' l1 l2; k_extra "x39")
 k_with "gB23call ref" => first | k_extra "L88" | k_extra "L87" | k_extra "L86" | k_extra "L85" | k_extra "L84" | k_extra "L83" | k_extra "L82" | k_extra "L69" | k_extra "L68" | k_extra "L67" | k_extra "L66" | k_extra "L65" | k_extra "L64" | k_extra "L62" | k_extra "L61" | k_extra "L60" | k_extra "L59" | k_extra "L58"
 trivial
section
variable {r : Heap}
theorem element_row {at_ : Value} (X : (K0 w.params).In r) (T : TopRead p loose mg mb r) (st : r.StaysIn s.heap) (hv : VecAt s.heap v dv (.str "list" tk) (.ref il) at_) (hil : s.heap.IsList il items.toArray) (ha : AttsAt w s.heap at_ onm) (hN : NamesOk onm items.length) (hids : s.heap.IsList ids [Value.ref ix].toArray) (hix : VecAt s.heap ix dix (.str "character" tk2) (.ref ixl) .none) (hxl : s.heap.IsList ixl [Value.str y ty].toArray) (hy : y ≠ "") (hIt : ItemsAt r' items fs) :
  Does w 8 (.ref 1037) ⟨[.ref v, .ref ids, .bool ex], []⟩ (adrs []) s fun rv h' => TellsNew r' s.heap h' rv (atPl fs (placeR ex (onm.getD []) y)) := by
 w_on
 refine' does_def (mt := []) (binds := [("v", Value.ref v), ("indexes", Value.ref ids), ("exact", Value.bool ex)]) X T st ?hm ?hr ?ho ?hcd ?hbind ?hloc ?_ ?hco ?hgen ?hk ?hcell ?hl
 k_extra "x205"
 k_extra "x168"
 k_extra "x181"
 k_extra "x175"
 k_extra "x155"
 k_extra "x110"
theorem element_box {fr : Addr} (X : (K0 w.params).In r) (T : TopRead p loose mg mb r) (st : r.StaysIn s.heap) (he : EnvAt w s.heap e num fr) (hf : s.heap.get? fr = some o) (lo : (fr == sysModules) = false) (hd : o.IsDictOf (strKind thePr w) kvs) (hB : BoxAt r' kvs ins) (hids : s.heap.IsList ids [Value.ref ix].toArray) (hix : VecAt s.heap ix dix (.str "character" tk2) (.ref ixl) .none) (hxl : s.heap.IsList ixl [Value.str y ty].toArray) :
  Does w 8 (.ref 1037) ⟨[.ref e, .ref ids, .bool ex], []⟩ (adrs []) s fun rv h' => TellsNew r' s.heap h' rv (insR ins y) := by
 w_on
 refine' does_def (mt := []) (binds := [("v", Value.ref e), ("indexes", Value.ref ids), ("exact", Value.bool ex)]) X T st ?hm ?hr ?ho ?hcd ?hbind ?hloc ?_ ?hco ?hgen ?hk ?hcell ?hl
 k_extra "x85"
 k_extra "x197"
 k_extra "x181"
 k_extra "x155"
 k_extra "x137"
 k_extra "x110"
def CallNew (h h' : Heap) (c : Addr) (args : List Value) : Prop := ∃ dc il tg q kt x n, h.get? c = none ∧ h.get? dc = none ∧ h.get? il = none ∧ h'.get? c = some (instObj 225 dc) ∧ h'.get? dc = some (callD q kt il tg) ∧ h'.get? il = some (listOf (Value.ref x :: args).toArray n)
theorem CallNew.el {as : List Value} {C : Prop} (H : CallNew h h' c as) (k : ∀ dc il tg q kt x n, h.get? c = none → h.get? dc = none → h.get? il = none → h'.get? c = some (instObj 225 dc) → h'.get? dc = some (callD q kt il tg) → h'.get? il = some (listOf (Value.ref x :: as).toArray n) → C) : C := by
 refine o7_6 H fun dc il tg q kt x n n1 n2 n3 g1 g2 g3 => ?_
 clear H
 exact k dc il tg q kt x n n1 n2 n3 g1 g2 g3
theorem call_of2 (X : (K0 w.params).In r) (T : TopRead p loose mg mb r) (st : r.StaysIn s.heap) (hl : s.heap.IsList l [a1, a2].toArray) :
  Does w 5 (.ref 342) ⟨[.str nm tn, .ref l], []⟩ (adrs []) s fun rv h' => ∃ c, rv = .ref c ∧ CallNew s.heap h' c [a1, a2] := by
 k_extra "x106"
theorem call_of3 (X : (K0 w.params).In r) (T : TopRead p loose mg mb r) (st : r.StaysIn s.heap) (hl : s.heap.IsList l [a1, a2, a3].toArray) :
  Does w 5 (.ref 342) ⟨[.str nm tn, .ref l], []⟩ (adrs []) s fun rv h' => ∃ c, rv = .ref c ∧ CallNew s.heap h' c [a1, a2, a3] := by
 k_extra "x106"
end
section
variable {g : Obj → List (Addr × Obj)}
include F N X T in
theorem use_eleR {at_ : Value} (rm : Rm 8 d u) (hv : VecAt s.heap v dv (.str "list" tk) (.ref il) at_) (hil : s.heap.IsList il items.toArray) (ha : AttsAt w s.heap at_ onm) (hN : NamesOk onm items.length) (hids : s.heap.IsList ids [Value.ref ix].toArray) (hix : VecAt s.heap ix dix (.str "character" tk2) (.ref ixl) .none) (hxl : s.heap.IsList ixl [Value.str y ty].toArray) (hy : y ≠ "") (hIt : ItemsAt r' items fs) (k : ∀ c a b o o2 h' tk, Fr h₀ L h' m → let nw := (a, o) :: (b, o2) :: news; News h₀ L h' nw → (∀ p ∈ news, p.1 ≠ a) → (∀ p ∈ news, p.1 ≠ b) → Tells2 r' a b o o2 (.ref c) (atPl fs (placeR ex (onm.getD []) y)) → Q (.ref c) { s with heap := h', toks := tk }) :
  wc w d u 1037 [.ref v, .ref ids, .bool ex] Q E s :=
 use_pure rm F N (element_row X T F.keep hv hil ha hN hids hix hxl hy hIt) fun rv h' tk F' N' hk ⟨a, b, o, o2, n1, n2, g1, g2, ht⟩ => by
  refine o1_2 (id ht) fun c zq1 _ => ?_
  subst zq1
  exact k c a b o o2 h' tk F' (news_new F (news_new F N' n2 g2) n1 g1) (ne_news N n1) (ne_news N n2) ht
include F N X T in
theorem use_eleB {fr : Addr} (rm : Rm 8 d u) (he : EnvAt w s.heap e num fr) (hf : s.heap.get? fr = some o) (lo : (fr == sysModules) = false) (hd : o.IsDictOf (strKind thePr w) kvs) (hB : BoxAt r' kvs ins) (hids : s.heap.IsList ids [Value.ref ix].toArray) (hix : VecAt s.heap ix dix (.str "character" tk2) (.ref ixl) .none) (hxl : s.heap.IsList ixl [Value.str y ty].toArray) (k : ∀ c a b o o2 h' tk, Fr h₀ L h' m → let nw := (a, o) :: (b, o2) :: news; News h₀ L h' nw → (∀ p ∈ news, p.1 ≠ a) → (∀ p ∈ news, p.1 ≠ b) → Tells2 r' a b o o2 (.ref c) (insR ins y) → Q (.ref c) { s with heap := h', toks := tk }) :
  wc w d u 1037 [.ref e, .ref ids, .bool ex] Q E s :=
 use_pure rm F N (element_box X T F.keep he hf lo hd hB hids hix hxl) fun rv h' tk F' N' hk ⟨a, b, o, o2, n1, n2, g1, g2, ht⟩ => by
  refine o1_2 (id ht) fun c zq1 _ => ?_
  subst zq1
  exact k c a b o o2 h' tk F' (news_new F (news_new F N' n2 g2) n1 g1) (ne_news N n1) (ne_news N n2) ht
include F N X T in
theorem use_call2 (rm : Rm 5 d u) (hl : s.heap.IsList l [a1, a2].toArray) (k : ∀ c dc il tg q kt x n h' tk, Fr h₀ L h' m → let nw := (c, instObj 225 dc) :: (dc, callD q kt il tg) :: (il, listOf [Value.ref x, a1, a2].toArray n) :: news; News h₀ L h' nw → (∀ p ∈ news, p.1 ≠ c) → (∀ p ∈ news, p.1 ≠ dc) → (∀ p ∈ news, p.1 ≠ il) → Q (.ref c) { s with heap := h', toks := tk }) :
  wc w d u 342 [.str nm tn, .ref l] Q E s :=
 use_pure rm F N (call_of2 X T F.keep hl) fun rv h' tk F' N' hk hp => by
  refine o1_2 hp fun c zq1 H => ?_
  clear hp
  subst zq1
  exact H.el fun dc il tg q kt x n n1 n2 n3 g1 g2 g3 => k c dc il tg q kt x n h' tk F' (news_new F (news_new F (news_new F N' n3 g3) n2 g2) n1 g1) (ne_news N n1) (ne_news N n2) (ne_news N n3)
include F N X T in
theorem use_call3 (rm : Rm 5 d u) (hl : s.heap.IsList l [a1, a2, a3].toArray) (k : ∀ c dc il tg q kt x n h' tk, Fr h₀ L h' m → let nw := (c, instObj 225 dc) :: (dc, callD q kt il tg) :: (il, listOf [Value.ref x, a1, a2, a3].toArray n) :: news; News h₀ L h' nw → (∀ p ∈ news, p.1 ≠ c) → (∀ p ∈ news, p.1 ≠ dc) → (∀ p ∈ news, p.1 ≠ il) → Q (.ref c) { s with heap := h', toks := tk }) :
  wc w d u 342 [.str nm tn, .ref l] Q E s :=
 use_pure rm F N (call_of3 X T F.keep hl) fun rv h' tk F' N' hk hp => by
  refine o1_2 hp fun c zq1 H => ?_
  clear hp
  subst zq1
  exact H.el fun dc il tg q kt x n n1 n2 n3 g1 g2 g3 => k c dc il tg q kt x n h' tk F' (news_new F (news_new F (news_new F N' n3 g3) n2 g2) n1 g1) (ne_news N n1) (ne_news N n2) (ne_news N n3)
end
end
local macro_rules |`(tactic|walk_at "")=>`(tactic|skip)
section
local macro_rules | `(tactic| walk_at $s:str) => hk ["gB25", "c2", "c0"] s
section
variable {g : Obj → List (Addr × Obj)}
theorem d_copy {o : Addr} (F : Fr h₀ L s.heap m) (N : News h₀ L s.heap news) (hbig : h₀.NoLimit) (lo : (o == sysModules) = false) (D : s.heap.DictOf (strKind thePr w) o kvs) (hz : kvs.length ≤ 1000) (k : ∀ d h' od, Fr h₀ L h' m → let nw := (d, od) :: news; News h₀ L h' nw → (∀ p ∈ news, p.1 < d) → (d == sysModules) = false → od.IsDictOf (strKind thePr w) kvs → Q (.ref d) { s with heap := h' }) :
  wpAny (model thePr w) A (call (.type "dict") [.ref o]) Q E s := by
 refine PySem.kt_call_dict lo D (by rw [sizeLine_eq]; omega) fun h' hm hs => ?_
 refine o1_2 (Heap.dictOf_iff.mp hm) fun o' ho' hd' => ?_
 have N1 := News.push F N { cls := .type "dict", data := .dict #[] }
 exact k _ h' o' ((F.push _).change hs (N1 _ (.head _)).2.1 (N1.fresh (.head _))) (N1.setHead N.apart hs ho') (fun p hp => Heap.lt_size (N p hp).1) (F.notModules (modules_low hbig)) hd'
end
theorem lines_14 : True := by
 k_with "L89" => (k_here; (with_reducible show wpAny _ _ (call (Value.ref 182) [_, _, _]) _ _ _); refine' new_vec3 ?F ?N ?X ?T ?rm ?_; k_extra "x72")
 k_with "L90" => (k_here; (with_reducible show wpAny _ _ (call (Value.type "dict") [Value.ref _]) _ _ _); k_dflt (refine' d_copy ?Fz90 ?Nz90 ?Bz90 ?lz90 ?Dz90 ?zz90 ?_; (case Fz90 => k_asm); (case Nz90 => k_asm); (case Bz90 => exact TopRead.nolimit (by k_asm)); (case Dz90 => k_tabat); (case lz90 => assumption); (case zz90 => exact Nat.le_of_ble_eq_true rfl); k_whole); intro d' h' o' F' nw' N' l1 lo' hd'; k_extra "x39")
 k_with "gB25call ref" => first | k_extra "L60" | k_extra "L59" | k_extra "L89" | k_extra "L58"
 k_with "gB25call type:dict" => k_extra "L90"
 trivial
section
variable {r : Heap}
theorem copy_none (X : (K0 w.params).In r) (T : TopRead p loose mg mb r) (st : r.StaysIn s.heap) (hv : VecAt s.heap v dv (.str "list" tk) (.ref il) .none) (hil : s.heap.IsList il items.toArray) (hz : items.length ≤ 1000) :
  Does w 4 (.ref 179) ⟨[.ref v], []⟩ (adrs []) s fun rv h' => ∀ C : Prop, (∀ x dx hs il' n, rv = .ref x → s.heap.get? x = none → s.heap.get? dx = none → s.heap.get? il' = none → dx ≠ x → il' ≠ dx → il' ≠ x → h'.get? x = some (instObj 182 dx) → h'.get? dx = some (vecD hs (.str "list" tk) (.ref il') .none (.bool false) (.bool false)) → h'.get? il' = some (listOf items.toArray n) → C) → C := by
 k_extra "x142"
 k_extra "x175"
 k_extra "x86"
 exact fun _ k => k _ _ _ _ _ rfl (fresh_of Sg Nz (.head _)) (fresh_of Sg Nz (mem_at 1 rfl)) (fresh_of Sg Nz (mem_at 2 rfl)) (by k_ne) (by k_ne) (by k_ne) (News.get Nz (.head _)) (News.get Nz (mem_at 1 rfl)) (News.get Nz (mem_at 2 rfl))
theorem copy_some {nv : Value} (X : (K0 w.params).In r) (T : TopRead p loose mg mb r) (st : r.StaysIn s.heap) (hv : VecAt s.heap v dv (.str "list" tk) (.ref il) (.ref ad)) (hil : s.heap.IsList il items.toArray) (hz : items.length ≤ 1000) (lo : (ad == sysModules) = false) (ha : s.heap.get? ad = some o) (hk : o.IsDictOf (strKind thePr w) [("names", nv)]) :
  Does w 4 (.ref 179) ⟨[.ref v], []⟩ (adrs []) s fun rv h' => ∀ C : Prop, (∀ x dx hs il' n ad' od, rv = .ref x → s.heap.get? x = none → s.heap.get? dx = none → s.heap.get? il' = none → s.heap.get? ad' = none → dx ≠ x → il' ≠ dx → il' ≠ x → ad' ≠ dx → ad' ≠ il' → ad' ≠ x → h'.get? x = some (instObj 182 dx) → h'.get? dx = some (vecD hs (.str "list" tk) (.ref il') (.ref ad') (.bool false) (.bool false)) → h'.get? il' = some (listOf items.toArray n) → h'.get? ad' = some od → (ad' == sysModules) = false → od.IsDictOf (strKind thePr w) [("names", nv)] → C) → C := by
 k_extra "x142"
 have hag := Sall Sg _ _ ha
 k_extra "x175"
 k_extra "x86"
 exact fun _ k => k _ _ _ _ _ _ _ rfl (fresh_of Sg Nz (.head _)) (fresh_of Sg Nz (mem_at 1 rfl)) (fresh_of Sg Nz (mem_at 2 rfl)) (fresh_of Sg Nz (mem_at 3 rfl)) (by k_ne) (by k_ne) (by k_ne) (by k_ne) (by k_ne) (by k_ne)
  (News.get Nz (.head _)) (News.get Nz (mem_at 1 rfl)) (News.get Nz (mem_at 2 rfl)) (News.get Nz (mem_at 3 rfl)) (by assumption) (by assumption)
end
section
variable {g : Obj → List (Addr × Obj)}
include F N X T in
theorem use_copyN (rm : Rm 4 d u) (hv : VecAt s.heap v dv (.str "list" tk) (.ref il) .none) (hil : s.heap.IsList il items.toArray) (hz : items.length ≤ 1000) (k : ∀ x dx hs il' n h' tk', Fr h₀ L h' m → let nw := (x, instObj 182 dx) :: (dx, vecD hs (.str "list" tk) (.ref il') .none (.bool false) (.bool false)) :: (il', listOf items.toArray n) :: news; News h₀ L h' nw →
   (∀ p ∈ news, p.1 ≠ x) → (∀ p ∈ news, p.1 ≠ dx) → (∀ p ∈ news, p.1 ≠ il') → @Ne Nat dx x → @Ne Nat il' dx → @Ne Nat il' x → Q (.ref x) { s with heap := h', toks := tk' }) :
  wc w d u 179 [.ref v] Q E s :=
 use_pure rm F N (copy_none X T F.keep hv hil hz) fun rv h' tk' F' N' hk hp => hp _ fun x dx hs il' n e n1 n2 n3 a1 a2 a3 g1 g2 g3 => by
  subst e
  exact k x dx hs il' n h' tk' F' (news_new F (news_new F (news_new F N' n3 g3) n2 g2) n1 g1) (ne_news N n1) (ne_news N n2) (ne_news N n3) a1 a2 a3
include F N X T in
theorem use_copyS {nv : Value} (rm : Rm 4 d u) (hv : VecAt s.heap v dv (.str "list" tk) (.ref il) (.ref ad)) (hil : s.heap.IsList il items.toArray) (hz : items.length ≤ 1000) (ha : s.heap.get? ad = some o) (lo : (ad == sysModules) = false) (hk : o.IsDictOf (strKind thePr w) [("names", nv)]) (k : ∀ x dx hs il' n ad' od h' tk', Fr h₀ L h' m → let nw := (x, instObj 182 dx) :: (dx, vecD hs (.str "list" tk) (.ref il') (.ref ad') (.bool false) (.bool false)) :: (il', listOf items.toArray n) :: (ad', od) :: news; News h₀ L h' nw →
   (∀ p ∈ news, p.1 ≠ x) → (∀ p ∈ news, p.1 ≠ dx) → (∀ p ∈ news, p.1 ≠ il') → (∀ p ∈ news, p.1 ≠ ad') → @Ne Nat dx x → @Ne Nat il' dx → @Ne Nat il' x → @Ne Nat ad' dx → @Ne Nat ad' il' → @Ne Nat ad' x → (ad' == sysModules) = false → od.IsDictOf (strKind thePr w) [("names", nv)] → Q (.ref x) { s with heap := h', toks := tk' }) :
  wc w d u 179 [.ref v] Q E s :=
 use_pure rm F N (copy_some X T F.keep hv hil hz lo ha hk) fun rv h' tk' F' N' hk hp => hp _ fun x dx hs il' n ad' od e n1 n2 n3 n4 a1 a2 a3 a4 a5 a6 g1 g2 g3 g4 lo' hk' => by
  subst e
  exact k x dx hs il' n ad' od h' tk' F' (news_new F (news_new F (news_new F (news_new F N' n4 g4) n3 g3) n2 g2) n1 g1) (ne_news N n1) (ne_news N n2) (ne_news N n3) (ne_news N n4) a1 a2 a3 a4 a5 a6 lo' hk'
end
end
local macro_rules |`(tactic|walk_at "")=>`(tactic|skip)
section
local macro_rules | `(tactic| walk_at $s:str) => hk ["gB26", "c2", "c0"] s
theorem set_lst {v : Value} {Q : Unit → Shared → Prop} (F : Fr h₀ L s.heap m) (N : News h₀ L s.heap news) (U : Upd D (listOf vs.toArray n) (listOf (vs.set k v).toArray n) news news') (hk : k < vs.length) (hz : vs.length ≤ 1000) (h : ∀ h', Fr h₀ L h' m → News h₀ L h' news' → Q () { s with heap := h' }) : wpAny (model thePr w) A (setItem (.ref D) (.int (k : Int) t) v) Q E s := by
 refine o2_4 U.split fun pre post zq2 zq3 a b => ?_
 subst zq2
 subst zq3
 have z := N (D, listOf vs.toArray n) (List.mem_append.mpr (.inr (.head _)))
 refine ki_setAt z.1 (by omega) (by omega) (by rw [List.size_toArray]; omega) (h _ (F.change (Heap.SameBut.update ..) z.2.1 z.2.2) (ki_turn _ N a b ?_ ?_))
 ·show vs.toArray.setIfInBounds (k : Int).toNat v = (vs.set k v).toArray
  apply Array.toList_inj.mp
  simp
 ·simp
theorem lines_15 : True := by
 k_with "L91" => (k_extra "x68"; k_dflt (refine' set_lst ?Fz91 ?Nz91 ?Uz91 ?kz91 ?zz91 ?_; (case Fz91 => k_asm); (case Nz91 => k_asm); (case Uz91 => k_upd); (case kz91 => assumption); (case zz91 => assumption); k_whole); k_extra "x78")
 k_with "L92" => (k_extra "x73"; k_dflt (refine' use_copyS ?F ?N ?X ?T ?rm ?hv ?hil ?hz ?ha ?lo ?hk ?_; (case rm => k_extra "x1"); (case F => k_asm); (case N => k_asm); (case X => k_asm); (case T => k_asm); (case hv => k_dflt (first | exact VecAt.mono (by assumption) (stay2 (by k_asm) (by assumption)) | exact vec_in (by k_asm) (by tb_rel) (by tb_rel) | exact vec_mix (by k_asm) (by assumption) (by assumption) (by k_asm) (by tb_rel))); (case hil => k_dflt (is_list)); (case hz => assumption); (case ha => k_dflt (first | exact News.get (by k_asm) (by tb_rel) | exact stay2 (by k_asm) (by assumption) _ _ (by assumption))); (case lo => assumption); (case hk => assumption); k_whole); intro x' dx' hs' il' n' ad' od' h' tk' F' nw' N' l1 l2 l3 l4 m1 m2 m3 m4 m5 m6 lo' hd'; k_extra "x25")
 k_with "gB26setItem ref int" => k_extra "L91"
 k_with "gB26call ref" => first | k_extra "L92" | k_extra "L61" | k_extra "L60" | k_extra "L59" | k_extra "L89" | k_extra "L58"
 trivial
def RowRest (w : World) (h : Heap) (il : Addr) (at_ : Value) (ps : List (Str × Int)) : Prop :=
 ∃ items onm, h.IsList il items.toArray ∧ AttsAt w h at_ onm ∧ NamesOk onm items.length ∧ ItemsAt h items (ps.map (·.2)) ∧ onm.getD [] = ps.map (·.1)
theorem RowRest.mono {at_ : Value} (H : RowRest w h il at_ ps) (k : h.StaysIn h') : RowRest w h' il at_ ps :=
 let ⟨items, onm, a, b, c, d, e⟩ := H; ⟨items, onm, IsList.mono a k, b.mono k, c, d.mono k, e⟩
def RowNew (w : World) (r' h h' : Heap) (mtN : List (Addr × Obj)) (rv : Value) (ps : List (Str × Int)) : Prop :=
 ∃ x dx hs tk il at_, ∃ extra : List (Addr × Obj), rv = .ref x ∧ h.get? x = none ∧ h.get? dx = none ∧ @Ne Nat dx x ∧ h'.get? x = some (instObj 182 dx) ∧ h'.get? dx = some (vecD hs (.str "list" tk) (.ref il) at_ (.bool false) (.bool false)) ∧
  (∀ p ∈ extra, h.get? p.1 = none ∧ h'.get? p.1 = some p.2 ∧ @Ne Nat p.1 dx ∧ @Ne Nat p.1 x) ∧
  ∀ H : Heap, r'.StaysIn H → (∀ p ∈ mtN, H.get? p.1 = some p.2) → (∀ p ∈ extra, H.get? p.1 = some p.2) → RowRest w H il at_ ps
theorem List.set_getElem_self' {α : Type} {l : List α} {x : α} (h : l[k]? = some x) : l.set k x = l := by
 apply List.ext_getElem?
 intro i
 rw [List.getElem?_set]
 split
 ·next q =>
  subst q
  split
  ·exact h.symm
  ·next q => exact absurd (List.getElem?_eq_some_iff.mp h).1 q
 ·rfl
theorem ItemsAt.set (H : ItemsAt h items fs) {v : Value} (hv : IntVec h v f) : ItemsAt h (items.set k v) (fs.set k f) := by
 refine ⟨by simp [H.1], fun i u e => ?_⟩
 rw [List.getElem?_set] at e
 split at e
 ·next q =>
  subst q
  split at e
  ·next q => cases e; exact ⟨f, by rw [List.getElem?_set_self (H.1 ▸ q)], hv⟩
  ·cases e
 ·next q =>
  refine o1_2 (H.2 i u e) fun f' a b => ?_
  exact ⟨f', by rw [List.getElem?_set_ne q]; exact a, b⟩
theorem ItemsAt.snoc (H : ItemsAt h items fs) {v : Value} (hv : IntVec h v f) : ItemsAt h (items ++ [v]) (fs ++ [f]) := by
 refine ⟨by simp [H.1], fun i u e => ?_⟩
 rcases Nat.lt_trichotomy i items.length with q | q | q
 ·rw [List.getElem?_append_left q] at e
  refine o1_2 (H.2 i u e) fun f' a b => ?_
  exact ⟨f', by rw [List.getElem?_append_left (H.1 ▸ q)]; exact a, b⟩
 ·subst q
  simp at e
  subst e
  exact ⟨f, by rw [H.1]; simp, hv⟩
 ·rw [List.getElem?_eq_none (by simp; omega)] at e; cases e
theorem rowNew {g : Heap} {mt : List Addr} {at_ : Value} (Sg : ∀ b o, h.get? b = some o → b ∉ mt → g.get? b = some o) (N : News g L h' news) (h1 : (x, instObj 182 dx) ∈ news) (h2 : (dx, vecD hs (.str "list" tk) (.ref il) at_ (.bool false) (.bool false)) ∈ news) (o1 : x ∉ mt) (o2 : dx ∉ mt) (ne : @Ne Nat dx x) (he : ∀ p ∈ extra, p ∈ news ∧ p.1 ∉ mt ∧ @Ne Nat p.1 dx ∧ @Ne Nat p.1 x) (row : ∀ H : Heap, r'.StaysIn H → (∀ p ∈ mtN, H.get? p.1 = some p.2) → (∀ p ∈ extra, H.get? p.1 = some p.2) → RowRest w H il at_ ps) : RowNew w r' h h' mtN (.ref x) ps := by
 have fr : ∀ p ∈ news, p.1 ∉ mt → h.get? p.1 = none := fun p hp hn => by
  cases q : h.get? p.1 with
  | none => rfl
  | some o' => have := Sg _ _ q hn; rw [(N _ hp).2.2] at this; cases this
 exact ⟨x, dx, hs, tk, il, at_, extra, rfl, fr _ h1 o1, fr _ h2 o2, ne, News.get N h1, News.get N h2, fun p hp => let ⟨a, b, c, d⟩ := he p hp; ⟨fr _ a b, (N _ a).1, c, d⟩, row⟩
theorem ex1 {mt : List Addr} {l : List (Addr × Obj)} (h : (a, o) ∈ news) (n : a ∉ mt) (n1 : @Ne Nat a dx) (n2 : @Ne Nat a x) (r : ∀ p ∈ l, p ∈ news ∧ p.1 ∉ mt ∧ @Ne Nat p.1 dx ∧ @Ne Nat p.1 x) : ∀ p ∈ (a, o) :: l, p ∈ news ∧ p.1 ∉ mt ∧ @Ne Nat p.1 dx ∧ @Ne Nat p.1 x :=
 fcons ⟨h, n, n1, n2⟩ r
section
variable {r : Heap}
theorem put_hit {val : Addr} {old : Int} (X : (K0 w.params).In r) (T : TopRead p loose mg mb r) (st : r.StaysIn s.heap) (hr' : r'.StaysIn r) (hv : VecAt r v dv (.str "list" tk) (.ref il) (.ref ad)) (hil : r'.IsList il items.toArray) (hN : NamesOk (some xs) items.length) (hk : k < items.length) (lo : (ad == sysModules) = false) (hao : r'.get? ad = some o) (had : o.IsDictOf (strKind thePr w) [("names", .ref nv)]) (hch : CharAt r' nv xs) (hIt : ItemsAt r' items (ps.map (·.2))) (hxs : xs = ps.map (·.1)) (hps : ps[k]? = some (nm, old)) (hval : r'.get? val = some (instObj 182 dval)) (hvil : r'.IsList vil [Value.int f tf].toArray) (hdv : s.heap.get? dval = some (vecD hsv (.str "integer" tk2) (.ref vil) .none (.bool sh) (.bool false))) (hrd : r.get? dval = none) :
  Does w 8 (.ref 1103) ⟨[.ref v, .int k tp, .none, .ref val, .ref nl], []⟩ (adrs [(dval, vecD hsv (.str "integer" tk2) (.ref vil) .none (.bool sh) (.bool false))]) s
     fun rv h' => h'.get? dval = some (vecD hsv (.str "integer" tk2) (.ref vil) .none (.bool true) (.bool false)) ∧
       RowNew w r' s.heap h' [(dval, vecD hsv (.str "integer" tk2) (.ref vil) .none (.bool true) (.bool false))] rv (ps.set k (nm, f)) := by
 w_on
 refine' does_def (mt := [(dval, vecD hsv (.str "integer" tk2) (.ref vil) .none (.bool sh) (.bool false))]) (binds := [("v", Value.ref v), ("place", Value.int k tp), ("name", Value.none), ("value", Value.ref val), ("notes", Value.ref nl)]) X T st ?hm ?hr ?ho ?hcd ?hbind ?hloc ?_ ?hco ?hgen ?hk ?hcell ?hl
 k_extra "x194"
 have hz2 : ((some xs).getD []).length ≤ 1000 := hN.len ▸ hN.small
 have hne := hN.ne
 k_extra "x183"
 k_extra "x128"
 k_extra "x86"
 rename Obj.IsDictOf (strKind thePr w) _ [("names", Value.ref nv)] => hod
 rename (_ == sysModules) = false => lo'
 refine ⟨News.get Nz (by tb_rel), rowNew Sg Nz (.head _) (mem_at 1 rfl) (off1 (by k_ne)) (off1 (by k_ne)) (by k_ne)
  (ex1 (mem_at 2 rfl) (off1 (by k_ne)) (by k_ne) (by k_ne) (ex1 (mem_at 3 rfl) (off1 (by k_ne)) (by k_ne) (by k_ne) fN)) ?row⟩
 case row => exact fun H hH hm he => ⟨items.set k (.ref val), some xs, ⟨_, he _ (.head _), rfl, _, rfl⟩, ⟨_, _, nv, rfl, lo', he _ (mem_at 1 rfl), hod, hch.mono hH⟩, ⟨by rw [List.length_set]; exact hN.len, by rw [List.length_set]; exact hN.small, hN.ne⟩,
  by rw [List.map_set]; exact ItemsAt.set (hIt.mono hH) ⟨_, dval, tk2, vil, tf, rfl, ⟨hsv, true, hH _ _ hval, hm _ (.head _)⟩, IsList.mono hvil hH⟩, by
   show xs = _
   rw [List.map_set, hxs]
   exact (List.set_getElem_self' (by simpa using congrArg (Option.map (·.1)) hps)).symm⟩
end
end
local macro_rules |`(tactic|walk_at "")=>`(tactic|skip)
section
local macro_rules | `(tactic| walk_at $s:str) => hk ["gB27", "c2", "c0"] s
section
variable {g : Obj → List (Addr × Obj)}
theorem ext_lst {n2 : Nat} (F : Fr h₀ L s.heap m) (N : News h₀ L s.heap news) (U : UpdF D (listOf vs.toArray n) news g) (hb : s.heap.get? b = some (listOf us.toArray n2)) (hz : vs.length ≤ 1001) (hz2 : us.length ≤ 1001) {ws : List Value} (e : vs ++ us = ws) (h : ∀ h' n', Fr h₀ L h' m → let nw := g (listOf ws.toArray n'); News h₀ L h' nw → Q .none { s with heap := h' }) : wpAny (model thePr w) A (call (.builtin "list.extend") [.ref D, .ref b]) Q E s := by
 subst e
 refine o2_4 U.split fun pre post zq2 hg a c => ?_
 subst zq2
 refine extend_in F N a c hb (fun h' n' F' N' => h h' n' F' ?_) (by rw [sizeLine_eq]; simp only [List.size_toArray]; omega)
 rw [hg]
 simpa using N'
theorem foldl_rep (items : Array Value) : ∀ (n : Nat) (acc : Array Value), List.foldl (fun x1 x2 => x1 ++ x2) acc (List.replicate n items) = acc ++ (List.replicate n items.toList).flatten.toArray
 | 0, acc => by simp
 | n + 1, acc => by
  rw [List.replicate_succ, List.foldl_cons, foldl_rep items n, List.replicate_succ, List.flatten_cons]
  apply Array.toList_inj.mp
  simp
theorem mul_lst {x : Int} {u : Tok} (F : Fr h₀ L s.heap m) (N : News h₀ L s.heap news) (hl : s.heap.get? l = some (listOf vs.toArray k)) (h0 : 0 ≤ x) (hx : x ≤ 1000) (hz : vs.length ≤ 1) (h : ∀ D h', Fr h₀ L h' m → let nw := (D, listOf (List.replicate x.toNat vs).flatten.toArray 0) :: news; News h₀ L h' nw → (∀ p ∈ news, p.1 < D) → Q (.ref D) { s with heap := h' }) :
  wpAny (model thePr w) A (binaryOp .Mult (.ref l) (.int x u)) Q E s := by
 have e : List.foldl (fun x1 x2 => x1 ++ x2) #[] (List.replicate (if vs.toArray.isEmpty = true then 0 else x.toNat) vs.toArray) = (List.replicate x.toNat vs).flatten.toArray := by
  rw [foldl_rep]
  cases vs with
  | nil => simp
  | cons a r => simp
 refine mul_list F N hl (by omega) (by omega) ?_ fun h' F' N' => ?_
 ·have : vs.toArray.size * x.toNat ≤ 1 * 1000 := Nat.mul_le_mul (by simpa using hz) (by omega)
  omega
 ·rw [e] at N'
  exact h _ h' F' N' fun p hp => Heap.lt_size (N p hp).1
theorem mul_zero {a : Value} {u : Tok} (F : Fr h₀ L s.heap m) (N : News h₀ L s.heap news) (hl : s.heap.get? l = some (listOf [a].toArray k)) (h : ∀ D h', Fr h₀ L h' m → News h₀ L h' ((D, listOf ([] : List Value).toArray 0) :: news) → (∀ p ∈ news, p.1 < D) → Q (.ref D) { s with heap := h' }) :
  wpAny (model thePr w) A (binaryOp .Mult (.ref l) (.int 0 u)) Q E s := mul_lst F N hl (by omega) (by omega) (Nat.le_refl 1) h
theorem sub_k {a b c : Int} {u : Tok} (e : a - b = c) (h : Q (.int c s.toks) { s with toks := s.toks + 1 }) : wpAny (model thePr w) A (binaryOp .Sub (.int a t) (.int b u)) Q E s := sub_int (by rw [e]; exact h)
end
theorem lines_16 : True := by
 k_with "gB27binaryOp Sub int int" => k_extra "L42"
 k_with "gB27binaryOp Mult ref int" => k_extra "L43"
 k_with "gB27call builtin:list.extend" => k_extra "L44"
 k_with "gB27call ref" => first | k_extra "L60" | k_extra "L59" | k_extra "L89" | k_extra "L58"
 trivial
def ExtR (w : World) (h h' : Heap) (il ad : Addr) (items vs : List Value) (y : Str) (ty : Nat) : Prop :=
 ∃ c nvx dnv hsx tkx nlx nx od' n', h'.get? il = some (listOf (items ++ [c]).toArray n') ∧ h'.get? ad = some od' ∧ od'.IsDictOf (strKind thePr w) [("names", .ref nvx)] ∧ h.get? nvx = none ∧ h.get? dnv = none ∧ h.get? nlx = none ∧
  h'.get? nvx = some (instObj 182 dnv) ∧ h'.get? dnv = some (vecD hsx (.str "character" tkx) (.ref nlx) .none (.bool true) (.bool false)) ∧ h'.get? nlx = some (listOf (vs ++ [Value.str y ty]).toArray nx) ∧ @Ne Nat dnv nvx ∧ @Ne Nat nlx dnv ∧ @Ne Nat nlx nvx
theorem ext_push {c : Value} (e : h.get? a = some (listOf (items.toArray.push c) n)) : h.get? a = some (listOf (items ++ [c]).toArray n) := by
 rw [e, List.push_toArray]
section
variable {r : Heap}
theorem ext_some {nv : Value} (X : (K0 w.params).In r) (T : TopRead p loose mg mb r) (st : r.StaysIn s.heap) (hx : r.get? x = some (instObj 182 dx)) (hdx : r.get? dx = some (vecD hs (.str "list" tk) (.ref il) (.ref ad) (.bool sh) (.bool false))) (hil : s.heap.get? il = some (listOf items.toArray n)) (hri : r.get? il = none) (hz : items.length ≤ 900) (had : s.heap.get? ad = some od) (hra : r.get? ad = none) (lo : (ad == sysModules) = false) (hod : od.IsDictOf (strKind thePr w) [("names", nv)]) (hne : @Ne Nat il ad) (hnl : r.IsList nl vs.toArray) (hvs : Strs vs xs) (hlen : xs.length = items.length) (hal : r.get? al = some (listOf [Value.str y ty].toArray na)) :
  Does w 5 (.ref 1063) ⟨[.ref x, .int ((items.length : Int) + 1) tc, .ref nl, .ref al], []⟩ (adrs [(il, listOf items.toArray n), (ad, od)]) s
     fun rv h' => rv = .none ∧ ExtR w s.heap h' il ad items vs y ty := by
 w_on
 refine' does_def (mt := [(il, listOf items.toArray n), (ad, od)]) (binds := [("v", Value.ref x), ("count", Value.int ((items.length : Int) + 1) tc), ("names", Value.ref nl), ("added", Value.ref al)]) X T st ?hm ?hr ?ho ?hcd ?hbind ?hloc ?_ ?hco ?hgen ?hk ?hcell ?hl
 k_extra "x93"
 case hm => exact fcons hil (fcons had fN)
 case hr => exact fcons hri (fcons hra fN)
 k_extra "x84"
 have hxg := Sr _ _ hx
 have hdxg := Sr _ _ hdx
 have hnlg := IsList.mono hnl Sr
 have halg := Sr _ _ hal
 have hz1 : items.length ≤ 1000 := by omega
 have hz2 : vs.length ≤ 1000 := by rw [hvs.length]; omega
 have hz3 : vs.length ≤ 1001 := by omega
 have hz4 : ((vs ++ [Value.str y ty]).length : Int) = (items.length : Int) + 1 := by simp only [List.length_append, List.length_cons, List.length_nil]; rw [hvs.length, hlen]; omega
 have hsb : (items.length : Int) + 1 - ((items.length : Int) + 1) = 0 := by omega
 k_extra "x130"
 rename Obj.IsDictOf (strKind thePr w) _ [("names", Value.ref _)] => hod'
 exact ⟨rfl, _, _, _, _, _, _, _, _, _, ext_push (News.get Nz (by tb_rel)), News.get Nz (by tb_rel), hod', fresh_mt Sg Nz (.head _) (off2 (by k_ne) (by k_ne)), fresh_mt Sg Nz (mem_at 1 rfl) (off2 (by k_ne) (by k_ne)), fresh_mt Sg Nz (mem_at 2 rfl) (off2 (by k_ne) (by k_ne)),
  News.get Nz (.head _), News.get Nz (mem_at 1 rfl), News.get Nz (mem_at 2 rfl), by k_ne, by k_ne, by k_ne⟩
end
section
variable {g : Obj → List (Addr × Obj)}
theorem list_hid {l : List Addr} (N : News h₀ L h news) (hm : (a, listOf vs.toArray n) ∈ news) (hn : a ∉ l) : (hideAll h l).IsList a vs.toArray := ⟨_, get_hid N hm hn, rfl, _, rfl⟩
include F N X T in
theorem use_extS {nv : Value} {g2 : Obj → Obj → List (Addr × Obj)} (rm : Rm 5 d u) (hx : (x, instObj 182 dx) ∈ news) (hdx : (dx, vecD hs (.str "list" tk) (.ref il) (.ref ad) (.bool sh) (.bool false)) ∈ news) (o1 : x ∉ [il, ad]) (o2 : dx ∉ [il, ad]) (U : UpdF il (listOf items.toArray n) news g) (hz : items.length ≤ 900) (U2 : ∀ o, UpdF ad od (g o) (g2 o)) (lo : (ad == sysModules) = false) (hod : od.IsDictOf (strKind thePr w) [("names", nv)]) (hne : @Ne Nat il ad) {onl : Obj} (hnl : ∀ H : Heap, H.get? nl = some onl → NamesV H (.ref nl) xs) (hnm : (nl, onl) ∈ news) (o3 : nl ∉ [il, ad]) (hlen : xs.length = items.length) (hal : (al, listOf [Value.str y ty].toArray na) ∈ news) (o4 : al ∉ [il, ad]) (k : ∀ c nvx dnv hsx tkx nlx nx od' n' vs h' tk', Fr h₀ L h' m → let nw := (nvx, instObj 182 dnv) :: (dnv, vecD hsx (.str "character" tkx) (.ref nlx) .none (.bool true) (.bool false)) :: (nlx, listOf (vs ++ [Value.str y ty]).toArray nx) :: g2 (listOf (items ++ [c]).toArray n') od'; News h₀ L h' nw →
   (∀ p ∈ news, p.1 ≠ nvx) → (∀ p ∈ news, p.1 ≠ dnv) → (∀ p ∈ news, p.1 ≠ nlx) → od'.IsDictOf (strKind thePr w) [("names", .ref nvx)] → Strs vs xs → @Ne Nat dnv nvx → @Ne Nat nlx dnv → @Ne Nat nlx nvx → Q .none { s with heap := h', toks := tk' }) :
  wc w d u 1063 [.ref x, .int ((items.length : Int) + 1) tc, .ref nl, .ref al] Q E s := by
 have m1 := upd_in U
 have m2 : (ad, od) ∈ news := by
  rcases upd_mem U _ _ (upd_in (U2 (listOf items.toArray n))) with e | ⟨e, _⟩
  ·exact absurd (congrArg Prod.fst e).symm hne
  ·exact e
 have S0 := stay_hid F N (fun _ _ e => e) (on2 m1 m2)
 cases hnl _ (get_hid N hnm o3) with
 | some hl hvs hsm hnn =>
  refine (ext_some (r := hideAll s.heap [il, ad]) (X.keeps S0) (T.keeps S0) hid_stay (get_hid N hx o1) (get_hid N hdx o2) (N _ m1).1 (hideAll_none _ (.head _)) hz (N _ m2).1 (hideAll_none _ (mem_at 1 rfl)) lo hod hne hl hvs hlen (get_hid N hal o4)).use rm fun rv h' tk' hk' hp => ?_
  refine o0_2 hp fun zq0 zr => ?_
  clear hp
  refine o8_1 zr fun c nvx dnv hsx tkx nlx nx od' zr => ?_
  refine o1_12 zr fun n' e1 e2 e3 n1 n2 n3 g1 g2' g3 q1 q2 q3 => ?_
  clear zr
  subst zq0
  have F' := hk'.fr F N (on2 m1 m2)
  have N' := led2 N U (U2 _) hne hk'.all e1 e2
  exact k c nvx dnv hsx tkx nlx nx od' n' _ h' tk' F' (news_new F (news_new F (news_new F N' n3 g3) n2 g2') n1 g1) (ne_news N n1) (ne_news N n2) (ne_news N n3) e3 hvs q1 q2 q3
end
end
local macro_rules |`(tactic|walk_at "")=>`(tactic|skip)
section
local macro_rules | `(tactic| walk_at $s:str) => hk ["gB28", "c2", "c0"] s
theorem set_last {α : Type} {l : List α} {c v : α} : (l ++ [c]).set l.length v = l ++ [v] := by simp
theorem Strs.snoc (h : Strs vs xs) (y : Str) (t : Tok) : Strs (vs ++ [.str y t]) (xs ++ [y]) := by
 induction h with
 | nil => exact .cons y t .nil
 | cons x u _ ih => exact .cons x u ih
include F N X T in
theorem use_namesS {il at_ : Value} (rm : Rm 1 d u) (hv : VecAt s.heap x dx (.str "list" tk) il at_) (ha : AttsAt w s.heap at_ (some xs)) (hz : xs.length ≤ 1000) (hne : ∀ x ∈ xs, x ≠ "") (k : ∀ l o h' tk, Fr h₀ L h' m → let nw := (l, o) :: news; News h₀ L h' nw → (∀ p ∈ news, p.1 ≠ l) → (∀ H : Heap, H.get? l = some o → NamesV H (.ref l) xs) → Q (.ref l) { s with heap := h', toks := tk }) :
  wc w d u 410 [.ref x] Q E s := by
 refine o3_5 ha fun ad o nv zq3 lo ho hd zr => ?_
 clear ha
 refine o4_3 zr fun dn tk2 nl vs hn hl hs => ?_
 clear zr
 subst zq3
 refine use_pure rm F N (names_some X T F.keep hv lo ho hd hn hl (hs.length ▸ hz)) fun v h' tk F' N' hk ⟨l, o, e, hf, hg, hL⟩ => ?_
 subst e
 refine k l o h' tk F' (news_new F N' hf hg) (ne_news N hf) fun H hH => .some ?_ hs hz hne
 obtain ⟨o', ho', q⟩ := hL
 rw [hg] at ho'
 cases ho'
 exact ⟨o, hH, q⟩
theorem lines_17 : True := by
 k_with "L93" => (k_extra "x48"; refine' use_namesS ?F ?N ?X ?T ?rm ?hv ?ha ?hz ?hne ?_; k_extra "x83"; intro nv' o' h' tk' F' nw' N' l1 hnv'; k_extra "x25")
 k_with "L94" => (k_here; (with_reducible show wpAny _ _ (call (Value.ref 1063) [Value.ref _, _, Value.ref _, Value.ref _]) _ _ _); k_dflt (refine' use_extS ?F ?N ?X ?T ?rm ?hx ?hdx ?o1 ?o2 ?U ?hz ?U2 ?lo ?hod ?hne ?hnl ?hnm ?o3 ?hlen ?hal ?o4 ?_; (case rm => k_extra "x1"); (case F => k_asm); (case N => k_asm); (case X => k_asm); (case T => k_asm); (case hx => tb_rel); (case hdx => tb_rel); (case o1 => exact off2 (by k_ne) (by k_ne)); (case o2 => exact off2 (by k_ne) (by k_ne)); (case U => k_updF); (case hz => assumption); (case U2 => intro o'; (try dsimp only); k_updF); (case lo => assumption); (case hod => assumption); (case hne => k_ne); (case hnl => assumption); (case hnm => tb_rel); (case o3 => exact off2 (by k_ne) (by k_ne)); (case hlen => assumption); (case hal => tb_rel); (case o4 => exact off2 (by k_ne) (by k_ne)); k_whole); intro c' nvx' dnv' hsx' tkx' nlx' nx' od' n' vs' h' tk' F' nw' N' l1 l2 l3 hod' hvs' q1 q2 q3; k_extra "x29")
 k_with "gB28call ref" => first | k_extra "L94" | k_extra "L92" | k_extra "L93" | k_extra "L60" | k_extra "L59" | k_extra "L89" | k_extra "L58"
 k_with "gB28setItem ref int" => k_extra "L45"
 trivial
section
variable {r : Heap}
theorem put_new {val : Addr} (X : (K0 w.params).In r) (T : TopRead p loose mg mb r) (st : r.StaysIn s.heap) (hr' : r'.StaysIn r) (hv : VecAt r v dv (.str "list" tk) (.ref il) (.ref ad)) (hil : r'.IsList il items.toArray) (hN : NamesOk (some xs) items.length) (hz9 : items.length ≤ 900) (lo : (ad == sysModules) = false) (hao : r'.get? ad = some o) (had : o.IsDictOf (strKind thePr w) [("names", .ref nv)]) (hch : CharAt r' nv xs) (hIt : ItemsAt r' items (ps.map (·.2))) (hxs : xs = ps.map (·.1)) (hy : y ≠ "") (hval : r'.get? val = some (instObj 182 dval)) (hvil : r'.IsList vil [Value.int f tf].toArray) (hdv : s.heap.get? dval = some (vecD hsv (.str "integer" tk2) (.ref vil) .none (.bool sh) (.bool false))) (hrd : r.get? dval = none) :
  Does w 8 (.ref 1103) ⟨[.ref v, .int items.length tp, .str y tn, .ref val, .ref nl], []⟩ (adrs [(dval, vecD hsv (.str "integer" tk2) (.ref vil) .none (.bool sh) (.bool false))]) s
     fun rv h' => h'.get? dval = some (vecD hsv (.str "integer" tk2) (.ref vil) .none (.bool true) (.bool false)) ∧
       RowNew w r' s.heap h' [(dval, vecD hsv (.str "integer" tk2) (.ref vil) .none (.bool true) (.bool false))] rv (ps ++ [(y, f)]) := by
 w_on
 refine' does_def (mt := [(dval, vecD hsv (.str "integer" tk2) (.ref vil) .none (.bool sh) (.bool false))]) (binds := [("v", Value.ref v), ("place", Value.int items.length tp), ("name", Value.str y tn), ("value", Value.ref val), ("notes", Value.ref nl)]) X T st ?hm ?hr ?ho ?hcd ?hbind ?hloc ?_ ?hco ?hgen ?hk ?hcell ?hl
 k_extra "x194"
 k_extra "x257"
 have hz2 : xs.length ≤ 1000 := by have : xs.length = items.length := hN.len; omega
 have hlen : xs.length = items.length := hN.len
 have hii : (items.length : Int) < (items.length : Int) + 1 := by omega
 k_extra "x166"
 rename Strs _ _ => hvs
 refine ⟨News.get Nz (by tb_rel), rowNew Sg Nz (mem_at 4 rfl) (mem_at 5 rfl) (off1 (by k_ne)) (off1 (by k_ne)) (by k_ne)
  (ex1 (mem_at 6 rfl) (off1 (by k_ne)) (by k_ne) (by k_ne) (ex1 (mem_at 7 rfl) (off1 (by k_ne)) (by k_ne) (by k_ne)
   (ex1 (.head _) (off1 (by k_ne)) (by k_ne) (by k_ne) (ex1 (mem_at 1 rfl) (off1 (by k_ne)) (by k_ne) (by k_ne) (ex1 (mem_at 2 rfl) (off1 (by k_ne)) (by k_ne) (by k_ne) fN))))) ?row⟩
 case row => exact fun H hH hm he => ⟨items ++ [.ref val], some (xs ++ [y]), ⟨_, he _ (.head _), rfl, _, by rw [set_last]⟩,
  ⟨_, _, _, rfl, lo', he _ (mem_at 1 rfl), hod, _, _, _, _, ⟨_, true, he _ (mem_at 2 rfl), he _ (mem_at 3 rfl)⟩, ⟨_, he _ (mem_at 4 rfl), rfl, _, rfl⟩, hvs.snoc y _⟩,
  ⟨by show (xs ++ [y]).length = _; rw [List.length_append, List.length_append, hlen]; rfl, by rw [List.length_append, List.length_singleton]; omega, fun z hz => by
   rcases ma1 hz with q | q
   ·exact hN.ne z q
   ·rw [ms1 q]; exact hy⟩,
  by rw [List.map_append]; exact ItemsAt.snoc (hIt.mono hH) ⟨_, dval, tk2, vil, tf, rfl, ⟨hsv, true, hH _ _ hval, hm _ (.head _)⟩, IsList.mono hvil hH⟩, by
   show xs ++ [y] = _
   rw [List.map_append, hxs]; rfl⟩
end
end
local macro_rules |`(tactic|walk_at "")=>`(tactic|skip)
section
local macro_rules | `(tactic| walk_at $s:str) => hk ["gB29", "c3", "c2", "c0"] s
theorem lines_18 : True := by
 k_with "gB29call ref" => first | k_extra "L60" | k_extra "L59" | k_extra "L89" | k_extra "L58"
 trivial
def ExtN (w : World) (h h' : Heap) (il dx : Addr) (hs : H5) (tk : Tok) (sh : Bool) (y : Str) (ty : Nat) : Prop :=
 ∃ c n' ad od' nvx dnv hsx tkx nlx nx, h'.get? il = some (listOf ([c] : List Value).toArray n') ∧ h'.get? dx = some (vecD hs (.str "list" tk) (.ref il) (.ref ad) (.bool sh) (.bool false)) ∧ h'.get? ad = some od' ∧ od'.IsDictOf (strKind thePr w) [("names", .ref nvx)] ∧ (ad == sysModules) = false ∧
  h.get? ad = none ∧ h.get? nvx = none ∧ h.get? dnv = none ∧ h.get? nlx = none ∧
  h'.get? nvx = some (instObj 182 dnv) ∧ h'.get? dnv = some (vecD hsx (.str "character" tkx) (.ref nlx) .none (.bool true) (.bool false)) ∧ h'.get? nlx = some (listOf ([Value.str y ty]).toArray nx) ∧ @Ne Nat dnv nvx ∧ @Ne Nat nlx dnv ∧ @Ne Nat nlx nvx ∧ @Ne Nat ad nvx ∧ @Ne Nat ad dnv ∧ @Ne Nat ad nlx
section
variable {r : Heap}
theorem ext_none (X : (K0 w.params).In r) (T : TopRead p loose mg mb r) (st : r.StaysIn s.heap) (hx : r.get? x = some (instObj 182 dx)) (hdx : s.heap.get? dx = some (vecD hs (.str "list" tk) (.ref il) .none (.bool sh) (.bool false))) (hrx : r.get? dx = none) (hil : s.heap.get? il = some (listOf ([] : List Value).toArray n)) (hri : r.get? il = none) (hne : @Ne Nat il dx) (hal : r.get? al = some (listOf [Value.str y ty].toArray na)) :
  Does w 5 (.ref 1063) ⟨[.ref x, .int 1 tc, .none, .ref al], []⟩ (adrs [(il, listOf ([] : List Value).toArray n), (dx, vecD hs (.str "list" tk) (.ref il) .none (.bool sh) (.bool false))]) s
     fun rv h' => rv = .none ∧ ExtN w s.heap h' il dx hs tk sh y ty := by
 w_on
 refine' does_def (mt := [(il, listOf ([] : List Value).toArray n), (dx, vecD hs (.str "list" tk) (.ref il) .none (.bool sh) (.bool false))]) (binds := [("v", Value.ref x), ("count", Value.int 1 tc), ("names", Value.none), ("added", Value.ref al)]) X T st ?hm ?hr ?ho ?hcd ?hbind ?hloc ?_ ?hco ?hgen ?hk ?hcell ?hl
 k_extra "x93"
 case hm => exact fcons hil (fcons hdx fN)
 case hr => exact fcons hri (fcons hrx fN)
 k_extra "x84"
 have hxg := Sr _ _ hx
 have halg := Sr _ _ hal
 have hsb : (1 : Int) - 1 = 0 := by omega
 k_extra "x130"
 k_extra "x230"
 exact ⟨rfl, _, _, _, _, _, _, _, _, _, _, ext_push (items := []) (News.get Nz (by tb_rel)), News.get Nz (by tb_rel), News.get Nz (.head _), hod, by assumption,
  fresh_mt Sg Nz (.head _) (off2 (by k_ne) (by k_ne)), fresh_mt Sg Nz (mem_at 1 rfl) (off2 (by k_ne) (by k_ne)), fresh_mt Sg Nz (mem_at 2 rfl) (off2 (by k_ne) (by k_ne)), fresh_mt Sg Nz (mem_at 3 rfl) (off2 (by k_ne) (by k_ne)),
  News.get Nz (mem_at 1 rfl), News.get Nz (mem_at 2 rfl), News.get Nz (mem_at 3 rfl), by k_ne, by k_ne, by k_ne, by k_ne, by k_ne, by k_ne⟩
end
section
variable {g : Obj → List (Addr × Obj)}
include F N X T in
theorem use_extN {g2 : Obj → Obj → List (Addr × Obj)} (rm : Rm 5 d u) (hx : (x, instObj 182 dx) ∈ news) (hdx : (dx, vecD hs (.str "list" tk) (.ref il) .none (.bool sh) (.bool false)) ∈ news) (o1 : x ∉ [il, dx]) (U : UpdF il (listOf ([] : List Value).toArray n) news g) (U2 : ∀ o, UpdF dx (vecD hs (.str "list" tk) (.ref il) .none (.bool sh) (.bool false)) (g o) (g2 o)) (hne : @Ne Nat il dx) (hal : (al, listOf [Value.str y ty].toArray na) ∈ news) (o4 : al ∉ [il, dx]) (k : ∀ c ad nvx dnv hsx tkx nlx nx od' n' h' tk', Fr h₀ L h' m → let nw := (ad, od') :: (nvx, instObj 182 dnv) :: (dnv, vecD hsx (.str "character" tkx) (.ref nlx) .none (.bool true) (.bool false)) :: (nlx, listOf ([Value.str y ty]).toArray nx) :: g2 (listOf ([c] : List Value).toArray n') (vecD hs (.str "list" tk) (.ref il) (.ref ad) (.bool sh) (.bool false)); News h₀ L h' nw →
   (∀ p ∈ news, p.1 ≠ ad) → (∀ p ∈ news, p.1 ≠ nvx) → (∀ p ∈ news, p.1 ≠ dnv) → (∀ p ∈ news, p.1 ≠ nlx) → od'.IsDictOf (strKind thePr w) [("names", .ref nvx)] → (ad == sysModules) = false → @Ne Nat dnv nvx → @Ne Nat nlx dnv → @Ne Nat nlx nvx → @Ne Nat ad nvx → @Ne Nat ad dnv → @Ne Nat ad nlx → Q .none { s with heap := h', toks := tk' }) :
  wc w d u 1063 [.ref x, .int 1 tc, .none, .ref al] Q E s := by
 have m1 := upd_in U
 have S0 := stay_hid F N (fun _ _ e => e) (on2 m1 hdx)
 refine (ext_none (r := hideAll s.heap [il, dx]) (X.keeps S0) (T.keeps S0) hid_stay (get_hid N hx o1) (N _ hdx).1 (hideAll_none _ (mem_at 1 rfl)) (N _ m1).1 (hideAll_none _ (.head _)) hne (get_hid N hal o4)).use rm fun rv h' tk' hk' hp => ?_
 k_extra "x238"
 refine o8_1 zr fun c n' ad od' nvx dnv hsx tkx zr => ?_
 refine o2_12 zr fun nlx nx e1 e2 e0 e3 lo n0 n1 n2 n3 g1 g2' zr => ?_
 refine o0_7 zr fun g3 q1 q2 q3 q4 q5 q6 => ?_
 clear zr
 subst zq0
 have F' := hk'.fr F N (on2 m1 hdx)
 have N' := led2 N U (U2 _) hne hk'.all e1 e2
 exact k c ad nvx dnv hsx tkx nlx nx od' n' h' tk' F' (news_new F (news_new F (news_new F (news_new F N' n3 g3) n2 g2') n1 g1) n0 e0) (ne_news N n0) (ne_news N n1) (ne_news N n2) (ne_news N n3) e3 lo q1 q2 q3 q4 q5 q6
end
end
local macro_rules |`(tactic|walk_at "")=>`(tactic|skip)
section
local macro_rules | `(tactic| walk_at $s:str) => hk ["gB30", "c3", "c2", "c0"] s
include F N X T in
theorem use_namesN {il : Value} (rm : Rm 1 d u) (hv : VecAt s.heap x dx (.str "list" tk) il .none) (k : ∀ h' tk, Fr h₀ L h' m → News h₀ L h' news → Q .none { s with heap := h', toks := tk }) :
  wc w d u 410 [.ref x] Q E s :=
 use_pure rm F N (names_none X T F.keep hv) fun v h' tk F' N' hk e => by subst e; exact k h' tk F' N'
theorem lines_19 : True := by
 k_with "L95" => (k_extra "x48"; refine' use_namesN ?F ?N ?X ?T ?rm ?hv ?_; k_extra "x23"; (case hv => k_extra "x2"); k_extra "x41")
 k_with "L96" => (k_extra "x73"; k_dflt (refine' use_copyN ?F ?N ?X ?T ?rm ?hv ?hil ?hz ?_; (case rm => k_extra "x1"); (case F => k_asm); (case N => k_asm); (case X => k_asm); (case T => k_asm); (case hv => k_dflt (first | exact VecAt.mono (by assumption) (stay2 (by k_asm) (by assumption)) | exact vec_in (by k_asm) (by tb_rel) (by tb_rel) | exact vec_mix (by k_asm) (by assumption) (by assumption) (by k_asm) (by tb_rel))); (case hil => k_dflt (is_list)); (case hz => assumption); k_whole); intro x' dx' hs' il' n' h' tk' F' nw' N' l1 l2 l3 m1 m2 m3; k_extra "x25")
 k_with "L97" => (k_here; (with_reducible show wpAny _ _ (call (Value.ref 1063) [Value.ref _, _, Value.none, Value.ref _]) _ _ _); k_dflt (refine' use_extN ?F ?N ?X ?T ?rm ?hx ?hdx ?o1 ?U ?U2 ?hne ?hal ?o4 ?_; (case rm => k_extra "x1"); (case F => k_asm); (case N => k_asm); (case X => k_asm); (case T => k_asm); (case hx => tb_rel); (case hdx => tb_rel); (case o1 => exact off2 (by k_ne) (by k_ne)); (case U => k_updF); (case U2 => intro o'; (try dsimp only); k_updF); (case hne => k_ne); (case hal => tb_rel); (case o4 => exact off2 (by k_ne) (by k_ne)); k_whole); intro c' ad' nvx' dnv' hsx' tkx' nlx' nx' od' n' h' tk' F' nw' N' l1 l2 l3 l4 hod' lo' q1 q2 q3 q4 q5 q6; k_extra "x29")
 k_with "gB30call ref" => first | k_extra "L97" | k_extra "L96" | k_extra "L95" | k_extra "L60" | k_extra "L59" | k_extra "L89" | k_extra "L58"
 trivial
section
variable {r : Heap}
theorem put_new0 {val : Addr} (X : (K0 w.params).In r) (T : TopRead p loose mg mb r) (st : r.StaysIn s.heap) (hr' : r'.StaysIn r) (hv : VecAt r v dv (.str "list" tk) (.ref il) .none) (hil : r'.IsList il ([] : List Value).toArray) (hy : y ≠ "") (hval : r'.get? val = some (instObj 182 dval)) (hvil : r'.IsList vil [Value.int f tf].toArray) (hdv : s.heap.get? dval = some (vecD hsv (.str "integer" tk2) (.ref vil) .none (.bool sh) (.bool false))) (hrd : r.get? dval = none) :
  Does w 8 (.ref 1103) ⟨[.ref v, .int 0 tp, .str y tn, .ref val, .ref nl], []⟩ (adrs [(dval, vecD hsv (.str "integer" tk2) (.ref vil) .none (.bool sh) (.bool false))]) s
     fun rv h' => h'.get? dval = some (vecD hsv (.str "integer" tk2) (.ref vil) .none (.bool true) (.bool false)) ∧
       RowNew w r' s.heap h' [(dval, vecD hsv (.str "integer" tk2) (.ref vil) .none (.bool true) (.bool false))] rv [(y, f)] := by
 w_on
 refine' does_def (mt := [(dval, vecD hsv (.str "integer" tk2) (.ref vil) .none (.bool sh) (.bool false))]) (binds := [("v", Value.ref v), ("place", Value.int 0 tp), ("name", Value.str y tn), ("value", Value.ref val), ("notes", Value.ref nl)]) X T st ?hm ?hr ?ho ?hcd ?hbind ?hloc ?_ ?hco ?hgen ?hk ?hcell ?hl
 k_extra "x90"
 k_extra "x223"
 have hz : ([] : List Value).length ≤ 1000 := Nat.le_of_ble_eq_true rfl
 k_extra "x166"
 refine ⟨News.get Nz (by tb_rel), rowNew Sg Nz (mem_at 5 rfl) (mem_at 6 rfl) (off1 (by k_ne)) (off1 (by k_ne)) (by k_ne)
  (ex1 (mem_at 7 rfl) (off1 (by k_ne)) (by k_ne) (by k_ne) (ex1 (.head _) (off1 (by k_ne)) (by k_ne) (by k_ne) (ex1 (mem_at 1 rfl) (off1 (by k_ne)) (by k_ne) (by k_ne) (ex1 (mem_at 2 rfl) (off1 (by k_ne)) (by k_ne) (by k_ne) (ex1 (mem_at 3 rfl) (off1 (by k_ne)) (by k_ne) (by k_ne) fN))))) ?row⟩
 case row => exact fun H hH hm he => ⟨[.ref val], some [y], ⟨_, he _ (.head _), rfl, _, rfl⟩,
  ⟨_, _, _, rfl, lo', he _ (mem_at 1 rfl), hod, _, _, _, _, ⟨_, true, he _ (mem_at 2 rfl), he _ (mem_at 3 rfl)⟩, ⟨_, he _ (mem_at 4 rfl), rfl, _, rfl⟩, .cons y _ .nil⟩,
  ⟨rfl, Nat.le_of_ble_eq_true rfl, fun z hz => by rw [ms1 hz]; exact hy⟩,
  ItemsAt.snoc (items := []) (fs := []) ⟨rfl, fun k v e => by simp at e⟩ ⟨_, dval, tk2, vil, tf, rfl, ⟨hsv, true, hH _ _ hval, hm _ (.head _)⟩, IsList.mono hvil hH⟩, rfl⟩
end
end
section
section
variable {env : Env} {x : Str} {Q : Flow → Shared → Prop}
theorem iter_dict_h {d : Addr} (J : LocMap → Nat → LocMap → Heap → Prop) (hL : env.locals = L) (hh : A.handled = none) (hd0 : (d == sysModules) = false) (hb : h₀.get? d = some od) (hk : od.IsDictOf (strKind thePr w) kvs) (F : Fr h₀ L s.heap m₀) (N : News h₀ L s.heap news) (mono : ∀ i m g g', J m₀ i m g → g.StaysIn g' → J m₀ i m g') (h0 : ∀ H : Heap, h₀.StaysIn H → (∀ p ∈ news, H.get? p.1 = some p.2) → J m₀ 0 m₀ H) (turn : ∀ i k u v m H, kvs[i]? = some (k, u) → (strKind thePr w).is k v = true → J m₀ i m H → ∃ mtO : List (Addr × Obj), (∀ p ∈ mtO, H.get? p.1 = some p.2) ∧ (∀ p ∈ mtO, h₀.get? p.1 = none) ∧
   ∀ h tk own, Fr h₀ L h (fun y => if y = x then some v else m y) → News h₀ L h (mtO ++ own) → OwnOff own (adrs mtO) → Cov (hideAll H (adrs mtO)) h₀ own →
    wpAny (model thePr w) A (execs body env) (TurnB h₀ L (hideAll H (adrs mtO)) own (.type "dict_keyiterator") (J m₀ (i + 1)) { s with heap := h, toks := tk } Q) E { s with heap := h, toks := tk }) (done : ∀ m H, J m₀ kvs.length m H → ∃ mtO : List (Addr × Obj), (∀ p ∈ mtO, H.get? p.1 = some p.2) ∧ (∀ p ∈ mtO, h₀.get? p.1 = none) ∧
   ∀ h tk own, Fr h₀ L h m → News h₀ L h (mtO ++ own) → OwnOff own (adrs mtO) → Cov (hideAll H (adrs mtO)) h₀ own → Q .next { s with heap := h, toks := tk }) :
  wpAny (model thePr w) A (pyIter (.ref d)) (fun it s₂ => LoopAtV thePr w A h₀ env x body Q E it s₂) E s := by
 subst hL
 refine o1_1 (Heap.DictOf.dictAt (Heap.dictOf_iff.mpr ⟨od, F.keep _ _ hb, hk⟩)) fun ep hat => ?_
 refine wpAny_pyIter_dict hd0 hat ?_
 have hdl : d < s.heap.objs.size := Heap.lt_size (F.keep _ _ hb)
 k_extra "x127"
 refine loop_h (itc := .type "dict_keyiterator") (J m₀) W (fun i h st => ?_) (fun hm => ?_) (next_is_new F) mono ?_ (F.push _) (h0 _ ex.1 ex.2) ?_ ?_
 k_extra "x184"
 ·k_extra "x172"
  ·have q := ms1 q
   exact Nat.ne_of_lt (Nat.lt_of_lt_of_le (Heap.lt_size hb) F.above) q.symm
 k_extra "x231"
 ·k_extra "x227"
  refine o1_3 (turn i k u v m H hku hkv hJ) fun mtO a b go => ?_
  k_extra "x169"
  ·have q := ms1 q
   have := b p hp
   rw [q, hb] at this; cases this
 k_extra "x118"
end
end
local macro_rules |`(tactic|walk_at "")=>`(tactic|skip)
section
local macro_rules | `(tactic| walk_at $s:str) => hk ["gB31", "c3", "c2", "c0"] s
section
variable {g : Obj → List (Addr × Obj)}
theorem lst_of {items : Array Value} (f : ∀ H : Heap, H.get? a = some o → H.IsList a items) (N : News h₀ L h news) (hm : (a, o) ∈ news) : h.IsList a items := f _ (News.get N hm)
theorem gone_is (k i : Nat) : (valueAt (stored ([] : List (Int × Value)) (k : Int) (.bool true)) (i : Int)).isSome = decide (i = k) := by
 rw [va_stored, va_nil]
 by_cases h : i = k
 ·subst h; simp
 ·have : ¬ (i : Int) = (k : Int) := by omega
  simp [h, this]
theorem er_take_ne {α : Type} {l : List α} {x : α} (hx : l[i]? = some x) (h : i ≠ k) : (l.take (i + 1)).eraseIdx k = (l.take i).eraseIdx k ++ [x] := by
 rw [take_snoc hx]
 have hi : i < l.length := (List.getElem?_eq_some_iff.mp hx).1
 have hl : (l.take i).length = i := by rw [List.length_take]; omega
 rcases Nat.lt_or_gt_of_ne h with q | q
 ·rw [List.eraseIdx_of_length_le (by simp; omega), List.eraseIdx_of_length_le (by omega)]
 ·rw [List.eraseIdx_append_of_lt_length (by omega)]
theorem er_take_eq {α : Type} {l : List α} {x : α} (hx : l[k]? = some x) : (l.take (k + 1)).eraseIdx k = (l.take k).eraseIdx k := by
 rw [take_snoc hx]
 have hi : k < l.length := (List.getElem?_eq_some_iff.mp hx).1
 have hl : (l.take k).length = k := by rw [List.length_take]; omega
 rw [List.eraseIdx_append_of_length_le (by omega), hl, List.eraseIdx_of_length_le (l := l.take k) (by omega)]
 simp
theorem list_ne_it : (listOf its n).cls ≠ .type "range_iterator" := fun e => by
 have e := Value.type.inj e
 exact absurd e (by decide)
theorem lst_ne_it (ho : h.get? a = some o) (H : h.IsList a its) : o.cls ≠ .type "range_iterator" := fun e => by
 refine o1_3 H fun o' ho' hc _ => ?_
 clear H
 rw [ho] at ho'
 cases ho'
 rw [hc] at e
 exact absurd (Value.type.inj e) (by decide)
theorem map_erase {α β : Type} (f : α → β) : ∀ (l : List α) (k : Nat), (l.eraseIdx k).map f = (l.map f).eraseIdx k
 | [], _ => rfl
 | _ :: _, 0 => rfl
 | a :: l, k + 1 => by simp [map_erase f l k]
theorem Strs.erase (h : Strs vs xs) : ∀ k, Strs (vs.eraseIdx k) (xs.eraseIdx k) := by
 induction h with
 | nil => intro k; exact .nil
 | cons x t h ih => intro k; cases k with
  | zero => exact h
  | succ k => exact .cons x t (ih k)
theorem ItemsAt.erase (H : ItemsAt h items fs) (k : Nat) : ItemsAt h (items.eraseIdx k) (fs.eraseIdx k) := by
 refine ⟨by rw [List.length_eraseIdx, List.length_eraseIdx, H.1], fun i v e => ?_⟩
 rw [List.getElem?_eraseIdx] at e
 rw [List.getElem?_eraseIdx]
 split at e
 ·next q => rw [if_pos q]; exact H.2 _ _ e
 ·next q => rw [if_neg q]; exact H.2 _ _ e
theorem NamesV.lst (H : NamesV h (.ref l) xs) : ∃ vs, h.IsList l vs.toArray ∧ Strs vs xs := by
 cases H with
 | some a b c d => exact ⟨_, a, b⟩
theorem IsList.uniq (ho : h.get? a = some o) (H : h.IsList a its) (ho' : h'.get? a = some o) : h'.IsList a its := by
 refine o1_2 H fun o2 e r => ?_
 clear H
 rw [ho] at e
 cases e
 exact ⟨o, ho', r⟩
end
theorem lines_20 : True := by
 k_with "L98" => (k_here; k_dflt (refine' kda_set (knd := intKind thePr _) ?Fz98 ?Nz98 ?Uz98 ?dz98 (intKind_is _ _ _ _) ?zz98 ?_; (case Fz98 => k_asm); (case Nz98 => k_asm); (case Uz98 => k_updF); (case dz98 => assumption); (case zz98 => (first | (simp only [sizeLine_eq]; omega) | exact Nat.zero_le _ | (simp only [sizeLine_eq, List.length_cons, List.length_nil]; omega))); k_whole); intro h' o' F' N' d'; k_extra "x29")
 k_with "L99" => (k_extra "x47")
 k_with "gB31call ref" => first | k_extra "L93" | k_extra "L60" | k_extra "L59" | k_extra "L89" | k_extra "L58"
 k_with "gB31setItem ref int" => k_extra "L98"
 k_with "gB31exec For Name Name cons nil" => k_extra "L99"
 trivial
theorem mac19 : True := by
 k_with "is_list" => first | exact News.isList (by k_asm) (by tb_rel) | exact lst_base (by k_asm) (by assumption) (by assumption) | exact lst_of (by assumption) (by k_asm) (by tb_rel) | fail "is_list"
 trivial
theorem lines_21 : True := by
 k_with "L100" => (k_here; (with_reducible show wpAny _ _ (call (Value.builtin _) [Value.ref _, _]) _ _ _); k_dflt (refine' append_K ?k1z100 ?k2z100 ?k3z100 ?_ ?zz100; (case k1z100 => k_asm); (case k2z100 => k_asm); (case k3z100 => k_upd); (case zz100 => (simp only [List.size_toArray, sizeLine_eq]; omega)); k_whole); k_extra "x78")
 k_with "gB31call builtin:list.append" => k_extra "L100"
 trivial
section
variable {r : Heap}
theorem delete_one (X : (K0 w.params).In r) (T : TopRead p loose mg mb r) (st : r.StaysIn s.heap) (hr' : r'.StaysIn r) (hv : VecAt r v dv (.str "list" tkL) (.ref il) (.ref ad)) (hil : r'.IsList il items.toArray) (hN : NamesOk (some xs) items.length) (hk : k < items.length) (lo : (ad == sysModules) = false) (hao : r'.get? ad = some o) (had : o.IsDictOf (strKind thePr w) [("names", .ref nv)]) (hch : CharAt r' nv xs) (hIt : ItemsAt r' items (ps.map (·.2))) (hxs : xs = ps.map (·.1)) (hpl : s.heap.get? pl = some (listOf [Value.int k tp].toArray np)) (hrp : r.get? pl = none) :
  Does w 6 (.ref 1077) ⟨[.ref v, .ref pl], []⟩ (adrs [(pl, listOf [Value.int k tp].toArray np)]) s
     fun rv h' => h'.get? pl = some (listOf [Value.int k tp].toArray np) ∧ RowNew w r' s.heap h' [] rv (ps.eraseIdx k) := by
 w_on
 refine' does_def (mt := [(pl, listOf [Value.int k tp].toArray np)]) (binds := [("v", Value.ref v), ("places", Value.ref pl)]) X T st ?hm ?hr ?ho ?hcd ?hbind ?hloc ?_ ?hco ?hgen ?hk ?hcell ?hl
 k_extra "x93"
 case hm => exact fcons hpl fN
 case hr => exact fcons hrp fN
 k_extra "x84"
 k_extra "x129"
 k_extra "x116"
 have haog := Sr' _ _ hao
 k_extra "x112"
 have hki : (k : Int) + 1 ≤ (items.length : Int) := by omega
 k_extra "x128"
 k_steps
 k_extra "x156"
 rename Obj.IsDictOf (intKind thePr w) _ (stored _ _ _) => hgd
 rename (∀ H : Heap, _ → NamesV H _ _) => hnv
 unfold Stop
 refine o1_2 (NamesV.lst (hnv _ (News.get N₃ (by tb_rel)))) fun vs hvl hvs => ?_
 have hnl := fun (H : Heap) e => IsList.uniq (h' := H) (News.get N₃ (mem_at 3 rfl)) hvl e
 have hvlen : vs.length = xs.length := hvs.length
 have hcnt : (if (k : Int) + 1 > (items.length : Int) then (k : Int) + 1 else (items.length : Int)) = (items.length : Int) := if_neg (by omega)
 rw [hcnt] at R₃
 rename_i on _ _ _ _ _ _ _ _ _ _ _ _ _ _ _ _ _ _ _ _ _ _ _ _ _ _ _ _ _ _ _ _ _ _ _ _ _ _ _ _ _ _ _ _ _ _ _ _ _ _ _ _ _ _ _ _ _ _ _ _ _ _ _ _ _ _ _ _ _ _ _ _ _ _ _ _ _ _ _ _ _ _ _ _ _ _ _ _ _ _ _ _ _ _ _ _ _ _ _ _ _ _ _ _ _ _ _ _ _ _ _ _ _ _ _ li _ _ _ _ _ _ _ _ _ _ _ _ _ _ _ _ _ _ _ _ _ _ _ _
 let J1 : LocMap → Nat → LocMap → Heap → Prop := fun m₀ i m H => (∀ z, z ≠ Str.ofString "i" → z ≠ Str.ofString "inside" → m z = m₀ z) ∧ ∃ n1 n2, H.get? l' = some (listOf ((vs.take i).eraseIdx k).toArray n2) ∧ H.get? li = some (listOf ((items.take i).eraseIdx k).toArray n1) ∧ H.get? d' = some o' ∧ H.get? nv' = some on ∧ H.get? pl = some (listOf [Value.int (k : Int) tp].toArray np)
 refine iter_range_h (L := L') (n := items.length) (J := J1) rfl rfl R₃ (small_one (by omega) (by omega) (by omega) (by omega)) (by rw [rangeSize_nat]; omega) F₃ N₃ ?mono ?h0 ?turn ?done
 case mono => intro i m a b hz1 st'; refine o0_2 hz1 fun hm zr => ?_; clear hz1; refine o2_5 zr fun n1 n2 q1 q2 q3 q4 q5 => ?_; clear zr; exact ⟨hm, n1, n2, st' _ _ q1, st' _ _ q2, st' _ _ q3, st' _ _ q4, st' _ _ q5⟩
 case h0 => intro H _ hN'; exact ⟨fun z _ _ => rfl, 0, 0, hN' _ (.head _), hN' _ (mem_at 1 rfl), hN' _ (mem_at 2 rfl), hN' _ (mem_at 3 rfl), hN' _ (mem_at 4 rfl)⟩
 case turn =>
  intro i t m H hi hz1
  refine o0_2 hz1 fun hm zr => ?_
  clear hz1
  refine o2_5 zr fun n1 n2 q1 q2 q3 q4 q5 => ?_
  clear zr
  refine ⟨[(l', listOf ((vs.take i).eraseIdx k).toArray n2), (li, listOf ((items.take i).eraseIdx k).toArray n1), (d', o'), (nv', on), (pl, listOf [Value.int (k : Int) tp].toArray np)], fcons q1 (fcons q2 (fcons q3 (fcons q4 (fcons q5 fN)))),
   fcons ((N₃ _ (.head _)).2.2) (fcons ((N₃ _ (mem_at 1 rfl)).2.2) (fcons ((N₃ _ (mem_at 2 rfl)).2.2) (fcons ((N₃ _ (mem_at 3 rfl)).2.2) (fcons ((N₃ _ (mem_at 4 rfl)).2.2) fN)))), fun h tk own Ft Nt off C => ?_⟩
  rw [loc2 hm] at Ft
  rw [Int.zero_add] at Ft
  replace Ft := frD Ft
  dsimp only [List.cons_append, List.nil_append] at Nt
  dsimp only [adrs, List.map_cons, List.map_nil] at off
  obtain ⟨x, hx'⟩ : ∃ x, items[i]? = some x := ⟨_, List.getElem?_eq_getElem hi⟩
  obtain ⟨y, hy'⟩ : ∃ y, vs[i]? = some y := ⟨_, List.getElem?_eq_getElem (by rw [hvlen]; omega)⟩
  have hii : (i : Int) < (items.length : Int) := Int.ofNat_lt.mpr hi
  have hla : ((items.take i).eraseIdx k).length ≤ 1000 := Nat.le_trans (List.length_eraseIdx_le ..) (by rw [List.length_take]; omega)
  have hlb : ((vs.take i).eraseIdx k).length ≤ 1000 := Nat.le_trans (List.length_eraseIdx_le ..) (by rw [List.length_take]; omega)
  have hvz : vs.length ≤ 1000 := by omega
  (try fold_depth)
  rename Fr _ _ _ _ => Ft
  rename News _ _ _ _ => Nt
  k_steps
  all_goals unfold Stop
  all_goals intro H' _ hN'
  ·have hg : (valueAt (stored ([] : List (Int × Value)) (k : Int) (.bool true)) (i : Int)).isSome = true := by assumption
   obtain rfl : i = k := of_decide_eq_true ((gone_is k i).symm.trans hg)
   exact ⟨fun z h1 h2 => by k_extra "fm", n1, n2, by rw [er_take_eq hy']; exact hN' _ (.head _) list_ne_it, by rw [er_take_eq hx']; exact hN' _ (mem_at 1 rfl) list_ne_it, hN' _ (mem_at 2 rfl) (dict_cls hgd (by decide)), hN' _ (mem_at 3 rfl) (lst_ne_it q4 (hnl _ q4)), hN' _ (mem_at 4 rfl) list_ne_it⟩
  ·have hg : (valueAt (stored ([] : List (Int × Value)) (k : Int) (.bool true)) (i : Int)).isSome = false := by assumption
   have hik : i ≠ k := of_decide_eq_false ((gone_is k i).symm.trans hg)
   exact ⟨fun z h1 h2 => by k_extra "fm", n1 + 1, n2 + 1, by rw [er_take_ne hy' hik, ← List.push_toArray]; exact hN' _ (.head _) list_ne_it, by rw [er_take_ne hx' hik, ← List.push_toArray]; exact hN' _ (mem_at 1 rfl) list_ne_it, hN' _ (mem_at 2 rfl) (dict_cls hgd (by decide)), hN' _ (mem_at 3 rfl) (lst_ne_it q4 (hnl _ q4)), hN' _ (mem_at 4 rfl) list_ne_it⟩
 case done =>
  intro m H hz1
  refine o0_2 hz1 fun hm zr => ?_
  clear hz1
  refine o2_5 zr fun n1 n2 q1 q2 q3 q4 q5 => ?_
  clear zr
  rw [List.take_length] at q2
  rw [show items.length = vs.length by omega, List.take_length] at q1
  refine ⟨[(l', listOf (vs.eraseIdx k).toArray n2), (li, listOf (items.eraseIdx k).toArray n1), (pl, listOf [Value.int (k : Int) tp].toArray np)], fcons q1 (fcons q2 (fcons q5 fN)),
   fcons ((N₃ _ (.head _)).2.2) (fcons ((N₃ _ (mem_at 1 rfl)).2.2) (fcons ((N₃ _ (mem_at 4 rfl)).2.2) fN)), fun h tk9 own Ft Nt off C => ?_⟩
  rw [loc2 hm] at Ft
  dsimp only [List.cons_append, List.nil_append] at Nt
  dsimp only [adrs, List.map_cons, List.map_nil] at off
  have hla : (items.eraseIdx k).length ≤ 1000 := Nat.le_trans (List.length_eraseIdx_le ..) (by omega)
  have hlb : (vs.eraseIdx k).length ≤ 1000 := Nat.le_trans (List.length_eraseIdx_le ..) (by omega)
  (try fold_depth)
  rename Fr _ _ _ _ => Ft
  rename News _ _ _ _ => Nt
  k_steps
  rename Fr _ _ _ _ => F₄
  rename News _ _ _ _ => N₄
  unfold Stop
  let J2 : LocMap → Nat → LocMap → Heap → Prop := fun m₀ i m H => (∀ z, z ≠ Str.ofString "name" → m z = m₀ z) ∧ H.get? x' = some (instObj 182 d') ∧ H.get? d' = some (vecD hs' (.str "list" tkL) (.ref li) .none (.bool false) (.bool false)) ∧ H.get? l' = some (listOf (vs.eraseIdx k).toArray n2) ∧ H.get? li = some (listOf (items.eraseIdx k).toArray n1) ∧ H.get? pl = some (listOf [Value.int (k : Int) tp].toArray np)
  refine iter_dict_h (L := L') (J := J2) rfl rfl lo haog had F₄ N₄ ?mono2 ?h02 ?turn2 ?done2
  case mono2 => intro i m a b hz1 st'; refine o0_6 hz1 fun hm w1 w2 w3 w4 w5 => ?_; clear hz1; exact ⟨hm, st' _ _ w1, st' _ _ w2, st' _ _ w3, st' _ _ w4, st' _ _ w5⟩
  case h02 => intro H _ hN'; exact ⟨fun z _ => rfl, hN' _ (.head _), hN' _ (mem_at 1 rfl), hN' _ (mem_at 2 rfl), hN' _ (mem_at 3 rfl), hN' _ (mem_at 4 rfl)⟩
  case turn2 =>
   intro i kk u v m H hku hkv hz1
   refine o0_6 hz1 fun hm w1 w2 w3 w4 w5 => ?_
   clear hz1
   refine o1_1 (Value.isStrOf_shape hkv) fun t zq1 => ?_
   subst zq1
   obtain ⟨rfl, rfl⟩ : kk = Str.ofString "names" ∧ i = 0 := by
    cases i with
    | zero => simp at hku; exact ⟨hku.1.symm, rfl⟩
    | succ i => simp at hku
   refine ⟨[(x', instObj 182 d'), (d', vecD hs' (.str "list" tkL) (.ref li) .none (.bool false) (.bool false)), (l', listOf (vs.eraseIdx k).toArray n2), (li, listOf (items.eraseIdx k).toArray n1), (pl, listOf [Value.int (k : Int) tp].toArray np)], fcons w1 (fcons w2 (fcons w3 (fcons w4 (fcons w5 fN)))),
    fcons ((N₄ _ (.head _)).2.2) (fcons ((N₄ _ (mem_at 1 rfl)).2.2) (fcons ((N₄ _ (mem_at 2 rfl)).2.2) (fcons ((N₄ _ (mem_at 3 rfl)).2.2) (fcons ((N₄ _ (mem_at 4 rfl)).2.2) fN)))), fun h tk8 own Ft Nt off C => ?_⟩
   rw [loc1 hm] at Ft
   replace Ft := frD Ft
   dsimp only [List.cons_append, List.nil_append] at Nt
   dsimp only [adrs, List.map_cons, List.map_nil] at off
   (try fold_depth)
   rename Fr _ _ _ _ => Ft
   rename News _ _ _ _ => Nt
   k_steps
   all_goals unfold Stop
   intro H' _ hN'
   exact ⟨fun z h1 => by k_extra "fm", hN' (_, _) (by tb_rel) (fun e => by cases e), hN' (_, _) (by tb_rel) (fun e => absurd (Value.type.inj e) (by decide)), hN' (_, _) (by tb_rel) (fun e => absurd (Value.type.inj e) (by decide)), hN' (_, _) (by tb_rel) (fun e => absurd (Value.type.inj e) (by decide)), hN' (_, _) (by tb_rel) (fun e => absurd (Value.type.inj e) (by decide))⟩
  case done2 =>
   intro m H hz1
   refine o0_6 hz1 fun hm w1 w2 w3 w4 w5 => ?_
   clear hz1
   refine ⟨[(x', instObj 182 d'), (d', vecD hs' (.str "list" tkL) (.ref li) .none (.bool false) (.bool false)), (l', listOf (vs.eraseIdx k).toArray n2), (li, listOf (items.eraseIdx k).toArray n1), (pl, listOf [Value.int (k : Int) tp].toArray np)], fcons w1 (fcons w2 (fcons w3 (fcons w4 (fcons w5 fN)))),
    fcons ((N₄ _ (.head _)).2.2) (fcons ((N₄ _ (mem_at 1 rfl)).2.2) (fcons ((N₄ _ (mem_at 2 rfl)).2.2) (fcons ((N₄ _ (mem_at 3 rfl)).2.2) (fcons ((N₄ _ (mem_at 4 rfl)).2.2) fN)))), fun h tk8 own Ft Nt off C => ?_⟩
   rw [loc1 hm] at Ft
   dsimp only [List.cons_append, List.nil_append] at Nt
   dsimp only [adrs, List.map_cons, List.map_nil] at off
   (try fold_depth)
   rename Fr _ _ _ _ => Ft
   rename News _ _ _ _ => Nt
   k_steps
   all_goals unfold Stop
   rename News _ _ _ _ => Nz
   rename Obj.IsDictOf (strKind thePr w) _ [("names", Value.ref _)] => hod
   rename (_ == sysModules) = false => lo'
   refine ⟨News.get Nz (by tb_rel), rowNew Sg Nz (mem_at 4 rfl) (mem_at 5 rfl) (off1 (by k_ne)) (off1 (by k_ne)) (by k_ne)
    (ex1 (mem_at 7 rfl) (off1 (by k_ne)) (by k_ne) (by k_ne) (ex1 (.head _) (off1 (by k_ne)) (by k_ne) (by k_ne) (ex1 (mem_at 1 rfl) (off1 (by k_ne)) (by k_ne) (by k_ne) (ex1 (mem_at 2 rfl) (off1 (by k_ne)) (by k_ne) (by k_ne) (ex1 (mem_at 3 rfl) (off1 (by k_ne)) (by k_ne) (by k_ne) fN))))) ?row⟩
   case row => exact fun H hH hm he => ⟨items.eraseIdx k, some (xs.eraseIdx k), ⟨_, he _ (.head _), rfl, _, rfl⟩,
    ⟨_, _, _, rfl, lo', he _ (mem_at 1 rfl), hod, _, _, _, _, ⟨_, true, he _ (mem_at 2 rfl), he _ (mem_at 3 rfl)⟩, ⟨_, he _ (mem_at 4 rfl), rfl, _, rfl⟩, hvs.erase k⟩,
    ⟨by show (xs.eraseIdx k).length = _; rw [List.length_eraseIdx, List.length_eraseIdx, hlen], hla, fun z hz => hne z (List.mem_of_mem_eraseIdx hz)⟩,
    by rw [map_erase]; exact (hIt.mono hH).erase k, by show xs.eraseIdx k = _; rw [map_erase, hxs]⟩
end
end
local macro_rules |`(tactic|walk_at "")=>`(tactic|skip)
section
local macro_rules | `(tactic| walk_at $s:str) => hk ["gB32", "c0"] s
section
variable {g : Obj → List (Addr × Obj)}
def RowAt (w : World) (h : Heap) (v dv : Addr) (ps : List (Str × Int)) : Prop := ∃ hs tk il at_ sh, h.get? v = some (instObj 182 dv) ∧ h.get? dv = some (vecD hs (.str "list" tk) (.ref il) at_ (.bool sh) (.bool false)) ∧ RowRest w h il at_ ps
noncomputable def findR (ps : List (Str × Int)) (y : Str) : Option Nat := fst (ps.map (·.1)) y
noncomputable def setR (ps : List (Str × Int)) (y : Str) (f : Int) : List (Str × Int) := match findR ps y with
 | some k => ps.set k (y, f)
 | none => ps ++ [(y, f)]
noncomputable def delR (ps : List (Str × Int)) (y : Str) : List (Str × Int) := match findR ps y with
 | some k => ps.eraseIdx k
 | none => ps
theorem use_row1 {l : Nat} {f : Value} (rm : Rm l d u) (F : Fr h₀ L s.heap m) (N : News h₀ L s.heap news) (U : UpdF a o news g) (H : Does w l f ⟨args, []⟩ [a] s fun rv h' => h'.get? a = some o' ∧ RowNew w r' s.heap h' mtN rv ps) (k : ∀ x dx hs tk il at_ extra h' tk', Fr h₀ L h' m → News h₀ L h' ((x, instObj 182 dx) :: (dx, vecD hs (.str "list" tk) (.ref il) at_ (.bool false) (.bool false)) :: (g o' ++ extra)) → (∀ p ∈ news, p.1 ≠ x) → (∀ p ∈ news, p.1 ≠ dx) → @Ne Nat dx x → OwnOff extra (x :: dx :: adrs news) →
   (∀ H : Heap, r'.StaysIn H → (∀ p ∈ mtN, H.get? p.1 = some p.2) → (∀ p ∈ extra, H.get? p.1 = some p.2) → RowRest w H il at_ ps) → Q (.ref x) { s with heap := h', toks := tk' }) :
  wpAny (model thePr w) (AA d u) (call f args) Q E s := by
 have m1 := upd_in U
 refine H.use rm fun rv h' tk' hk' hp => ?_
 refine o0_2 hp fun e1 zr => ?_
 clear hp
 refine o7_8 zr fun x dx hs tk il at_ extra zq7 n1 n2 ne g1 g2 hex row => ?_
 clear zr
 subst zq7
 k_extra "x226"
 have N2 : News h₀ L h' (g o' ++ extra) := fun p hp => by
  rcases ma1 hp with hp | hp
  ·exact N' p hp
  ·refine o0_4 (hex p hp) fun a1 a2 _ _ => ?_
   exact (news_new (news := []) F News.nil a1 a2) _ (.head _)
 refine k x dx hs tk il at_ extra h' tk' F' (news_new F (news_new F N2 n2 g2) n1 g1) (ne_news N n1) (ne_news N n2) ne (fun p hp b hb => ?_) row
 refine o0_4 (hex p hp) fun a1 a2 a3 a4 => ?_
 rcases mc1 hb with e | hb
 ·exact e ▸ a4
 ·rcases mc1 hb with e | hb
  ·exact e ▸ a3
  ·refine o1_2 (List.mem_map.mp hb) fun q hq e => ?_
   exact fun e' => ne_of_get (N q hq).1 a1 (e.trans e'.symm)
include F N X T in
theorem use_putH {val : Addr} {old : Int} (rm : Rm 8 d u) (S : b₀.StaysIn h₀) (Sr' : r'.StaysIn b₀) (hv : VecAt b₀ v dv (.str "list" tkL) (.ref il) (.ref ad)) (hil : r'.IsList il items.toArray) (hN : NamesOk (some xs) items.length) (hk : k < items.length) (lo : (ad == sysModules) = false) (hao : r'.get? ad = some o) (had : o.IsDictOf (strKind thePr w) [("names", .ref nv)]) (hch : CharAt r' nv xs) (hIt : ItemsAt r' items (ps.map (·.2))) (hxs : xs = ps.map (·.1)) (hps : ps[k]? = some (nm, old)) (hval : r'.get? val = some (instObj 182 dval)) (hvil : r'.IsList vil [Value.int f tf].toArray) (U : UpdF dval (vecD hsv (.str "integer" tk2) (.ref vil) .none (.bool sh) (.bool false)) news g) (kk : ∀ x dx hs tk il at_ extra h' tk', Fr h₀ L h' m → let nw := (x, instObj 182 dx) :: (dx, vecD hs (.str "list" tk) (.ref il) at_ (.bool false) (.bool false)) :: (g (vecD hsv (.str "integer" tk2) (.ref vil) .none (.bool true) (.bool false)) ++ extra); News h₀ L h' nw → (∀ p ∈ news, p.1 ≠ x) → (∀ p ∈ news, p.1 ≠ dx) → @Ne Nat dx x → OwnOff extra (x :: dx :: adrs news) →
   (∀ H : Heap, r'.StaysIn H → (∀ p ∈ ([(dval, (vecD hsv (.str "integer" tk2) (.ref vil) .none (.bool true) (.bool false)))] : List (Addr × Obj)), H.get? p.1 = some p.2) → (∀ p ∈ extra, H.get? p.1 = some p.2) → RowRest w H il at_ (ps.set k (nm, f))) → Q (.ref x) { s with heap := h', toks := tk' }) :
  wc w d u 1103 [.ref v, .int k tp, .none, .ref val, .ref nl] Q E s := by
 k_extra "x158"
 exact use_row1 rm F N U (put_hit (X.keeps S0) (T.keeps S0) hid_stay S2 (hv.mono Sr) hil hN hk lo hao had hch hIt hxs hps hval hvil (N _ m1).1 (hideAll_none _ (.head _))) kk
include F N X T in
theorem use_putN {val : Addr} (rm : Rm 8 d u) (S : b₀.StaysIn h₀) (Sr' : r'.StaysIn b₀) (hv : VecAt b₀ v dv (.str "list" tkL) (.ref il) (.ref ad)) (hil : r'.IsList il items.toArray) (hN : NamesOk (some xs) items.length) (hz9 : items.length ≤ 900) (lo : (ad == sysModules) = false) (hao : r'.get? ad = some o) (had : o.IsDictOf (strKind thePr w) [("names", .ref nv)]) (hch : CharAt r' nv xs) (hIt : ItemsAt r' items (ps.map (·.2))) (hxs : xs = ps.map (·.1)) (hy : y ≠ "") (hval : r'.get? val = some (instObj 182 dval)) (hvil : r'.IsList vil [Value.int f tf].toArray) (U : UpdF dval (vecD hsv (.str "integer" tk2) (.ref vil) .none (.bool sh) (.bool false)) news g) (k : ∀ x dx hs tk il at_ extra h' tk', Fr h₀ L h' m → let nw := (x, instObj 182 dx) :: (dx, vecD hs (.str "list" tk) (.ref il) at_ (.bool false) (.bool false)) :: (g (vecD hsv (.str "integer" tk2) (.ref vil) .none (.bool true) (.bool false)) ++ extra); News h₀ L h' nw → (∀ p ∈ news, p.1 ≠ x) → (∀ p ∈ news, p.1 ≠ dx) → @Ne Nat dx x → OwnOff extra (x :: dx :: adrs news) →
   (∀ H : Heap, r'.StaysIn H → (∀ p ∈ ([(dval, (vecD hsv (.str "integer" tk2) (.ref vil) .none (.bool true) (.bool false)))] : List (Addr × Obj)), H.get? p.1 = some p.2) → (∀ p ∈ extra, H.get? p.1 = some p.2) → RowRest w H il at_ (ps ++ [(y, f)])) → Q (.ref x) { s with heap := h', toks := tk' }) :
  wc w d u 1103 [.ref v, .int items.length tp, .str y tn, .ref val, .ref nl] Q E s := by
 k_extra "x158"
 exact use_row1 rm F N U (put_new (X.keeps S0) (T.keeps S0) hid_stay S2 (hv.mono Sr) hil hN hz9 lo hao had hch hIt hxs hy hval hvil (N _ m1).1 (hideAll_none _ (.head _))) k
include F N X T in
theorem use_put0 {val : Addr} (rm : Rm 8 d u) (S : b₀.StaysIn h₀) (Sr' : r'.StaysIn b₀) (hv : VecAt b₀ v dv (.str "list" tkL) (.ref il) .none) (hil : r'.IsList il ([] : List Value).toArray) (hy : y ≠ "") (hval : r'.get? val = some (instObj 182 dval)) (hvil : r'.IsList vil [Value.int f tf].toArray) (U : UpdF dval (vecD hsv (.str "integer" tk2) (.ref vil) .none (.bool sh) (.bool false)) news g) (k : ∀ x dx hs tk il at_ extra h' tk', Fr h₀ L h' m → let nw := (x, instObj 182 dx) :: (dx, vecD hs (.str "list" tk) (.ref il) at_ (.bool false) (.bool false)) :: (g (vecD hsv (.str "integer" tk2) (.ref vil) .none (.bool true) (.bool false)) ++ extra); News h₀ L h' nw → (∀ p ∈ news, p.1 ≠ x) → (∀ p ∈ news, p.1 ≠ dx) → @Ne Nat dx x → OwnOff extra (x :: dx :: adrs news) →
   (∀ H : Heap, r'.StaysIn H → (∀ p ∈ ([(dval, (vecD hsv (.str "integer" tk2) (.ref vil) .none (.bool true) (.bool false)))] : List (Addr × Obj)), H.get? p.1 = some p.2) → (∀ p ∈ extra, H.get? p.1 = some p.2) → RowRest w H il at_ ([(y, f)])) → Q (.ref x) { s with heap := h', toks := tk' }) :
  wc w d u 1103 [.ref v, .int 0 tp, .str y tn, .ref val, .ref nl] Q E s := by
 k_extra "x158"
 exact use_row1 rm F N U (put_new0 (X.keeps S0) (T.keeps S0) hid_stay S2 (hv.mono Sr) hil hy hval hvil (N _ m1).1 (hideAll_none _ (.head _))) k
include F N X T in
theorem use_del1 (rm : Rm 6 d u) (S : b₀.StaysIn h₀) (Sr' : r'.StaysIn b₀) (hv : VecAt b₀ v dv (.str "list" tkL) (.ref il) (.ref ad)) (hil : r'.IsList il items.toArray) (hN : NamesOk (some xs) items.length) (hk : k < items.length) (lo : (ad == sysModules) = false) (hao : r'.get? ad = some o) (had : o.IsDictOf (strKind thePr w) [("names", .ref nv)]) (hch : CharAt r' nv xs) (hIt : ItemsAt r' items (ps.map (·.2))) (hxs : xs = ps.map (·.1)) (U : UpdF pl (listOf [Value.int k tp].toArray np) news g) (kk : ∀ x dx hs tk il at_ extra h' tk', Fr h₀ L h' m → let nw := (x, instObj 182 dx) :: (dx, vecD hs (.str "list" tk) (.ref il) at_ (.bool false) (.bool false)) :: (g (listOf [Value.int k tp].toArray np) ++ extra); News h₀ L h' nw → (∀ p ∈ news, p.1 ≠ x) → (∀ p ∈ news, p.1 ≠ dx) → @Ne Nat dx x → OwnOff extra (x :: dx :: adrs news) →
   (∀ H : Heap, r'.StaysIn H → (∀ p ∈ ([] : List (Addr × Obj)), H.get? p.1 = some p.2) → (∀ p ∈ extra, H.get? p.1 = some p.2) → RowRest w H il at_ (ps.eraseIdx k)) → Q (.ref x) { s with heap := h', toks := tk' }) :
  wc w d u 1077 [.ref v, .ref pl] Q E s := by
 k_extra "x95"
 have S2 : r'.StaysIn (hideAll s.heap [pl]) := fun _ _ e => Sr _ _ (Sr' _ _ e)
 exact use_row1 rm F N U (delete_one (X.keeps S0) (T.keeps S0) hid_stay S2 (hv.mono Sr) hil hN hk lo hao had hch hIt hxs (N _ m1).1 (hideAll_none _ (.head _))) kk
end
end
local macro_rules |`(tactic|walk_at "")=>`(tactic|skip)
section
local macro_rules | `(tactic| walk_at $s:str) => hk ["gB33", "c3", "c2", "c0"] s
theorem lines_22 : True := by
 k_with "L101" => (k_here; (with_reducible show wpAny _ _ (call (Value.ref 1103) [_, _, Value.none, _, _]) _ _ _); refine' use_putH ?F ?N ?X ?T ?rm ?S ?Sr' ?hv ?hil ?hN ?hk ?lo ?hao ?had ?hch ?hIt ?hxs ?hps ?hval ?hvil ?U ?_; k_extra "x23"; (case S | hIt | hvil | hv | hil | hN | hk | hao | lo | had | hch | hxs | hps | hval | Sr' => assumption); k_extra "x27")
 k_with "L102" => (k_here; (with_reducible show wpAny _ _ (call (Value.ref 1103) [_, _, Value.str _ _, _, _]) _ _ _); refine' use_putN ?F ?N ?X ?T ?rm ?S ?Sr' ?hv ?hil ?hN ?hz9 ?lo ?hao ?had ?hch ?hIt ?hxs ?hy ?hval ?hvil ?U ?_; k_extra "x23"; (case S | hIt | hvil | hv | hil | hN | hz9 | hao | lo | had | hch | hxs | hy | hval | Sr' => assumption); k_extra "x27")
 k_with "L103" => (k_here; (with_reducible show wpAny _ _ (call (Value.ref 1103) [_, Value.int 0 _, Value.str _ _, _, _]) _ _ _); refine' use_put0 ?F ?N ?X ?T ?rm ?S ?Sr' ?hv ?hil ?hy ?hval ?hvil ?U ?_; k_extra "x23"; (case S | hvil | hv | hil | hy | hval | Sr' => assumption); k_extra "x27")
 k_with "L104" => (k_here; (with_reducible show wpAny _ _ (call (Value.ref 1077) [_, _]) _ _ _); refine' use_del1 ?F ?N ?X ?T ?rm ?S ?Sr' ?hv ?hil ?hN ?hk ?lo ?hao ?had ?hch ?hIt ?hxs ?U ?_; k_extra "x23"; (case S | hIt | hv | hil | hN | hk | hao | lo | had | hch | hxs | Sr' => assumption); k_extra "x27")
 k_with "gB33call ref" => first | k_extra "L104" | k_extra "L103" | k_extra "L102" | k_extra "L101" | k_extra "L62" | k_extra "L93" | k_extra "L60" | k_extra "L59" | k_extra "L89" | k_extra "L58"
 trivial
section
variable {r : Heap}
theorem as_hit {val : Addr} {old : Int} (X : (K0 w.params).In r) (T : TopRead p loose mg mb r) (st : r.StaysIn s.heap) (hr' : r'.StaysIn r) (hv : VecAt r v dv (.str "list" tkL) (.ref il) (.ref ad)) (hil : r'.IsList il items.toArray) (hN : NamesOk (some xs) items.length) (hk : k < items.length) (lo : (ad == sysModules) = false) (hao : r'.get? ad = some o) (had : o.IsDictOf (strKind thePr w) [("names", .ref nv)]) (hch : CharAt r' nv xs) (hIt : ItemsAt r' items (ps.map (·.2))) (hxs : xs = ps.map (·.1)) (hps : ps[k]? = some (y, old)) (hpl : placeR true xs y = (k : Int)) (hy : y ≠ "") (hix : VecAt r ix dix (.str "character" tkx) (.ref ixl) .none) (hxl : r.IsList ixl [Value.str y ty].toArray) (hval : r'.get? val = some (instObj 182 dval)) (hvil : r'.IsList vil [Value.int f tf].toArray) (hdv : s.heap.get? dval = some (vecD hsv (.str "integer" tk2) (.ref vil) .none (.bool sh) (.bool false))) (hrd : r.get? dval = none) :
  Does w 10 (.ref 1110) ⟨[.ref v, .ref ix, .ref val, .ref nl], []⟩ (adrs [(dval, vecD hsv (.str "integer" tk2) (.ref vil) .none (.bool sh) (.bool false))]) s
     fun rv h' => h'.get? dval = some (vecD hsv (.str "integer" tk2) (.ref vil) .none (.bool true) (.bool false)) ∧
       RowNew w r' s.heap h' [(dval, vecD hsv (.str "integer" tk2) (.ref vil) .none (.bool true) (.bool false))] rv (ps.set k (y, f)) := by
 k_extra "x247"
 k_extra "x183"
 k_extra "x131"
end
end
local macro_rules |`(tactic|walk_at "")=>`(tactic|skip)
section
local macro_rules | `(tactic| walk_at $s:str) => hk ["gB34", "c3", "c2", "c0"] s
theorem lines_23 : True := by
 k_with "gB34call ref" => first | k_extra "L104" | k_extra "L103" | k_extra "L102" | k_extra "L101" | k_extra "L62" | k_extra "L93" | k_extra "L60" | k_extra "L59" | k_extra "L89" | k_extra "L58"
 trivial
section
variable {r : Heap}
theorem as_new {val : Addr} (X : (K0 w.params).In r) (T : TopRead p loose mg mb r) (st : r.StaysIn s.heap) (hr' : r'.StaysIn r) (hv : VecAt r v dv (.str "list" tkL) (.ref il) (.ref ad)) (hil : r'.IsList il items.toArray) (hN : NamesOk (some xs) items.length) (hz9 : items.length ≤ 900) (lo : (ad == sysModules) = false) (hao : r'.get? ad = some o) (had : o.IsDictOf (strKind thePr w) [("names", .ref nv)]) (hch : CharAt r' nv xs) (hIt : ItemsAt r' items (ps.map (·.2))) (hxs : xs = ps.map (·.1)) (hpl : placeR true xs y = -1) (hy : y ≠ "") (hix : VecAt r ix dix (.str "character" tkx) (.ref ixl) .none) (hxl : r.IsList ixl [Value.str y ty].toArray) (hval : r'.get? val = some (instObj 182 dval)) (hvil : r'.IsList vil [Value.int f tf].toArray) (hdv : s.heap.get? dval = some (vecD hsv (.str "integer" tk2) (.ref vil) .none (.bool sh) (.bool false))) (hrd : r.get? dval = none) :
  Does w 10 (.ref 1110) ⟨[.ref v, .ref ix, .ref val, .ref nl], []⟩ (adrs [(dval, vecD hsv (.str "integer" tk2) (.ref vil) .none (.bool sh) (.bool false))]) s
     fun rv h' => h'.get? dval = some (vecD hsv (.str "integer" tk2) (.ref vil) .none (.bool true) (.bool false)) ∧
       RowNew w r' s.heap h' [(dval, vecD hsv (.str "integer" tk2) (.ref vil) .none (.bool true) (.bool false))] rv (ps ++ [(y, f)]) := by
 k_extra "x247"
 k_extra "x131"
end
end
local macro_rules |`(tactic|walk_at "")=>`(tactic|skip)
section
local macro_rules | `(tactic| walk_at $s:str) => hk ["gB35", "c3", "c2", "c0"] s
include F N X T in
theorem use_place0 (rm : Rm 4 d u) (hv : VecAt s.heap ix dx (.str "character" tk) (.ref il) .none) (hl : s.heap.IsList il [Value.str y ty].toArray) (hn : NamesV s.heap nmV xs) (hy : y ≠ "") {pl : Int} (he : placeR ex xs y = pl) (k : ∀ t h' tk, Fr h₀ L h' m → News h₀ L h' news → Q (.int pl t) { s with heap := h', toks := tk }) :
  wc w d u 957 [.ref ix, .int 0 tn, nmV, .bool ex] Q E s := use_place (n := 0) F N X T rm hv hl hn hy he k
theorem lines_24 : True := by
 k_with "L105" => (k_here; (with_reducible show wpAny _ _ (call (Value.ref 957) [Value.ref _, Value.int 0 _, _, Value.bool _]) _ _ _); refine' use_place0 ?F ?N ?X ?T ?rm ?hv ?hl ?hn ?hy ?he ?_; k_extra "x38")
 k_with "gB35call ref" => first | k_extra "L104" | k_extra "L103" | k_extra "L102" | k_extra "L101" | k_extra "L105" | k_extra "L95" | k_extra "L60" | k_extra "L59" | k_extra "L89" | k_extra "L58"
 trivial
section
variable {r : Heap}
theorem as_new0 {val : Addr} (X : (K0 w.params).In r) (T : TopRead p loose mg mb r) (st : r.StaysIn s.heap) (hr' : r'.StaysIn r) (hv : VecAt r v dv (.str "list" tkL) (.ref il) .none) (hil : r'.IsList il ([] : List Value).toArray) (hy : y ≠ "") (hix : VecAt r ix dix (.str "character" tkx) (.ref ixl) .none) (hxl : r.IsList ixl [Value.str y ty].toArray) (hval : r'.get? val = some (instObj 182 dval)) (hvil : r'.IsList vil [Value.int f tf].toArray) (hdv : s.heap.get? dval = some (vecD hsv (.str "integer" tk2) (.ref vil) .none (.bool sh) (.bool false))) (hrd : r.get? dval = none) :
  Does w 10 (.ref 1110) ⟨[.ref v, .ref ix, .ref val, .ref nl], []⟩ (adrs [(dval, vecD hsv (.str "integer" tk2) (.ref vil) .none (.bool sh) (.bool false))]) s
     fun rv h' => h'.get? dval = some (vecD hsv (.str "integer" tk2) (.ref vil) .none (.bool true) (.bool false)) ∧
       RowNew w r' s.heap h' [(dval, vecD hsv (.str "integer" tk2) (.ref vil) .none (.bool true) (.bool false))] rv [(y, f)] := by
 k_extra "x98"
 k_extra "x223"
 have hnn : NamesV g Value.none [] := .none
 have hpl : placeR true [] y = -1 := rfl
 k_extra "x107"
 exact ⟨News.get Nz (by tb_rel), rowNew Sg Nz (.head _) (mem_at 1 rfl) (off1 (by k_ne)) (off1 (by k_ne)) (by k_ne)
  (fun p hp => ⟨mcm _ (mcm _ (mcm _ hp)), off1 (hoff p hp _ (mem_at 2 rfl)), hoff p hp _ (mem_at 1 rfl), hoff p hp _ (.head _)⟩) hrow⟩
end
end
local macro_rules |`(tactic|walk_at "")=>`(tactic|skip)
section
local macro_rules | `(tactic| walk_at $s:str) => hk ["gB36", "c3", "c2", "c0"] s
theorem lines_25 : True := by
 k_with "gB36call ref" => first | k_extra "L104" | k_extra "L103" | k_extra "L102" | k_extra "L101" | k_extra "L62" | k_extra "L93" | k_extra "L60" | k_extra "L59" | k_extra "L89" | k_extra "L58"
 trivial
section
variable {r : Heap}
theorem as_del {val : Addr} (X : (K0 w.params).In r) (T : TopRead p loose mg mb r) (st : r.StaysIn s.heap) (hr' : r'.StaysIn r) (hv : VecAt r v dv (.str "list" tkL) (.ref il) (.ref ad)) (hil : r'.IsList il items.toArray) (hN : NamesOk (some xs) items.length) (hk : k < items.length) (lo : (ad == sysModules) = false) (hao : r'.get? ad = some o) (had : o.IsDictOf (strKind thePr w) [("names", .ref nv)]) (hch : CharAt r' nv xs) (hIt : ItemsAt r' items (ps.map (·.2))) (hxs : xs = ps.map (·.1)) (hpl : placeR true xs y = (k : Int)) (hy : y ≠ "") (hix : VecAt r ix dix (.str "character" tkx) (.ref ixl) .none) (hxl : r.IsList ixl [Value.str y ty].toArray) (hval : NullAt r (.ref val)) :
  Does w 10 (.ref 1110) ⟨[.ref v, .ref ix, .ref val, .ref nl], []⟩ (adrs []) s fun rv h' => RowNew w r' s.heap h' [] rv (ps.eraseIdx k) := by
 k_extra "x144"
 k_extra "x129"
 k_extra "x150"
 k_extra "x116"
 k_extra "x112"
 k_extra "x183"
 k_extra "x206"
 k_extra "x107"
 exact rowNew Sg Nz (.head _) (mem_at 1 rfl) nmn nmn (by k_ne)
  (fun p hp => ⟨mcm _ (mcm _ (mcm _ (mcm _ hp))), nmn, hoff p hp _ (mem_at 1 rfl), hoff p hp _ (.head _)⟩) hrow
end
end
local macro_rules |`(tactic|walk_at "")=>`(tactic|skip)
section
local macro_rules | `(tactic| walk_at $s:str) => hk ["gB37", "c3", "c2", "c0"] s
theorem lines_26 : True := by
 k_with "gB37call ref" => first | k_extra "L104" | k_extra "L103" | k_extra "L102" | k_extra "L101" | k_extra "L62" | k_extra "L61" | k_extra "L60" | k_extra "L59" | k_extra "L89" | k_extra "L58"
 trivial
section
variable {r : Heap}
theorem as_miss {val : Addr} {at_ : Value} (X : (K0 w.params).In r) (T : TopRead p loose mg mb r) (st : r.StaysIn s.heap) (hv : VecAt r v dv (.str "list" tkL) (.ref il) at_) (hil : r.IsList il items.toArray) (ha : AttsAt w r at_ onm) (hN : NamesOk onm items.length) (hpl : placeR true (onm.getD []) y = -1) (hy : y ≠ "") (hix : VecAt r ix dix (.str "character" tkx) (.ref ixl) .none) (hxl : r.IsList ixl [Value.str y ty].toArray) (hval : NullAt r (.ref val)) :
  Does w 10 (.ref 1110) ⟨[.ref v, .ref ix, .ref val, .ref nl], []⟩ (adrs []) s fun rv h' => rv = .ref v := by
 k_extra "x144"
 have hvg := hv.mono Sr
 have hilg := IsList.mono hil Sr
 k_extra "x150"
 have hag := ha.mono Sr
 have hz := hN.small
 have hne := hN.ne
 k_extra "x245"
 k_extra "x206"
 k_extra "x128"
 k_extra "x155"
 k_extra "x149"
 all_goals exact rfl
end
end
local macro_rules |`(tactic|walk_at "")=>`(tactic|skip)
section
local macro_rules | `(tactic| walk_at $s:str) => hk ["gB38", "c0"] s
section
variable {r : Heap}
theorem as_int {val : Addr} {at_ : Value} (X : (K0 w.params).In r) (T : TopRead p loose mg mb r) (st : r.StaysIn s.heap) (hr' : r'.StaysIn r) (hv : VecAt r v dv (.str "list" tkL) (.ref il) at_) (hrow : RowRest w r' il at_ ps) (hz9 : ps.length ≤ 900) (hy : y ≠ "") (hix : VecAt r ix dix (.str "character" tkx) (.ref ixl) .none) (hxl : r.IsList ixl [Value.str y ty].toArray) (hval : r'.get? val = some (instObj 182 dval)) (hvil : r'.IsList vil [Value.int f tf].toArray) (hdv : s.heap.get? dval = some (vecD hsv (.str "integer" tk2) (.ref vil) .none (.bool sh) (.bool false))) (hrd : r.get? dval = none) :
  Does w 10 (.ref 1110) ⟨[.ref v, .ref ix, .ref val, .ref nl], []⟩ (adrs [(dval, vecD hsv (.str "integer" tk2) (.ref vil) .none (.bool sh) (.bool false))]) s
     fun rv h' => h'.get? dval = some (vecD hsv (.str "integer" tk2) (.ref vil) .none (.bool true) (.bool false)) ∧
       RowNew w r' s.heap h' [(dval, vecD hsv (.str "integer" tk2) (.ref vil) .none (.bool true) (.bool false))] rv (setR ps y f) := by
 k_extra "x244"
 have hil9 : items.length ≤ 900 := by have := hIt.1; rw [List.length_map] at this; omega
 cases onm with
 | none =>
  have ha : at_ = .none := ha
  subst ha
  have hnm : ([] : List Str) = ps.map (·.1) := hnm
  have hp : ps = [] := List.map_eq_nil_iff.mp hnm.symm
  subst hp
  have hi : items = [] := List.eq_nil_of_length_eq_zero (by have := hIt.1; simpa using this)
  subst hi
  exact as_new0 X T st hr' hv hil hy hix hxl hval hvil hdv hrd
 | some xs =>
  refine o3_5 ha fun ad o nv zq3 lo hao had hch => ?_
  clear ha
  subst zq3
  have hnm : xs = ps.map (·.1) := hnm
  unfold setR findR
  cases q : fst (ps.map (·.1)) y with
  | some k =>
   have hk := fst_lt q
   have hkl : k < items.length := by have := hN.len; rw [← this]; show k < xs.length; rw [hnm]; exact hk.1
   obtain ⟨pk, hpk, e⟩ : ∃ pk, ps[k]? = some pk ∧ pk.1 = y := by have h := hk.2; rw [List.getElem?_map] at h; cases q2 : ps[k]? with | none => rw [q2] at h; cases h | some z => rw [q2] at h; exact ⟨z, rfl, by simpa using h⟩
   obtain ⟨a, b⟩ := pk
   cases e
   exact as_hit X T st hr' hv hil hN hkl lo hao had hch hIt hnm hpk (by unfold placeR exactR; rw [if_pos rfl, hnm, q]) hy hix hxl hval hvil hdv hrd
  | none => exact as_new X T st hr' hv hil hN hil9 lo hao had hch hIt hnm (by unfold placeR exactR; rw [if_pos rfl, hnm, q]) hy hix hxl hval hvil hdv hrd
theorem as_nul {val : Addr} {at_ : Value} (X : (K0 w.params).In r) (T : TopRead p loose mg mb r) (st : r.StaysIn s.heap) (hr' : r'.StaysIn r) (hv : VecAt r v dv (.str "list" tkL) (.ref il) at_) (hrow : RowRest w r' il at_ ps) (hy : y ≠ "") (hix : VecAt r ix dix (.str "character" tkx) (.ref ixl) .none) (hxl : r.IsList ixl [Value.str y ty].toArray) (hval : NullAt r (.ref val)) :
  Does w 10 (.ref 1110) ⟨[.ref v, .ref ix, .ref val, .ref nl], []⟩ (adrs []) s
     fun rv h' => (findR ps y = none ∧ rv = .ref v) ∨ ((∃ k, findR ps y = some k) ∧ RowNew w r' s.heap h' [] rv (delR ps y)) := by
 k_extra "x244"
 cases q : findR ps y with
 | none =>
  have q' : fst (ps.map (·.1)) y = none := q
  have H := as_miss (nl := nl) X T st hv (IsList.mono hil hr') (ha.mono hr') hN (by unfold placeR exactR; rw [if_pos rfl, hnm, q']) hy hix hxl hval
  intro d u rm
  exact codeAny_mono (H d u rm) fun res s' ⟨rv, h', tk, e1, e2, e3, e4⟩ => ⟨rv, h', tk, e1, e2, e3, .inl ⟨rfl, e4⟩⟩
 | some k =>
  have q' : fst (ps.map (·.1)) y = some k := q
  have hk := fst_lt q'
  cases onm with
  | none =>
   have hnm : ([] : List Str) = ps.map (·.1) := hnm
   rw [← hnm] at hk
   exact absurd hk.1 (Nat.not_lt_zero _)
  | some xs =>
   refine o3_5 ha fun ad o nv zq3 lo hao had hch => ?_
   clear ha
   subst zq3
   have hnm : xs = ps.map (·.1) := hnm
   have hkl : k < items.length := by have := hN.len; rw [← this]; show k < xs.length; rw [hnm]; exact hk.1
   have H := as_del (nl := nl) X T st hr' hv hil hN hkl lo hao had hch hIt hnm (by unfold placeR exactR; rw [if_pos rfl, hnm, q']) hy hix hxl hval
   intro d u rm
   refine codeAny_mono (H d u rm) fun res s' ⟨rv, h', tk, e1, e2, e3, e4⟩ => ⟨rv, h', tk, e1, e2, e3, .inr ⟨⟨k, rfl⟩, ?_⟩⟩
   unfold delR
   rw [q]
   exact e4
end
end
local macro_rules |`(tactic|walk_at "")=>`(tactic|skip)
section
local macro_rules | `(tactic| walk_at $s:str) => hk ["gB39", "c0"] s
section
variable {g : Obj → List (Addr × Obj)}
end
end
local macro_rules |`(tactic|walk_at "")=>`(tactic|skip)
section
local macro_rules | `(tactic| walk_at $s:str) => hk ["gB40", "c0"] s
inductive VS (r' : Heap) (val : Addr) : Option Int → List (Addr × Obj) → List (Addr × Obj) → Prop
 | int {dval vil : Addr} {hsv : H5} {tk2 : Nat} {sh : Bool} {f : Int} {tf : Tok} : r'.get? val = some (instObj 182 dval) → r'.IsList vil [Value.int f tf].toArray →
   VS r' val (some f) [(dval, vecD hsv (.str "integer" tk2) (.ref vil) .none (.bool sh) (.bool false))] [(dval, vecD hsv (.str "integer" tk2) (.ref vil) .none (.bool true) (.bool false))]
 | nul : NullAt r' (.ref val) → VS r' val none [] []
theorem VS.adr {val : Addr} (V : VS r' val fo mt mtN) : adrs mtN = adrs mt := by cases V <;> rfl
noncomputable def setO (ps : List (Str × Int)) (y : Str) : Option Int → List (Str × Int)
 | some f => setR ps y f
 | none => delR ps y
def RowIn (w : World) (r' : Heap) (mtN extra : List (Addr × Obj)) (c : Addr) (ps : List (Str × Int)) : Prop :=
 ∃ dx hs tk il at_, ∃ ex : List (Addr × Obj), (c, instObj 182 dx) ∈ extra ∧ (dx, vecD hs (.str "list" tk) (.ref il) at_ (.bool false) (.bool false)) ∈ extra ∧ @Ne Nat dx c ∧ (∀ p ∈ ex, p ∈ extra ∧ @Ne Nat p.1 dx ∧ @Ne Nat p.1 c) ∧
  ∀ H : Heap, r'.StaysIn H → (∀ p ∈ mtN, H.get? p.1 = some p.2) → (∀ p ∈ ex, H.get? p.1 = some p.2) → RowRest w H il at_ ps
def SetTell (w : World) (r' : Heap) (mtN : List (Addr × Obj)) (v : Addr) (ps ps' : List (Str × Int)) (c : Addr) (extra : List (Addr × Obj)) : Prop := (ps' = ps ∧ c = v) ∨ RowIn w r' mtN extra c ps'
def SetDone (w : World) (r' h : Heap) (mtN : List (Addr × Obj)) (v : Addr) (ps ps' : List (Str × Int)) (rv : Value) (h' : Heap) : Prop :=
 ∃ c, ∃ extra : List (Addr × Obj), rv = .ref c ∧ (∀ p ∈ mtN, h'.get? p.1 = some p.2) ∧ (∀ p ∈ extra, h.get? p.1 = none ∧ h'.get? p.1 = some p.2) ∧ SetTell w r' mtN v ps ps' c extra
theorem SetDone.new {rv : Value} (hm : ∀ p ∈ mtN, h'.get? p.1 = some p.2) (H : RowNew w r' h h' mtN rv ps') : SetDone w r' h mtN v ps ps' rv h' := by
 refine o7_8 H fun x dx hs tk il at_ ex zq7 n1 n2 ne g1 g2 he row => ?_
 clear H
 subst zq7
 refine ⟨x, (x, instObj 182 dx) :: (dx, vecD hs (.str "list" tk) (.ref il) at_ (.bool false) (.bool false)) :: ex, rfl, hm, ?_, .inr ⟨dx, hs, tk, il, at_, ex, .head _, mem_at 1 rfl, ne, fun p hp => ⟨.tail _ (.tail _ hp), (he p hp).2.2⟩, row⟩⟩
 exact fcons ⟨n1, g1⟩ (fcons ⟨n2, g2⟩ (fun p hp => ⟨(he p hp).1, (he p hp).2.1⟩))
section
variable {r : Heap}
theorem as_set {val : Addr} {at_ : Value} (X : (K0 w.params).In r) (T : TopRead p loose mg mb r) (st : r.StaysIn s.heap) (hr' : r'.StaysIn r) (hm : ∀ p ∈ mt, s.heap.get? p.1 = some p.2) (hr : ∀ p ∈ mt, r.get? p.1 = none) (hv : VecAt r v dv (.str "list" tkL) (.ref il) at_) (hrow : RowRest w r' il at_ ps) (hz9 : ps.length ≤ 900) (hy : y ≠ "") (hix : VecAt r ix dix (.str "character" tkx) (.ref ixl) .none) (hxl : r.IsList ixl [Value.str y ty].toArray) (V : VS r' val fo mt mtN) :
  Does w 10 (.ref 1110) ⟨[.ref v, .ref ix, .ref val, .ref nl], []⟩ (adrs mt) s (SetDone w r' s.heap mtN v ps (setO ps y fo)) := by
 cases V with
 | int hval hvil =>
  intro d u rm
  refine codeAny_mono (as_int (nl := nl) X T st hr' hv hrow hz9 hy hix hxl hval hvil (hm _ (.head _)) (hr _ (.head _)) d u rm) fun res s' ⟨rv, h', tk, e1, e2, e3, e4, e5⟩ => ⟨rv, h', tk, e1, e2, e3, .new (fcons e4 fN) e5⟩
 | nul hval =>
  intro d u rm
  refine codeAny_mono (as_nul (nl := nl) X T st hr' hv hrow hy hix hxl (ValAt.mono (o := none) hval hr') d u rm) fun res s' ⟨rv, h', tk, e1, e2, e3, e4⟩ => ⟨rv, h', tk, e1, e2, e3, ?_⟩
  rcases e4 with ⟨e, rfl⟩ | ⟨_, e⟩
  ·exact ⟨v, [], rfl, fN, fN, .inl ⟨by show delR ps y = ps; unfold delR; rw [e], rfl⟩⟩
  ·exact .new fN e
end
def BackM (h₀ : Heap) (mt : List Addr) (P : Value → Heap → Prop) (s₀ : Shared) (v : Value) (s' : Shared) : Prop :=
 ∃ h' tk, s' = { s₀ with heap := h', toks := tk } ∧ Keep mt h₀ h' ∧ P v h'
theorem backM_ {g : Heap} {mt : List Addr} {v : Value} {tk : Nat} {m : Str → Option Value} (F : Fr g L h' m) (G : ∀ b o, h₀.get? b = some o → b ∉ mt → g.get? b = some o) (hL : L = h₀.objs.size) (hp : P v h') : BackM h₀ mt P s₀ v { s₀ with heap := h', toks := tk } :=
 ⟨h', tk, rfl, ⟨fun b o e n => F.keep _ _ (G b o e n), by refine o3_2 F.ns fun oL _ _ hoL _ => ?_; exact ⟨oL, hL ▸ hoL⟩⟩, hp⟩
theorem does_mt {l : Nat} {mt : List Addr} {r : Heap} {od : Option Addr} {f : Addr} {args : Args} (X : K.In r) (T : TopRead p loose mg mb r) (st : r.StaysIn s.heap) (ho : K.lookup f = some ⟨oc, od, .func (fnOf name qual params body scope dV kV doc pm an cdv ct), osl⟩) (hcd : codeIn K cdv qual = true) (hbind : BindsTo s (fnOf name qual params body scope dV kV doc pm an cdv ct) args binds) (hloc : ∀ y ∈ binds, scope.names.lookup y.1 = some .local) (h : ∀ d u g L' h₁, Rm l d u → Fr g L' h₁ (fun y => binds.reverse.lookup y) → News g L' h₁ [] → K.In g → TopRead p loose mg mb g → r.StaysIn g → g = s.heap → L' = g.objs.size →
   let PP := P
   wpAny (model thePr w) (AA (d + 1) (u + 3)) (execs body (envOf qual scope L' f cdv))
    (fun fl s' => BackM g mt PP s (match fl with | .ret v => v | _ => .none) s') (fun _ _ => False)
    { s with heap := h₁, toks := s.toks + binds.length }) (hco : scope.isCoroutine = false) (hgen : scope.isGenerator = false) (hk : scope.kind = .function) (hcell : ∀ x ∈ scope.names, x.2 ≠ .cell) (hl : 0 < l) : Does w l (.ref f) args mt s P := by
 intro d u rm
 have Xs : K.In s.heap := X.keeps st
 k_extra "x133"
 refine wpAny_mono (h d u s.heap s.heap.objs.size h₁ rm ⟨hns, hk₁, Nat.le_refl _⟩ News.nil Xs (T.keeps st) st rfl rfl) (fun fl s' hb => ?_) (fun _ _ x => x.elim)
 refine o2_3 hb fun h' tk e hp q => ?_
 clear hb
 exact ⟨_, h', tk, rfl, e, hp, q⟩
theorem re_stay {g r : Heap} {m : Str → Option Value} (F : Fr g L h m) (Sr : r.StaysIn g) (hr : ∀ p ∈ mt, r.get? p.1 = none) : r.StaysIn (hideAll h (adrs mt)) := fun b o e => by
 refine hideAll_get _ (F.keep _ _ (Sr _ _ e)) fun q => ?_
 refine o1_2 (List.mem_map.mp q) fun p hp e' => ?_
 have := hr p hp
 rw [e', e] at this; cases this
theorem re_off {g : Heap} (N : News g L h pre) (hm : ∀ p ∈ mt, g.get? p.1 = some p.2) : ∀ p ∈ pre, p.1 ∉ adrs mt := fun p hp q => by
 refine o1_2 (List.mem_map.mp q) fun z hz e => ?_
 have := (N p hp).2.2
 rw [← e, hm z hz] at this; cases this
theorem re_get {g : Heap} (N : News g L h pre) (hm : ∀ p ∈ mt, g.get? p.1 = some p.2) (h1 : (a, o) ∈ pre) : (hideAll h (adrs mt)).get? a = some o := hideAll_get _ (N _ h1).1 (re_off N hm _ h1)
theorem use_re {r g : Heap} {l : Nat} {f : Value} (rm : Rm l d u) (F : Fr g L s.heap m) (N : News g L s.heap pre) (X : (K0 w.params).In r) (T : TopRead p loose mg mb r) (Sr : r.StaysIn g) (hm : ∀ p ∈ mt, g.get? p.1 = some p.2) (hr : ∀ p ∈ mt, r.get? p.1 = none) (hmn : adrs mtN = adrs mt) (H : Does w l f ⟨args, []⟩ (adrs mt) s (SetDone w r' s.heap mtN v ps ps')) (k : ∀ g2 c own extra h' tk, Fr g2 L h' m → News g2 L h' (pre ++ own) → OwnOff own (adrs pre) → (K0 w.params).In g2 → TopRead p loose mg mb g2 → r.StaysIn g2 → (∀ b o, g.get? b = some o → b ∉ adrs mt → g2.get? b = some o) → (∀ p ∈ mtN, p ∈ own) → (∀ p ∈ extra, p ∈ own ∧ g.get? p.1 = none) → SetTell w r' mtN v ps ps' c extra → Q (.ref c) { s with heap := h', toks := tk }) :
  wpAny (model thePr w) (AA d u) (call f args) Q E s := by
 refine H.use rm fun rv h' tk hk hp => ?_
 k_extra "x135"
 have off := re_off N hm
 have hgm : ∀ b o, (hideAll g (adrs mt)).get? b = some o → h'.get? b = some o := fun b o e => hk.all _ _ (F.keep _ _ (hid_of e).1) (hid_of e).2
 have hL : ∀ p ∈ mt, p.1 ≠ L := fun p hp e => absurd (Heap.lt_size (hm p hp)) (by rw [e]; exact Nat.not_lt.mpr F.above)
 have nn : ∀ p ∈ mtN, ∃ q ∈ mt, q.1 = p.1 := fun p hp => by
  have : p.1 ∈ adrs mt := hmn ▸ List.mem_map_of_mem hp
  exact List.mem_map.mp this
 have nl : L ∉ adrs mt := fun q => by
  refine o1_2 (List.mem_map.mp q) fun z hz e => ?_
  exact hL z hz e
 have Sg : r.StaysIn (hideAll g (adrs mt)) := fun b o e => hideAll_get _ (Sr _ _ e) fun q => by
  refine o1_2 (List.mem_map.mp q) fun z hz e' => ?_
  have := hr z hz
  rw [e', e] at this; cases this
 have hgn : ∀ a, s.heap.get? a = none → g.get? a = none := fun a e => by
  cases q : g.get? a with
  | none => rfl
  | some o => rw [F.keep _ _ q] at e; cases e
 have hsg : ∀ a, s.heap.get? a = none → (hideAll g (adrs mt)).get? a = none := fun a e => by
  cases q : (hideAll g (adrs mt)).get? a with
  | none => rfl
  | some o => rw [F.keep _ _ (hid_of q).1] at e; cases e
 refine k (hideAll g (adrs mt)) c (mtN ++ extra) extra h' tk ?_ (fun p hp => ?_) (fun p hp b hb e => ?_) (X.keeps Sg) (T.keeps Sg) Sg (fun b o e n => hideAll_get _ e n) (fun p hp => mal _ hp) (fun p hp => ⟨mar _ hp, hgn _ (ee p hp).1⟩) ht
 ·refine o3_2 F.ns fun oL es ep hLo q => ?_
  exact ⟨⟨oL, es, ep, hk.all _ _ hLo nl, q⟩, hgm, by rw [hideAll_size]; exact F.above⟩
 ·k_extra "x199"
  ·refine ⟨hk.all _ _ (N p hp).1 (off p hp), (N p hp).2.1, ?_⟩
   cases q : (hideAll g (adrs mt)).get? p.1 with
   | none => rfl
   | some o => have := (N p hp).2.2; rw [(hid_of q).1] at this; cases this
  ·k_extra "x199"
   ·refine o1_2 (nn p hp) fun z hz e => ?_
    exact ⟨em p hp, e ▸ hL z hz, hideAll_none _ (e ▸ List.mem_map_of_mem hz)⟩
   ·refine ⟨(ee p hp).2, fun e => ?_, hsg _ (ee p hp).1⟩
    refine o3_2 F.ns fun oL _ _ hLo _ => ?_
    have := (ee p hp).1
    rw [e, hLo] at this; cases this
 ·refine o1_2 (List.mem_map.mp hb) fun z hz e1 => ?_
  k_extra "x199"
  ·refine o1_2 (nn p hp) fun q hq e2 => ?_
   exact off z hz (by rw [e1, ← e, ← e2]; exact List.mem_map_of_mem hq)
  ·have := (ee p hp).1
   rw [e, ← e1, (N z hz).1] at this; cases this
theorem setDone_ {g2 : Heap} (N : News g2 L h' news) (hs : ∀ p ∈ own, p ∈ news) (hmn : ∀ p ∈ mtN, p ∈ own) (hex : ∀ p ∈ extra, p ∈ own ∧ h.get? p.1 = none) (ht : SetTell w r' mtN v ps ps' c extra) :
  SetDone w r' h mtN v ps ps' (.ref c) h' :=
 ⟨c, extra, rfl, fun p hp => (N _ (hs _ (hmn p hp))).1, fun p hp => ⟨(hex p hp).2, (N _ (hs _ (hex p hp).1)).1⟩, ht⟩
abbrev ReK (w : World) (p : Program) (loose : List Str) (mg mb : Str → Option Value) (g : Heap) (L : Addr) (m : LocMap) (pre mt mtN : List (Addr × Obj)) (r r' : Heap) (v : Addr) (ps ps' : List (Str × Int)) (s : Shared) (Q : Value → Shared → Prop) : Prop :=
 ∀ g2 c own extra h' tk, Fr g2 L h' m → News g2 L h' (pre ++ own) → OwnOff own (adrs pre) → (K0 w.params).In g2 → TopRead p loose mg mb g2 → r.StaysIn g2 → (∀ b o, g.get? b = some o → b ∉ adrs mt → g2.get? b = some o) → (∀ p ∈ mtN, p ∈ own) → (∀ p ∈ extra, p ∈ own ∧ g.get? p.1 = none) → SetTell w r' mtN v ps ps' c extra → Q (.ref c) { s with heap := h', toks := tk }
theorem re_vec {g r : Heap} {il at_ : Value} (hr : ∀ p ∈ mt, r.get? p.1 = none) (Sr : r.StaysIn g) (F : Fr g L h m) (H : VecAt r x dx kd il at_) : VecAt (hideAll h (adrs mt)) x dx kd il at_ := H.mono (re_stay F Sr hr)
theorem re_lst {g r : Heap} {vs : Array Value} (hr : ∀ p ∈ mt, r.get? p.1 = none) (Sr : r.StaysIn g) (F : Fr g L h m) (H : r.IsList a vs) : (hideAll h (adrs mt)).IsList a vs := IsList.mono H (re_stay F Sr hr)
theorem re_vecN {g : Heap} {il at_ : Value} (N : News g L h pre) (hm : ∀ p ∈ mt, g.get? p.1 = some p.2) (h1 : (x, instObj 182 dx) ∈ pre) (h2 : (dx, vecD hs kd il at_ (.bool sh) (.bool false)) ∈ pre) : VecAt (hideAll h (adrs mt)) x dx kd il at_ := ⟨hs, sh, re_get N hm h1, re_get N hm h2⟩
theorem re_lstN {g : Heap} (N : News g L h pre) (hm : ∀ p ∈ mt, g.get? p.1 = some p.2) (h1 : (a, listOf vs.toArray n) ∈ pre) : (hideAll h (adrs mt)).IsList a vs.toArray := ⟨_, re_get N hm h1, rfl, _, rfl⟩
theorem use_asS {g r : Heap} {val : Addr} {at_ : Value} (rm : Rm 10 d u) (F : Fr g L s.heap m) (N : News g L s.heap pre) (hr : ∀ p ∈ mt, r.get? p.1 = none) (hm : ∀ p ∈ mt, g.get? p.1 = some p.2) (X : (K0 w.params).In r) (T : TopRead p loose mg mb r) (Sr : r.StaysIn g) (Sr' : r'.StaysIn r) (V : VS r' val fo mt mtN) (hv : VecAt r v dv (.str "list" tkL) (.ref il) at_) (hrow : RowRest w r' il at_ ps) (hz9 : ps.length ≤ 900) (hy : y ≠ "") (hix : VecAt (hideAll s.heap (adrs mt)) ix dix (.str "character" tkx) (.ref ixl) .none) (hxl : (hideAll s.heap (adrs mt)).IsList ixl [Value.str y ty].toArray) (k : ReK w p loose mg mb g L m pre mt mtN r r' v ps (setO ps y fo) s Q) :
  wc w d u 1110 [.ref v, .ref ix, .ref val, .ref nl] Q E s :=
 have st := re_stay F Sr hr
 use_re rm F N X T Sr hm hr V.adr (as_set (X.keeps st) (T.keeps st) hid_stay (fun _ _ e => st _ _ (Sr' _ _ e)) (fun p hp => F.keep _ _ (hm p hp)) (fun p hp => hideAll_none _ (List.mem_map_of_mem hp)) (hv.mono st) hrow hz9 hy hix hxl V) k
end
local macro_rules |`(tactic|walk_at "")=>`(tactic|skip)
section
local macro_rules | `(tactic| walk_at $s:str) => hk ["gB41", "c3", "c2", "c0"] s
theorem lines_27 : True := by
 k_with "L106" => (k_here; (with_reducible show wpAny _ _ (call (Value.ref 1110) [_, _, _, _]) _ _ _); refine' use_asS ?rm ?F ?N ?hr ?hm ?X ?T ?Sr ?Sr' ?V ?hv ?hrow ?hz9 ?hy ?hix ?hxl ?_; k_extra "x28"; k_extra "x35")
 k_with "L107" => (refine' backM_ ?Fz107 ?Gz107 ?Lz107 ?_; (case Fz107 => k_asm); (case Gz107 | Lz107 => assumption); refine stop_ ?_; (try dsimp only); walk_say "BACKM")
 k_with "gB41call ref" => first | k_extra "L106" | k_extra "L60" | k_extra "L58"
 k_with "gB41BackM" => k_extra "L107"
 trivial
section
variable {r : Heap}
theorem down_ {val : Addr} {at_ : Value} (X : (K0 w.params).In r) (T : TopRead p loose mg mb r) (st : r.StaysIn s.heap) (hr' : r'.StaysIn r) (hm : ∀ p ∈ mt, s.heap.get? p.1 = some p.2) (hr : ∀ p ∈ mt, r.get? p.1 = none) (hv : VecAt r v dv (.str "list" tkL) (.ref il) at_) (hrow : RowRest w r' il at_ ps) (hz9 : ps.length ≤ 900) (hy : y ≠ "") (hix : VecAt r ix dix (.str "character" tkx) (.ref ixl) .none) (hxl : r.IsList ixl [Value.str y ty].toArray) (hpl : r.IsList pl [Value.ref ix].toArray) (V : VS r' val fo mt mtN) :
  Does w 12 (.ref 1117) ⟨[.ref v, .ref pl, .ref val, .ref nl], []⟩ (adrs mt) s (SetDone w r' s.heap mtN v ps (setO ps y fo)) := by
 w_on
 refine' does_mt (binds := [("v", Value.ref v), ("parts", Value.ref pl), ("value", Value.ref val), ("notes", Value.ref nl)]) X T st ?ho ?hcd ?hbind ?hloc ?_ ?hco ?hgen ?hk ?hcell ?hl
 k_extra "x88"
 have hplg := IsList.mono hpl Sr
 k_extra "x201"
 k_extra "x203"
 dsimp only [PP]
 rw [← hg]
 exact setDone_ Nz (fun _ h => by simpa using h) (by assumption) (by assumption) ht
end
end
local macro_rules |`(tactic|walk_at "")=>`(tactic|skip)
section
local macro_rules | `(tactic| walk_at $s:str) => hk ["gB42", "c3", "c2", "c0"] s
section
variable {env : Env}
theorem use_downS {g r : Heap} {val : Addr} {at_ : Value} (rm : Rm 12 d u) (F : Fr g L s.heap m) (N : News g L s.heap pre) (hr : ∀ p ∈ mt, r.get? p.1 = none) (hm : ∀ p ∈ mt, g.get? p.1 = some p.2) (X : (K0 w.params).In r) (T : TopRead p loose mg mb r) (Sr : r.StaysIn g) (Sr' : r'.StaysIn r) (V : VS r' val fo mt mtN) (hv : VecAt r v dv (.str "list" tkL) (.ref il) at_) (hrow : RowRest w r' il at_ ps) (hz9 : ps.length ≤ 900) (hy : y ≠ "") (hpl : (hideAll s.heap (adrs mt)).IsList pl [Value.ref ix].toArray) (hix : VecAt (hideAll s.heap (adrs mt)) ix dix (.str "character" tkx) (.ref ixl) .none) (hxl : (hideAll s.heap (adrs mt)).IsList ixl [Value.str y ty].toArray) (k : ReK w p loose mg mb g L m pre mt mtN r r' v ps (setO ps y fo) s Q) :
  wc w d u 1117 [.ref v, .ref pl, .ref val, .ref nl] Q E s :=
 have st := re_stay F Sr hr
 use_re rm F N X T Sr hm hr V.adr (down_ (X.keeps st) (T.keeps st) hid_stay (fun _ _ e => st _ _ (Sr' _ _ e)) (fun p hp => F.keep _ _ (hm p hp)) (fun p hp => hideAll_none _ (List.mem_map_of_mem hp)) (hv.mono st) hrow hz9 hy hix hxl hpl V) k
theorem turns_nil {Q : Flow → Shared → Prop} (hL : env.locals = L) (hh : A.handled = none) (hl : s.heap.IsList l ([] : List Value).toArray) (hne : L ≠ l) (F : Fr h₀ L s.heap m) (N : News h₀ L s.heap news) (k : ∀ h' tk, Fr h₀ L h' m → News h₀ L h' news → Q .next { s with heap := h', toks := tk }) : wpAny (model thePr w) A (pyIter (.ref l)) (fun it s₂ => TurnsAt thePr w A h₀ env target body Q E it s₂) E s := by
 subst hL
 have hlt : l < s.heap.objs.size := let ⟨_, e, _⟩ := hl; Heap.lt_size e
 refine wpAny_pyIter_list hl ?_
 have W := Walks.list (prog := thePr) (w := w) hh s.heap.objs.size l (Nat.ne_of_lt hlt) ([] : List Value).toArray
 have hLlt : env.locals < s.heap.objs.size := F.ns.lt
 refine ⟨s.heap.objs.size, [s.heap.objs.size, l], [s.heap.objs.size], 0, _, _, _, m, news, fun _ m₁ news₁ => m₁ = m ∧ news₁ = news, rfl, KTurns.ofWalks W fun i v s Q E st hQ => letGo_listiter st.1 hQ, ?_, ?_, ?_, ?_, F.push _, fun p hp => ⟨Heap.get?_push_of_some _ (N p hp).1, (N p hp).2⟩, ⟨rfl, rfl⟩, fun i v m₁ news₁ h₁ tk₁ own hi => absurd hi (Nat.not_lt_zero i), ?_⟩
 ·k_extra "x235"
  ·exact hne (ms1 q)
 k_extra "x170"
 k_extra "x233"
 ·intro h' tk m' news' F' N' _ hz1
  refine o0_2 hz1 fun zq0 zq1 => ?_
  clear hz1
  subst zq0
  subst zq1
  exact k h' tk F' N'
end
theorem lines_28 : True := by
 k_with "L108" => (k_here; (with_reducible show wpAny _ _ (call (Value.ref 1117) [_, _, _, _]) _ _ _); refine' use_downS ?rm ?F ?N ?hr ?hm ?X ?T ?Sr ?Sr' ?V ?hv ?hrow ?hz9 ?hy ?hpl ?hix ?hxl ?_; k_extra "x28"; (case hpl => k_extra "x9"); k_extra "x35")
 k_with "L109" => (k_here; k_extra "x59"; k_dflt (refine' turns_nil ?Lz109 ?hhz109 ?lz109 ?nez109 ?Fz109 ?Nz109 ?_; (case Lz109 => exact rfl); (case hhz109 => exact rfl); (case Fz109 => k_asm); (case Nz109 => k_asm); (case lz109 => is_list); (case nez109 => assumption); k_whole); intro h' tk' F' N'; k_extra "x25")
 k_with "gB42call ref" => first | k_extra "L108" | k_extra "L106" | k_extra "L60" | k_extra "L58"
 k_with "gB42BackM" => k_extra "L107"
 k_with "gB42exec For Name Name cons nil" => k_extra "L99"
 k_with "gB42pyIter ref" => k_extra "L109"
 trivial
section
variable {r : Heap}
theorem warn_all_ {v : Nat → Value} (X : (K0 w.params).In r) (T : TopRead p loose mg mb r) (st : r.StaysIn s.heap) (hI : s.heap.get? I = some (instObj 1569 dI)) (hdI : s.heap.get? dI = some (evD q v gl vis)) (h13 : v 13 = .none) (hnl : s.heap.IsList nl ([] : List Value).toArray) :
  Does w 2 (.ref 1415) ⟨[.ref I, .ref nl], []⟩ (adrs []) s fun rv h' => rv = .none := by
 have hne : nl < s.heap.objs.size := let ⟨_, e, _⟩ := hnl; Heap.lt_size e
 dsimp only [evD] at hdI
 rw [h13] at hdI
 w_on
 refine' does_def (mt := []) (binds := [("self", Value.ref I), ("notes", Value.ref nl), ("call", Value.none)]) X T st ?hm ?hr ?ho ?hcd ?hbind ?hloc ?_ ?hco ?hgen ?hk ?hcell ?hl
 k_extra "x85"
 have hIg := Sg _ _ hI nmn
 have hdIg := Sg _ _ hdI nmn
 have hnlg := IsList.mono hnl (Sall Sg)
 have hLn : L' ≠ nl := fun e => by rw [← e, hL] at hne; exact absurd hne (Nat.lt_irrefl _)
 k_extra "x149"
 all_goals rfl
theorem element_set_ {val : Addr} {at_ : Value} (X : (K0 w.params).In r) (T : TopRead p loose mg mb r) (st : r.StaysIn s.heap) (hr' : r'.StaysIn r) (hm : ∀ p ∈ mt, s.heap.get? p.1 = some p.2) (hr : ∀ p ∈ mt, r.get? p.1 = none) (hv : VecAt r v dv (.str "list" tkL) (.ref il) at_) (hrow : RowRest w r' il at_ ps) (hz9 : ps.length ≤ 900) (hy : y ≠ "") (hix : VecAt r ix dix (.str "character" tkx) (.ref ixl) .none) (hxl : r.IsList ixl [Value.str y ty].toArray) (hids : r.IsList ids [Value.ref ix].toArray) (V : VS r' val fo mt mtN) :
  Does w 14 (.ref 1124) ⟨[.ref v, .ref ids, .ref val, .ref nl], []⟩ (adrs mt) s (SetDone w r' s.heap mtN v ps (setO ps y fo)) := by
 w_on
 refine' does_mt (binds := [("v", Value.ref v), ("indexes", Value.ref ids), ("value", Value.ref val), ("notes", Value.ref nl)]) X T st ?ho ?hcd ?hbind ?hloc ?_ ?hco ?hgen ?hk ?hcell ?hl
 k_extra "x88"
 have hidsg := IsList.mono hids Sr
 k_extra "x150"
 k_extra "x201"
 k_extra "x155"
 k_extra "x109"
theorem dollar_set_ {val : Addr} {at_ : Value} (X : (K0 w.params).In r) (T : TopRead p loose mg mb r) (st : r.StaysIn s.heap) (hr' : r'.StaysIn r) (hm : ∀ p ∈ mt, s.heap.get? p.1 = some p.2) (hr : ∀ p ∈ mt, r.get? p.1 = none) (hv : VecAt r v dv (.str "list" tkL) (.ref il) at_) (hrow : RowRest w r' il at_ ps) (hz9 : ps.length ≤ 900) (hy : y ≠ "") (V : VS r' val fo mt mtN) :
  Does w 14 (.ref 1131) ⟨[.ref v, .str y ty, .ref val, .ref nl], []⟩ (adrs mt) s (SetDone w r' s.heap mtN v ps (setO ps y fo)) := by
 w_on
 refine' does_mt (binds := [("v", Value.ref v), ("name", Value.str y ty), ("value", Value.ref val), ("notes", Value.ref nl)]) X T st ?ho ?hcd ?hbind ?hloc ?_ ?hco ?hgen ?hk ?hcell ?hl
 k_extra "x88"
 k_extra "x201"
 k_extra "x109"
end
end
local macro_rules |`(tactic|walk_at "")=>`(tactic|skip)
section
local macro_rules | `(tactic| walk_at $s:str) => hk ["gB43", "c3", "c2", "c0"] s
noncomputable abbrev tupObj (vs : List Value) : Obj := { cls := .type "tuple", data := .seq vs.toArray }
section
variable {env : Env}
theorem use_elemS {g r : Heap} {val : Addr} {at_ : Value} (rm : Rm 14 d u) (F : Fr g L s.heap m) (N : News g L s.heap pre) (hr : ∀ p ∈ mt, r.get? p.1 = none) (hm : ∀ p ∈ mt, g.get? p.1 = some p.2) (X : (K0 w.params).In r) (T : TopRead p loose mg mb r) (Sr : r.StaysIn g) (Sr' : r'.StaysIn r) (V : VS r' val fo mt mtN) (hv : VecAt r v dv (.str "list" tkL) (.ref il) at_) (hrow : RowRest w r' il at_ ps) (hz9 : ps.length ≤ 900) (hy : y ≠ "") (hids : (hideAll s.heap (adrs mt)).IsList ids [Value.ref ix].toArray) (hix : VecAt (hideAll s.heap (adrs mt)) ix dix (.str "character" tkx) (.ref ixl) .none) (hxl : (hideAll s.heap (adrs mt)).IsList ixl [Value.str y ty].toArray) (k : ReK w p loose mg mb g L m pre mt mtN r r' v ps (setO ps y fo) s Q) :
  wc w d u 1124 [.ref v, .ref ids, .ref val, .ref nl] Q E s :=
 have st := re_stay F Sr hr
 use_re rm F N X T Sr hm hr V.adr (element_set_ (X.keeps st) (T.keeps st) hid_stay (fun _ _ e => st _ _ (Sr' _ _ e)) (fun p hp => F.keep _ _ (hm p hp)) (fun p hp => hideAll_none _ (List.mem_map_of_mem hp)) (hv.mono st) hrow hz9 hy hix hxl hids V) k
theorem use_dolS {g r : Heap} {val : Addr} {at_ : Value} (rm : Rm 14 d u) (F : Fr g L s.heap m) (N : News g L s.heap pre) (hr : ∀ p ∈ mt, r.get? p.1 = none) (hm : ∀ p ∈ mt, g.get? p.1 = some p.2) (X : (K0 w.params).In r) (T : TopRead p loose mg mb r) (Sr : r.StaysIn g) (Sr' : r'.StaysIn r) (V : VS r' val fo mt mtN) (hv : VecAt r v dv (.str "list" tkL) (.ref il) at_) (hrow : RowRest w r' il at_ ps) (hz9 : ps.length ≤ 900) (hy : y ≠ "") (k : ReK w p loose mg mb g L m pre mt mtN r r' v ps (setO ps y fo) s Q) :
  wc w d u 1131 [.ref v, .str y ty, .ref val, .ref nl] Q E s :=
 have st := re_stay F Sr hr
 use_re rm F N X T Sr hm hr V.adr (dollar_set_ (X.keeps st) (T.keeps st) hid_stay (fun _ _ e => st _ _ (Sr' _ _ e)) (fun p hp => F.keep _ _ (hm p hp)) (fun p hp => hideAll_none _ (List.mem_map_of_mem hp)) (hv.mono st) hrow hz9 hy V) k
include F N X T in
theorem use_warn {v : Nat → Value} (rm : Rm 2 d u) (hI : s.heap.get? I = some (instObj 1569 dI)) (hdI : s.heap.get? dI = some (evD q v gl vis)) (h13 : v 13 = .none) (hnl : s.heap.IsList nl ([] : List Value).toArray) (k : ∀ h' tk, Fr h₀ L h' m → News h₀ L h' news → Q .none { s with heap := h', toks := tk }) :
  wc w d u 1415 [.ref I, .ref nl] Q E s :=
 use_pure rm F N (warn_all_ X T F.keep hI hdI h13 hnl) fun v h' tk F' N' _ e => by subst e; exact k h' tk F' N'
end
theorem lines_29 : True := by
 k_with "L110" => (k_extra "x24"; k_dflt (refine' item_tupleT ?lz110 ?nz110 ?n2z110 ?jz110 ?xz110 ?_; (case lz110 => exact IsTup.keeps (by with_reducible assumption) (stay2 (by k_asm) (by with_reducible assumption))); (case nz110 => decide); (case n2z110 => decide); (case jz110 => exact rfl); (case xz110 => exact rfl); k_whole))
 k_with "L111" => (k_extra "x24"; k_dflt (refine' item_tupleT ?lz111 ?nz111 ?n2z111 ?jz111 ?xz111 ?_; (case lz111 => exact IsTup.keeps (by with_reducible assumption) (stay2 (by k_asm) (by with_reducible assumption))); (case nz111 => decide); (case n2z111 => decide); (case jz111 => exact rfl); (case xz111 => exact rfl); k_whole))
 k_with "L112" => (k_extra "x24"; k_dflt (refine' item_z ?lz112 ?zz112 ?nz112 ?xz112 ?_; (case lz112 => exact lst_base (by k_asm) (by with_reducible assumption) (by with_reducible assumption)); (case zz112 => first | assumption | exact Nat.le_of_ble_eq_true rfl | omega); (case nz112 => decide); (case xz112 => exact rfl); k_whole))
 k_with "L113" => (k_here; (with_reducible show wpAny _ _ (assign (Expr.Tuple _ _ _) _ (Value.ref _)) _ _ _); k_dflt (refine' unpackN_ ?Fz113 ?Nz113 ?Tz113 ?k1z113 ?k2z113 ?k3z113 ?_; (case Fz113 => k_asm); (case Nz113 => k_asm); (case Tz113 => first | with_reducible assumption | (refine News.isTup (by k_asm) (by tb_rel)) | exact IsTup.keeps (by assumption) (stay2 (by k_asm) (by assumption))); (case k1z113 => exact rfl); (case k2z113 => exact rfl); (case k3z113 => exact rfl)); k_extra "x78")
 k_with "gB43subscriptTail Subscript Name Constant Constant ref int" => k_extra "L110"
 k_with "gB43subscriptTail Subscript Name UnaryOp Constant ref int" => k_extra "L111"
 k_with "gB43subscriptTail Name Constant ref int" => k_extra "L112"
 k_with "gB43exec For Tuple Subscript cons nil" => k_extra "L39"
 k_with "gB43assign Tuple" => k_extra "L113"
 trivial
section
variable {r : Heap}
theorem define_ {fr : Addr} {x : Value} (X : (K0 w.params).In r) (T : TopRead p loose mg mb r) (st : r.StaysIn s.heap) (he : EnvAt w r e num fr) (hf : s.heap.get? fr = some o) (hrf : r.get? fr = none) (lo : (fr == sysModules) = false) (hd : o.IsDictOf (strKind thePr w) kvs) (hz : kvs.length ≤ 900) :
  Does w 2 (.ref 915) ⟨[.ref e, .str y ty, x], []⟩ (adrs [(fr, o)]) s fun rv h' => rv = .none ∧ ∃ o', h'.get? fr = some o' ∧ o'.IsDictOf (strKind thePr w) (stored kvs y x) := by
 w_on
 refine' does_def (mt := [(fr, o)]) (binds := [("env", Value.ref e), ("name", Value.str y ty), ("value", x)]) X T st ?hm ?hr ?ho ?hcd ?hbind ?hloc ?_ ?hco ?hgen ?hk ?hcell ?hl
 k_extra "x162"
 have heg := he.mono Sr
 k_extra "x137"
 have hnil : (valueAt ([] : List (Str × Value)) y).getD .none = .none := rfl
 k_extra "x146"
theorem parts_ {t1 t2 : Addr} (X : (K0 w.params).In r) (T : TopRead p loose mg mb r) (st : r.StaysIn s.heap) (hal : s.heap.IsList al [Value.ref t0, Value.ref t1, Value.ref t2].toArray) (h0 : IsTup s.heap t0 #[.none, v0]) (h1 : IsTup s.heap t1 #[.none, .ref ix]) (h2 : IsTup s.heap t2 #[.str "value" tv, v1]) :
  Does w 2 (.ref 1159) ⟨[.ref al], []⟩ (adrs []) s fun rv h' => ∃ t ids n, rv = .ref t ∧ s.heap.get? t = none ∧ s.heap.get? ids = none ∧ h'.get? t = some (tupObj [v0, .ref ids, v1]) ∧ h'.get? ids = some (listOf [Value.ref ix].toArray n) := by
 w_on
 refine' does_def (mt := []) (binds := [("args", Value.ref al)]) X T st ?hm ?hr ?ho ?hcd ?hbind ?hloc ?_ ?hco ?hgen ?hk ?hcell ?hl
 k_extra "x85"
 have halg := IsList.mono hal (Sall Sg)
 have h0g := IsTup.keeps h0 (Sall Sg)
 have h1g := IsTup.keeps h1 (Sall Sg)
 have h2g := IsTup.keeps h2 (Sall Sg)
 k_extra "x86"
 exact ⟨_, _, _, rfl, fresh_of Sg Nz (.head _), fresh_of Sg Nz (mem_at 2 rfl), News.get Nz (.head _), News.get Nz (mem_at 2 rfl)⟩
end
section
variable {g : Obj → List (Addr × Obj)}
include F N X T in
theorem use_parts {t1 t2 : Addr} (rm : Rm 2 d u) (hal : s.heap.IsList al [Value.ref t0, Value.ref t1, Value.ref t2].toArray) (h0 : IsTup s.heap t0 #[.none, v0]) (h1 : IsTup s.heap t1 #[.none, .ref ix]) (h2 : IsTup s.heap t2 #[.str "value" tv, v1]) (k : ∀ t ids n h' tk, Fr h₀ L h' m → let nw := (t, tupObj [v0, .ref ids, v1]) :: (ids, listOf [Value.ref ix].toArray n) :: news; News h₀ L h' nw → (∀ p ∈ news, p.1 ≠ t) → (∀ p ∈ news, p.1 ≠ ids) → Q (.ref t) { s with heap := h', toks := tk }) :
  wc w d u 1159 [.ref al] Q E s :=
 use_pure rm F N (parts_ X T F.keep hal h0 h1 h2) fun v h' tk F' N' _ ⟨t, ids, n, e, n1, n2, g1, g2⟩ => by
  subst e; exact k t ids n h' tk F' (news_new F (news_new F N' n2 g2) n1 g1) (ne_news N n1) (ne_news N n2)
theorem use_define {fr : Addr} {x : Value} (rm : Rm 2 d u) (F : Fr h₀ L s.heap m) (N : News h₀ L s.heap news) (U : UpdF fr o news g) (X : (K0 w.params).In h₀) (T : TopRead p loose mg mb h₀) (he : EnvAt w (hideAll s.heap [fr]) e num fr) (lo : (fr == sysModules) = false) (hd : o.IsDictOf (strKind thePr w) kvs) (hz : kvs.length ≤ 900) (k : ∀ o' h' tk, Fr h₀ L h' m → let nw := g o'; News h₀ L h' nw → o'.IsDictOf (strKind thePr w) (stored kvs y x) → Q .none { s with heap := h', toks := tk }) :
  wc w d u 915 [.ref e, .str y ty, x] Q E s := by
 k_extra "x153"
 refine (define_ (r := hideAll s.heap [fr]) (X.keeps S0) (T.keeps S0) hid_stay he (N _ m1).1 (hideAll_none _ (.head _)) lo hd hz).use rm fun rv h' tk' hk' hp => ?_
 k_extra "x124"
theorem env_hid1 {fr : Addr} (F : Fr h₀ L h m) (N : News h₀ L h news) (S : b₀.StaysIn h₀) (m1 : (a, o) ∈ news) (H : EnvAt w b₀ e num fr) : EnvAt w (hideAll h [a]) e num fr := H.mono (stay_hid F N S (on1 m1))
end
end
local macro_rules |`(tactic|walk_at "")=>`(tactic|skip)
section
local macro_rules | `(tactic| walk_at $s:str) => hk ["gB44", "c3", "c2", "c0"] s
theorem lines_30 : True := by
 k_with "L114" => (k_here; (with_reducible show wpAny _ _ (call (Value.ref 1131) [_, _, _, _]) _ _ _); refine' use_dolS ?rm ?F ?N ?hr ?hm ?X ?T ?Sr ?Sr' ?V ?hv ?hrow ?hz9 ?hy ?_; k_extra "x28"; k_whole; intro g2' c' own' ex' h' tk' F' N' off' X' T' Sr' G' hmn' hex' tell'; k_extra "x26")
 k_with "L115" => (k_here; (with_reducible show wpAny _ _ (call (Value.ref 1124) [_, _, _, _]) _ _ _); refine' use_elemS ?rm ?F ?N ?hr ?hm ?X ?T ?Sr ?Sr' ?V ?hv ?hrow ?hz9 ?hy ?hids ?hix ?hxl ?_; k_extra "x28"; (case hids => k_extra "x9"); k_extra "x35")
 k_with "L116" => (k_here; (with_reducible show wpAny _ _ (call (Value.ref 1415) [_, _]) _ _ _); refine' use_warn ?F ?N ?X ?T ?rm ?hI ?hdI ?h13 ?hnl ?_; k_extra "x23"; (case h13 => assumption); (case hI | hdI => k_extra "x3"); (case hnl => k_dflt (is_list)); k_extra "x41")
 k_with "L117" => (k_here; (with_reducible show wpAny _ _ (call (Value.ref 1159) [_]) _ _ _); refine' use_parts ?F ?N ?X ?T ?rm ?hal ?h0 ?h1 ?h2 ?_; k_extra "x23"; (case hal => k_dflt (is_list)); (case h0 | h1 | h2 => k_extra "x16"); k_whole; intro t' ids' n' h' tk' F' nw' N' l1 l2; k_extra "x25")
 k_with "L118" => (k_extra "x63"; refine' use_define ?rm ?F ?N ?U ?X ?T ?he ?lo ?hd ?hz ?_; k_extra "x57")
 k_with "gB44call ref" => first | k_extra "L118" | k_extra "L117" | k_extra "L116" | k_extra "L115" | k_extra "L114" | k_extra "L60" | k_extra "L58"
 k_with "gB44BackM" => k_extra "L107"
 trivial
section
variable {r : Heap}
theorem pf_row {val : Addr} {at_ : Value} (X : (K0 w.params).In r) (T : TopRead p loose mg mb r) (st : r.StaysIn s.heap) (hr' : r'.StaysIn r) (hm : ∀ p ∈ mt, s.heap.get? p.1 = some p.2) (hr : ∀ p ∈ mt, r.get? p.1 = none) (hI : r.get? I = some (instObj 1569 dI)) (hdI : r.get? dI = some (evD q ve gl vis)) (h13 : ve 13 = .none) (hv : VecAt r v dv (.str "list" tkL) (.ref il) at_) (hrow : RowRest w r' il at_ ps) (hz9 : ps.length ≤ 900) (hy : y ≠ "") (V : VS r' val fo mt mtN) :
  Does w 16 (.ref 1187) ⟨[.ref I, .ref v, .str y ty, .ref val], []⟩ (adrs mt) s (SetDone w r' s.heap mtN v ps (setO ps y fo)) := by
 w_on
 refine' does_mt (binds := [("interp", Value.ref I), ("v", Value.ref v), ("name", Value.str y ty), ("value", Value.ref val)]) X T st ?ho ?hcd ?hbind ?hloc ?_ ?hco ?hgen ?hk ?hcell ?hl
 k_extra "x88"
 k_extra "x201"
 k_extra "x109"
theorem bs_row {val t1 t2 : Addr} {ge : Value} {at_ : Value} (X : (K0 w.params).In r) (T : TopRead p loose mg mb r) (st : r.StaysIn s.heap) (hr' : r'.StaysIn r) (hm : ∀ p ∈ mt, s.heap.get? p.1 = some p.2) (hr : ∀ p ∈ mt, r.get? p.1 = none) (hI : r.get? I = some (instObj 1569 dI)) (hdI : r.get? dI = some (evD q ve gl vis)) (h13 : ve 13 = .none) (hv : VecAt r v dv (.str "list" tkL) (.ref il) at_) (hrow : RowRest w r' il at_ ps) (hz9 : ps.length ≤ 900) (hy : y ≠ "") (hix : VecAt r ix dix (.str "character" tkx) (.ref ixl) .none) (hxl : r.IsList ixl [Value.str y ty].toArray) (hal : r.IsList al [Value.ref t0, Value.ref t1, Value.ref t2].toArray) (h0 : IsTup r t0 #[.none, .ref v]) (h1 : IsTup r t1 #[.none, .ref ix]) (h2 : IsTup r t2 #[.str "value" tv, .ref val]) (V : VS r' val fo mt mtN) :
  Does w 16 (.ref 1166) ⟨[.ref I, .ref al, ge], []⟩ (adrs mt) s (SetDone w r' s.heap mtN v ps (setO ps y fo)) := by
 w_on
 refine' does_mt (binds := [("interp", Value.ref I), ("args", Value.ref al), ("env", ge)]) X T st ?ho ?hcd ?hbind ?hloc ?_ ?hco ?hgen ?hk ?hcell ?hl
 k_extra "x88"
 k_extra "x177"
 k_extra "x201"
 k_extra "x109"
theorem pf_box {val : Addr} (X : (K0 w.params).In r) (T : TopRead p loose mg mb r) (st : r.StaysIn s.heap) (hB : EnvAt w r b bnum bf) (hf : s.heap.get? bf = some bfo) (hrf : r.get? bf = none) (lo : (bf == sysModules) = false) (hd : bfo.IsDictOf (strKind thePr w) bkv) (hz : bkv.length ≤ 900) :
  Does w 4 (.ref 1187) ⟨[.ref I, .ref b, .str y ty, .ref val], []⟩ (adrs [(bf, bfo)]) s fun rv h' => rv = .ref b ∧ ∃ o', h'.get? bf = some o' ∧ o'.IsDictOf (strKind thePr w) (stored bkv y (.ref val)) := by
 w_on
 refine' does_def (mt := [(bf, bfo)]) (binds := [("interp", Value.ref I), ("v", Value.ref b), ("name", Value.str y ty), ("value", Value.ref val)]) X T st ?hm ?hr ?ho ?hcd ?hbind ?hloc ?_ ?hco ?hgen ?hk ?hcell ?hl
 k_extra "x162"
 have hBg := hB.mono Sr
 k_extra "x232"
 k_extra "x146"
theorem bs_box {val t1 t2 : Addr} {ge : Value} (X : (K0 w.params).In r) (T : TopRead p loose mg mb r) (st : r.StaysIn s.heap) (hB : EnvAt w r b bnum bf) (hf : s.heap.get? bf = some bfo) (hrf : r.get? bf = none) (lo : (bf == sysModules) = false) (hd : bfo.IsDictOf (strKind thePr w) bkv) (hz : bkv.length ≤ 900) (hix : VecAt r ix dix (.str "character" tkx) (.ref ixl) .none) (hxl : r.IsList ixl [Value.str y ty].toArray) (hal : r.IsList al [Value.ref t0, Value.ref t1, Value.ref t2].toArray) (h0 : IsTup r t0 #[.none, .ref b]) (h1 : IsTup r t1 #[.none, .ref ix]) (h2 : IsTup r t2 #[.str "value" tv, .ref val]) :
  Does w 5 (.ref 1166) ⟨[.ref I, .ref al, ge], []⟩ (adrs [(bf, bfo)]) s fun rv h' => rv = .ref b ∧ ∃ o', h'.get? bf = some o' ∧ o'.IsDictOf (strKind thePr w) (stored bkv y (.ref val)) := by
 w_on
 refine' does_def (mt := [(bf, bfo)]) (binds := [("interp", Value.ref I), ("args", Value.ref al), ("env", ge)]) X T st ?hm ?hr ?ho ?hcd ?hbind ?hloc ?_ ?hco ?hgen ?hk ?hcell ?hl
 k_extra "x162"
 have hBg := hB.mono Sr
 k_extra "x177"
 k_extra "x150"
 k_extra "x232"
 k_extra "x155"
 k_extra "x146"
end
end
local macro_rules |`(tactic|walk_at "")=>`(tactic|skip)
section
local macro_rules | `(tactic| walk_at $s:str) => hk ["gB45", "c3", "c2", "c0"] s
section
variable {g : Obj → List (Addr × Obj)}
theorem fresh_of_off {q : Addr × Obj} (Sg : ∀ b o, h.get? b = some o → b ∉ adrs mt → gh.get? b = some o) (N : News gh L h' news) (hm : q ∈ news) (hn : q.1 ∉ adrs mt) : h.get? q.1 = none := by
 cases e : h.get? q.1 with
 | none => rfl
 | some o' => have := Sg _ _ e hn; rw [(N _ hm).2.2] at this; cases this
theorem set_close (Sg : ∀ b o, h.get? b = some o → b ∉ adrs mt → gh.get? b = some o) (N : News gh L h' news) (hs : ∀ p ∈ extra, p ∈ news) (off : OwnOff extra (adrs mt)) (hmn : ∀ p ∈ mtN, p ∈ news) (ht : SetTell w r' mtN v ps ps' c extra) :
  SetDone w r' h mtN v ps ps' (.ref c) h' :=
 ⟨c, extra, rfl, fun p hp => (N _ (hmn p hp)).1, fun p hp => ⟨fresh_of_off Sg N (hs p hp) fun q => off p hp _ q rfl, (N _ (hs p hp)).1⟩, ht⟩
theorem off_nil {e : List (Addr × Obj)} : OwnOff e [] := fun _ _ _ h => nomatch h
theorem off_cons {e : List (Addr × Obj)} {l : List Addr} (h : ∀ p ∈ e, p.1 ≠ a) (r : OwnOff e l) : OwnOff e (a :: l) := fun p hp b hb => by
 rcases mc1 hb with q | q
 ·rw [q]; exact h p hp
 ·exact r p hp b q
theorem vec_hmix {il at_ : Value} (F : Fr h₀ L h m) (N : News h₀ L h news) (S : b₀.StaysIn h₀) (m1 : (a, o) ∈ news) (h1 : b₀.get? x = some (instObj 182 dx)) (h2 : (dx, vecD hs kd il at_ (.bool sh) (.bool false)) ∈ news) (n2 : dx ∉ [a]) : VecAt (hideAll h [a]) x dx kd il at_ :=
 ⟨hs, sh, stay_hid F N S (on1 m1) _ _ h1, get_hid N h2 n2⟩
theorem led1x (F : Fr h₀ L h m) (N : News h₀ L h news) (U : UpdF a o news g) (hk : Keep [a] h h') (ho : h'.get? a = some o') (he : ∀ p ∈ extra, h.get? p.1 = none ∧ h'.get? p.1 = some p.2) : News h₀ L h' (g o' ++ extra) := fun p hp => by
 rcases ma1 hp with hp | hp
 ·exact led1 (mt := []) N U hk.all ho p hp
 ·exact (news_new (news := []) F News.nil (he p hp).1 (he p hp).2) _ (.head _)
theorem off_news (N : News h₀ L h news) (he : ∀ p ∈ extra, h.get? p.1 = none) : OwnOff extra (adrs news) := fun p hp b hb e => by
 refine o1_2 (List.mem_map.mp hb) fun z hz e1 => ?_
 have := he p hp
 rw [e, ← e1, (N z hz).1] at this; cases this
include F N X T in
theorem use_pfRI {val : Addr} {at_ : Value} (rm : Rm 16 d u) (S : b₀.StaysIn h₀) (Sr' : r'.StaysIn b₀) (U : UpdF dval (vecD hsv (.str "integer" tk2) (.ref vil) .none (.bool sh) (.bool false)) news g) (hI : (hideAll s.heap [dval]).get? I = some (instObj 1569 dI)) (hdI : (hideAll s.heap [dval]).get? dI = some (evD q ve gl vis)) (h13 : ve 13 = .none) (hv : VecAt (hideAll s.heap [dval]) v dv (.str "list" tkL) (.ref il) at_) (hrow : RowRest w r' il at_ ps) (hz9 : ps.length ≤ 900) (hy : y ≠ "") (hval : r'.get? val = some (instObj 182 dval)) (hvil : r'.IsList vil [Value.int f tf].toArray) (k : ∀ c extra h' tk, Fr h₀ L h' m → let nw := g (vecD hsv (.str "integer" tk2) (.ref vil) .none (.bool true) (.bool false)) ++ extra; News h₀ L h' nw → OwnOff extra (adrs news) → SetTell w r' [(dval, vecD hsv (.str "integer" tk2) (.ref vil) .none (.bool true) (.bool false))] v ps (setR ps y f) c extra → Q (.ref c) { s with heap := h', toks := tk }) :
  wc w d u 1187 [.ref I, .ref v, .str y ty, .ref val] Q E s := by
 k_extra "x95"
 refine (pf_row (r := hideAll s.heap [dval]) (mt := [(dval, _)]) (X.keeps S0) (T.keeps S0) hid_stay (fun _ _ e => Sr _ _ (Sr' _ _ e)) (fcons ((N _ m1).1) fN) (fcons (hideAll_none _ (.head _)) fN) hI hdI h13 hv hrow hz9 hy (.int hval hvil)).use rm fun rv h' tk' hk' hp => ?_
 k_extra "x135"
 exact k c extra h' tk' (hk'.fr F N (on1 m1)) (led1x F N U hk' (em _ (.head _)) ee) (off_news N fun p hp => (ee p hp).1) ht
include F N X T in
theorem use_pfRN {val : Addr} {at_ : Value} (rm : Rm 16 d u) (S : b₀.StaysIn h₀) (Sr' : r'.StaysIn b₀) (hI : s.heap.get? I = some (instObj 1569 dI)) (hdI : s.heap.get? dI = some (evD q ve gl vis)) (h13 : ve 13 = .none) (hv : VecAt s.heap v dv (.str "list" tkL) (.ref il) at_) (hrow : RowRest w r' il at_ ps) (hz9 : ps.length ≤ 900) (hy : y ≠ "") (hval : NullAt r' (.ref val)) (k : ∀ c extra h' tk, Fr h₀ L h' m → let nw := news ++ extra; News h₀ L h' nw → OwnOff extra (adrs news) → SetTell w r' [] v ps (delR ps y) c extra → Q (.ref c) { s with heap := h', toks := tk }) :
  wc w d u 1187 [.ref I, .ref v, .str y ty, .ref val] Q E s := by
 refine (pf_row (r := s.heap) (mt := []) (X.keeps F.keep) (T.keeps F.keep) (fun _ _ e => e) (fun _ _ e => F.keep _ _ (S _ _ (Sr' _ _ e))) fN fN hI hdI h13 hv hrow hz9 hy (.nul hval)).use rm fun rv h' tk' hk' hp => ?_
 k_extra "x135"
 refine k c extra h' tk' (hk'.fr F N fun _ h => nomatch h) (fun p hp => ?_) (off_news N fun p hp => (ee p hp).1) ht
 k_extra "x199"
 ·exact hk'.led N (fun _ hq => ⟨hq, nmn⟩) p hp
 ·exact (news_new (news := []) F News.nil (ee p hp).1 (ee p hp).2) _ (.head _)
theorem use_pfB {val : Addr} (rm : Rm 4 d u) (F : Fr h₀ L s.heap m) (N : News h₀ L s.heap news) (U : UpdF bf bfo news g) (X : (K0 w.params).In h₀) (T : TopRead p loose mg mb h₀) (he : EnvAt w (hideAll s.heap [bf]) b bnum bf) (lo : (bf == sysModules) = false) (hd : bfo.IsDictOf (strKind thePr w) bkv) (hz : bkv.length ≤ 900) (k : ∀ o' h' tk, Fr h₀ L h' m → let nw := g o'; News h₀ L h' nw → o'.IsDictOf (strKind thePr w) (stored bkv y (.ref val)) → Q (.ref b) { s with heap := h', toks := tk }) :
  wc w d u 1187 [.ref I, .ref b, .str y ty, .ref val] Q E s := by
 k_extra "x153"
 refine (pf_box (r := hideAll s.heap [bf]) (X.keeps S0) (T.keeps S0) hid_stay he (N _ m1).1 (hideAll_none _ (.head _)) lo hd hz).use rm fun rv h' tk' hk' hp => ?_
 k_extra "x124"
end
theorem lines_31 : True := by
 k_with "L119" => (k_extra "x49"; refine' use_pfB ?rm ?F ?N ?U ?X ?T ?he ?lo ?hd ?hz ?_; k_extra "x57")
 k_with "L120" => (k_extra "x49"; refine' use_pfRN ?F ?N ?X ?T ?rm ?S ?Sr' ?hI ?hdI ?h13 ?hv ?hrow ?hz9 ?hy ?hval ?_; (case hrow | hval => assumption); k_extra "x23"; k_extra "x80"; (case hI | hdI => k_extra "x3"); (case h13 => assumption); (case hv => k_extra "x2"); (case hz9 | hy => assumption); k_whole; intro c' ex' h' tk' F' nw' N' off' tell'; k_extra "x26")
 k_with "L121" => (k_extra "x49"; refine' use_pfRI ?F ?N ?X ?T ?rm ?S ?Sr' ?U ?hI ?hdI ?h13 ?hv ?hrow ?hz9 ?hy ?hval ?hvil ?_; (case hvil | hval | hrow => assumption); k_extra "x23"; (case U => k_updF); k_extra "x80"; (case hI | hdI => k_extra "x18"); (case h13 => assumption); (case hv => k_dflt (exact vec_hmix (by k_asm) (by k_asm) (by assumption) (by tb_rel) (by assumption) (by tb_rel) (off1 (by k_ne)))); (case hz9 | hy => assumption); k_extra "x33")
 k_with "gB45call ref" => first | k_extra "L121" | k_extra "L120" | k_extra "L119" | k_extra "L84" | k_extra "L83" | k_extra "L82" | k_extra "L68" | k_extra "L67"
 trivial
section
variable {r : Heap}
theorem ssd_row_int {val : Addr} {v : Nat → Value} {at_ : Value} (X : (K0 w.params).In r) (T : TopRead p loose mg mb r) (st : r.StaysIn s.heap) (hr' : r'.StaysIn r) (hI : r.get? I = some (instObj 1569 dI)) (hdI : s.heap.get? dI = some (evD q v gl vis)) (hrI : r.get? dI = none) (h13 : v 13 = .none) (hC : CallAt r cl [x0, .ref sy1, .ref sy2, .ref sy3]) (hS1 : SymAt r sy1 "row") (hS2 : SymAt r sy2 y) (hS3 : SymAt r sy3 "fresh") (hE : EnvAt w r ge gnum gfr) (hF : r.get? gfr = some gfo) (lo : (gfr == sysModules) = false) (hd : gfo.IsDictOf (strKind thePr w) kvs) (hk : valueAt kvs "row" = some (.ref rv)) (hk3 : valueAt kvs "fresh" = some (.ref val)) (hv : r.get? rv = some (instObj 182 dv)) (hdv : s.heap.get? dv = some (vecD hs (.str "list" tk) (.ref il) at_ (.bool sh) (.bool false))) (hrv : r.get? dv = none) (hne : @Ne Nat dI dv) (hval : r'.get? val = some (instObj 182 dval)) (hvil : r'.IsList vil [Value.int f tf].toArray) (hdval : s.heap.get? dval = some (vecD hsv (.str "integer" tk2) (.ref vil) .none (.bool shv) (.bool false))) (hrd : r.get? dval = none) (hne2 : @Ne Nat dI dval) (hne3 : @Ne Nat dv dval) (hrow : RowRest w r' il at_ ps) (hz9 : ps.length ≤ 900) (hy : y ≠ "") :
  Does w 20 (.ref 1194) ⟨[.ref I, .ref cl, .ref ge], []⟩ (adrs [(dI, evD q v gl vis), (dv, vecD hs (.str "list" tk) (.ref il) at_ (.bool sh) (.bool false)), (dval, vecD hsv (.str "integer" tk2) (.ref vil) .none (.bool shv) (.bool false))]) s
   fun rv' h' => h'.get? dI = some (evD q v gl true) ∧ h'.get? dv = some (vecD hs (.str "list" tk) (.ref il) at_ (.bool true) (.bool false)) ∧
    SetDone w r' s.heap [(dval, vecD hsv (.str "integer" tk2) (.ref vil) .none (.bool true) (.bool false))] rv ps (setR ps y f) rv' h' := by
 w_on
 refine' does_def (mt := [(dI, evD q v gl vis), (dv, vecD hs (.str "list" tk) (.ref il) at_ (.bool sh) (.bool false)), (dval, vecD hsv (.str "integer" tk2) (.ref vil) .none (.bool shv) (.bool false))]) (binds := [("interp", Value.ref I), ("call", Value.ref cl), ("env", Value.ref ge)]) X T st ?hm ?hr ?ho ?hcd ?hbind ?hloc ?_ ?hco ?hgen ?hk ?hcell ?hl
 k_extra "x93"
 case hm => exact fcons hdI (fcons hdv (fcons hdval fN))
 case hr => exact fcons hrI (fcons hrv (fcons hrd fN))
 k_extra "x94"
 k_extra "x193"
 k_extra "x223"
 k_extra "x120"
 case off => exact off_cons (hoff.ne (by tb_rel)) (off_cons (hoff.ne (by tb_rel)) (off_cons (hoff.ne (by tb_rel)) off_nil))
 case hmn => exact fcons (by tb_rel) fN
theorem ssd_row_nul {val : Addr} {v : Nat → Value} {at_ : Value} (X : (K0 w.params).In r) (T : TopRead p loose mg mb r) (st : r.StaysIn s.heap) (hr' : r'.StaysIn r) (hI : r.get? I = some (instObj 1569 dI)) (hdI : s.heap.get? dI = some (evD q v gl vis)) (hrI : r.get? dI = none) (h13 : v 13 = .none) (hC : CallAt r cl [x0, .ref sy1, .ref sy2, .ref sy3]) (hS1 : SymAt r sy1 "row") (hS2 : SymAt r sy2 y) (hS3 : SymAt r sy3 "fresh") (hE : EnvAt w r ge gnum gfr) (hF : r.get? gfr = some gfo) (lo : (gfr == sysModules) = false) (hd : gfo.IsDictOf (strKind thePr w) kvs) (hk : valueAt kvs "row" = some (.ref rv)) (hk3 : valueAt kvs "fresh" = some (.ref val)) (hv : r.get? rv = some (instObj 182 dv)) (hdv : s.heap.get? dv = some (vecD hs (.str "list" tk) (.ref il) at_ (.bool sh) (.bool false))) (hrv : r.get? dv = none) (hne : @Ne Nat dI dv) (hval : NullAt r' (.ref val)) (hrow : RowRest w r' il at_ ps) (hz9 : ps.length ≤ 900) (hy : y ≠ "") :
  Does w 20 (.ref 1194) ⟨[.ref I, .ref cl, .ref ge], []⟩ (adrs [(dI, evD q v gl vis), (dv, vecD hs (.str "list" tk) (.ref il) at_ (.bool sh) (.bool false))]) s
   fun rv' h' => h'.get? dI = some (evD q v gl true) ∧ h'.get? dv = some (vecD hs (.str "list" tk) (.ref il) at_ (.bool true) (.bool false)) ∧
    SetDone w r' s.heap [] rv ps (delR ps y) rv' h' := by
 k_extra "x117"
 have hvalg : NullAt g (.ref val) := ValAt.mono (o := none) hval Sr'
 k_extra "x120"
 case off => exact off_cons (hoff.ne (by tb_rel)) (off_cons (hoff.ne (by tb_rel)) off_nil)
 case hmn => exact fN
theorem ssd_box_int {val : Addr} {il at_ : Value} {v : Nat → Value} (X : (K0 w.params).In r) (T : TopRead p loose mg mb r) (st : r.StaysIn s.heap) (hI : r.get? I = some (instObj 1569 dI)) (hdI : s.heap.get? dI = some (evD q v gl vis)) (hrI : r.get? dI = none) (hC : CallAt r cl [x0, .ref sy1, .ref sy2, .ref sy3]) (hS1 : SymAt r sy1 "box") (hS2 : SymAt r sy2 y) (hS3 : SymAt r sy3 "fresh") (hE : EnvAt w r ge gnum gfr) (hF : r.get? gfr = some gfo) (lo : (gfr == sysModules) = false) (hd : gfo.IsDictOf (strKind thePr w) kvs) (hk : valueAt kvs "box" = some (.ref b)) (hk3 : valueAt kvs "fresh" = some (.ref val)) (hB : EnvAt w r b bnum bf) (hBF : s.heap.get? bf = some bfo) (hrB : r.get? bf = none) (lo2 : (bf == sysModules) = false) (hd2 : bfo.IsDictOf (strKind thePr w) bkv) (hz : bkv.length ≤ 900) (hne : @Ne Nat dI bf) (hval : r.get? val = some (instObj 182 dval)) (hdval : s.heap.get? dval = some (vecD hsv (.str "integer" tk2) il at_ (.bool shv) (.bool false))) (hrd : r.get? dval = none) (hne2 : @Ne Nat dI dval) (hne3 : @Ne Nat bf dval) :
  Does w 20 (.ref 1194) ⟨[.ref I, .ref cl, .ref ge], []⟩ (adrs [(dI, evD q v gl vis), (bf, bfo), (dval, vecD hsv (.str "integer" tk2) il at_ (.bool shv) (.bool false))]) s
   fun rv' h' => rv' = .ref b ∧ h'.get? dI = some (evD q v gl true) ∧ h'.get? dval = some (vecD hsv (.str "integer" tk2) il at_ (.bool true) (.bool false)) ∧
    ∃ o', h'.get? bf = some o' ∧ o'.IsDictOf (strKind thePr w) (stored bkv y (.ref val)) := by
 w_on
 refine' does_def (mt := [(dI, evD q v gl vis), (bf, bfo), (dval, vecD hsv (.str "integer" tk2) il at_ (.bool shv) (.bool false))]) (binds := [("interp", Value.ref I), ("call", Value.ref cl), ("env", Value.ref ge)]) X T st ?hm ?hr ?ho ?hcd ?hbind ?hloc ?_ ?hco ?hgen ?hk ?hcell ?hl
 k_extra "x93"
 case hm => exact fcons hdI (fcons hBF (fcons hdval fN))
 case hr => exact fcons hrI (fcons hrB (fcons hrd fN))
 k_extra "x218"
 have hvalg := Sr _ _ hval
 k_extra "x159"
 k_extra "x210"
 exact ⟨rfl, News.get Nz (by tb_rel), News.get Nz (by tb_rel), _, News.get Nz (by tb_rel), d₂⟩
theorem ssd_box_nul {val : Addr} {v : Nat → Value} (X : (K0 w.params).In r) (T : TopRead p loose mg mb r) (st : r.StaysIn s.heap) (hI : r.get? I = some (instObj 1569 dI)) (hdI : s.heap.get? dI = some (evD q v gl vis)) (hrI : r.get? dI = none) (hC : CallAt r cl [x0, .ref sy1, .ref sy2, .ref sy3]) (hS1 : SymAt r sy1 "box") (hS2 : SymAt r sy2 y) (hS3 : SymAt r sy3 "fresh") (hE : EnvAt w r ge gnum gfr) (hF : r.get? gfr = some gfo) (lo : (gfr == sysModules) = false) (hd : gfo.IsDictOf (strKind thePr w) kvs) (hk : valueAt kvs "box" = some (.ref b)) (hk3 : valueAt kvs "fresh" = some (.ref val)) (hB : EnvAt w r b bnum bf) (hBF : s.heap.get? bf = some bfo) (hrB : r.get? bf = none) (lo2 : (bf == sysModules) = false) (hd2 : bfo.IsDictOf (strKind thePr w) bkv) (hz : bkv.length ≤ 900) (hne : @Ne Nat dI bf) (hval : NullAt r (.ref val)) :
  Does w 20 (.ref 1194) ⟨[.ref I, .ref cl, .ref ge], []⟩ (adrs [(dI, evD q v gl vis), (bf, bfo)]) s
   fun rv' h' => rv' = .ref b ∧ h'.get? dI = some (evD q v gl true) ∧
    ∃ o', h'.get? bf = some o' ∧ o'.IsDictOf (strKind thePr w) (stored bkv y (.ref val)) := by
 w_on
 refine' does_def (mt := [(dI, evD q v gl vis), (bf, bfo)]) (binds := [("interp", Value.ref I), ("call", Value.ref cl), ("env", Value.ref ge)]) X T st ?hm ?hr ?ho ?hcd ?hbind ?hloc ?_ ?hco ?hgen ?hk ?hcell ?hl
 k_extra "x93"
 case hm => exact fcons hdI (fcons hBF fN)
 case hr => exact fcons hrI (fcons hrB fN)
 k_extra "x218"
 have hvalg : NullAt g (.ref val) := ValAt.mono (o := none) hval Sr
 k_extra "x159"
 k_extra "x210"
 exact ⟨rfl, News.get Nz (by tb_rel), _, News.get Nz (by tb_rel), d₂⟩
end
end
local macro_rules |`(tactic|walk_at "")=>`(tactic|skip)
section
local macro_rules | `(tactic| walk_at $s:str) => hk ["gB46", "c0"] s
noncomputable def pickH (h r : Heap) (l : List Addr) : Heap := hideAll h ((List.range h.objs.size).filter fun a => (r.get? a).isNone && !(l.contains a))
section
variable {r : Heap} {l : List Addr}
theorem pick_sub : (pickH h r l).StaysIn h := hid_stay
theorem pick_in (e : h.get? a = some o) (k : (∃ o', r.get? a = some o') ∨ a ∈ l) : (pickH h r l).get? a = some o := by
 refine hideAll_get _ e fun q => ?_
 have q := (List.mem_filter.mp q).2
 rw [Bool.and_eq_true] at q
 rcases k with ⟨o', e'⟩ | k
 ·rw [e'] at q; exact absurd q.1 (by simp)
 ·have := q.2
  rw [Bool.not_eq_true'] at this
  rw [List.contains_iff_mem.mpr k] at this
  cases this
theorem pick_stay (S : r.StaysIn h) : r.StaysIn (pickH h r l) := fun b o e => pick_in (S _ _ e) (.inl ⟨o, e⟩)
theorem pick_cov (S : r.StaysIn h) (e : (pickH h r l).get? a = some o) : r.get? a = some o ∨ (a ∈ l ∧ h.get? a = some o) := by
 refine o0_2 (hid_of e) fun e1 n => ?_
 cases q : r.get? a with
 | some o' => have := S _ _ q; rw [e1] at this; exact .inl (by rw [Option.some.inj this])
 | none =>
  right
  refine ⟨?_, e1⟩
  cases z : l.contains a with
  | true => exact List.contains_iff_mem.mp z
  | false => exact absurd (List.mem_filter.mpr ⟨List.mem_range.mpr (Heap.lt_size e1), by rw [q, z]; rfl⟩) n
theorem pick_to (S : r.StaysIn h) (S2 : r.StaysIn H) (hr : ∀ p ∈ rows, h.get? p.1 = some p.2) (hl : ∀ a ∈ l, a ∈ adrs rows) (k : ∀ p ∈ rows, H.get? p.1 = some p.2) : (pickH h r l).StaysIn H := fun a o e => by
 rcases pick_cov S e with e | ⟨m, e⟩
 ·exact S2 _ _ e
 ·refine o1_2 (List.mem_map.mp (hl _ m)) fun p hp zq2 => ?_
  subst zq2
  have := hr p hp
  rw [e] at this
  exact (Option.some.inj this) ▸ k p hp
end
section
variable {g : Obj → List (Addr × Obj)}
theorem SetTell.unpick {r : Heap} {l : List Addr} (S : r.StaysIn h) (hr : ∀ p ∈ rows, h.get? p.1 = some p.2) (hl : ∀ a ∈ l, a ∈ adrs rows) (H : SetTell w (pickH h r l) mtN v ps ps' c extra) : SetTell w r (mtN ++ rows) v ps ps' c extra := by
 k_extra "x207"
 ·exact .inr ⟨dx, hs, tk, il, at_, ex, h1, h2, ne, he, fun H' a b c => row H' (pick_to S a hr hl fun p hp => b p (mar _ hp)) (fun p hp => b p (mal _ hp)) c⟩
theorem SetTell.absorb {r : Heap} (off : OwnOff extra (adrs mtN)) (H : SetTell w r mtN v ps ps' c extra) : SetTell w r [] v ps ps' c (extra ++ mtN) := by
 k_extra "x207"
 ·refine .inr ⟨dx, hs, tk, il, at_, ex ++ mtN, mal _ h1, mal _ h2, ne, fun p hp => ?_, fun H' a _ c => row H' a (fun p hp => c p (mar _ hp)) fun p hp => c p (mal _ hp)⟩
  k_extra "x199"
  ·exact ⟨mal _ (he p hp).1, (he p hp).2⟩
  ·exact ⟨mar _ hp, fun e => off _ h2 _ (List.mem_map_of_mem hp) e.symm, fun e => off _ h1 _ (List.mem_map_of_mem hp) e.symm⟩
theorem led3 {o3' : Obj} (N : News h₀ L h news) (U : UpdF a o news g) (U2 : UpdF b o2 (g o') g2) (U3 : UpdF c o3 (g2 o2') g3) (hab : a ≠ b) (hac : a ≠ c) (hbc : b ≠ c) (hk : ∀ x o, h.get? x = some o → x ∉ [a, b, c] → h'.get? x = some o) (ho : h'.get? a = some o') (ho2 : h'.get? b = some o2') (ho3 : h'.get? c = some o3') : News h₀ L h' (g3 o3') := by
 have m2 : (b, o2) ∈ news := by
  rcases upd_mem U _ _ (upd_in U2) with e | ⟨e, _⟩
  ·exact absurd (congrArg Prod.fst e).symm hab
  ·exact e
 have m3 : (c, o3) ∈ news := by
  rcases upd_mem U2 _ _ (upd_in U3) with e | ⟨e, _⟩
  ·exact absurd (congrArg Prod.fst e).symm hbc
  ·rcases upd_mem U _ _ e with e | ⟨e, _⟩
   ·exact absurd (congrArg Prod.fst e).symm hac
   ·exact e
 intro p hp
 rcases upd_mem U3 o3' p hp with rfl | ⟨hp, n3⟩
 ·exact ⟨ho3, (N _ m3).2⟩
 ·rcases upd_mem U2 o2' p hp with rfl | ⟨hp, n2⟩
  ·exact ⟨ho2, (N _ m2).2⟩
  ·rcases upd_mem U o' p hp with rfl | ⟨hp, n1⟩
   k_extra "x248"
   ·refine ⟨hk _ _ (N p hp).1 fun q => ?_, (N p hp).2⟩
    k_extra "x186"
    ·exact n1 q
    ·k_extra "x186"
     ·exact n2 q
     ·exact n3 (ms1 q)
theorem on3 (h : (a, o) ∈ news) (h2 : (b, o2) ∈ news) (h3 : (c, o3) ∈ news) : ∀ x ∈ [a, b, c], x ∈ adrs news := fun x q => by
 rcases mc1 q with q | q
 ·rw [q]; exact List.mem_map_of_mem h
 ·exact on2 h2 h3 x q
theorem off3 (h : x ≠ a) (h2 : x ≠ b) (h3 : x ≠ c) : x ∉ [a, b, c] := fun q => by
 rcases mc1 q with q | q
 ·exact h q
 ·exact off2 h2 h3 q
theorem new_rows (F : Fr h₀ L h m) (N : News h₀ L h' rows) (he : ∀ p ∈ extra, h.get? p.1 = none ∧ h'.get? p.1 = some p.2) : News h₀ L h' (rows ++ extra) := fun p hp => by
 rcases ma1 hp with hp | hp
 ·exact N p hp
 ·exact (news_new (news := []) F News.nil (he p hp).1 (he p hp).2) _ (.head _)
include F N X T in
theorem use_ssdRI {val : Addr} {v : Nat → Value} {at_ : Value} {nv : Nat} (rm : Rm 20 d u) (S : b₀.StaysIn h₀) (Sr' : r'.StaysIn b₀) (hrow : RowRest w r' il at_ ps) (hz9 : ps.length ≤ 900) (hy : y ≠ "") (hI : b₀.get? I = some (instObj 1569 dI)) (h13 : v 13 = .none) (hv : b₀.get? rv = some (instObj 182 dv)) (hE : EnvAt w b₀ ge gnum gfr) (hvil : (vil, listOf [Value.int f tf].toArray nv) ∈ news) (hval : (val, instObj 182 dval) ∈ news) (U : UpdF dI (evD q v gl vis) news g) (U2 : UpdF dv (vecD hs (.str "list" tk) (.ref il) at_ (.bool sh) (.bool false)) (g (evD q v gl true)) g2) (U3 : UpdF dval (vecD hsv (.str "integer" tk2) (.ref vil) .none (.bool shv) (.bool false)) (g2 (vecD hs (.str "list" tk) (.ref il) at_ (.bool true) (.bool false))) g3) (hne : @Ne Nat dI dv) (hne2 : @Ne Nat dI dval) (hne3 : @Ne Nat dv dval) (o1 : val ∉ [dI, dv, dval]) (o2 : vil ∉ [dI, dv, dval]) (hC : CallAt (hideAll s.heap [dI, dv, dval]) cl [x0, .ref sy1, .ref sy2, .ref sy3]) (hS1 : SymAt (hideAll s.heap [dI, dv, dval]) sy1 "row") (hS2 : SymAt (hideAll s.heap [dI, dv, dval]) sy2 y) (hS3 : SymAt (hideAll s.heap [dI, dv, dval]) sy3 "fresh") (hF : (gfr, gfo) ∈ news) (o3 : gfr ∉ [dI, dv, dval]) (lo : (gfr == sysModules) = false) (hd : gfo.IsDictOf (strKind thePr w) kvs) (hk : valueAt kvs "row" = some (.ref rv)) (hk3 : valueAt kvs "fresh" = some (.ref val)) (k : ∀ c extra h' tk', Fr h₀ L h' m → let nw := g3 (vecD hsv (.str "integer" tk2) (.ref vil) .none (.bool true) (.bool false)) ++ extra; News h₀ L h' nw → OwnOff extra (adrs news) → SetTell w r' [(dval, vecD hsv (.str "integer" tk2) (.ref vil) .none (.bool true) (.bool false)), (val, instObj 182 dval), (vil, listOf [Value.int f tf].toArray nv)] rv ps (setR ps y f) c extra → Q (.ref c) { s with heap := h', toks := tk' }) :
  wc w d u 1194 [.ref I, .ref cl, .ref ge] Q E s := by
 k_extra "x115"
 have m3 : (dval, vecD hsv (.str "integer" tk2) (.ref vil) .none (.bool shv) (.bool false)) ∈ news := by
  rcases upd_mem U2 _ _ (upd_in U3) with e | ⟨e, _⟩
  ·exact absurd (congrArg Prod.fst e).symm hne3
  ·rcases upd_mem U _ _ e with e | ⟨e, _⟩
   ·exact absurd (congrArg Prod.fst e).symm hne2
   ·exact e
 have Sr := stay_hid F N S (on3 m1 m2 m3)
 have S0 := stay_hid F N (fun _ _ e => e) (on3 m1 m2 m3)
 have Sr2 : r'.StaysIn (hideAll s.heap [dI, dv, dval]) := fun _ _ e => Sr _ _ (Sr' _ _ e)
 have gval := get_hid N hval o1
 have gvil := get_hid N hvil o2
 refine (ssd_row_int (r := hideAll s.heap [dI, dv, dval]) (r' := pickH (hideAll s.heap [dI, dv, dval]) r' [val, vil]) (X.keeps S0) (T.keeps S0) hid_stay pick_sub (Sr _ _ hI) (N _ m1).1 (hideAll_none _ (.head _)) h13 hC hS1 hS2 hS3 (hE.mono Sr) (get_hid N hF o3) lo hd hk hk3 (Sr _ _ hv) (N _ m2).1 (hideAll_none _ (mem_at 1 rfl)) hne
  (pick_in gval (.inr (.head _))) ⟨_, pick_in gvil (.inr (mem_at 1 rfl)), rfl, _, rfl⟩ (N _ m3).1 (hideAll_none _ (mem_at 2 rfl)) hne2 hne3 (hrow.mono (pick_stay Sr2)) hz9 hy).use rm fun rv' h' tk' hk' hp => ?_
 k_extra "x182"
 refine k c extra h' tk' (hk'.fr F N (on3 m1 m2 m3)) (new_rows F (led3 N U U2 U3 hne hne2 hne3 hk'.all e1 e2 (em _ (.head _))) ee) (off_news N fun p hp => (ee p hp).1) (SetTell.unpick (mtN := [(dval, _)]) (rows := [(val, _), (vil, _)]) Sr2 (fcons gval (fcons gvil fN)) (fun a ha => ha) ht)
include F N X T in
theorem use_ssdRN {val : Addr} {v : Nat → Value} {tn : Nat} {at_ : Value} (rm : Rm 20 d u) (S : b₀.StaysIn h₀) (Sr' : r'.StaysIn b₀) (hrow : RowRest w r' il at_ ps) (hz9 : ps.length ≤ 900) (hy : y ≠ "") (hI : b₀.get? I = some (instObj 1569 dI)) (h13 : v 13 = .none) (hv : b₀.get? rv = some (instObj 182 dv)) (hE : EnvAt w b₀ ge gnum gfr) (hval : (val, instObj 153 dn) ∈ news) (hdn : (dn, nulD hn tn) ∈ news) (U : UpdF dI (evD q v gl vis) news g) (U2 : UpdF dv (vecD hs (.str "list" tk) (.ref il) at_ (.bool sh) (.bool false)) (g (evD q v gl true)) g2) (hne : @Ne Nat dI dv) (o1 : val ∉ [dI, dv]) (o2 : dn ∉ [dI, dv]) (hC : CallAt (hideAll s.heap [dI, dv]) cl [x0, .ref sy1, .ref sy2, .ref sy3]) (hS1 : SymAt (hideAll s.heap [dI, dv]) sy1 "row") (hS2 : SymAt (hideAll s.heap [dI, dv]) sy2 y) (hS3 : SymAt (hideAll s.heap [dI, dv]) sy3 "fresh") (hF : (gfr, gfo) ∈ news) (o3 : gfr ∉ [dI, dv]) (lo : (gfr == sysModules) = false) (hd : gfo.IsDictOf (strKind thePr w) kvs) (hk : valueAt kvs "row" = some (.ref rv)) (hk3 : valueAt kvs "fresh" = some (.ref val)) (k : ∀ c extra h' tk', Fr h₀ L h' m → let nw := g2 (vecD hs (.str "list" tk) (.ref il) at_ (.bool true) (.bool false)) ++ extra; News h₀ L h' nw → OwnOff extra (adrs news) → SetTell w r' [(val, instObj 153 dn), (dn, nulD hn tn)] rv ps (delR ps y) c extra → Q (.ref c) { s with heap := h', toks := tk' }) :
  wc w d u 1194 [.ref I, .ref cl, .ref ge] Q E s := by
 k_extra "x115"
 k_extra "x136"
 have Sr2 : r'.StaysIn (hideAll s.heap [dI, dv]) := fun _ _ e => Sr _ _ (Sr' _ _ e)
 have gval := get_hid N hval o1
 have gdn := get_hid N hdn o2
 refine (ssd_row_nul (r := hideAll s.heap [dI, dv]) (r' := pickH (hideAll s.heap [dI, dv]) r' [val, dn]) (X.keeps S0) (T.keeps S0) hid_stay pick_sub (Sr _ _ hI) (N _ m1).1 (hideAll_none _ (.head _)) h13 hC hS1 hS2 hS3 (hE.mono Sr) (get_hid N hF o3) lo hd hk hk3 (Sr _ _ hv) (N _ m2).1 (hideAll_none _ (mem_at 1 rfl)) hne
  ⟨_, _, _, _, rfl, pick_in gval (.inr (.head _)), pick_in gdn (.inr (mem_at 1 rfl))⟩ (hrow.mono (pick_stay Sr2)) hz9 hy).use rm fun rv' h' tk' hk' hp => ?_
 k_extra "x182"
 refine k c extra h' tk' (hk'.fr F N (on2 m1 m2)) (new_rows F (led2 N U U2 hne hk'.all e1 e2) ee) (off_news N fun p hp => (ee p hp).1) (SetTell.unpick (mtN := []) (rows := [(val, _), (dn, _)]) Sr2 (fcons gval (fcons gdn fN)) (fun a ha => ha) ht)
include F N X T in
theorem use_ssdBI {val : Addr} {il at_ : Value} {v : Nat → Value} (rm : Rm 20 d u) (S : b₀.StaysIn h₀) (hI : b₀.get? I = some (instObj 1569 dI)) (hE : EnvAt w b₀ ge gnum gfr) (hk : valueAt kvs "box" = some (.ref b)) (hB : EnvAt w b₀ b bnum bf) (hval : (val, instObj 182 dval) ∈ news) (U : UpdF dI (evD q v gl vis) news g) (U2 : UpdF dval (vecD hsv (.str "integer" tk2) il at_ (.bool shv) (.bool false)) (g (evD q v gl true)) g2) (U3 : UpdF bf bfo (g2 (vecD hsv (.str "integer" tk2) il at_ (.bool true) (.bool false))) g3) (hne : @Ne Nat dI bf) (hne2 : @Ne Nat dI dval) (hne3 : @Ne Nat bf dval) (o1 : val ∉ [dI, bf, dval]) (hC : CallAt (hideAll s.heap [dI, bf, dval]) cl [x0, .ref sy1, .ref sy2, .ref sy3]) (hS1 : SymAt (hideAll s.heap [dI, bf, dval]) sy1 "box") (hS2 : SymAt (hideAll s.heap [dI, bf, dval]) sy2 y) (hS3 : SymAt (hideAll s.heap [dI, bf, dval]) sy3 "fresh") (hF : (gfr, gfo) ∈ news) (o3 : gfr ∉ [dI, bf, dval]) (lo : (gfr == sysModules) = false) (hd : gfo.IsDictOf (strKind thePr w) kvs) (hk3 : valueAt kvs "fresh" = some (.ref val)) (lo2 : (bf == sysModules) = false) (hd2 : bfo.IsDictOf (strKind thePr w) bkv) (hz : bkv.length ≤ 900) (k : ∀ o' h' tk', Fr h₀ L h' m → let nw := g3 o'; News h₀ L h' nw → o'.IsDictOf (strKind thePr w) (stored bkv y (.ref val)) → Q (.ref b) { s with heap := h', toks := tk' }) :
  wc w d u 1194 [.ref I, .ref cl, .ref ge] Q E s := by
 have m1 := upd_in U
 have m2 : (dval, vecD hsv (.str "integer" tk2) il at_ (.bool shv) (.bool false)) ∈ news := by
  rcases upd_mem U _ _ (upd_in U2) with e | ⟨e, _⟩
  ·exact absurd (congrArg Prod.fst e).symm hne2
  ·exact e
 have m3 : (bf, bfo) ∈ news := by
  rcases upd_mem U2 _ _ (upd_in U3) with e | ⟨e, _⟩
  ·exact absurd (congrArg Prod.fst e) hne3
  ·rcases upd_mem U _ _ e with e | ⟨e, _⟩
   ·exact absurd (congrArg Prod.fst e).symm hne
   ·exact e
 have on := on3 m1 m3 m2
 have Sr := stay_hid F N S on
 have S0 := stay_hid F N (fun _ _ e => e) on
 refine (ssd_box_int (r := hideAll s.heap [dI, bf, dval]) (X.keeps S0) (T.keeps S0) hid_stay (Sr _ _ hI) (N _ m1).1 (hideAll_none _ (.head _)) hC hS1 hS2 hS3 (hE.mono Sr) (get_hid N hF o3) lo hd hk hk3 (hB.mono Sr) (N _ m3).1 (hideAll_none _ (mem_at 1 rfl)) lo2 hd2 hz hne
  (get_hid N hval o1) (N _ m2).1 (hideAll_none _ (mem_at 2 rfl)) hne2 hne3).use rm fun rv' h' tk' hk' hp => ?_
 refine o0_4 hp fun zq0 e1 e2 zr => ?_
 k_extra "x228"
 refine k o' h' tk' (hk'.fr F N on) (led3 N U U2 U3 hne2 hne (Ne.symm hne3) (fun x o e n => hk'.all x o e fun q => n ?_) e1 e2 e3) hd'
 k_extra "x186"
 ·rw [q]; exact .head _
 ·k_extra "x186"
  ·rw [q]; exact .tail _ (mem_at 1 rfl)
  ·rw [ms1 q]; exact mem_at 1 rfl
include F N X T in
theorem use_ssdBN {val : Addr} {v : Nat → Value} {tn : Nat} (rm : Rm 20 d u) (S : b₀.StaysIn h₀) (hI : b₀.get? I = some (instObj 1569 dI)) (hE : EnvAt w b₀ ge gnum gfr) (hk : valueAt kvs "box" = some (.ref b)) (hB : EnvAt w b₀ b bnum bf) (hval : (val, instObj 153 dn) ∈ news) (hdn : (dn, nulD hn tn) ∈ news) (U : UpdF dI (evD q v gl vis) news g) (U2 : UpdF bf bfo (g (evD q v gl true)) g2) (hne : @Ne Nat dI bf) (o1 : val ∉ [dI, bf]) (o2 : dn ∉ [dI, bf]) (hC : CallAt (hideAll s.heap [dI, bf]) cl [x0, .ref sy1, .ref sy2, .ref sy3]) (hS1 : SymAt (hideAll s.heap [dI, bf]) sy1 "box") (hS2 : SymAt (hideAll s.heap [dI, bf]) sy2 y) (hS3 : SymAt (hideAll s.heap [dI, bf]) sy3 "fresh") (hF : (gfr, gfo) ∈ news) (o3 : gfr ∉ [dI, bf]) (lo : (gfr == sysModules) = false) (hd : gfo.IsDictOf (strKind thePr w) kvs) (hk3 : valueAt kvs "fresh" = some (.ref val)) (lo2 : (bf == sysModules) = false) (hd2 : bfo.IsDictOf (strKind thePr w) bkv) (hz : bkv.length ≤ 900) (k : ∀ o' h' tk', Fr h₀ L h' m → let nw := g2 o'; News h₀ L h' nw → o'.IsDictOf (strKind thePr w) (stored bkv y (.ref val)) → Q (.ref b) { s with heap := h', toks := tk' }) :
  wc w d u 1194 [.ref I, .ref cl, .ref ge] Q E s := by
 have m1 := upd_in U
 have m2 : (bf, bfo) ∈ news := by
  rcases upd_mem U _ _ (upd_in U2) with e | ⟨e, _⟩
  ·exact absurd (congrArg Prod.fst e).symm hne
  ·exact e
 k_extra "x136"
 refine (ssd_box_nul (r := hideAll s.heap [dI, bf]) (X.keeps S0) (T.keeps S0) hid_stay (Sr _ _ hI) (N _ m1).1 (hideAll_none _ (.head _)) hC hS1 hS2 hS3 (hE.mono Sr) (get_hid N hF o3) lo hd hk hk3 (hB.mono Sr) (N _ m2).1 (hideAll_none _ (mem_at 1 rfl)) lo2 hd2 hz hne
  ⟨_, _, _, _, rfl, get_hid N hval o1, get_hid N hdn o2⟩).use rm fun rv' h' tk' hk' hp => ?_
 refine o0_3 hp fun zq0 e1 zr => ?_
 k_extra "x228"
 exact k o' h' tk' (hk'.fr F N (on2 m1 m2)) (led2 N U U2 hne hk'.all e1 e3) hd'
end
end
local macro_rules |`(tactic|walk_at "")=>`(tactic|skip)
section
local macro_rules | `(tactic| walk_at $s:str) => hk ["gB47", "c0"] s
theorem off_app {a b : List (Addr × Obj)} {l : List Addr} (h : OwnOff a l) (h2 : OwnOff b l) : OwnOff (a ++ b) l := fun p hp => by
 rcases ma1 hp with hp | hp
 ·exact h p hp
 ·exact h2 p hp
theorem off_row {e : List (Addr × Obj)} {l : List Addr} (h : a ∉ l) (r : OwnOff e l) : OwnOff ((a, o) :: e) l := fun p hp b hb q => by
 rcases mc1 hp with e | hp
 ·subst e; exact h (by rw [show a = b from q]; exact hb)
 ·exact r p hp b hb q
theorem off_none {l : List Addr} : OwnOff [] l := fun _ h => nomatch h
theorem all_app {α : Type} {a b : List α} {P : α → Prop} (h : ∀ p ∈ a, P p) (h2 : ∀ p ∈ b, P p) : ∀ p ∈ a ++ b, P p := fun p hp => by
 rcases ma1 hp with hp | hp
 ·exact h p hp
 ·exact h2 p hp
theorem va_st_ne {l : List (Str × Value)} {k : Str} {x : Value} {v : Option Value} (h : y ≠ k) (e : valueAt l y = v) : valueAt (stored l k x) y = v := by rw [va_stored, if_neg h]; exact e
theorem va_st_eq {l : List (Str × Value)} {k : Str} {x : Value} : valueAt (stored l k x) k = some x := by rw [va_stored, if_pos rfl]
structure GK (rv b : Addr) (n : Nat) (kvs : List (Str × Value)) : Prop where
 row : valueAt kvs "row" = some (.ref rv)
 box : valueAt kvs "box" = some (.ref b)
 len : kvs.length ≤ n
theorem GK.fresh {x : Value} (G : GK rv b n kvs) : GK rv b (n + 1) (stored kvs "fresh" x) :=
 ⟨va_st_ne (by decide) G.row, va_st_ne (by decide) G.box, Nat.le_trans (len_stored _ _ _) (Nat.succ_le_succ G.len)⟩
theorem GK.up (G : GK rv b n kvs) : GK rv b (n + 1) kvs := ⟨G.row, G.box, Nat.le_succ_of_le G.len⟩
def BoxDone (w : World) (h h' : Heap) (bf : Addr) (bkv : List (Str × Value)) (y : Str) (fo : Option Int) : Prop :=
 ∃ o' c, ∃ extra : List (Addr × Obj), h'.get? bf = some o' ∧ o'.IsDictOf (strKind thePr w) (stored bkv y c) ∧ (∀ p ∈ extra, h.get? p.1 = none ∧ h'.get? p.1 = some p.2) ∧ ∀ H : Heap, (∀ p ∈ extra, H.get? p.1 = some p.2) → ValAt H c fo
section
variable {g : Obj → List (Addr × Obj)}
theorem tup_hid {l : List Addr} {t : Addr} (N : News h₀ L h news) (hm : (t, tupObj vs) ∈ news) (hn : t ∉ l) : IsTup (hideAll h l) t vs.toArray := ⟨_, get_hid N hm hn, rfl, _, rfl⟩
theorem tup_new {t : Addr} (N : News h₀ L h news) (hm : (t, tupObj vs) ∈ news) : IsTup h t vs.toArray := ⟨_, (N _ hm).1, rfl, _, rfl⟩
include F N X T in
theorem use_bsRI {val t1 t2 : Addr} {ge : Value} {at_ : Value} {nv : Nat} (rm : Rm 16 d u) (S : b₀.StaysIn h₀) (Sr' : r'.StaysIn b₀) (hrow : RowRest w r' il at_ ps) (hz9 : ps.length ≤ 900) (hy : y ≠ "") (hal : (al, listOf [Value.ref t0, Value.ref t1, Value.ref t2].toArray na) ∈ news) (h0 : (t0, tupObj [.none, .ref v]) ∈ news) (h1 : (t1, tupObj [.none, .ref ix]) ∈ news) (h2 : (t2, tupObj [.str "value" tv, .ref val]) ∈ news) (hval : (val, instObj 182 dval) ∈ news) (U : UpdF dval (vecD hsv (.str "integer" tk2) (.ref vil) .none (.bool shv) (.bool false)) news g) (hvil : (vil, listOf [Value.int f tf].toArray nv) ∈ news) (hI : b₀.get? I = some (instObj 1569 dI)) (hdI : (dI, evD q ve gl vis) ∈ news) (h13 : ve 13 = .none) (hv : b₀.get? v = some (instObj 182 dv)) (hdv : (dv, vecD hs (.str "list" tkL) (.ref il) at_ (.bool sh) (.bool false)) ∈ news) (hix : (ix, instObj 182 dix) ∈ news) (hdix : (dix, vecD hsx (.str "character" tkx) (.ref ixl) .none (.bool shx) (.bool false)) ∈ news) (hxl : (ixl, listOf [Value.str y ty].toArray nx) ∈ news) (o1 : al ≠ dval) (o2 : t0 ≠ dval) (o3 : t1 ≠ dval) (o4 : t2 ≠ dval) (o5 : val ≠ dval) (o6 : vil ≠ dval) (o7 : dI ≠ dval) (o8 : dv ≠ dval) (o9 : ix ≠ dval) (o10 : dix ≠ dval) (o11 : ixl ≠ dval) (k : ∀ c extra h' tk, Fr h₀ L h' m → let nw := g (vecD hsv (.str "integer" tk2) (.ref vil) .none (.bool true) (.bool false)) ++ extra; News h₀ L h' nw → OwnOff extra (adrs news) → SetTell w r' [(dval, vecD hsv (.str "integer" tk2) (.ref vil) .none (.bool true) (.bool false)), (val, instObj 182 dval), (vil, listOf [Value.int f tf].toArray nv)] v ps (setR ps y f) c extra → Q (.ref c) { s with heap := h', toks := tk }) :
  wc w d u 1166 [.ref I, .ref al, ge] Q E s := by
 k_extra "x95"
 have Sr2 : r'.StaysIn (hideAll s.heap [dval]) := fun _ _ e => Sr _ _ (Sr' _ _ e)
 have gval := get_hid N hval (off1 o5)
 have gvil := get_hid N hvil (off1 o6)
 refine (bs_row (r := hideAll s.heap [dval]) (r' := pickH (hideAll s.heap [dval]) r' [val, vil]) (mt := [(dval, _)]) (X.keeps S0) (T.keeps S0) hid_stay pick_sub (fcons ((N _ m1).1) fN) (fcons (hideAll_none _ (.head _)) fN) (Sr _ _ hI) (get_hid N hdI (off1 o7)) h13 ⟨_, _, Sr _ _ hv, get_hid N hdv (off1 o8)⟩ (hrow.mono (pick_stay Sr2)) hz9 hy
  ⟨_, _, get_hid N hix (off1 o9), get_hid N hdix (off1 o10)⟩ (list_hid N hxl (off1 o11)) (list_hid N hal (off1 o1)) (tup_hid N h0 (off1 o2)) (tup_hid N h1 (off1 o3)) (tup_hid N h2 (off1 o4)) (.int (pick_in gval (.inr (.head _))) ⟨_, pick_in gvil (.inr (mem_at 1 rfl)), rfl, _, rfl⟩)).use rm fun rv h' tk' hk' hp => ?_
 k_extra "x135"
 exact k c extra h' tk' (hk'.fr F N (on1 m1)) (led1x F N U hk' (em _ (.head _)) ee) (off_news N fun p hp => (ee p hp).1) (SetTell.unpick (mtN := [(dval, _)]) (rows := [(val, _), (vil, _)]) Sr2 (fcons gval (fcons gvil fN)) (fun a ha => ha) ht)
include F N X T in
theorem use_bsRN {val t1 t2 : Addr} {ge : Value} {at_ : Value} {tn : Nat} (rm : Rm 16 d u) (S : b₀.StaysIn h₀) (Sr' : r'.StaysIn b₀) (hrow : RowRest w r' il at_ ps) (hz9 : ps.length ≤ 900) (hy : y ≠ "") (hal : (al, listOf [Value.ref t0, Value.ref t1, Value.ref t2].toArray na) ∈ news) (h0 : (t0, tupObj [.none, .ref v]) ∈ news) (h1 : (t1, tupObj [.none, .ref ix]) ∈ news) (h2 : (t2, tupObj [.str "value" tv, .ref val]) ∈ news) (hval : (val, instObj 153 dn) ∈ news) (hdn : (dn, nulD hn tn) ∈ news) (hI : b₀.get? I = some (instObj 1569 dI)) (hdI : (dI, evD q ve gl vis) ∈ news) (h13 : ve 13 = .none) (hv : b₀.get? v = some (instObj 182 dv)) (hdv : (dv, vecD hs (.str "list" tkL) (.ref il) at_ (.bool sh) (.bool false)) ∈ news) (hix : (ix, instObj 182 dix) ∈ news) (hdix : (dix, vecD hsx (.str "character" tkx) (.ref ixl) .none (.bool shx) (.bool false)) ∈ news) (hxl : (ixl, listOf [Value.str y ty].toArray nx) ∈ news) (k : ∀ c extra h' tk, Fr h₀ L h' m → let nw := news ++ extra; News h₀ L h' nw → OwnOff extra (adrs news) → SetTell w r' [(val, instObj 153 dn), (dn, nulD hn tn)] v ps (delR ps y) c extra → Q (.ref c) { s with heap := h', toks := tk }) :
  wc w d u 1166 [.ref I, .ref al, ge] Q E s := by
 have Sr : b₀.StaysIn s.heap := fun _ _ e => F.keep _ _ (S _ _ e)
 have Sr2 : r'.StaysIn s.heap := fun _ _ e => Sr _ _ (Sr' _ _ e)
 have gval := (N _ hval).1
 have gdn := (N _ hdn).1
 refine (bs_row (r := s.heap) (r' := pickH s.heap r' [val, dn]) (mt := []) (X.keeps F.keep) (T.keeps F.keep) (fun _ _ e => e) pick_sub fN fN (Sr _ _ hI) (N _ hdI).1 h13 ⟨_, _, Sr _ _ hv, (N _ hdv).1⟩ (hrow.mono (pick_stay Sr2)) hz9 hy
  ⟨_, _, (N _ hix).1, (N _ hdix).1⟩ ⟨_, (N _ hxl).1, rfl, _, rfl⟩ ⟨_, (N _ hal).1, rfl, _, rfl⟩ (tup_new N h0) (tup_new N h1) (tup_new N h2) (.nul ⟨_, _, _, _, rfl, pick_in gval (.inr (.head _)), pick_in gdn (.inr (mem_at 1 rfl))⟩)).use rm fun rv h' tk' hk' hp => ?_
 k_extra "x135"
 exact k c extra h' tk' (hk'.fr F N fun _ h => nomatch h) (new_rows F (hk'.led N fun _ hq => ⟨hq, nmn⟩) ee) (off_news N fun p hp => (ee p hp).1) (SetTell.unpick (mtN := []) (rows := [(val, _), (dn, _)]) Sr2 (fcons gval (fcons gdn fN)) (fun a ha => ha) ht)
include F N X T in
theorem use_bsB {val t1 t2 : Addr} {ge : Value} (rm : Rm 5 d u) (S : b₀.StaysIn h₀) (hal : (al, listOf [Value.ref t0, Value.ref t1, Value.ref t2].toArray na) ∈ news) (h0 : (t0, tupObj [.none, .ref b]) ∈ news) (h1 : (t1, tupObj [.none, .ref ix]) ∈ news) (h2 : (t2, tupObj [.str "value" tv, .ref val]) ∈ news) (hB : EnvAt w b₀ b bnum bf) (U : UpdF bf bfo news g) (lo : (bf == sysModules) = false) (hd : bfo.IsDictOf (strKind thePr w) bkv) (hz : bkv.length ≤ 900) (hix : (ix, instObj 182 dix) ∈ news) (hdix : (dix, vecD hsx (.str "character" tkx) (.ref ixl) .none (.bool shx) (.bool false)) ∈ news) (hxl : (ixl, listOf [Value.str y ty].toArray nx) ∈ news) (o1 : al ≠ bf) (o2 : t0 ≠ bf) (o3 : t1 ≠ bf) (o4 : t2 ≠ bf) (o9 : ix ≠ bf) (o10 : dix ≠ bf) (o11 : ixl ≠ bf) (k : ∀ o' h' tk, Fr h₀ L h' m → let nw := g o'; News h₀ L h' nw → o'.IsDictOf (strKind thePr w) (stored bkv y (.ref val)) → Q (.ref b) { s with heap := h', toks := tk }) :
  wc w d u 1166 [.ref I, .ref al, ge] Q E s := by
 k_extra "x95"
 refine (bs_box (r := hideAll s.heap [bf]) (X.keeps S0) (T.keeps S0) hid_stay (hB.mono Sr) (N _ m1).1 (hideAll_none _ (.head _)) lo hd hz ⟨_, _, get_hid N hix (off1 o9), get_hid N hdix (off1 o10)⟩ (list_hid N hxl (off1 o11)) (list_hid N hal (off1 o1)) (tup_hid N h0 (off1 o2)) (tup_hid N h1 (off1 o3)) (tup_hid N h2 (off1 o4))).use rm fun rv h' tk' hk' hp => ?_
 k_extra "x124"
end
end
local macro_rules |`(tactic|walk_at "")=>`(tactic|skip)
section
local macro_rules | `(tactic| walk_at $s:str) => hk ["gB53", "c3", "c2", "c0"] s
inductive PL (H : Heap) : List Value → List (Str × Int) → Prop
 | nil : PL H [] []
 | cons {t : Addr} {nm : Str} {tn : Tok} {f : Int} {tf : Tok} {vs : List Value} {ps : List (Str × Int)} : IsTup H t #[.str nm tn, .int f tf] → PL H vs ps → PL H (.ref t :: vs) ((nm, f) :: ps)
theorem PL.of {H : Heap} : ∀ {items : List Value} {ps : List (Str × Int)}, items.length = ps.length → (∀ (k : Nat) v, items[k]? = some v → ∃ t v1 v2, v = .ref t ∧ IsTup H t #[v1, v2] ∧ ∃ nm tn f tf, v1 = .str nm tn ∧ v2 = .int f tf ∧ ps[k]? = some (nm, f)) → PL H items ps
 | [], [], _, _ => .nil
 | v :: vs, q :: ps, hl, h => by
  refine o3_3 (h 0 v rfl) fun t v1 v2 zq3 ht zr => ?_
  refine o4_3 zr fun nm tn f tf zq4 zq5 e => ?_
  clear zr
  subst zq4
  subst zq5
  subst zq3
  cases e
  exact .cons ht (PL.of (Nat.succ.inj hl) fun k v e => h (k + 1) v e)
theorem PL.len (h : PL H items ps) : items.length = ps.length := by
 k_extra "x251"
theorem PL.get (h : PL H items ps) : ∀ (k : Nat) v, items[k]? = some v → ∃ t v1 v2, v = .ref t ∧ IsTup H t #[v1, v2] ∧ ∃ nm tn f tf, v1 = .str nm tn ∧ v2 = .int f tf ∧ ps[k]? = some (nm, f) := by
 induction h with
 | nil => intro k v e; simp at e
 | cons ht _ ih =>
  intro k v e
  cases k with
  | zero => cases e; exact ⟨_, _, _, rfl, ht, _, _, _, _, rfl, rfl, rfl⟩
  | succ k => exact ih k v e
theorem PL.app {a b : List Value} {qs : List (Str × Int)} (h : PL H a ps) (h2 : PL H b qs) : PL H (a ++ b) (ps ++ qs) := by
 induction h with
 | nil => exact h2
 | cons ht _ ih => exact .cons ht ih
theorem PL.take {a : List Value} (h : PL H a ps) : ∀ k : Nat, PL H (a.take k) (ps.take k) := by
 induction h with
 | nil => intro k; simp; exact .nil
 | cons ht _ ih => intro k; cases k with
  | zero => exact .nil
  | succ k => exact .cons ht (ih k)
theorem PL.drop {a : List Value} (h : PL H a ps) : ∀ k : Nat, PL H (a.drop k) (ps.drop k) := by
 induction h with
 | nil => intro k; simp; exact .nil
 | cons ht hr ih => intro k; cases k with
  | zero => exact .cons ht hr
  | succ k => exact ih k
theorem PL.mono {a : List Value} (h : PL H a ps) (S : H.StaysIn H') : PL H' a ps := by
 induction h with
 | nil => exact .nil
 | cons ht _ ih => exact .cons (ht.keeps S) ih
theorem pairs_iff : PairsAt H pl ps ↔ ∃ items : List Value, H.IsList pl items.toArray ∧ PL H items ps :=
 ⟨fun ⟨items, a, b, c⟩ => ⟨items, a, PL.of b c⟩, fun ⟨items, a, b⟩ => ⟨items, a, b.len, b.get⟩⟩
theorem setO_some (h : fst (ps.map (·.1)) y = some k) (fo : Option Int) : setO ps y fo = ps.take k ++ (match fo with | none => [] | some f => [(y, f)]) ++ ps.drop (k + 1) := by
 have hk : k < ps.length := by simpa using (fst_lt h).1
 cases fo with
 | none => simp only [setO, delR, findR, h]; rw [List.eraseIdx_eq_take_drop_succ, List.append_nil]
 | some f => simp only [setO, setR, findR, h]; rw [List.set_eq_take_append_cons_drop, if_pos hk]; simp
theorem setO_none (h : fst (ps.map (·.1)) y = none) (fo : Option Int) : setO ps y fo = match fo with | none => ps | some f => ps ++ [(y, f)] := by
 cases fo with
 | none => simp only [setO, delR, findR, h]
 | some f => simp only [setO, setR, findR, h]
theorem fst_before (h : fst xs y = some k) (hi : i < k) : xs[i]? ≠ some y := by
 unfold fst at h
 obtain ⟨hk, _, h2⟩ := List.findIdx?_eq_some_iff_getElem.mp h
 have := h2 i hi
 rw [List.getElem?_eq_getElem (by omega)]
 simpa using this
theorem pick_upto {y : Int} (h : 0 ≤ y) : (slicePick vs.toArray none (some y) none).toList = vs.take y.toNat := by
 have e : sliceBounds none (some y) none vs.toArray.size = (((0 : Nat) : Int), ((min y.toNat vs.toArray.size : Nat) : Int), 1) := by
  simp only [sliceBounds, Option.getD_none, show (1 : Int) > 0 by decide, if_true, if_neg (show ¬ (y < 0) by omega)]
  congr 1
  congr 1
  omega
 rw [kmk_pick_nat _ e]
 show (vs.drop 0).take (min y.toNat vs.toArray.size - 0) = _
 rw [List.drop_zero, Nat.sub_zero, List.size_toArray, kmk_take_min]
theorem pick_from {x : Int} (h : 0 ≤ x) : (slicePick vs.toArray (some x) none none).toList = vs.drop x.toNat := by
 have e : sliceBounds (some x) none none vs.toArray.size = (((min x.toNat vs.toArray.size : Nat) : Int), ((vs.toArray.size : Nat) : Int), 1) := by
  simp only [sliceBounds, Option.getD_none, show (1 : Int) > 0 by decide, if_true, if_neg (show ¬ (x < 0) by omega)]
  congr 1
  omega
 rw [kmk_pick_nat _ e]
 show (vs.drop (min x.toNat vs.toArray.size)).take (vs.toArray.size - min x.toNat vs.toArray.size) = _
 rw [List.size_toArray, kmk_drop_min, List.take_of_length_le (by rw [List.length_drop]; omega)]
def strOf : Value → Option Str
 | .str x _ => some x
 | _ => none
theorem in_strs {ys : List Str} {k : Str} {b : Bool} (hl : s.heap.IsList l vs.toArray) (hi : StrsAre vs ys) (e : ys.any (· == k) = b) (h : Q (.bool b) s) : wpAny (model thePr w) A (compareOp .In (.str k t) (.ref l)) Q E s := in_list_strs hl hi (by rw [e]; exact h)
theorem idx_strs {ys : List Str} {k : Str} (N : News h₀ L s.heap news) (hm : (D, listOf vs.toArray n) ∈ news) (hi : StrsAre vs ys) (e : fst ys k = some j) (hz : ys.length ≤ 1000) (h : Q (.int (j : Int) s.toks) { s with toks := s.toks + 1 }) : wpAny (model thePr w) A (call (.builtin "list.index") [.ref D, .str k t]) Q E s := by
 have hl := hi.len_eq
 refine o0_2 (fst_lt e) fun hj hg => ?_
 have it : ∀ i (hi2 : i < vs.toArray.size), ∃ z u, vs.toArray[i] = .str z u ∧ ys[i]? = some z := fun i hi2 => by
  refine o2_2 (hi.item i _ (List.getElem?_eq_getElem (by simpa using hi2))) fun z u a b => ?_
  exact ⟨z, u, by simpa using a, b⟩
 refine call_meets PySem.F.slot_list_index ⟨_, (N _ hm).1, rfl⟩ PySem.F.entry_list_index (PySem.F.args_list_index_2 _ _)
  (MeetsSeq.list_index D vs.toArray n (.str k t) (isStrOf k) (fun y hy => eq_isStrOf k t hi y (by simpa using hy)) j (by simp; omega) (by omega) ?_ (fun i hi2 hlt => ?_)) ⟨(N _ hm).1, h⟩
 ·refine o2_2 (it j (by simp; omega)) fun z u a b => ?_
  rw [a]; rw [hg] at b; cases b; exact beq_self_eq_true k
 ·refine o2_2 (it i hi2) fun z u a b => ?_
  rw [a]
  show (z == k) = false
  have := fst_before e hlt
  rw [b] at this
  simpa using this
theorem any_fst {ys : List Str} {o : Option Nat} (h : fst ys y = o) : ys.any (· == y) = o.isSome := by
 subst h
 cases q : fst ys y with
 | none => exact List.any_eq_false.mpr fun x hx hb => fst_none.mp q (eq_of_beq hb ▸ hx)
 | some k => exact List.any_eq_true.mpr ⟨y, List.mem_of_getElem? (fst_lt q).2, beq_self_eq_true y⟩
theorem StrsAre.of_map (h : ys.map strOf = xs.map some) : StrsAre ys xs := by
 k_extra "x119"
theorem tup_of {t : Addr} (e : h.get? t = some (tupObj vs)) : IsTup h t vs.toArray := ⟨_, e, rfl, _, rfl⟩
def Grew (r' h h' H : Heap) : Prop := r'.StaysIn H ∧ ∀ a o, h.get? a = none → h'.get? a = some o → H.get? a = some o
theorem new_in {g : Heap} (Sg : ∀ b o, s.heap.get? b = some o → b ∉ adrs [] → g.get? b = some o) (N : News g L h' news) (hm : (a, o) ∈ news) (G : Grew r' s.heap h' H) : H.get? a = some o :=
 G.2 a o (fresh_of Sg N hm) (N _ hm).1
theorem lst_get {t : Addr} (e : h.get? t = some (listOf vs.toArray n)) : h.IsList t vs.toArray := ⟨_, e, rfl, _, rfl⟩
theorem lines_32 : True := by
 k_with "L122" => (k_here; k_dflt (refine' in_strs ?lz122 ?iz122 ?ez122 ?_; (case lz122 => is_list); (case iz122 => assumption); (case ez122 => assumption)))
 k_with "L123" => (k_here; k_dflt (refine' idx_strs ?Nz123 ?mz123 ?iz123 ?ez123 ?zz123 ?_; (case Nz123 => k_asm); (case mz123 => tb_rel); (case iz123 => assumption); (case ez123 => assumption); (case zz123 => assumption); k_whole))
 k_with "L124" => (k_here; (with_reducible show wpAny _ _ (subscriptTail _ (PySem.Expr.Slice _ _ none _) (Value.ref _) (Value.ref _)) _ _ _); k_dflt (refine' kmk_slice_lit ?Fz124 ?Nz124 ?lz124 ?pz124 ?qz124 ?ez124 ?_ ?sz124 ?tz124 ?zz124; (case Fz124 => k_asm); (case Nz124 => k_asm); (case lz124 => is_list); (case pz124 => kmk_part); (case qz124 => kmk_part); (case ez124 => first | exact pick_upto (by omega) | exact pick_from (by omega)); (case sz124 => with_unfolding_all rfl); (case tz124 => kmk_pure); (case zz124 => (simp only [sizeLine_eq, List.size_toArray]; omega))); intro D' h' F' N' l1; k_extra "x39")
 k_with "L125" => (k_here; (with_reducible show wpAny _ _ (binaryOp _ (Value.ref _) (Value.ref _)) _ _ _); k_dflt (refine' kmk_add_lit ?Fz125 ?Nz125 ?az125 ?bz125 ?ez125 ?_ ?zz125; (case Fz125 => k_asm); (case Nz125 => k_asm); (case az125 => is_list); (case bz125 => is_list); (case ez125 => exact rfl); (case zz125 => (simp only [sizeLine_eq, List.length_append, List.length_cons, List.length_nil, List.length_take, List.length_drop]; omega))); intro D' h' F' N' l1; k_extra "x39")
 k_with "gB53exec Assign cons ListComp" => k_extra "L70"
 k_with "gB53eval ListComp" => k_extra "L71"
 k_with "gB53pyIter ref" => first | k_extra "L73" | k_extra "L72"
 k_with "gB53eval Name" => k_extra "L74"
 k_with "gB53EltEnd" => k_extra "L75"
 k_with "gB53TurnP" => k_extra "L76"
 k_with "gB53exec For Tuple Name cons nil" => k_extra "L77"
 k_with "gB53compareOp In str ref" => k_extra "L122"
 k_with "gB53call builtin:list.index" => k_extra "L123"
 k_with "gB53subscriptTail Name Slice ref ref" => k_extra "L124"
 k_with "gB53binaryOp Add ref ref" => k_extra "L125"
 trivial
section
variable {r : Heap}
theorem after_ (X : (K0 w.params).In r) (T : TopRead p loose mg mb r) (st : r.StaysIn s.heap) (hr' : r'.StaysIn r) (hp : PairsAt r' pl ps) (hv : FigV vv fo) (hz : ps.length ≤ 900) :
  Does w 2 (.ref 1611) ⟨[.ref pl, .str y ty, vv], []⟩ (adrs []) s fun rv h' => ∃ pl', rv = .ref pl' ∧ ∀ H, Grew r' s.heap h' H → PairsAt H pl' (setO ps y fo) := by
 w_on
 refine' does_def (mt := []) (binds := [("pairs", Value.ref pl), ("word", Value.str y ty), ("figure", vv)]) X T st ?hm ?hr ?ho ?hcd ?hbind ?hloc ?_ ?hco ?hgen ?hk ?hcell ?hl
 k_extra "x122"
 k_extra "x134"
 refine comp_list_h (L := L') (J := fun i ys H => ys.map strOf = (ps.take i).map fun q => some q.1) rfl hil hz2 F N ?mono ?h0 (fun I => bind_pair (R := J2) rfl rfl rfl (by decide) rfl (fun i v e => hit i v e) (fun i h e => ⟨_, _, e.1⟩)) ?turn ?done
 k_extra "x234"
 case turn =>
  rintro i v ys H hi hv q2
  refine ⟨[], fN, fN, ?_⟩
  intro h tk own I oI C oC D m₂ E' hoC hz1 Ft Nt off hIC hmI cov
  refine o2_3 hz1 fun _ _ zq2 e1 e2 => ?_
  clear hz1
  refine o4_3 zq2 fun nm tn f tf zqq4 zqq5 hpi => ?_
  clear zq2
  subst zqq4
  subst zqq5
  dsimp only [List.nil_append] at Nt
  refine wpAny_tests_nil ?_
  k_steps
  unfold Stop
  intro H' _ _
  rw [take_succ_get hpi, List.map_append, List.map_append, q2]
  rfl
 case done =>
  rintro ys H e2
  refine ⟨[], fN, fN, ?_⟩
  intro D h tk own Ft Nt off _ cov
  dsimp only [List.nil_append] at Nt
  rw [List.take_of_length_le (Nat.le_of_eq hlen.symm)] at e2
  have hst : StrsAre ys (ps.map (·.1)) := StrsAre.of_map (by rw [e2, List.map_map]; rfl)
  have hps : (ps.map (·.1)).length ≤ 1000 := by rw [List.length_map]; omega
  cases hq : fst (ps.map (·.1)) y with
  | none =>
   have hany := any_fst hq
   dsimp only [Option.isSome] at hany
   cases fo with
   | none =>
    cases hv
    have Ft := Ft
    have Nt := Nt
    k_steps
    unfold Stop
    exact ⟨_, rfl, fun H G => by rw [setO_none hq]; exact hp.mono G.1⟩
   | some f =>
    refine o1_1 hv fun tf zq1 => ?_
    clear hv
    subst zq1
    have Ft := Ft
    have Nt := Nt
    k_steps
    unfold Stop
    rename News _ _ _ _ => Nz
    exact ⟨_, rfl, fun H G => by
     rw [setO_none hq]
     exact pairs_iff.mpr ⟨items ++ [Value.ref _], lst_get (new_in Sg Nz (.head _) G), (hPL.mono G.1).app (.cons (tup_of (new_in Sg Nz (mem_at 2 rfl) G)) .nil)⟩⟩
  | some k =>
   have hany := any_fst hq
   dsimp only [Option.isSome] at hany
   cases fo with
   | none =>
    cases hv
    have Ft := Ft
    have Nt := Nt
    k_steps
    unfold Stop
    rename News _ _ _ _ => Nz
    exact ⟨_, rfl, fun H G => by
     rw [setO_some hq]
     exact pairs_iff.mpr ⟨items.take k ++ [] ++ items.drop (k + 1), lst_get (new_in Sg Nz (.head _) G), (((hPL.mono G.1).take k).app .nil).app ((hPL.mono G.1).drop (k + 1))⟩⟩
   | some f =>
    refine o1_1 hv fun tf zq1 => ?_
    clear hv
    subst zq1
    have Ft := Ft
    have Nt := Nt
    k_steps
    unfold Stop
    rename News _ _ _ _ => Nz
    exact ⟨_, rfl, fun H G => by
     rw [setO_some hq]
     exact pairs_iff.mpr ⟨items.take k ++ [Value.ref _] ++ items.drop (k + 1), lst_get (new_in Sg Nz (.head _) G), (((hPL.mono G.1).take k).app (.cons (tup_of (new_in Sg Nz (mem_at 5 rfl) G)) .nil)).app ((hPL.mono G.1).drop (k + 1))⟩⟩
end
end
local macro_rules |`(tactic|walk_at "")=>`(tactic|skip)
section
local macro_rules | `(tactic| walk_at $s:str) => hk ["gB54", "c3", "c2", "c0"] s
noncomputable def pairD (q : Str × Int) : PyData := .tuple [.str q.1, .int q.2]
theorem PL.reads (h : PL H items ps) : ∃ as, ReadsAll H items (ps.map pairD) as := by
 induction h with
 | nil => exact ⟨_, .nil⟩
 | cons ht _ ih =>
  refine o1_1 ih fun as ha => ?_
  clear ih
  refine o1_3 ht fun o h1 h2 zr => ?_
  clear ht
  refine o1_1 zr fun n h3 => ?_
  clear zr
  exact ⟨_, .cons (.tuple h1 h2 h3 (.cons (.str _ _) (.cons (.int _ _) .nil))) ha⟩
theorem pairs_reads (h : PairsAt H pl ps) : ∃ as, Reads H (.ref pl) (.list (ps.map pairD)) as := by
 refine o1_2 (pairs_iff.mp h) fun items zq1 hp => ?_
 refine o1_3 zq1 fun o h1 h2 zr => ?_
 clear zq1
 refine o1_1 zr fun n h3 => ?_
 clear zr
 refine o1_1 hp.reads fun as ha => ?_
 exact ⟨_, .list h1 h2 h3 ha⟩
theorem pairs_shaped (h : ∀ q ∈ ps, PyData.strOk q.1 = true) : SeqAt.shaped (.list (ps.map pairD)) = true := by
 have a : ∀ ps : List (Str × Int), (∀ q ∈ ps, PyData.strOk q.1 = true) → PyData.canLayAll0 (ps.map pairD) = true ∧ PyData.depthAll (ps.map pairD) ≤ 1 := by
  intro ps
  induction ps with
  | nil => intro _; exact ⟨rfl, Nat.zero_le _⟩
  | cons q r ih =>
   intro h
   refine o0_2 (ih fun z hz => h z (.tail _ hz)) fun i1 i2 => ?_
   refine ⟨?_, ?_⟩
   ·simp only [List.map_cons, PyData.canLayAll0, pairD, PyData.canLay0, h q (.head _), Bool.true_and, Bool.and_true]
    exact i1
   ·simp only [List.map_cons, PyData.depthAll, pairD, PyData.depth]
    omega
 refine o0_2 (a ps h) fun i1 i2 => ?_
 k_extra "x217"
 show PyData.depthAll (ps.map pairD) + 1 ≤ 64
 omega
noncomputable def newH (g H : Heap) : Heap := hideAll H ((List.range g.objs.size).filter fun a => (g.get? a).isSome)
theorem newH_of {g : Heap} (e : (newH g H).get? a = some o) : H.get? a = some o ∧ g.get? a = none := by
 refine o0_2 (hid_of e) fun e1 e2 => ?_
 refine ⟨e1, ?_⟩
 cases q : g.get? a with
 | none => rfl
 | some o' => exact absurd (List.mem_filter.mpr ⟨List.mem_range.mpr (Heap.lt_size q), by rw [q]; rfl⟩) e2
theorem newH_get {g : Heap} (e : H.get? a = some o) (e2 : g.get? a = none) : (newH g H).get? a = some o :=
 hideAll_get _ e fun q => by have := (List.mem_filter.mp q).2; rw [e2] at this; exact Bool.noConfusion this
theorem newH_mono {g : Heap} (S : H.StaysIn H') : (newH g H).StaysIn (newH g H') := fun b o e => newH_get (S _ _ (newH_of e).1) (newH_of e).2
theorem strs_of_map (h : ys.map strOf = xs.map some) : Strs ys xs := by
 k_extra "x119"
theorem dict_new0 {D0 : Addr} (e : h'.get? D0 = some { cls := .type "dict", data := .dict #[] }) : h'.DictOf (strKind thePr w) D0 [] :=
 Heap.dictOf_iff.mpr ⟨_, e, #[], 0, by
  have h := Heap.DictOf.new (knd := strKind thePr w) h'
  refine o3_6 h fun o es ep ho x1 x2 x3 x4 x5 => ?_
  clear h
  cases (Heap.get?_push_size _ rfl).symm.trans ho
  cases x2
  exact ⟨x1, rfl, x3, x4, x5⟩⟩
theorem units_l2 (h : u + 64 < 9900) : (AA d u).units + 64 < cLine := h
theorem ltIn54 {l : List (Addr × Obj)} (h : ∀ p ∈ l, p.1 < x) (m : (a, o) ∈ l) : @LT.lt Nat _ a x := h _ m
theorem ne_nilP (F : Fr h₀ L s.heap m) (hp0 : PairsAt h₀ pl ps) (he : s.heap.IsList e [].toArray) (hok : ∀ q ∈ ps, PyData.strOk q.1 = true) (hu : A.units + 64 < cLine) {b : Bool} (eb : (!ps.isEmpty) = b) (h : Q (.bool b) s) : wpAny (model thePr w) A (compareOp .NotEq (.ref pl) (.ref e)) Q E s := by
 k_extra "x165"
 refine ne_dataH ha (.list h1 h2 h3 .nil) (pairs_shaped hok) (by decide) hu ?_
 subst eb
 cases ps <;> exact h
theorem eq_nilP (F : Fr h₀ L s.heap m) (hp0 : PairsAt h₀ pl ps) (he : s.heap.IsList e [].toArray) (hok : ∀ q ∈ ps, PyData.strOk q.1 = true) (hu : A.units + 64 < cLine) {b : Bool} (eb : ps.isEmpty = b) (h : Q (.bool b) s) : wpAny (model thePr w) A (compareOp .Eq (.ref pl) (.ref e)) Q E s := by
 k_extra "x165"
 refine eq_dataH ha (.list h1 h2 h3 .nil) (pairs_shaped hok) (by decide) hu ?_
 subst eb
 cases ps <;> exact h
def GrewBut (r' h h' : Heap) (d : Addr) (H : Heap) : Prop := r'.StaysIn H ∧ ∀ a o, h.get? a = none → a ≠ d → h'.get? a = some o → H.get? a = some o
theorem new_inB {g : Heap} {d : Addr} (Sg : ∀ b o, s.heap.get? b = some o → b ∉ adrs [] → g.get? b = some o) (N : News g L h' news) (hm : (a, o) ∈ news) (G : GrewBut r' s.heap h' d H) (hn : @Ne Nat a d) : H.get? a = some o :=
 G.2 a o (fresh_of Sg N hm) hn (N _ hm).1
theorem lines_33 : True := by
 k_with "gB54call ref" => k_extra "L58"
 trivial
include F N X T in
theorem use_wholeI (rm : Rm 4 d u) (k : ∀ il x dx hs tk h' tk', Fr h₀ L h' m → let nw := (x, instObj 182 dx) :: (dx, vecD hs (.str "integer" tk) (.ref il) .none (.bool false) (.bool false)) :: (il, listOf [Value.int f t].toArray 0) :: news; News h₀ L h' nw → (∀ p ∈ news, p.1 < il) → @LT.lt Nat _ il dx → @LT.lt Nat _ dx x → Q (.ref x) { s with heap := h', toks := tk' }) :
  wc w d u 1594 [.int f t] Q E s := by
 k_extra "x103"
 refine k _ _ _ ⟨_, _, _, _, _, _, _, _, _, _⟩ _ _ _ (by k_asm) (by k_asm) ?_ ?_ ?_
 all_goals first | assumption | omega | exact ltIn54 (by assumption) (by tb_rel)
theorem lines_34 : True := by
 k_with "L126" => (k_here; (with_reducible show wpAny _ _ (call (Value.ref 1594) [Value.int _ _]) _ _ _); refine' use_wholeI ?F ?N ?X ?T ?rm ?_; k_extra "x23"; k_whole; intro il' x' d' hs' t' h' tk' F' nw' N' l1 l2 l3; k_extra "x39")
 k_with "L127" => (k_here; k_dflt (refine' ne_nilP ?Fz127 ?pz127 ?ez127 ?oz127 ?uz127 ?bz127 ?_; (case bz127 => assumption); (case Fz127 => k_asm); (case pz127 => assumption); (case ez127 => is_list); (case oz127 => assumption); (case uz127 => exact units_l2 (by have hrmU := Rm.u (by assumption); omega)); k_whole))
 k_with "gB54exec Assign cons ListComp" => k_extra "L70"
 k_with "gB54eval ListComp" => k_extra "L71"
 k_with "gB54pyIter ref" => first | k_extra "L73" | k_extra "L72"
 k_with "gB54eval Name" => k_extra "L74"
 k_with "gB54EltEnd" => k_extra "L75"
 k_with "gB54TurnP" => k_extra "L76"
 k_with "gB54exec For Tuple Name cons nil" => k_extra "L77"
 k_with "gB54call ref" => k_extra "L126"
 k_with "gB54compareOp NotEq ref ref" => k_extra "L127"
 trivial
section
variable {r : Heap}
theorem list_ (X : (K0 w.params).In r) (T : TopRead p loose mg mb r) (st : r.StaysIn s.heap) (hr' : r'.StaysIn r) (hp : PairsAt r' pl ps) (hok : ∀ q ∈ ps, PyData.strOk q.1 = true) (hne : ∀ q ∈ ps, q.1 ≠ "") (hz : ps.length ≤ 900) :
  Does w 6 (.ref 1616) ⟨[.ref pl], []⟩ (adrs []) s fun rv h' => ∃ x dx hs tk il at_, rv = .ref x ∧ s.heap.get? x = none ∧ s.heap.get? dx = none ∧ @Ne Nat dx x ∧ h'.get? x = some (instObj 182 dx) ∧ h'.get? dx = some (vecD hs (.str "list" tk) (.ref il) at_ (.bool false) (.bool false)) ∧
   ∀ H, GrewBut r' s.heap h' dx H → RowRest w H il at_ ps := by
 w_on
 refine' does_def (mt := []) (binds := [("pairs", Value.ref pl)]) X T st ?hm ?hr ?ho ?hcd ?hbind ?hloc ?_ ?hco ?hgen ?hk ?hcell ?hl
 k_extra "x122"
 rename_i tk0
 k_extra "x134"
 refine comp_list_h (L := L') (J := fun i ys H => ItemsAt (newH g H) ys ((ps.take i).map (·.2))) rfl hil hz2 F N ?mono ?h0 (fun I => bind_pair (R := J2) rfl rfl rfl (by decide) rfl (fun i v e => hit i v e) (fun i h e => ⟨_, _, e.1⟩)) ?turn ?done
 case mono => rintro i ys a b q st'; exact q.mono (newH_mono st')
 case h0 => intro H _ _; exact ⟨rfl, fun k v e => by simp at e⟩
 case turn =>
  rintro i v ys H hi hv q2
  refine ⟨[], fN, fN, ?_⟩
  intro h tk own I oI C oC D m₂ E' hoC hz1 Ft Nt off hIC hmI cov
  refine o2_3 hz1 fun _ _ zq2 e1 e2 => ?_
  clear hz1
  refine o4_3 zq2 fun nm tn f tf zqq4 zqq5 hpi => ?_
  clear zq2
  subst zqq4
  subst zqq5
  dsimp only [List.nil_append] at Nt
  refine wpAny_tests_nil ?_
  k_steps
  rename News _ _ _ _ => Ne
  unfold Stop
  intro H' hs hp
  show ItemsAt (newH g H') (ys ++ [_]) ((ps.take (i + 1)).map (·.2))
  rw [take_succ_get hpi, List.map_append]
  refine ItemsAt.snoc (q2.mono (newH_mono fun b o e => hs b o (hideAll_get _ e nmn))) ?_
  have off3 : ∀ a : Addr, (@LT.lt Nat _ I a ∧ @LT.lt Nat _ C a ∧ @LT.lt Nat _ D a) → a ∉ [I, C, D] := fun a ⟨z1, z2, z3⟩ q => by
   simp only [List.mem_cons, nmn, or_false] at q
   rcases q with q | q | q
   ·exact absurd z1 (q ▸ Nat.lt_irrefl _)
   ·exact absurd z2 (q ▸ Nat.lt_irrefl _)
   ·exact absurd z3 (q ▸ Nat.lt_irrefl _)
  have k1 : @LT.lt Nat _ I il' := ltIn54 (o := oI) l1 (by tb_rel)
  have k2 : @LT.lt Nat _ C il' := ltIn54 (o := oC) l1 (by tb_rel)
  have k3 : @LT.lt Nat _ D il' := ltIn54 (o := LCg.lst ys) l1 (by tb_rel)
  have oil := off3 il' ⟨k1, k2, k3⟩
  have odx := off3 d' ⟨Nat.lt_trans k1 l2, Nat.lt_trans k2 l2, Nat.lt_trans k3 l2⟩
  have ox := off3 x' ⟨Nat.lt_trans (Nat.lt_trans k1 l2) l3, Nat.lt_trans (Nat.lt_trans k2 l2) l3, Nat.lt_trans (Nat.lt_trans k3 l2) l3⟩
  exact ⟨x', d', _, il', _, rfl, ⟨_, _, newH_get (hp (_, _) (by tb_rel) ox) (Ne (_, _) (by tb_rel)).2.2, newH_get (hp (_, _) (by tb_rel) odx) (Ne (_, _) (by tb_rel)).2.2⟩, lst_get (newH_get (hp (_, _) (by tb_rel) oil) (Ne (_, _) (by tb_rel)).2.2)⟩
 case done =>
  rintro ys H hI
  refine ⟨[], fN, fN, ?_⟩
  intro D h tk own Ft Nt off _ cov
  dsimp only [List.nil_append] at Nt
  rw [List.take_of_length_le (Nat.le_of_eq hlen.symm)] at hI
  cases hps : ps with
  | nil =>
   have hb : (!ps.isEmpty) = false := by rw [hps]; rfl
   k_steps
   unfold Stop
   rename News _ _ _ _ => Nf
   have l1a : ∀ p ∈ (D, LCg.lst ys) :: own, p.1 < d' := by assumption
   refine ⟨x', d', _, _, D, _, rfl, fresh_of Sg Nf (mem_at 1 rfl), fresh_of Sg Nf (mem_at 2 rfl), Nat.ne_of_lt l2, (Nf _ (mem_at 1 rfl)).1, (Nf _ (mem_at 2 rfl)).1, fun Ht G => ⟨ys, none, lst_get (new_inB Sg Nf (mem_at 3 rfl) G (Nat.ne_of_lt (l1a _ (.head _)))), rfl, ?_, ?_, by rw [hps]; rfl⟩⟩
   ·have := hI.1
    rw [hps] at this
    exact ⟨by simpa using this.symm, by rw [this]; exact Nat.zero_le _, fun x hx => nomatch hx⟩
   ·(try rw [← hps])
    refine hI.mono fun b o e => ?_
    refine o0_2 (newH_of e) fun e1 e2 => ?_
    rcases cov b o (hideAll_get _ e1 nmn) with q | q
    ·rw [q] at e2; cases e2
    ·exact new_inB Sg Nf (.tail _ (.tail _ (.tail _ (.tail _ q)))) G (Nat.ne_of_lt (l1a _ (.tail _ q)))
  | cons q0 qr =>
   have hb : (!ps.isEmpty) = true := by rw [hps]; rfl
   k_steps
   unfold Stop
   rename Fr g L' _ _ => Fp
   have x' := (); have d' := (); have hs' := (); have h' := (); have l1 := (); have l2 := ()
   rename_i x dv hs _ l1a l2a _ _ _ _ _ _ _ _ _ he _ _ _ Fe Nq _ _
   clear x' d' hs' h' l1 l2
   replace Nq : News g L' he ((l', W.listOf ([] : List Value).toArray 0) :: (x, instObj 182 dv) :: (dv, vecD hs (.str "list" tk0) (.ref D) .none (.bool false) (.bool false)) :: (D, LCg.lst ys) :: own) := Nq
   have Np : News g L' _ (_ :: _) := news_new (o := { cls := .type "dict", data := .dict #[] }) Fe (Nq.grown fun b o e => Heap.get?_push_of_some _ e) (Heap.get?_none_of_le (Nat.le_refl _)) (Heap.get?_push_size _ rfl)
   have hdD0 : @LT.lt Nat _ dv he.objs.size := Heap.lt_size (Nq _ (mem_at 2 rfl)).1
   have hxD0 : @Ne Nat x he.objs.size := Nat.ne_of_lt (Heap.lt_size (Nq _ (mem_at 1 rfl)).1)
   have hdm := Fe.notModules (modules_low Tg.nolimit)
   generalize hD0 : he.objs.size = D0 at Np hdD0 hdm hxD0
   have hownOff : OwnOff own [D0, x, dv, D] := fun p hp b hb e => by
    have h1 := l1a p (.tail _ hp)
    have h2 := off p hp D (.head _)
    simp only [List.mem_cons, nmn, or_false] at hb
    rcases hb with rfl | rfl | rfl | rfl
    ·exact absurd (Nat.lt_trans h1 hdD0) (e ▸ Nat.lt_irrefl _)
    ·exact absurd (Nat.lt_trans h1 l2a) (e ▸ Nat.lt_irrefl _)
    ·exact absurd h1 (e ▸ Nat.lt_irrefl _)
    ·exact h2 e
   let J3 : Nat → List Value → Heap → Prop := fun i zs H => (∀ p ∈ (D0, ({ cls := .type "dict", data := .dict #[] } : Obj)) :: (x, instObj 182 dv) :: (dv, vecD hs (.str "list" tk0) (.ref D) .none (.bool false) (.bool false)) :: (D, LCg.lst ys) :: own, H.get? p.1 = some p.2) ∧ zs.map strOf = (ps.take i).map fun q => some q.1
   let J4 : Nat → Value → Value → Prop := fun i v1 v2 => ∃ nm tn f tf, v1 = .str nm tn ∧ v2 = .int f tf ∧ ps[i]? = some (nm, f)
   refine comp_list_h (L := L') (J := J3) rfl hil hz2 Fp Np ?mono2 ?h02 (fun I => bind_pair (R := J4) rfl rfl rfl (by decide) rfl (fun i v e => hit i v e) (fun i h e => ⟨_, _, e.1⟩)) ?turn2 ?done2
   case mono2 => intro i ys a b hz1 st'; refine o0_2 hz1 fun q q2 => ?_; clear hz1; exact ⟨fun p hp => st' _ _ (q p hp), q2⟩
   case h02 =>
    intro H _ hN
    refine ⟨fun p hp => hN p ?_, rfl⟩
    rcases mc1 hp with rfl | hp
    ·exact .head _
    ·exact .tail _ (.tail _ hp)
   case turn2 =>
    intro i v zs H2 hi hv hz1
    refine o0_2 hz1 fun q1 q2 => ?_
    clear hz1
    refine ⟨[], fN, fN, ?_⟩
    intro h2 tk2 own2 I oI C oC D2 m₂ E' hoC hz1 Ft2 Nt2 off2 hIC hmI cov2
    refine o2_3 hz1 fun _ _ zq2 e1 e2 => ?_
    clear hz1
    refine o4_3 zq2 fun nm tn f tf zqq4 zqq5 hpi => ?_
    clear zq2
    subst zqq4
    subst zqq5
    dsimp only [List.nil_append] at Nt2
    refine wpAny_tests_nil ?_
    k_steps
    unfold Stop
    intro H' hs2 _
    refine ⟨fun p hp => hs2 _ _ (hideAll_get _ (q1 p hp) nmn), ?_⟩
    rw [take_succ_get hpi, List.map_append, List.map_append, q2]
    rfl
   case done2 =>
    intro zs H2 hz1
    refine o0_2 hz1 fun q1 q2 => ?_
    clear hz1
    refine ⟨[(D0, ({ cls := .type "dict", data := .dict #[] } : Obj)), (x, instObj 182 dv), (dv, vecD hs (.str "list" tk0) (.ref D) .none (.bool false) (.bool false)), (D, LCg.lst ys)], ?_, ?_, ?_⟩
    ·intro p hp; exact q1 p (by simp only [List.mem_cons, nmn, or_false] at hp ⊢; rcases hp with h | h | h | h <;> simp [h])
    ·intro p hp; exact (Np p (by simp only [List.mem_cons, nmn, or_false] at hp ⊢; rcases hp with h | h | h | h <;> simp [h])).2.2
    intro D2 h2 tk2 own2 Ft2 Nt2 off2 hD2 cov2
    dsimp only [List.cons_append, List.nil_append] at Nt2
    have hsub := own_in (mt := [_, _, _, _, _]) (own := own) (own₂ := own2) Np hownOff (fun p hp => q1 p (.tail _ (.tail _ (.tail _ (.tail _ hp))))) cov2
    k_steps
    rotate_right
    ·exact [("names", Value.ref x')]
    ·exact ⟨strKind_is _ _ _ _, rfl, trivial⟩
    ·rename News _ _ _ _ => Nx
     exact dict_new0 (Nx _ (mem_at 3 rfl)).1
    ·have x' := (); have d' := (); have hs' := (); have h' := (); have tk' := (); have l1 := (); have l2 := ()
     rename_i tka x2 dx2 hsx hx tkx l1x l2x _ _ Fx Nx h4 hd4 sb4
     clear x' d' hs' h' tk' l1 l2
     refine o1_2 (Heap.dictOf_iff.mp hd4) fun od hod hdo => ?_
     have hd0 := (Nx _ (mem_at 3 rfl)).2
     have F4 := Fx.change sb4 hd0.1 hd0.2
     have N4 : News g L' h4 ((D0, od) :: (x2, instObj 182 dx2) :: (dx2, vecD hsx (Value.str "character" (tka + 1)) (Value.ref D2) Value.none (Value.bool false) (Value.bool false)) :: (D2, LCg.lst zs) :: (x, instObj 182 dv) :: (dv, vecD hs (Value.str "list" tk0) (Value.ref D) Value.none (Value.bool false) (Value.bool false)) :: (D, LCg.lst ys) :: own2) := by
      have kp : ∀ p, p ∈ _ → p.1 ≠ D0 → News g L' h4 [p] := fun p hp hn => fcons ⟨(sb4.2 _ hn).trans (Nx p hp).1, (Nx p hp).2⟩ fN
      have one : ∀ {p l}, News g L' h4 [p] → News g L' h4 l → News g L' h4 (p :: l) := fun a b => fcons (a _ (.head _)) b
      refine one (fcons ⟨hod, hd0⟩ fN) ?_
      refine one (kp _ (.head _) (Nat.ne_of_gt (Nat.lt_trans (l1x _ (mem_at 1 rfl)) l2x))) ?_
      refine one (kp _ (mem_at 1 rfl) (Nat.ne_of_gt (l1x _ (mem_at 1 rfl)))) ?_
      refine one (kp _ (mem_at 2 rfl) (Ne.symm (hD2 _ (.head _)))) ?_
      refine one (kp _ (mem_at 4 rfl) (hxD0)) ?_
      refine one (kp _ (mem_at 5 rfl) (Nat.ne_of_lt hdD0)) ?_
      refine one (kp _ (mem_at 6 rfl) (Nat.ne_of_lt (Nat.lt_trans (l1a _ (.head _)) hdD0))) ?_
      exact fun p hp => kp p (.tail _ (.tail _ (.tail _ (.tail _ (.tail _ (.tail _ (.tail _ hp))))))) (fun e => off2 p hp D0 (mem_at 1 rfl) e) p (.head _)
     clear Fx Nx sb4 hd4
     dsimp only [adrs, List.map_cons, List.map_nil] at off2
     have hdD2 : @Ne Nat dv D2 := hD2 _ (mem_at 2 rfl)
     k_steps
     unfold Stop
     rename News _ _ _ _ => Nf
     refine ⟨x, dv, _, _, D, _, rfl, fresh_of Sg Nf (mem_at 4 rfl), fresh_of Sg Nf (mem_at 5 rfl), Nat.ne_of_lt l2a, (Nf _ (mem_at 4 rfl)).1, (Nf _ (mem_at 5 rfl)).1, fun Ht G => ⟨ys, some (ps.map (·.1)), lst_get (new_inB Sg Nf (mem_at 6 rfl) G (Nat.ne_of_lt (l1a _ (.head _)))), ?_, ?_, ?_, (by first | rfl | (rw [← hps]; rfl))⟩⟩
     ·refine ⟨D0, od, x2, rfl, hdm, new_inB Sg Nf (.head _) G (Nat.ne_of_gt hdD0), hdo, dx2, _, D2, zs, ⟨_, _, new_inB Sg Nf (mem_at 1 rfl) G (Nat.ne_of_gt (Nat.lt_trans (l1x _ (mem_at 3 rfl)) l2x)), new_inB Sg Nf (mem_at 2 rfl) G (Nat.ne_of_gt (l1x _ (mem_at 3 rfl)))⟩, lst_get (new_inB Sg Nf (mem_at 3 rfl) G (Ne.symm hdD2)), strs_of_map ?_⟩
      rw [q2, List.take_of_length_le (Nat.le_of_eq hlen.symm), List.map_map]
      rfl
     ·have := hI.1
      rw [List.length_map] at this
      exact ⟨by rw [this]; exact List.length_map _, by rw [this]; omega, fun z hz => by
       refine o1_2 (List.mem_map.mp hz) fun q hq zq2 => ?_
       subst zq2
       exact hne q hq⟩
     ·(try rw [← hps])
      refine hI.mono fun b o e => ?_
      refine o0_2 (newH_of e) fun e1 e2 => ?_
      rcases cov b o (hideAll_get _ e1 nmn) with q | q
      ·rw [q] at e2; cases e2
      ·exact new_inB Sg Nf (.tail _ (.tail _ (.tail _ (.tail _ (.tail _ (.tail _ (.tail _ (hsub _ q)))))))) G (Nat.ne_of_lt (l1a _ (.tail _ q)))
end
end
local macro_rules |`(tactic|walk_at "")=>`(tactic|skip)
section
local macro_rules | `(tactic| walk_at $s:str) => hk ["gB55", "c3", "c2", "c0"] s
theorem shaped_strs (h : ∀ x ∈ xs, PyData.strOk x = true) : SeqAt.shaped (.list (xs.map PyData.str)) = true := by
 have a : ∀ xs : List Str, (∀ x ∈ xs, PyData.strOk x = true) → PyData.canLayAll0 (xs.map PyData.str) = true ∧ PyData.depthAll (xs.map PyData.str) = 0 := by
  intro xs
  induction xs with
  | nil => intro _; exact ⟨rfl, rfl⟩
  | cons q r ih =>
   intro h
   refine o0_2 (ih fun z hz => h z (.tail _ hz)) fun i1 i2 => ?_
   refine ⟨?_, ?_⟩
   ·rw [List.map_cons, PyData.canLayAll0, Bool.and_eq_true]
    exact ⟨h q (.head _), i1⟩
   ·rw [List.map_cons, PyData.depthAll, i2, PyData.depth]; rfl
 refine o0_2 (a xs h) fun i1 i2 => ?_
 k_extra "x217"
 show PyData.depthAll (xs.map PyData.str) + 1 ≤ 64
 rw [i2]; omega
theorem strs_reads (h : Strs vs xs) : ∃ as, ReadsAll H vs (xs.map PyData.str) as := by
 induction h with
 | nil => exact ⟨_, .nil⟩
 | cons x t _ ih => refine o1_1 ih fun as ha => ?_; clear ih; exact ⟨_, .cons (.str _ _) ha⟩
theorem ints_of_map {xs : List Int} (h : ys.map intOf = xs.map some) : IntsAre ys xs := by
 induction ys generalizing xs with
 | nil => cases xs with
  | nil => exact .nil
  | cons x r => simp at h
 | cons v r ih => cases xs with
  | nil => simp at h
  | cons x q =>
   simp only [List.map_cons, List.cons.injEq] at h
   cases v <;> simp only [intOf, Option.some.injEq, reduceCtorEq, false_and] at h
   refine o0_2 h fun zq0 h2 => ?_
   clear h
   subst zq0
   exact .cons _ _ (ih h2)
include F N X T in
theorem use_shownI {c : Value} (rm : Rm 2 d u) (hv : IntVec h₀ c f) (k : ∀ t h' tk', Fr h₀ L h' m → News h₀ L h' news → Q (.int f t) { s with heap := h', toks := tk' }) :
  wc w d u 1601 [c] Q E s :=
 use_pure rm F N (shown_ X T F.keep (fo := some f) (ValAt.mono (o := some f) hv F.keep)) fun v h' tk F' N' _ ht => by
  refine o1_1 ht fun t zq1 => ?_
  clear ht
  subst zq1
  exact k t h' tk F' N'
theorem eq_strsL (ha : s.heap.IsList a vs.toArray) (hb : s.heap.IsList b us.toArray) (h1 : Strs vs xs) (h2 : Strs us xs) (hok : ∀ x ∈ xs, PyData.strOk x = true) (hu : A.units + 64 < cLine) (h : Q (.bool true) s) : wpAny (model thePr w) A (compareOp .Eq (.ref a) (.ref b)) Q E s := by
 refine o1_3 ha fun o e1 e2 zr => ?_
 clear ha
 refine o1_1 zr fun n e3 => ?_
 clear zr
 refine o1_3 hb fun o' f1 f2 zr => ?_
 clear hb
 refine o1_1 zr fun n' f3 => ?_
 clear zr
 refine o1_1 (strs_reads (H := s.heap) h1) fun as r1 => ?_
 refine o1_1 (strs_reads (H := s.heap) h2) fun bs r2 => ?_
 refine eq_dataH (.list e1 e2 e3 r1) (.list f1 f2 f3 r2) (shaped_strs hok) (shaped_strs hok) hu ?_
 rw [show PyData.eqv (.list (xs.map PyData.str)) (.list (xs.map PyData.str)) = true from SeqAt.eqv_refl _ (by have := shaped_strs hok; unfold SeqAt.shaped at this; rw [Bool.and_eq_true] at this; exact this.1)]
 exact h
theorem ne_intsL {ns : List Int} (hl : s.heap.IsList a vs.toArray) (hi : IntsAre vs ns) (hl' : s.heap.IsList b us.toArray) (hi' : IntsAre us ns) (hu : A.units + 64 < cLine) (h : Q (.bool false) s) : wpAny (model thePr w) A (compareOp .NotEq (.ref a) (.ref b)) Q E s := ne_intsK hl hi hl' hi' hu (by simpa using h)
theorem lines_35 : True := by
 k_with "L128" => (k_here; (with_reducible show wpAny _ _ (call (Value.ref 1601) [_]) _ _ _); refine' use_shownI ?F ?N ?X ?T ?rm ?v ?_; k_extra "x23"; (case v => k_dflt assumption); k_whole; intro t' h' tk' F' N')
 k_with "L129" => (k_here; k_dflt (refine' ne_intsL ?az129 ?bz129 ?cz129 ?dz129 ?uz129 ?_; (case az129 => is_list); (case bz129 => assumption); (case cz129 => is_list); (case dz129 => assumption); (case uz129 => exact units_l2 (by have hrmU := Rm.u (by assumption); omega)); k_whole))
 k_with "L130" => (k_here; k_dflt (first | (refine' eq_nilP ?Fz130 ?pz130 ?ez130 ?oz130 ?uz130 ?bz130 ?_; (case bz130 => assumption); (case Fz130 => k_asm); (case pz130 => assumption); (case ez130 => is_list); (case oz130 => assumption); (case uz130 => exact units_l2 (by have hrmU := Rm.u (by assumption); omega)); k_whole) | (refine' eq_strsL ?az130 ?bz130 ?cz130 ?dz130 ?oz130 ?uz130 ?_; (case az130 => is_list); (case bz130 => is_list); (case cz130 => assumption); (case dz130 => assumption); (case oz130 => assumption); (case uz130 => exact units_l2 (by have hrmU := Rm.u (by assumption); omega)); k_whole)))
 k_with "gB55exec Assign cons ListComp" => k_extra "L70"
 k_with "gB55eval ListComp" => k_extra "L71"
 k_with "gB55pyIter ref" => first | k_extra "L73" | k_extra "L72"
 k_with "gB55eval Name" => k_extra "L74"
 k_with "gB55EltEnd" => k_extra "L75"
 k_with "gB55TurnP" => k_extra "L76"
 k_with "gB55exec For Tuple Name cons nil" => k_extra "L77"
 k_with "gB55call ref" => k_extra "L128"
 k_with "gB55compareOp NotEq ref ref" => k_extra "L129"
 k_with "gB55compareOp Eq ref ref" => k_extra "L130"
 trivial
section
variable {r : Heap}
theorem is_ {tk : Nat} {at_ : Value} (X : (K0 w.params).In r) (T : TopRead p loose mg mb r) (st : r.StaysIn s.heap) (hv : s.heap.get? v = some (instObj 182 dv)) (hdv : s.heap.get? dv = some (vecD hs (.str "list" tk) (.ref il) at_ (.bool sh) (.bool false))) (hrow : RowRest w s.heap il at_ ps) (hp : PairsAt s.heap pl ps) (hok : ∀ q ∈ ps, PyData.strOk q.1 = true) (hz : ps.length ≤ 900) :
  Does w 4 (.ref 1621) ⟨[.ref v, .ref pl], []⟩ (adrs []) s fun rv h' => rv = .bool true := by
 w_on
 refine' does_def (mt := []) (binds := [("v", Value.ref v), ("pairs", Value.ref pl)]) X T st ?hm ?hr ?ho ?hcd ?hbind ?hloc ?_ ?hco ?hgen ?hk ?hcell ?hl
 k_extra "x85"
 have hvg := Sg _ _ hv nmn
 have hdvg := Sg _ _ hdv nmn
 have hrowg := hrow.mono (Sall Sg)
 have hpg := hp.mono (Sall Sg)
 refine o2_5 hrowg fun items onm hil hat hnm hit hnms => ?_
 clear hrowg
 refine o1_2 (pairs_iff.mp hpg) fun qs hql hPL => ?_
 have hqlen := hPL.len
 have hq2 : qs.length ≤ 1000 := by omega
 have hi2 : items.length ≤ 1000 := hnm.small
 have hokx : ∀ x ∈ ps.map (·.1), PyData.strOk x = true := fun x hx => by refine o1_2 (List.mem_map.mp hx) fun q hq zq2 => ?_; subst zq2; exact hok q hq
 k_extra "x253"
 refine comp_list_h (L := L') (J := fun i ys H => ys.map intOf = ((ps.map (·.2)).take i).map some) rfl hil hi2 F N ?mono ?h0 (fun I => bind_name rfl rfl) ?turn ?done
 k_extra "x234"
 case turn =>
  rintro i v1 ys H hi hv1 q2
  refine ⟨[], fN, fN, ?_⟩
  rintro h tk own I oI C oC D m₂ E' hoC e1 Ft Nt off hIC hmI cov
  dsimp only [List.nil_append] at Nt
  refine o1_2 (hit.2 i v1 hv1) fun f1 hf1 hiv => ?_
  refine wpAny_tests_nil ?_
  k_steps
  unfold Stop
  intro H' _ _
  rw [take_succ_get hf1, List.map_append, List.map_append, q2]
  rfl
 case done =>
  rintro ys H e2
  refine ⟨[], fN, fN, ?_⟩
  intro D h tk own Ft Nt off _ cov
  dsimp only [List.nil_append] at Nt
  rw [List.take_of_length_le (Nat.le_of_eq hit.1.symm)] at e2
  have hys := ints_of_map e2
  k_steps
  unfold Stop
  let J2 : Nat → List Value → Heap → Prop := fun i zs H => H.get? D = some (LCg.lst ys) ∧ zs.map intOf = (ps.take i).map fun q => some q.2
  let J3 : Nat → Value → Value → Prop := fun i v1 v2 => ∃ nm tn f tf, v1 = .str nm tn ∧ v2 = .int f tf ∧ ps[i]? = some (nm, f)
  refine comp_list_h (L := L') (J := J2) rfl hql hq2 Ft Nt ?mono2 ?h02 (fun I => bind_pair (R := J3) rfl rfl rfl (by decide) rfl (fun i v e => hPL.get i v e) (fun i h e => ⟨_, _, e.1⟩)) ?turn2 ?done2
  case mono2 => intro i ys a b hz1 st'; refine o0_2 hz1 fun q1 q2 => ?_; clear hz1; exact ⟨st' _ _ q1, q2⟩
  case h02 => intro H _ hN; exact ⟨hN _ (.head _), rfl⟩
  case turn2 =>
   intro i v1 zs H2 hi hv1 hz1
   refine o0_2 hz1 fun q1 q2 => ?_
   clear hz1
   refine ⟨[], fN, fN, ?_⟩
   intro h2 tk2 own2 I oI C oC D2 m₂ E' hoC hz1 Ft2 Nt2 off2 hIC hmI cov2
   refine o2_3 hz1 fun _ _ zq2 e1 e2' => ?_
   clear hz1
   refine o4_3 zq2 fun nm tn f tf zqq4 zqq5 hpi => ?_
   clear zq2
   subst zqq4
   subst zqq5
   dsimp only [List.nil_append] at Nt2
   refine wpAny_tests_nil ?_
   k_steps
   unfold Stop
   intro H' hs2 _
   refine ⟨hs2 _ _ (hideAll_get _ q1 nmn), ?_⟩
   rw [take_succ_get hpi, List.map_append, List.map_append, q2]
   rfl
  case done2 =>
   intro zs H2 hz1
   refine o0_2 hz1 fun q1 q2 => ?_
   clear hz1
   refine ⟨[(D, LCg.lst ys)], fcons q1 fN, fcons ((Nt _ (.head _)).2.2) fN, ?_⟩
   intro D2 h2 tk2 own2 Ft2 Nt2 off2 hD2 cov2
   dsimp only [List.cons_append, List.nil_append] at Nt2
   rw [List.take_of_length_le (Nat.le_of_eq hqlen.symm)] at q2
   have hzs : IntsAre zs (ps.map (·.2)) := ints_of_map (by rw [q2, List.map_map]; rfl)
   cases hps : ps with
   | nil =>
    have hb : ps.isEmpty = true := by rw [hps]; rfl
    k_steps
    exact rfl
   | cons q0 qr =>
    have hb : ps.isEmpty = false := by rw [hps]; rfl
    obtain ⟨ad, oa, nv, rfl, lo, hoa, hda, dxn, tkn, iln, vs, ⟨hsn, shn, hn1, hn2⟩, hln, hstrs⟩ : ∃ ad o nv, at_ = .ref ad ∧ (ad == sysModules) = false ∧ g.get? ad = some o ∧ o.IsDictOf (strKind thePr w) [("names", .ref nv)] ∧ CharAt g nv (ps.map (·.1)) := by
     cases onm with
     | none => rw [hps] at hnms; simp at hnms
     | some xs =>
      have : xs = ps.map (·.1) := hnms
      subst this
      exact hat
    k_steps
    unfold Stop
    rename Fr _ _ _ _ => F5
    rename News _ _ _ _ => N5
    let J5 : Nat → Value → Value → Prop := fun i v1 v2 => ∃ nm tn f tf, v1 = .str nm tn ∧ v2 = .int f tf ∧ ps[i]? = some (nm, f)
    refine comp_list_h (L := L') (J := fun i xs H => xs.map strOf = (ps.take i).map fun q => some q.1) rfl hql hq2 F5 N5 ?mono3 ?h03 (fun I => bind_pair (R := J5) rfl rfl rfl (by decide) rfl (fun i v e => hPL.get i v e) (fun i h e => ⟨_, _, e.1⟩)) ?turn3 ?done3
    case mono3 => rintro i ys a b q2 _; exact q2
    case h03 => intro H _ _; rfl
    case turn3 =>
     rintro i v1 xs3 H3 hi hv1 q3
     refine ⟨[], fN, fN, ?_⟩
     intro h3 tk3 own3 I oI C oC D3 m₂ E' hoC hz1 Ft3 Nt3 off3 hIC hmI cov3
     refine o2_3 hz1 fun _ _ zq2 e1 e2' => ?_
     clear hz1
     refine o4_3 zq2 fun nm tn f tf zqq4 zqq5 hpi => ?_
     clear zq2
     subst zqq4
     subst zqq5
     dsimp only [List.nil_append] at Nt3
     refine wpAny_tests_nil ?_
     k_steps
     unfold Stop
     intro H' _ _
     rw [take_succ_get hpi, List.map_append, List.map_append, q3]
     rfl
    case done3 =>
     rintro xs3 H3 q3
     refine ⟨[], fN, fN, ?_⟩
     intro D3 h3 tk3 own3 Ft3 Nt3 off3 hD3 cov3
     dsimp only [List.nil_append] at Nt3
     rw [List.take_of_length_le (Nat.le_of_eq hqlen.symm)] at q3
     have hxs : Strs xs3 (ps.map (·.1)) := strs_of_map (by rw [q3, List.map_map]; rfl)
     k_steps
     exact rfl
end
end
local macro_rules |`(tactic|walk_at "")=>`(tactic|skip)
section
local macro_rules | `(tactic| walk_at $s:str) => hk ["gB48", "c3", "c2", "c0"] s
theorem lines_36 : True := by
 k_with "L131" => (k_extra "x65"; refine' use_call3 ?F ?N ?X ?T ?rm ?hl ?_; k_extra "x54")
 k_with "L132" => (k_extra "x51"; refine' use_bsB ?F ?N ?X ?T ?rm ?S ?hal ?h0 ?h1 ?h2 ?hB ?U ?lo ?hd ?hz ?hix ?hdix ?hxl ?o1 ?o2 ?o3 ?o4 ?o9 ?o10 ?o11 ?_; (case F | N => k_asm); (case hal | h0 | h1 | h2 => k_dflt tb_rel); (case hB => assumption); (case U => k_updF); (case lo | hd => assumption); (case hz => assumption);(case hix => k_dflt tb_rel); (case hdix | hxl => k_dflt tb_rel); (case S => assumption); k_extra "x40"; (case o1 | o2 | o3 | o4 | o9 | o10 | o11 => k_ne); k_extra "x46")
 k_with "L133" => (k_extra "x51"; refine' use_bsRN ?F ?N ?X ?T ?rm ?S ?Sr' ?hrow ?hz9 ?hy ?hal ?h0 ?h1 ?h2 ?hval ?hdn ?hI ?hdI ?h13 ?hv ?hdv ?hix ?hdix ?hxl ?_; (case hrow => assumption); (case F | N => k_asm); (case hal | h0 | h1 | h2 | hval | hdn => k_dflt tb_rel); (case hI | h13 | hv | hz9 => assumption); (case hy => assumption);(case hdI => k_dflt tb_rel); (case hdv | hix | hdix | hxl => k_dflt tb_rel); k_extra "x80"; k_extra "x40"; k_extra "x33")
 k_with "L134" => (k_extra "x51"; refine' use_bsRI ?F ?N ?X ?T ?rm ?S ?Sr' ?hrow ?hz9 ?hy ?hal ?h0 ?h1 ?h2 ?hval ?U ?hvil ?hI ?hdI ?h13 ?hv ?hdv ?hix ?hdix ?hxl ?o1 ?o2 ?o3 ?o4 ?o5 ?o6 ?o7 ?o8 ?o9 ?o10 ?o11 ?_; (case hrow => assumption); (case F | N => k_asm); (case hal | h0 | h1 | h2 | hval => k_dflt tb_rel); (case U => k_updF); (case hI | h13 | hv | hz9 => assumption); (case hy => assumption);(case hvil => k_dflt tb_rel); (case hdI | hdv | hix | hdix | hxl => k_dflt tb_rel); k_extra "x80"; k_extra "x40"; (case o1 | o2 | o3 | o4 | o5 | o6 | o7 | o8 | o9 | o10 | o11 => k_ne); k_extra "x33")
 k_with "L135" => (k_extra "x34"; refine' use_ssdBN ?F ?N ?X ?T ?rm ?S ?hI ?hE ?hk ?hB ?hval ?hdn ?U ?U2 ?hne ?o1 ?o2 ?hC ?hS1 ?hS2 ?hS3 ?hF ?o3 ?lo ?hd ?hk3 ?lo2 ?hd2 ?hz ?_; (case hE => assumption); k_extra "x30"; (case hval | hdn => k_dflt tb_rel); (case hB | S | hI | lo | lo2 => assumption); k_extra "x62"; (case hd2 | hz => assumption); k_extra "x53"; k_extra "x46")
 k_with "L136" => (k_extra "x34"; refine' use_ssdBI ?F ?N ?X ?T ?rm ?S ?hI ?hE ?hk ?hB ?hval ?U ?U2 ?U3 ?hne ?hne2 ?hne3 ?o1 ?hC ?hS1 ?hS2 ?hS3 ?hF ?o3 ?lo ?hd ?hk3 ?lo2 ?hd2 ?hz ?_; (case hE => assumption); k_extra "x30"; (case hval => k_dflt tb_rel); (case hB | S | hI | lo | lo2 => assumption); k_extra "x76"; (case hd2 | hz => assumption); k_extra "x40"; (case hne | hne2 | hne3 => k_ne); (case o1 | o3 => k_extra "x10"); k_extra "x75"; k_extra "x46")
 k_with "L137" => (k_extra "x34"; refine' use_ssdRN ?F ?N ?X ?T ?rm ?S ?Sr' ?hrow ?hz9 ?hy ?hI ?h13 ?hv ?hE ?hval ?hdn ?U ?U2 ?hne ?o1 ?o2 ?hC ?hS1 ?hS2 ?hS3 ?hF ?o3 ?lo ?hd ?hk ?hk3 ?_; (case hrow | hE => assumption); k_extra "x30"; (case hval | hdn => k_dflt tb_rel); k_extra "x79"; k_extra "x62"; k_extra "x53"; k_extra "x33")
 k_with "L138" => (k_extra "x34"; refine' use_ssdRI ?F ?N ?X ?T ?rm ?S ?Sr' ?hrow ?hz9 ?hy ?hI ?h13 ?hv ?hE ?hvil ?hval ?U ?U2 ?U3 ?hne ?hne2 ?hne3 ?o1 ?o2 ?hC ?hS1 ?hS2 ?hS3 ?hF ?o3 ?lo ?hd ?hk ?hk3 ?_; (case hrow | hE => assumption); k_extra "x30"; (case hval => k_dflt tb_rel); k_extra "x79"; k_extra "x76"; (case hvil => k_dflt tb_rel); k_extra "x40"; (case hne | hne2 | hne3 => k_ne); (case o1 | o2 | o3 => k_extra "x10"); k_extra "x75"; k_extra "x33")
 k_with "gB48call ref" => first | k_extra "L138" | k_extra "L137" | k_extra "L136" | k_extra "L135" | k_extra "L134" | k_extra "L133" | k_extra "L132" | k_extra "L118" | k_extra "L131" | k_extra "L88" | k_extra "L59" | k_extra "L58"
 trivial
section
variable {r : Heap}
theorem ls_row_dI {v : Nat → Value} {at_ : Value} (X : (K0 w.params).In r) (T : TopRead p loose mg mb r) (st : r.StaysIn s.heap) (hr' : r'.StaysIn r) (hI : r.get? I = some (instObj 1569 dI)) (hdI : s.heap.get? dI = some (evD q v (.ref ge) vis)) (hrI : r.get? dI = none) (h13 : v 13 = .none) (hE : EnvAt w r ge gnum gfr) (hF : s.heap.get? gfr = some gfo) (hrF : r.get? gfr = none) (lo : (gfr == sysModules) = false) (hd : gfo.IsDictOf (strKind thePr w) kvs) (G : GK rv b n kvs) (hn9 : n ≤ 900) (hn1 : @Ne Nat dI gfr) (hv : r.get? rv = some (instObj 182 dv)) (hdv : s.heap.get? dv = some (vecD hs (.str "list" tk) (.ref il) at_ (.bool sh) (.bool false))) (hrv : r.get? dv = none) (hn2 : @Ne Nat dI dv) (hn3 : @Ne Nat gfr dv) (hrow : RowRest w r' il at_ ps) (hz9 : ps.length ≤ 900) (hy : y ≠ "") :
  Does w 24 (.ref 1635) ⟨[.ref I, .str "row" t1, .str y t2, .int f t3, .bool true], []⟩ (adrs [(dI, evD q v (.ref ge) vis), (gfr, gfo), (dv, vecD hs (.str "list" tk) (.ref il) at_ (.bool sh) (.bool false))]) s
   fun rv' h' => ∃ vis' gfo' kvs' sh', h'.get? dI = some (evD q v (.ref ge) vis') ∧ (h'.get? gfr = some gfo' ∧ gfo'.IsDictOf (strKind thePr w) kvs' ∧ GK rv b (n + 1) kvs') ∧ h'.get? dv = some (vecD hs (.str "list" tk) (.ref il) at_ (.bool sh') (.bool false)) ∧ SetDone w r' s.heap [] rv ps (setO ps y (some f)) rv' h' := by
 w_on
 refine' does_def (mt := [(dI, evD q v (.ref ge) vis), (gfr, gfo), (dv, vecD hs (.str "list" tk) (.ref il) at_ (.bool sh) (.bool false))]) (binds := [("interp", Value.ref I), ("held_in", Value.str "row" t1), ("word", Value.str y t2), ("figure", Value.int f t3), ("by_dollar", Value.bool true)]) X T st ?hm ?hr ?ho ?hcd ?hbind ?hloc ?_ ?hco ?hgen ?hk ?hcell ?hl
 k_extra "x138"
 k_extra "x108"
theorem ls_row_dN {v : Nat → Value} {at_ : Value} (X : (K0 w.params).In r) (T : TopRead p loose mg mb r) (st : r.StaysIn s.heap) (hr' : r'.StaysIn r) (hI : r.get? I = some (instObj 1569 dI)) (hdI : s.heap.get? dI = some (evD q v (.ref ge) vis)) (hrI : r.get? dI = none) (h13 : v 13 = .none) (hE : EnvAt w r ge gnum gfr) (hF : s.heap.get? gfr = some gfo) (hrF : r.get? gfr = none) (lo : (gfr == sysModules) = false) (hd : gfo.IsDictOf (strKind thePr w) kvs) (G : GK rv b n kvs) (hn9 : n ≤ 900) (hn1 : @Ne Nat dI gfr) (hv : r.get? rv = some (instObj 182 dv)) (hdv : s.heap.get? dv = some (vecD hs (.str "list" tk) (.ref il) at_ (.bool sh) (.bool false))) (hrv : r.get? dv = none) (hn2 : @Ne Nat dI dv) (hn3 : @Ne Nat gfr dv) (hrow : RowRest w r' il at_ ps) (hz9 : ps.length ≤ 900) (hy : y ≠ "") :
  Does w 24 (.ref 1635) ⟨[.ref I, .str "row" t1, .str y t2, .none, .bool true], []⟩ (adrs [(dI, evD q v (.ref ge) vis), (gfr, gfo), (dv, vecD hs (.str "list" tk) (.ref il) at_ (.bool sh) (.bool false))]) s
   fun rv' h' => ∃ vis' gfo' kvs' sh', h'.get? dI = some (evD q v (.ref ge) vis') ∧ (h'.get? gfr = some gfo' ∧ gfo'.IsDictOf (strKind thePr w) kvs' ∧ GK rv b (n + 1) kvs') ∧ h'.get? dv = some (vecD hs (.str "list" tk) (.ref il) at_ (.bool sh') (.bool false)) ∧ SetDone w r' s.heap [] rv ps (setO ps y none) rv' h' := by
 w_on
 refine' does_def (mt := [(dI, evD q v (.ref ge) vis), (gfr, gfo), (dv, vecD hs (.str "list" tk) (.ref il) at_ (.bool sh) (.bool false))]) (binds := [("interp", Value.ref I), ("held_in", Value.str "row" t1), ("word", Value.str y t2), ("figure", Value.none), ("by_dollar", Value.bool true)]) X T st ?hm ?hr ?ho ?hcd ?hbind ?hloc ?_ ?hco ?hgen ?hk ?hcell ?hl
 k_extra "x138"
 k_extra "x113"
theorem ls_row_bI {v : Nat → Value} {at_ : Value} (X : (K0 w.params).In r) (T : TopRead p loose mg mb r) (st : r.StaysIn s.heap) (hr' : r'.StaysIn r) (hI : r.get? I = some (instObj 1569 dI)) (hdI : s.heap.get? dI = some (evD q v (.ref ge) vis)) (hrI : r.get? dI = none) (h13 : v 13 = .none) (hE : EnvAt w r ge gnum gfr) (hF : s.heap.get? gfr = some gfo) (hrF : r.get? gfr = none) (lo : (gfr == sysModules) = false) (hd : gfo.IsDictOf (strKind thePr w) kvs) (G : GK rv b n kvs) (hn9 : n ≤ 900) (hn1 : @Ne Nat dI gfr) (hv : r.get? rv = some (instObj 182 dv)) (hdv : s.heap.get? dv = some (vecD hs (.str "list" tk) (.ref il) at_ (.bool sh) (.bool false))) (hrv : r.get? dv = none) (hn2 : @Ne Nat dI dv) (hn3 : @Ne Nat gfr dv) (hrow : RowRest w r' il at_ ps) (hz9 : ps.length ≤ 900) (hy : y ≠ "") :
  Does w 24 (.ref 1635) ⟨[.ref I, .str "row" t1, .str y t2, .int f t3, .bool false], []⟩ (adrs [(dI, evD q v (.ref ge) vis), (gfr, gfo), (dv, vecD hs (.str "list" tk) (.ref il) at_ (.bool sh) (.bool false))]) s
   fun rv' h' => ∃ vis' gfo' kvs' sh', h'.get? dI = some (evD q v (.ref ge) vis') ∧ (h'.get? gfr = some gfo' ∧ gfo'.IsDictOf (strKind thePr w) kvs' ∧ GK rv b (n + 1) kvs') ∧ h'.get? dv = some (vecD hs (.str "list" tk) (.ref il) at_ (.bool sh') (.bool false)) ∧ SetDone w r' s.heap [] rv ps (setO ps y (some f)) rv' h' := by
 w_on
 refine' does_def (mt := [(dI, evD q v (.ref ge) vis), (gfr, gfo), (dv, vecD hs (.str "list" tk) (.ref il) at_ (.bool sh) (.bool false))]) (binds := [("interp", Value.ref I), ("held_in", Value.str "row" t1), ("word", Value.str y t2), ("figure", Value.int f t3), ("by_dollar", Value.bool false)]) X T st ?hm ?hr ?ho ?hcd ?hbind ?hloc ?_ ?hco ?hgen ?hk ?hcell ?hl
 k_extra "x139"
 k_extra "x108"
theorem ls_row_bN {v : Nat → Value} {at_ : Value} (X : (K0 w.params).In r) (T : TopRead p loose mg mb r) (st : r.StaysIn s.heap) (hr' : r'.StaysIn r) (hI : r.get? I = some (instObj 1569 dI)) (hdI : s.heap.get? dI = some (evD q v (.ref ge) vis)) (hrI : r.get? dI = none) (h13 : v 13 = .none) (hE : EnvAt w r ge gnum gfr) (hF : s.heap.get? gfr = some gfo) (hrF : r.get? gfr = none) (lo : (gfr == sysModules) = false) (hd : gfo.IsDictOf (strKind thePr w) kvs) (G : GK rv b n kvs) (hn9 : n ≤ 900) (hn1 : @Ne Nat dI gfr) (hv : r.get? rv = some (instObj 182 dv)) (hdv : s.heap.get? dv = some (vecD hs (.str "list" tk) (.ref il) at_ (.bool sh) (.bool false))) (hrv : r.get? dv = none) (hn2 : @Ne Nat dI dv) (hn3 : @Ne Nat gfr dv) (hrow : RowRest w r' il at_ ps) (hz9 : ps.length ≤ 900) (hy : y ≠ "") :
  Does w 24 (.ref 1635) ⟨[.ref I, .str "row" t1, .str y t2, .none, .bool false], []⟩ (adrs [(dI, evD q v (.ref ge) vis), (gfr, gfo), (dv, vecD hs (.str "list" tk) (.ref il) at_ (.bool sh) (.bool false))]) s
   fun rv' h' => ∃ vis' gfo' kvs' sh', h'.get? dI = some (evD q v (.ref ge) vis') ∧ (h'.get? gfr = some gfo' ∧ gfo'.IsDictOf (strKind thePr w) kvs' ∧ GK rv b (n + 1) kvs') ∧ h'.get? dv = some (vecD hs (.str "list" tk) (.ref il) at_ (.bool sh') (.bool false)) ∧ SetDone w r' s.heap [] rv ps (setO ps y none) rv' h' := by
 w_on
 refine' does_def (mt := [(dI, evD q v (.ref ge) vis), (gfr, gfo), (dv, vecD hs (.str "list" tk) (.ref il) at_ (.bool sh) (.bool false))]) (binds := [("interp", Value.ref I), ("held_in", Value.str "row" t1), ("word", Value.str y t2), ("figure", Value.none), ("by_dollar", Value.bool false)]) X T st ?hm ?hr ?ho ?hcd ?hbind ?hloc ?_ ?hco ?hgen ?hk ?hcell ?hl
 k_extra "x139"
 k_extra "x113"
end
end
local macro_rules |`(tactic|walk_at "")=>`(tactic|skip)
section
local macro_rules | `(tactic| walk_at $s:str) => hk ["gB49", "c3", "c2", "c0"] s
theorem boxInt {val : Addr} {tk t : Nat} (Sg : ∀ b o, h.get? b = some o → b ∉ adrs mt → gh.get? b = some o) (N : News gh L h' news) (hb : (bf, o') ∈ news) (hd : o'.IsDictOf (strKind thePr w) (stored bkv y (.ref val))) (r1 : (val, instObj 182 dval) ∈ news) (r2 : (dval, vecD hs (.str "integer" tk) (.ref il) .none (.bool sh) (.bool false)) ∈ news) (r3 : (il, listOf [Value.int f t].toArray n) ∈ news) (n1 : val ∉ adrs mt) (n2 : dval ∉ adrs mt) (n3 : il ∉ adrs mt) : BoxDone w h h' bf bkv y (some f) :=
 ⟨o', _, [(val, instObj 182 dval), (dval, vecD hs (.str "integer" tk) (.ref il) .none (.bool sh) (.bool false)), (il, listOf [Value.int f t].toArray n)], News.get N hb, hd,
  fcons ⟨fresh_of_off Sg N r1 n1, News.get N r1⟩ (fcons ⟨fresh_of_off Sg N r2 n2, News.get N r2⟩ (fcons ⟨fresh_of_off Sg N r3 n3, News.get N r3⟩ fN)),
  fun H he => ⟨_, _, _, _, _, rfl, ⟨_, _, he _ (.head _), he _ (mem_at 1 rfl)⟩, ⟨_, he _ (mem_at 2 rfl), rfl, _, rfl⟩⟩⟩
theorem boxNul {val : Addr} {tn : Nat} (Sg : ∀ b o, h.get? b = some o → b ∉ adrs mt → gh.get? b = some o) (N : News gh L h' news) (hb : (bf, o') ∈ news) (hd : o'.IsDictOf (strKind thePr w) (stored bkv y (.ref val))) (r1 : (val, instObj 153 dn) ∈ news) (r2 : (dn, nulD hn tn) ∈ news) (n1 : val ∉ adrs mt) (n2 : dn ∉ adrs mt) : BoxDone w h h' bf bkv y none :=
 ⟨o', _, [(val, instObj 153 dn), (dn, nulD hn tn)], News.get N hb, hd,
  fcons ⟨fresh_of_off Sg N r1 n1, News.get N r1⟩ (fcons ⟨fresh_of_off Sg N r2 n2, News.get N r2⟩ fN),
  fun H he => ⟨_, _, _, _, rfl, he _ (.head _), he _ (mem_at 1 rfl)⟩⟩
theorem lines_37 : True := by
 k_with "gB49call ref" => first | k_extra "L136" | k_extra "L135" | k_extra "L132" | k_extra "L118" | k_extra "L131" | k_extra "L88" | k_extra "L59" | k_extra "L58"
 trivial
section
variable {r : Heap}
theorem ls_box_dI {v : Nat → Value} (X : (K0 w.params).In r) (T : TopRead p loose mg mb r) (st : r.StaysIn s.heap) (hI : r.get? I = some (instObj 1569 dI)) (hdI : s.heap.get? dI = some (evD q v (.ref ge) vis)) (hrI : r.get? dI = none) (h13 : v 13 = .none) (hE : EnvAt w r ge gnum gfr) (hF : s.heap.get? gfr = some gfo) (hrF : r.get? gfr = none) (lo : (gfr == sysModules) = false) (hd : gfo.IsDictOf (strKind thePr w) kvs) (G : GK rv b n kvs) (hn9 : n ≤ 900) (hn1 : @Ne Nat dI gfr) (hB : EnvAt w r b bnum bf) (hBF : s.heap.get? bf = some bfo) (hrB : r.get? bf = none) (lo2 : (bf == sysModules) = false) (hd2 : bfo.IsDictOf (strKind thePr w) bkv) (hz : bkv.length ≤ 900) (hn2 : @Ne Nat dI bf) (hn3 : @Ne Nat gfr bf) :
  Does w 24 (.ref 1635) ⟨[.ref I, .str "box" t1, .str y t2, .int f t3, .bool true], []⟩ (adrs [(dI, evD q v (.ref ge) vis), (gfr, gfo), (bf, bfo)]) s
   fun rv' h' => ∃ vis' gfo' kvs', rv' = .ref b ∧ h'.get? dI = some (evD q v (.ref ge) vis') ∧ (h'.get? gfr = some gfo' ∧ gfo'.IsDictOf (strKind thePr w) kvs' ∧ GK rv b (n + 1) kvs') ∧ BoxDone w s.heap h' bf bkv y (some f) := by
 w_on
 refine' does_def (mt := [(dI, evD q v (.ref ge) vis), (gfr, gfo), (bf, bfo)]) (binds := [("interp", Value.ref I), ("held_in", Value.str "box" t1), ("word", Value.str y t2), ("figure", Value.int f t3), ("by_dollar", Value.bool true)]) X T st ?hm ?hr ?ho ?hcd ?hbind ?hloc ?_ ?hco ?hgen ?hk ?hcell ?hl
 k_extra "x89"
 exact ⟨_, _, _, rfl, News.get Nz (by tb_rel), ⟨News.get Nz (by tb_rel), by assumption, G.fresh⟩, boxInt Sg Nz (by tb_rel) d₂ (by tb_rel) (by tb_rel) (by tb_rel) (off3 (by k_ne) (by k_ne) (by k_ne)) (off3 (by k_ne) (by k_ne) (by k_ne)) (off3 (by k_ne) (by k_ne) (by k_ne))⟩
theorem ls_box_dN {v : Nat → Value} (X : (K0 w.params).In r) (T : TopRead p loose mg mb r) (st : r.StaysIn s.heap) (hI : r.get? I = some (instObj 1569 dI)) (hdI : s.heap.get? dI = some (evD q v (.ref ge) vis)) (hrI : r.get? dI = none) (h13 : v 13 = .none) (hE : EnvAt w r ge gnum gfr) (hF : s.heap.get? gfr = some gfo) (hrF : r.get? gfr = none) (lo : (gfr == sysModules) = false) (hd : gfo.IsDictOf (strKind thePr w) kvs) (G : GK rv b n kvs) (hn9 : n ≤ 900) (hn1 : @Ne Nat dI gfr) (hB : EnvAt w r b bnum bf) (hBF : s.heap.get? bf = some bfo) (hrB : r.get? bf = none) (lo2 : (bf == sysModules) = false) (hd2 : bfo.IsDictOf (strKind thePr w) bkv) (hz : bkv.length ≤ 900) (hn2 : @Ne Nat dI bf) (hn3 : @Ne Nat gfr bf) :
  Does w 24 (.ref 1635) ⟨[.ref I, .str "box" t1, .str y t2, .none, .bool true], []⟩ (adrs [(dI, evD q v (.ref ge) vis), (gfr, gfo), (bf, bfo)]) s
   fun rv' h' => ∃ vis' gfo' kvs', rv' = .ref b ∧ h'.get? dI = some (evD q v (.ref ge) vis') ∧ (h'.get? gfr = some gfo' ∧ gfo'.IsDictOf (strKind thePr w) kvs' ∧ GK rv b (n + 1) kvs') ∧ BoxDone w s.heap h' bf bkv y none := by
 w_on
 refine' does_def (mt := [(dI, evD q v (.ref ge) vis), (gfr, gfo), (bf, bfo)]) (binds := [("interp", Value.ref I), ("held_in", Value.str "box" t1), ("word", Value.str y t2), ("figure", Value.none), ("by_dollar", Value.bool true)]) X T st ?hm ?hr ?ho ?hcd ?hbind ?hloc ?_ ?hco ?hgen ?hk ?hcell ?hl
 k_extra "x89"
 exact ⟨_, _, _, rfl, News.get Nz (by tb_rel), ⟨News.get Nz (by tb_rel), by assumption, G.fresh⟩, boxNul Sg Nz (by tb_rel) d₂ (by tb_rel) (by tb_rel) (off3 (by k_ne) (by k_ne) (by k_ne)) (off3 (by k_ne) (by k_ne) (by k_ne))⟩
theorem ls_box_bI {v : Nat → Value} (X : (K0 w.params).In r) (T : TopRead p loose mg mb r) (st : r.StaysIn s.heap) (hI : r.get? I = some (instObj 1569 dI)) (hdI : s.heap.get? dI = some (evD q v (.ref ge) vis)) (hrI : r.get? dI = none) (h13 : v 13 = .none) (hE : EnvAt w r ge gnum gfr) (hF : s.heap.get? gfr = some gfo) (hrF : r.get? gfr = none) (lo : (gfr == sysModules) = false) (hd : gfo.IsDictOf (strKind thePr w) kvs) (G : GK rv b n kvs) (hn9 : n ≤ 900) (hn1 : @Ne Nat dI gfr) (hB : EnvAt w r b bnum bf) (hBF : s.heap.get? bf = some bfo) (hrB : r.get? bf = none) (lo2 : (bf == sysModules) = false) (hd2 : bfo.IsDictOf (strKind thePr w) bkv) (hz : bkv.length ≤ 900) (hn2 : @Ne Nat dI bf) (hn3 : @Ne Nat gfr bf) :
  Does w 24 (.ref 1635) ⟨[.ref I, .str "box" t1, .str y t2, .int f t3, .bool false], []⟩ (adrs [(dI, evD q v (.ref ge) vis), (gfr, gfo), (bf, bfo)]) s
   fun rv' h' => ∃ vis' gfo' kvs', rv' = .ref b ∧ h'.get? dI = some (evD q v (.ref ge) vis') ∧ (h'.get? gfr = some gfo' ∧ gfo'.IsDictOf (strKind thePr w) kvs' ∧ GK rv b (n + 1) kvs') ∧ BoxDone w s.heap h' bf bkv y (some f) := by
 w_on
 refine' does_def (mt := [(dI, evD q v (.ref ge) vis), (gfr, gfo), (bf, bfo)]) (binds := [("interp", Value.ref I), ("held_in", Value.str "box" t1), ("word", Value.str y t2), ("figure", Value.int f t3), ("by_dollar", Value.bool false)]) X T st ?hm ?hr ?ho ?hcd ?hbind ?hloc ?_ ?hco ?hgen ?hk ?hcell ?hl
 k_extra "x89"
 exact ⟨_, _, _, rfl, News.get Nz (by tb_rel), ⟨News.get Nz (by tb_rel), by assumption, G.up⟩, boxInt Sg Nz (by tb_rel) d₂ (by tb_rel) (by tb_rel) (by tb_rel) (off3 (by k_ne) (by k_ne) (by k_ne)) (off3 (by k_ne) (by k_ne) (by k_ne)) (off3 (by k_ne) (by k_ne) (by k_ne))⟩
theorem ls_box_bN {v : Nat → Value} (X : (K0 w.params).In r) (T : TopRead p loose mg mb r) (st : r.StaysIn s.heap) (hI : r.get? I = some (instObj 1569 dI)) (hdI : s.heap.get? dI = some (evD q v (.ref ge) vis)) (hrI : r.get? dI = none) (h13 : v 13 = .none) (hE : EnvAt w r ge gnum gfr) (hF : s.heap.get? gfr = some gfo) (hrF : r.get? gfr = none) (lo : (gfr == sysModules) = false) (hd : gfo.IsDictOf (strKind thePr w) kvs) (G : GK rv b n kvs) (hn9 : n ≤ 900) (hn1 : @Ne Nat dI gfr) (hB : EnvAt w r b bnum bf) (hBF : s.heap.get? bf = some bfo) (hrB : r.get? bf = none) (lo2 : (bf == sysModules) = false) (hd2 : bfo.IsDictOf (strKind thePr w) bkv) (hz : bkv.length ≤ 900) (hn2 : @Ne Nat dI bf) (hn3 : @Ne Nat gfr bf) :
  Does w 24 (.ref 1635) ⟨[.ref I, .str "box" t1, .str y t2, .none, .bool false], []⟩ (adrs [(dI, evD q v (.ref ge) vis), (gfr, gfo), (bf, bfo)]) s
   fun rv' h' => ∃ vis' gfo' kvs', rv' = .ref b ∧ h'.get? dI = some (evD q v (.ref ge) vis') ∧ (h'.get? gfr = some gfo' ∧ gfo'.IsDictOf (strKind thePr w) kvs' ∧ GK rv b (n + 1) kvs') ∧ BoxDone w s.heap h' bf bkv y none := by
 w_on
 refine' does_def (mt := [(dI, evD q v (.ref ge) vis), (gfr, gfo), (bf, bfo)]) (binds := [("interp", Value.ref I), ("held_in", Value.str "box" t1), ("word", Value.str y t2), ("figure", Value.none), ("by_dollar", Value.bool false)]) X T st ?hm ?hr ?ho ?hcd ?hbind ?hloc ?_ ?hco ?hgen ?hk ?hcell ?hl
 k_extra "x89"
 exact ⟨_, _, _, rfl, News.get Nz (by tb_rel), ⟨News.get Nz (by tb_rel), by assumption, G.up⟩, boxNul Sg Nz (by tb_rel) d₂ (by tb_rel) (by tb_rel) (off3 (by k_ne) (by k_ne) (by k_ne)) (off3 (by k_ne) (by k_ne) (by k_ne))⟩
end
end
local macro_rules |`(tactic|walk_at "")=>`(tactic|skip)
section
local macro_rules | `(tactic| walk_at $s:str) => hk ["gB24", "c2", "c0"] s
theorem units_lt (h : u + 64 < 9900) : (AA d u).units + 64 < cLine := h
theorem lines_38 : True := by
 k_with "L139" => (k_extra "x65"; refine' use_call2 ?F ?N ?X ?T ?rm ?hl ?_; k_extra "x54")
 k_with "L140" => (k_extra "x60"; refine' use_sdR ?F ?N ?X ?T ?rm ?S ?hI ?hC ?hS1 ?hS2 ?hE ?hF ?lo ?hd ?hk ?hv ?U ?U2 ?hne ?hil ?ha ?hN ?Sr' ?hIt ?hy ?_; (case hIt => assumption); k_extra "x77"; (case hE | hF | lo | hd | hk | hv => assumption); (case U2 => (try dsimp only); k_updF); (case hC => k_dflt (exact call_hid (by k_asm) (by tb_rel) (by tb_rel) (by tb_rel) (off2 (by k_ne) (by k_ne)) (off2 (by k_ne) (by k_ne)) (off2 (by k_ne) (by k_ne)))); (case hS1 | hS2 => k_extra "x21"); (case hne => k_ne); (case hil | ha | hN | Sr' | hy => assumption); k_extra "x32"; k_extra "x29")
 k_with "L141" => (k_extra "x60"; refine' use_sdB ?F ?N ?X ?T ?rm ?S ?hI ?hC ?hS1 ?hS2 ?hE ?hF ?lo ?hd ?hk ?hB ?hBF ?lo2 ?hd2 ?Sr' ?hBx ?U ?_; (case hBx => assumption); k_extra "x77"; (case hE | hF | lo | hd | hk | hB | hBF | lo2 | hd2 | Sr' => assumption); (case hC => k_dflt (exact call_hid (by k_asm) (by tb_rel) (by tb_rel) (by tb_rel) (off1 (by k_ne)) (off1 (by k_ne)) (off1 (by k_ne)))); (case hS1 | hS2 => k_extra "x22"); k_extra "x32"; k_extra "x29")
 k_with "L142" => (k_extra "x58"; refine' use_eleR ?F ?N ?X ?T ?rm ?hv ?hil ?ha ?hN ?hids ?hix ?hxl ?hy ?hIt ?_; (case hIt => assumption); k_extra "x44"; (case hN => assumption); (case hids => k_dflt (is_list)); k_extra "x61"; (case hy => assumption); k_extra "x66")
 k_with "L143" => (k_extra "x58"; refine' use_eleB ?F ?N ?X ?T ?rm ?he ?hf ?lo ?hd ?hB ?hids ?hix ?hxl ?_; k_extra "x74"; (case hids => k_dflt (is_list)); k_extra "x61"; k_extra "x66")
 k_with "gB24call ref" => first | k_extra "L143" | k_extra "L142" | k_extra "L141" | k_extra "L140" | k_extra "L139" | k_extra "L88" | k_extra "L85" | k_extra "L60" | k_extra "L59" | k_extra "L58"
 trivial
section
variable {r : Heap}
theorem read_row {v : Nat → Value} {at_ : Value} (X : (K0 w.params).In r) (T : TopRead p loose mg mb r) (st : r.StaysIn s.heap) (hI : r.get? I = some (instObj 1569 dI)) (hdI : s.heap.get? dI = some (evD q v (.ref ge) vis)) (hrI : r.get? dI = none) (hE : EnvAt w r ge gnum gfr) (hF : r.get? gfr = some gfo) (lo : (gfr == sysModules) = false) (hd : gfo.IsDictOf (strKind thePr w) kvs) (hk : valueAt kvs "row" = some (.ref rv)) (hv : r.get? rv = some (instObj 182 dv)) (hdv : s.heap.get? dv = some (vecD hs (.str "list" tk) (.ref il) at_ (.bool sh) (.bool false))) (hrv : r.get? dv = none) (hne : @Ne Nat dI dv) (hil : r.IsList il items.toArray) (ha : AttsAt w r at_ onm) (hN : NamesOk onm items.length) (hr' : r'.StaysIn r) (hIt : ItemsAt r' items fs) (hy : y ≠ "") (hm : mn = 0 ∨ mn = 1 ∨ mn = 2) :
  Does w 12 (.ref 1628) ⟨[.ref I, .str "row" t1, .str y t2, .int mn t3], []⟩ (adrs [(dI, evD q v (.ref ge) vis), (dv, vecD hs (.str "list" tk) (.ref il) at_ (.bool sh) (.bool false))]) s
   fun rv h' => ∃ vis' sh', h'.get? dI = some (evD q v (.ref ge) vis') ∧ h'.get? dv = some (vecD hs (.str "list" tk) (.ref il) at_ (.bool sh') (.bool false)) ∧
    TellsNew r' s.heap h' rv (atPl fs (placeR (mn == 1) (onm.getD []) y)) := by
 w_on
 refine' does_def (mt := [(dI, evD q v (.ref ge) vis), (dv, vecD hs (.str "list" tk) (.ref il) at_ (.bool sh) (.bool false))]) (binds := [("interp", Value.ref I), ("held_in", Value.str "row" t1), ("word", Value.str y t2), ("manner", Value.int mn t3)]) X T st ?hm ?hr ?ho ?hcd ?hbind ?hloc ?_ ?hco ?hgen ?hk ?hcell ?hl
 k_extra "x151"
 k_extra "x94"
 k_extra "x193"
 k_extra "x256"
 k_extra "x154"
 rcases hm with rfl | rfl | rfl
 k_extra "x96"
 k_extra "x96"
 k_extra "x96"
theorem read_box {v : Nat → Value} (X : (K0 w.params).In r) (T : TopRead p loose mg mb r) (st : r.StaysIn s.heap) (hI : r.get? I = some (instObj 1569 dI)) (hdI : s.heap.get? dI = some (evD q v (.ref ge) vis)) (hrI : r.get? dI = none) (hE : EnvAt w r ge gnum gfr) (hF : r.get? gfr = some gfo) (lo : (gfr == sysModules) = false) (hd : gfo.IsDictOf (strKind thePr w) kvs) (hk : valueAt kvs "box" = some (.ref b)) (hB : EnvAt w r b bnum bf) (hBF : r.get? bf = some bfo) (lo2 : (bf == sysModules) = false) (hd2 : bfo.IsDictOf (strKind thePr w) bkv) (hr' : r'.StaysIn r) (hBx : BoxAt r' bkv ins) (hm : mn = 0 ∨ mn = 1 ∨ mn = 2) :
  Does w 12 (.ref 1628) ⟨[.ref I, .str "box" t1, .str y t2, .int mn t3], []⟩ (adrs [(dI, evD q v (.ref ge) vis)]) s
   fun rv h' => ∃ vis', h'.get? dI = some (evD q v (.ref ge) vis') ∧ TellsNew r' s.heap h' rv (insR ins y) := by
 w_on
 refine' does_def (mt := [(dI, evD q v (.ref ge) vis)]) (binds := [("interp", Value.ref I), ("held_in", Value.str "box" t1), ("word", Value.str y t2), ("manner", Value.int mn t3)]) X T st ?hm ?hr ?ho ?hcd ?hbind ?hloc ?_ ?hco ?hgen ?hk ?hcell ?hl
 k_extra "x163"
 k_extra "x154"
 rcases hm with rfl | rfl | rfl
 k_extra "x100"
 k_extra "x100"
 k_extra "x100"
end
end
local macro_rules |`(tactic|walk_at "")=>`(tactic|skip)
section
local macro_rules | `(tactic| walk_at $s:str) => hk ["gB56", "c0"] s
section
variable {fr : List (Addr × Obj)}
theorem after_call (F : Fr h₀ L h m) (N : News h₀ L h news) (hf : ∀ p ∈ fr, p ∈ news) (ho : ∀ p ∈ own, p ∈ news) (off : OwnOff own (adrs fr)) (C : Cov b₁ h₀ own) {mt : List Addr} (hk : Keep mt h h') (hm : ∀ a ∈ mt, h₀.get? a = none ∧ ∃ o, b₁.get? a = some o) :
  ∃ own' b₁', Fr h₀ L h' m ∧ News h₀ L h' (fr ++ own') ∧ OwnOff own' (adrs fr) ∧ Cov b₁' h₀ own' ∧ (∀ a o, b₁.get? a = some o → a ∉ mt → b₁'.get? a = some o) ∧
   (∀ a o, h.get? a = none → h'.get? a = some o → b₁'.get? a = some o) ∧ (∀ a ∈ mt, ∀ o, h'.get? a = some o → b₁'.get? a = some o) := by
 have hmo : ∀ a ∈ mt, ∃ o, (a, o) ∈ own := fun a ha => by
  refine o0_2 (hm a ha) fun h1 zr => ?_
  refine o1_1 zr fun o h2 => ?_
  clear zr
  rcases C a o h2 with e | e
  ·rw [h1] at e; cases e
  ·exact ⟨o, e⟩
 have hmf : ∀ a ∈ mt, a ∉ adrs fr := fun a ha q => by
  refine o1_1 (hmo a ha) fun o e => ?_
  exact off _ e a q rfl
 have F' : Fr h₀ L h' m := hk.fr F N fun a ha => by
  refine o1_1 (hmo a ha) fun o e => ?_
  exact List.mem_map_of_mem (f := fun p : Addr × Obj => p.1) (ho _ e)
 have Nf : News h₀ L h' fr := fun p hp => ⟨hk.all _ _ (N p (hf p hp)).1 fun q => hmf _ q (List.mem_map_of_mem hp), (N p (hf p hp)).2⟩
 refine o1_3 (recover F' Nf) fun own' N' off' C' => ?_
 have hL : ∀ a o, b₁.get? a = some o → a ∉ L :: adrs fr := fun a o e q => by
  rcases C a o e with e' | e'
  ·rcases mc1 q with rfl | q
   ·exact absurd (Heap.lt_size e') (Nat.not_lt.mpr F.above)
   ·refine o1_2 (List.mem_map.mp q) fun z hz e2 => ?_
    have := (N z (hf z hz)).2.2
    rw [e2, e'] at this; cases this
  ·rcases mc1 q with rfl | q
   ·exact (N _ (ho _ e')).2.1 rfl
   ·exact off _ e' _ q rfl
 refine ⟨own', _, F', N', off', C', fun a o e n => ?_, fun a o n e => ?_, fun a ha o e => ?_⟩
 ·refine hideAll_get _ (hk.all a o ?_ n) (hL a o e)
  rcases C a o e with e' | e'
  ·exact F.keep _ _ e'
  ·exact (N _ (ho _ e')).1
 ·refine hideAll_get _ e fun q => ?_
  rcases mc1 q with rfl | q
  ·k_extra "x202"
   rw [n] at hoL; cases hoL
  ·refine o1_2 (List.mem_map.mp q) fun z hz e2 => ?_
   have := (N z (hf z hz)).1
   rw [e2, n] at this; cases this
 ·refine o0_2 (hm a ha) fun _ zr => ?_
  refine o1_1 zr fun o' h2 => ?_
  clear zr
  exact hideAll_get _ e (hL a o' h2)
end
structure LD where
 dI : Addr
 q : Hq
 v : Nat → Value
 vis : Bool
 gnum : Int
 gfo : Obj
 kvs : List (Str × Value)
 dv : Addr
 hs : H5
 tk : Nat
 il : Addr
 at_ : Value
 sh : Bool
 bnum : Int
 bfo : Obj
 bkv : List (Str × Value)
structure LSok (w : World) (h₀ H : Heap) (foot : List Addr) (n : Nat) (I ge gfr b bf rv : Addr) (ps : List (Str × Int)) (ins : List (Str × Option Int)) (D : LD) : Prop where
 base : h₀.StaysIn (hideAll H foot)
 fI : D.dI ∈ foot
 fG : gfr ∈ foot
 fV : D.dv ∈ foot
 fB : bf ∈ foot
 nIG : @Ne Nat D.dI gfr
 nIV : @Ne Nat D.dI D.dv
 nIB : @Ne Nat D.dI bf
 nGV : @Ne Nat gfr D.dv
 nGB : @Ne Nat gfr bf
 nVB : @Ne Nat D.dv bf
 inst : (hideAll H foot).get? I = some (instObj 1569 D.dI)
 ev : H.get? D.dI = some (evD D.q D.v (.ref ge) D.vis)
 v13 : D.v 13 = .none
 env : EnvAt w (hideAll H foot) ge D.gnum gfr
 fr : H.get? gfr = some D.gfo
 loG : (gfr == sysModules) = false
 dG : D.gfo.IsDictOf (strKind thePr w) D.kvs
 gk : GK rv b n D.kvs
 row : (hideAll H foot).get? rv = some (instObj 182 D.dv)
 vec : H.get? D.dv = some (vecD D.hs (.str "list" D.tk) (.ref D.il) D.at_ (.bool D.sh) (.bool false))
 rest : RowRest w (hideAll H foot) D.il D.at_ ps
 envB : EnvAt w (hideAll H foot) b D.bnum bf
 frB : H.get? bf = some D.bfo
 loB : (bf == sysModules) = false
 dB : D.bfo.IsDictOf (strKind thePr w) D.bkv
 boxB : BoxAt (hideAll H foot) D.bkv ins
 lenB : D.bkv.length ≤ n
 keysB : D.bkv.map (·.1) = ins.map (·.1)
structure LC (h₀ b₁ : Heap) (as : List Addr) (own : List (Addr × Obj)) (foot : List Addr) : Prop where
 off : OwnOff own as
 cov : Cov b₁ h₀ own
 old : ∀ a ∈ foot, ∃ o, b₁.get? a = some o
inductive FrOf (news : List (Addr × Obj)) : List Addr → List (Addr × Obj) → Prop
 | nil : FrOf news [] []
 | cons {a : Addr} {o : Obj} {as : List Addr} {fr : List (Addr × Obj)} : (a, o) ∈ news → FrOf news as fr → FrOf news (a :: as) ((a, o) :: fr)
theorem FrOf.mem {fr : List (Addr × Obj)} (h : FrOf news as fr) : ∀ p ∈ fr, p ∈ news := by
 induction h with
 | nil => exact fN
 | cons a _ ih => exact fcons a ih
theorem FrOf.adrs {fr : List (Addr × Obj)} (h : FrOf news as fr) : as = Mine.adrs fr := by
 induction h with
 | nil => rfl
 | cons a _ ih => rw [ih]; rfl
def LS (w : World) (h₀ H : Heap) (foot : List Addr) (n : Nat) (I ge gfr b bf rv : Addr) (ps : List (Str × Int)) (ins : List (Str × Option Int)) : Prop := ∃ D, LSok w h₀ H foot n I ge gfr b bf rv ps ins D
theorem hide_sub {mt : List Addr} (h : ∀ a ∈ mt, a ∈ foot) : (hideAll H foot).StaysIn (hideAll H mt) := fun b o e => hideAll_get _ (hid_of e).1 fun q => (hid_of e).2 (h b q)
theorem hide_in : (hideAll H foot).StaysIn H := fun b o e => (hid_of e).1
theorem st_of {mt : List Addr} (hmt : ∀ a ∈ mt, a ∈ foot) (up : ∀ a o, b₁.get? a = some o → a ∉ mt → b₁'.get? a = some o) : (hideAll b₁ foot).StaysIn (hideAll b₁' foot) :=
 fun a o e => hideAll_get _ (up a o (hid_of e).1 fun q => (hid_of e).2 (hmt a q)) (hid_of e).2
section
variable {fr : List (Addr × Obj)} {D : LD}
theorem law_call {l : Nat} {f : Value} {mt : List Addr} (rm : Rm l d u) (F : Fr h₀ L s.heap m) (N : News h₀ L s.heap news) (lc : LC h₀ b₁ as own foot) (hfr : FrOf news as fr) (ho : ∀ p ∈ own, p ∈ news) (base : h₀.StaysIn (hideAll b₁ foot)) (hmt : ∀ a ∈ mt, a ∈ foot) (hin : ∀ a ∈ mt, ∃ o, b₁.get? a = some o) (H : h₀.StaysIn (hideAll b₁ mt) → (hideAll b₁ foot).StaysIn (hideAll b₁ mt) → (hideAll b₁ mt).StaysIn s.heap → b₁.StaysIn s.heap → Does w l f ⟨args, []⟩ mt s fun v h' => (∀ a ∈ mt, ∃ o, h'.get? a = some o) ∧ P v h') (k : ∀ v own' b₁' h' tk, Fr h₀ L h' m → News h₀ L h' (fr ++ own') → LC h₀ b₁' as own' foot → (hideAll b₁ foot).StaysIn (hideAll b₁' foot) → (∀ a o, b₁.get? a = some o → a ∉ mt → b₁'.get? a = some o) →
   (∀ a o, s.heap.get? a = none → h'.get? a = some o → b₁'.get? a = some o ∧ a ∉ foot ∧ b₁.get? a = none) → (∀ a ∈ mt, ∀ o, h'.get? a = some o → b₁'.get? a = some o) → P v h' → Q v { s with heap := h', toks := tk }) :
  wpAny (model thePr w) (AA d u) (call f args) Q E s := by
 have hf := hfr.mem
 obtain rfl := hfr.adrs
 have hb := lc.cov.stays F N ho
 have sub := hide_sub (H := b₁) hmt
 refine (H (fun a o e => sub _ _ (base _ _ e)) sub (fun a o e => hb _ _ (hid_of e).1) hb).use rm fun v h' tk hk hp => ?_
 refine o0_2 hp fun hex hp => ?_
 obtain ⟨own', b₁', F', N', off', C', up, new, rows⟩ := after_call F N hf ho lc.off lc.cov hk (fun a ha => by
  refine ⟨?_, hin a ha⟩
  cases q : h₀.get? a with
  | none => rfl
  | some o => exact absurd (hmt a ha) (hid_of (base _ _ q)).2)
 have hold : ∀ a ∈ foot, ∃ o, s.heap.get? a = some o := fun a ha => by
  refine o1_1 (lc.old a ha) fun o e => ?_
  exact ⟨o, hb _ _ e⟩
 refine k v own' b₁' h' tk F' N' ⟨off', C', fun a ha => ?_⟩ (st_of hmt up) up (fun a o n e => ⟨new a o n e, fun q => ?_, ?_⟩) rows hp
 ·refine o1_1 (lc.old a ha) fun o e => ?_
  by_cases q : a ∈ mt
  ·refine o1_1 (hex a q) fun o' e' => ?_
   exact ⟨o', rows a q _ e'⟩
  ·exact ⟨o, up a o e q⟩
 ·refine o1_1 (hold a q) fun o' e' => ?_
  rw [n] at e'; cases e'
 ·cases q : b₁.get? a with
  | none => rfl
  | some o' => have := hb _ _ q; rw [n] at this; cases this
theorem LSok.keep {foot' : List Addr} (S : LSok w h₀ b₁ foot n I ge gfr b bf rv ps ins D) (hff : ∀ a ∈ foot, a ∈ foot') (st : (hideAll b₁ foot).StaysIn (hideAll b₁' foot')) {ins' : List (Str × Option Int)} (ev : b₁'.get? D.dI = some (evD D.q D.v (.ref ge) vis)) (vec : b₁'.get? D.dv = some (vecD D.hs (.str "list" D.tk) (.ref D.il) D.at_ (.bool sh) (.bool false))) (fr : b₁'.get? gfr = some gfo) (dG : gfo.IsDictOf (strKind thePr w) kvs) (gk : GK rv b n' kvs) (frB : b₁'.get? bf = some bfo) (dB : bfo.IsDictOf (strKind thePr w) bkv) (boxB : BoxAt (hideAll b₁' foot') bkv ins') (lenB : bkv.length ≤ n') (keysB : bkv.map (·.1) = ins'.map (·.1)) :
  LSok w h₀ b₁' foot' n' I ge gfr b bf rv ps ins' { D with vis := vis, sh := sh, gfo := gfo, kvs := kvs, bfo := bfo, bkv := bkv } :=
 { base := fun a o e => st _ _ (S.base _ _ e), fI := hff _ S.fI, fG := hff _ S.fG, fV := hff _ S.fV, fB := hff _ S.fB, nIG := S.nIG, nIV := S.nIV, nIB := S.nIB, nGV := S.nGV, nGB := S.nGB, nVB := S.nVB, inst := st _ _ S.inst, ev := ev, v13 := S.v13, env := S.env.mono st, fr := fr, loG := S.loG, dG := dG, gk := gk, row := st _ _ S.row, vec := vec, rest := S.rest.mono st, envB := S.envB.mono st, frB := frB, loB := S.loB, dB := dB, boxB := boxB, lenB := lenB, keysB := keysB }
theorem nm2 (h : @Ne Nat x a) (h2 : @Ne Nat x b) : x ∉ [a, b] := fun q => by
 simp only [List.mem_cons, nmn, or_false] at q
 rcases q with q | q
 ·exact h q
 ·exact h2 q
theorem nm1 (h : @Ne Nat x a) : x ∉ [a] := fun q => h (ms1 q)
theorem nm3 (h : @Ne Nat x a) (h2 : @Ne Nat x b) (h3 : @Ne Nat x c) : x ∉ [a, b, c] := fun q => (mc1 q).elim h (nm2 h2 h3)
theorem in2 {P : Addr → Prop} (h : P a) (h2 : P b) : ∀ x ∈ [a, b], P x := fcons h (fcons h2 fN)
theorem in1 {P : Addr → Prop} (h : P a) : ∀ x ∈ [a], P x := fcons h fN
theorem in3 {P : Addr → Prop} (h : P a) (h2 : P b) (h3 : P c) : ∀ x ∈ [a, b, c], P x := fcons h (in2 h2 h3)
abbrev LK (h₀ b₁ : Heap) (L : Addr) (m : LocMap) (as : List Addr) (fr : List (Addr × Obj)) (foot foot' : List Addr) (s : Shared) (Q : Shared → Prop) (P : Heap → Prop) : Prop :=
 ∀ own' b₁' h' tk, Fr h₀ L h' m → News h₀ L h' (fr ++ own') → LC h₀ b₁' as own' foot' → (hideAll b₁ foot).StaysIn (hideAll b₁' foot') → P b₁' → Q { s with heap := h', toks := tk }
include F N X T in
theorem use_readRow (rm : Rm 12 d u) (lc : LC h₀ b₁ as own foot) (hfr : FrOf news as fr) (ho : ∀ p ∈ own, p ∈ news) (S : LS w h₀ b₁ foot n I ge gfr b bf rv ps ins) (hy : y ≠ "") (hm : mn = 0 ∨ mn = 1 ∨ mn = 2) (k : ∀ c, LK h₀ b₁ L m as fr foot foot s (Q (.ref c)) fun b₁' => LS w h₀ b₁' foot n I ge gfr b bf rv ps ins ∧ ValAt b₁' (.ref c) (atPl (ps.map (·.2)) (placeR (mn == 1) (ps.map (·.1)) y))) :
  wc w d u 1628 [.ref I, .str "row" t1, .str y t2, .int mn t3] Q E s := by
 k_extra "x192"
 refine law_call rm F N lc hfr ho S.base (mt := [D.dI, D.dv]) (in2 S.fI S.fV) (in2 ⟨_, S.ev⟩ ⟨_, S.vec⟩) (fun h0r sub hrs hbs => ?_) (fun v own' b₁' h' tk F' N' lc' st up new rows hp => ?_) (P := fun v h' => ∃ vis' sh', h'.get? D.dI = some (evD D.q D.v (.ref ge) vis') ∧ h'.get? D.dv = some (vecD D.hs (.str "list" D.tk) (.ref D.il) D.at_ (.bool sh') (.bool false)) ∧
    TellsNew (hideAll b₁ foot) s.heap h' v (atPl (ps.map (·.2)) (placeR (mn == 1) (ps.map (·.1)) y)))
 ·refine o2_5 S.rest fun items onm hil ha hN hIt hnm => ?_
  have H := read_row (s := s) (r := hideAll b₁ [D.dI, D.dv]) (t1 := t1) (t2 := t2) (t3 := t3) (X.keeps h0r) (T.keeps h0r) hrs (sub _ _ S.inst) (hbs _ _ S.ev) (hideAll_none _ (.head _)) (S.env.mono sub)
   (hideAll_get _ S.fr (nm2 (Ne.symm S.nIG) S.nGV)) S.loG S.dG S.gk.row (sub _ _ S.row) (hbs _ _ S.vec) (hideAll_none _ (mem_at 1 rfl)) S.nIV (IsList.mono hil sub) (ha.mono sub) hN (r' := hideAll b₁ foot) sub hIt hy hm
  rw [hnm] at H
  exact fun d u rm => codeAny_mono (H d u rm) fun r s' hp => by refine o3_4 hp fun v h' tk e1 e2 hk zr => ?_; clear hp; refine o2_3 zr fun vis' sh' g1 g2 g3 => ?_; clear zr; exact ⟨v, h', tk, e1, e2, hk, in2 ⟨_, g1⟩ ⟨_, g2⟩, vis', sh', g1, g2, g3⟩
 ·refine o2_3 hp fun vis' sh' g1 g2 zr => ?_
  k_extra "x178"
  exact k x own' b₁' h' tk F' N' lc' st ⟨⟨_, S.keep (fun _ h => h) st (rows _ (.head _) _ g1) (rows _ (mem_at 1 rfl) _ g2) (up _ _ S.fr (nm2 (Ne.symm S.nIG) S.nGV)) S.dG S.gk (up _ _ S.frB (nm2 (Ne.symm S.nIB) (Ne.symm S.nVB))) S.dB (S.boxB.mono st) S.lenB S.keysB⟩, tell b₁' (fun a o e => hide_in _ _ (st _ _ e)) (new _ _ n1 g3).1 (new _ _ n2 g4).1⟩
include F N X T in
theorem use_readBox (rm : Rm 12 d u) (lc : LC h₀ b₁ as own foot) (hfr : FrOf news as fr) (ho : ∀ p ∈ own, p ∈ news) (S : LS w h₀ b₁ foot n I ge gfr b bf rv ps ins) (hm : mn = 0 ∨ mn = 1 ∨ mn = 2) (k : ∀ c, LK h₀ b₁ L m as fr foot foot s (Q (.ref c)) fun b₁' => LS w h₀ b₁' foot n I ge gfr b bf rv ps ins ∧ ValAt b₁' (.ref c) (insR ins y)) :
  wc w d u 1628 [.ref I, .str "box" t1, .str y t2, .int mn t3] Q E s := by
 k_extra "x192"
 refine law_call rm F N lc hfr ho S.base (mt := [D.dI]) (in1 S.fI) (in1 ⟨_, S.ev⟩) (fun h0r sub hrs hbs => ?_) (fun v own' b₁' h' tk F' N' lc' st up new rows hp => ?_) (P := fun v h' => ∃ vis', h'.get? D.dI = some (evD D.q D.v (.ref ge) vis') ∧ TellsNew (hideAll b₁ foot) s.heap h' v (insR ins y))
 ·have H := read_box (s := s) (r := hideAll b₁ [D.dI]) (t1 := t1) (t2 := t2) (t3 := t3) (X.keeps h0r) (T.keeps h0r) hrs (sub _ _ S.inst) (hbs _ _ S.ev) (hideAll_none _ (.head _)) (S.env.mono sub)
   (hideAll_get _ S.fr (nm1 (Ne.symm S.nIG))) S.loG S.dG S.gk.box (S.envB.mono sub) (hideAll_get _ S.frB (nm1 (Ne.symm S.nIB))) S.loB S.dB (r' := hideAll b₁ foot) sub S.boxB hm (y := y)
  exact fun d u rm => codeAny_mono (H d u rm) fun r s' hp => by refine o3_4 hp fun v h' tk e1 e2 hk zr => ?_; clear hp; refine o1_2 zr fun vis' g1 g3 => ?_; clear zr; exact ⟨v, h', tk, e1, e2, hk, in1 ⟨_, g1⟩, vis', g1, g3⟩
 ·refine o1_2 hp fun vis' g1 zr => ?_
  k_extra "x178"
  exact k x own' b₁' h' tk F' N' lc' st ⟨⟨_, S.keep (fun _ h => h) st (rows _ (.head _) _ g1) (up _ _ S.vec (nm1 (Ne.symm S.nIV))) (up _ _ S.fr (nm1 (Ne.symm S.nIG))) S.dG S.gk (up _ _ S.frB (nm1 (Ne.symm S.nIB))) S.dB (S.boxB.mono st) S.lenB S.keysB⟩, tell b₁' (fun a o e => hide_in _ _ (st _ _ e)) (new _ _ n1 g3).1 (new _ _ n2 g4).1⟩
end
end
section
def TurnC (h₀ : Heap) (L : Addr) (fx : List (Addr × Obj)) (itc : Addr) (J : LocMap → Heap → Prop) (s₁ : Shared) (Q : Flow → Shared → Prop) (f : Flow) (s₂ : Shared) : Prop :=
 match f with
 | .ret v => Q (.ret v) s₂
 | .brk => Q .next s₂
 | _ => ∃ h' tk m' fr' own' b₁', s₂ = { s₁ with heap := h', toks := tk } ∧ Fr h₀ L h' m' ∧ News h₀ L h' (fr' ++ own') ∧ (∀ p ∈ fx, p ∈ fr') ∧ OwnOff own' (adrs fr') ∧ Cov b₁' h₀ own' ∧
   ∀ H' : Heap, b₁'.StaysIn H' → (∀ p ∈ fr', p.1 ≠ itc → H'.get? p.1 = some p.2) → J m' H'
section
variable {fr' : List (Addr × Obj)} {itc : Addr} {Q : Flow → Shared → Prop} {tk : Nat}
theorem TurnC.intro (F : Fr h₀ L h' m') (N : News h₀ L h' (fr' ++ own')) (hf : ∀ p ∈ fx, p ∈ fr') (off : OwnOff own' (adrs fr')) (C : Cov b₁' h₀ own') (hJ : ∀ H' : Heap, b₁'.StaysIn H' → (∀ p ∈ fr', p.1 ≠ itc → H'.get? p.1 = some p.2) → J m' H') : TurnC h₀ L fx itc J s₁ Q .next { s₁ with heap := h', toks := tk } :=
 ⟨h', tk, m', fr', own', b₁', rfl, F, N, hf, off, C, hJ⟩
theorem TurnC.introC (F : Fr h₀ L h' m') (N : News h₀ L h' (fr' ++ own')) (hf : ∀ p ∈ fx, p ∈ fr') (off : OwnOff own' (adrs fr')) (C : Cov b₁' h₀ own') (hJ : ∀ H' : Heap, b₁'.StaysIn H' → (∀ p ∈ fr', p.1 ≠ itc → H'.get? p.1 = some p.2) → J m' H') : TurnC h₀ L fx itc J s₁ Q .cont { s₁ with heap := h', toks := tk } :=
 ⟨h', tk, m', fr', own', b₁', rfl, F, N, hf, off, C, hJ⟩
end
section
variable {env : Env} {x : Str} {Q : Flow → Shared → Prop}
theorem loop_h2 {P : Nat → Value → Prop} (kp : List (Addr × Obj)) (J : Nat → LocMap → Heap → Prop) (W : Walks prog w A I fp [I] n P St) (hI : ∀ i h, St i h → ∃ o, h.get? I = some o ∧ o.cls = itc) (hLf : env.locals ∉ fp) (hw : h₀.get? I = none) (hfp : ∀ b ∈ fp, b = I ∨ b ∈ adrs kp) (hkn : ∀ p ∈ kp, h₀.get? p.1 = none) (hk : ∀ i m H, J i m H → ∀ p ∈ kp, H.get? p.1 = some p.2) (mono : ∀ i m g g', J i m g → g.StaysIn g' → J i m g') (hst : St 0 s.heap) (F : Fr h₀ env.locals s.heap m₀) (h0 : J 0 m₀ (hideAll s.heap [env.locals, I])) (turn : ∀ i v m H, i < n → P i v → J i m H → ∃ mtO : List (Addr × Obj), (∀ p ∈ mtO, H.get? p.1 = some p.2) ∧ (∀ p ∈ mtO, h₀.get? p.1 = none) ∧
   ∀ h tk own oI, oI.cls = itc → Fr h₀ env.locals h (fun y => if y = x then some v else m y) → News h₀ env.locals h ((I, oI) :: (kp ++ mtO ++ own)) → OwnOff own (adrs ((I, oI) :: (kp ++ mtO))) → Cov (hideAll H (adrs (kp ++ mtO))) h₀ own → H.get? I = none →
    wpAny (model prog w) A (execs body env) (TurnC h₀ env.locals ((I, oI) :: kp) I (J (i + 1)) { s with heap := h, toks := tk } Q) E { s with heap := h, toks := tk }) (done : ∀ m H, J n m H → ∃ mtO : List (Addr × Obj), (∀ p ∈ mtO, H.get? p.1 = some p.2) ∧ (∀ p ∈ mtO, h₀.get? p.1 = none) ∧
   ∀ h tk own, Fr h₀ env.locals h m → News h₀ env.locals h (mtO ++ own) → OwnOff own (adrs mtO) → Cov (hideAll H (adrs mtO)) h₀ own → Q .next { s with heap := h, toks := tk }) :
  LoopAtV prog w A h₀ env x body Q E (.ref I) s := by
 k_extra "x190"
 k_extra "x101"
 k_extra "x114"
 k_extra "x104"
 ·k_extra "x99"
  refine o1_3 (turn i v m₁ _ hin hP hJh) fun mtO hm hn go => ?_
  have hkH := hk _ _ _ hJh
  refine o1_2 (hI _ _ hst₁) fun oI hoI hc => ?_
  have hIL : I ≠ env.locals := fun e => hLf (e ▸ W.sub _ (.head _))
  have hmk : ∀ p ∈ kp ++ mtO, h.get? p.1 = some p.2 ∧ p.1 ≠ env.locals ∧ h₀.get? p.1 = none := fun p hp => by
   have e : (hideAll h [env.locals, I]).get? p.1 = some p.2 := (ma1 hp).elim (hkH p) (hm p)
   exact ⟨(hid_of e).1, fun q => (hid_of e).2 (q ▸ .head _), (ma1 hp).elim (hkn p) (hn p)⟩
  refine o1_3 (recover (mtO := (I, oI) :: (kp ++ mtO)) F₁ (fC.mpr ⟨⟨hoI, hIL, hw⟩, hmk⟩)) fun own N off' C => ?_
  have hb : Cov (hideAll (hideAll h [env.locals, I]) (adrs (kp ++ mtO))) h₀ own := fun b o e => by
   refine o0_2 (hid_of e) fun e1 n1 => ?_
   refine o0_2 (hid_of e1) fun e2 n2 => ?_
   refine C b o (hideAll_get _ e2 fun q => ?_)
   rcases mc1 q with rfl | q
   ·exact n2 (.head _)
   ·rcases mc1 q with rfl | q
    ·exact n2 (.tail _ (.head _))
    ·exact n1 q
  refine wpAny_mono (go h tk own oI hc F₁ N off' hb (hideAll_none _ (.tail _ (.head _)))) ?_ (fun _ _ e => e)
  intro f s₂ ht
  have hIt : ∀ p ∈ own₁, p ∈ (I, oI) :: kp := fun p hp => by
   have e := hget p hp
   rcases hfp _ (hown p hp) with q | q
   ·rw [q, hoI] at e
    have : p = (I, oI) := Prod.ext q (Option.some.inj e).symm
    exact this ▸ .head _
   ·refine o1_2 (List.mem_map.mp q) fun r hr e2 => ?_
    have e2 : r.1 = p.1 := e2
    have := (hmk r (mal _ hr)).1
    rw [e2, e] at this
    have : r = p := Prod.ext e2 (Option.some.inj this).symm
    exact .tail _ (this ▸ hr)
  have next : (∃ h' tk' m' fr' own' b₁', s₂ = { s with heap := h', toks := tk' } ∧ Fr h₀ env.locals h' m' ∧ News h₀ env.locals h' (fr' ++ own') ∧ (∀ p ∈ (I, oI) :: kp, p ∈ fr') ∧ OwnOff own' (adrs fr') ∧ Cov b₁' h₀ own' ∧
   ∀ H' : Heap, b₁'.StaysIn H' → (∀ p ∈ fr', p.1 ≠ I → H'.get? p.1 = some p.2) → J (i + 1) m' H') → LoopStepU h₀ env.locals [I] own₁ (JL (i + 1)) { s with heap := h, toks := tk } .next s₂ := by
   intro hz1
   refine o6_7 hz1 fun h' tk' m' fr' own' b₁' zq6 F' N' hf offo C' hJ' => ?_
   clear hz1
   subst zq6
   have hI' : h'.get? I = some oI := (N' (I, oI) (mal _ (hf _ (.head _)))).1
   have hIfr : I ∈ adrs fr' := List.mem_map_of_mem (f := fun p : Addr × Obj => p.1) (hf _ (.head _))
   have hJ2 : J (i + 1) m' (hideAll h' [env.locals, I]) := by
    refine hJ' _ (fun b o e => ?_) fun p hp hcl => ?_
    ·rcases C' b o e with e' | e'
     ·refine hideAll_get _ (F'.keep _ _ e') fun q => ?_
      rcases mc1 q with rfl | q
      ·exact absurd (Heap.lt_size e') (Nat.not_lt.mpr F'.above)
      ·rw [ms1 q, hw] at e'; cases e'
     ·have n' := N' _ (mar _ e')
      refine hideAll_get _ n'.1 fun q => ?_
      rcases mc1 q with q | q
      ·exact n'.2.1 q
      ·exact offo _ e' I hIfr (ms1 q)
    ·refine hideAll_get _ (N' p (mal _ hp)).1 fun q => ?_
     rcases mc1 q with e | q
     ·exact (N' p (mal _ hp)).2.1 e
     ·exact hcl (ms1 q)
   refine o1_3 (back _ _ _ hJ2 F') fun news' hJL N2 off2 => ?_
   refine ⟨rfl, h', tk', m', news', rfl, F', fun p hp => ?_, off2, hJL⟩
   rcases ma1 hp with hp | hp
   ·exact N' _ (mal _ (hf _ (hIt p hp)))
   ·exact N2 p hp
  k_extra "x161"
 ·k_extra "x188"
  refine o1_3 (recover F' fun p hp => ⟨(hid_of (hm p hp)).1, fun e => (hid_of (hm p hp)).2 (e ▸ .head _), hn p hp⟩) fun own N off2 C => ?_
  exact go h' tk own F' N off2 (sub h' mtO own C)
theorem iter_range_h2 {r : Addr} {b₀ : Int} (J : LocMap → Nat → LocMap → Heap → Prop) (hL : env.locals = L) (hh : A.handled = none) (hr : IsRange s.heap r a₀ b₀ 1 t₀ u₀ v₀) (hsmall : Builtin.Range.small a₀ b₀ 1 = true) (hn : Builtin.Range.rangeSize a₀ b₀ 1 = (n : Int)) (F : Fr h₀ L s.heap m₀) (N : News h₀ L s.heap news) (mono : ∀ i m g g', J m₀ i m g → g.StaysIn g' → J m₀ i m g') (h0 : ∀ H : Heap, h₀.StaysIn H → (∀ p ∈ news, H.get? p.1 = some p.2) → J m₀ 0 m₀ H) (turn : ∀ I i t m H, i < n → J m₀ i m H → ∃ mtO : List (Addr × Obj), (∀ p ∈ mtO, H.get? p.1 = some p.2) ∧ (∀ p ∈ mtO, h₀.get? p.1 = none) ∧
   ∀ h tk own oI, oI.cls = .type "range_iterator" → Fr h₀ L h (fun y => if y = x then some (.int (a₀ + (i : Int)) t) else m y) → News h₀ L h ((I, oI) :: (mtO ++ own)) → OwnOff own (I :: adrs mtO) → Cov (hideAll H (adrs mtO)) h₀ own → H.get? I = none →
    wpAny (model prog w) A (execs body env) (TurnC h₀ L [(I, oI)] I (J m₀ (i + 1)) { s with heap := h, toks := tk } Q) E { s with heap := h, toks := tk }) (done : ∀ m H, J m₀ n m H → ∃ mtO : List (Addr × Obj), (∀ p ∈ mtO, H.get? p.1 = some p.2) ∧ (∀ p ∈ mtO, h₀.get? p.1 = none) ∧
   ∀ h tk own, Fr h₀ L h m → News h₀ L h (mtO ++ own) → OwnOff own (adrs mtO) → Cov (hideAll H (adrs mtO)) h₀ own → Q .next { s with heap := h, toks := tk }) :
  wpAny (model prog w) A (pyIter (.ref r)) (fun it s₂ => LoopAtV prog w A h₀ env x body Q E it s₂) E s := by
 k_extra "x125"
 refine loop_h2 (itc := .type "range_iterator") [] (J m₀) W (fun i h st => ⟨_, st, rfl⟩) (fun hm => absurd F.ns.lt ((ms1 hm) ▸ Nat.lt_irrefl _)) (next_is_new F) (fun b hb => .inl (ms1 hb)) fN (fun _ _ _ _ => fN) mono ?_ (F.push _) (h0 _ ex.1 ex.2) ?_ ?_
 k_extra "x167"
 ·k_extra "x204"
  refine o1_3 (turn s.heap.objs.size i t m H hi hJ) fun mtO a b go => ?_
  refine ⟨mtO, a, b, fun h tk own oI hc F₁ N₁ off C hn => ?_⟩
  have := go h tk own oI hc (by simpa using F₁) N₁ off C hn
  exact this
 k_extra "x118"
theorem iter_dict_h2 {d : Addr} (J : LocMap → Nat → LocMap → Heap → Prop) (hL : env.locals = L) (hh : A.handled = none) (hd0 : (d == sysModules) = false) (hm : (d, od) ∈ news) (hk : od.IsDictOf (strKind thePr w) kvs) (F : Fr h₀ L s.heap m₀) (N : News h₀ L s.heap news) (mono : ∀ i m g g', J m₀ i m g → g.StaysIn g' → J m₀ i m g') (hkp : ∀ i m H, J m₀ i m H → H.get? d = some od) (h0 : ∀ H : Heap, h₀.StaysIn H → (∀ p ∈ news, H.get? p.1 = some p.2) → J m₀ 0 m₀ H) (turn : ∀ I i k u v m H, kvs[i]? = some (k, u) → (strKind thePr w).is k v = true → J m₀ i m H → ∃ mtO : List (Addr × Obj), (∀ p ∈ mtO, H.get? p.1 = some p.2) ∧ (∀ p ∈ mtO, h₀.get? p.1 = none) ∧
   ∀ h tk own oI, oI.cls = .type "dict_keyiterator" → Fr h₀ L h (fun y => if y = x then some v else m y) → News h₀ L h ((I, oI) :: (d, od) :: (mtO ++ own)) → OwnOff own (I :: d :: adrs mtO) → Cov (hideAll H (d :: adrs mtO)) h₀ own → H.get? I = none →
    wpAny (model thePr w) A (execs body env) (TurnC h₀ L [(I, oI), (d, od)] I (J m₀ (i + 1)) { s with heap := h, toks := tk } Q) E { s with heap := h, toks := tk }) (done : ∀ m H, J m₀ kvs.length m H → ∃ mtO : List (Addr × Obj), (∀ p ∈ mtO, H.get? p.1 = some p.2) ∧ (∀ p ∈ mtO, h₀.get? p.1 = none) ∧
   ∀ h tk own, Fr h₀ L h m → News h₀ L h (mtO ++ own) → OwnOff own (adrs mtO) → Cov (hideAll H (adrs mtO)) h₀ own → Q .next { s with heap := h, toks := tk }) :
  wpAny (model thePr w) A (pyIter (.ref d)) (fun it s₂ => LoopAtV thePr w A h₀ env x body Q E it s₂) E s := by
 subst hL
 refine o0_3 (N _ hm) fun hd1 hd2 hd3 => ?_
 refine o1_1 (Heap.DictOf.dictAt (Heap.dictOf_iff.mpr ⟨od, hd1, hk⟩)) fun ep hat => ?_
 refine wpAny_pyIter_dict hd0 hat ?_
 have hdl : d < s.heap.objs.size := Heap.lt_size hd1
 k_extra "x127"
 refine loop_h2 (itc := .type "dict_keyiterator") [(d, od)] (J m₀) W (fun i h st => ?_) (fun hm => ?_) (next_is_new F) (fun b hb => ?_) (fC.mpr ⟨hd3, fN⟩) (fun _ _ _ hJ => fC.mpr ⟨hkp _ _ _ hJ, fN⟩) mono ?_ (F.push _) (h0 _ ex.1 ex.2) ?_ ?_
 k_extra "x184"
 ·k_extra "x172"
  ·exact hd2 (ms1 q).symm
 ·rcases mc1 hb with q | q
  ·exact .inl q
  ·exact .inr q
 k_extra "x231"
 ·k_extra "x227"
  refine o1_3 (turn s.heap.objs.size i k u v m H hku hkv hJ) fun mtO a b go => ?_
  exact ⟨mtO, a, b, fun h tk own oI hc F₁ N₁ off C hn => go h tk own oI hc F₁ N₁ off C hn⟩
 k_extra "x118"
end
noncomputable def insS (ins : List (Str × Option Int)) (y : Str) (fo : Option Int) : List (Str × Option Int) := if ins.any (fun q => q.1 == y) then ins.map fun q => if q.1 == y then (y, fo) else q else ins ++ [(y, fo)]
theorem beq_dec {a b : Str} : (a == b) = decide (a = b) := by
 cases h : decide (a = b) with
 | true => rw [of_decide_eq_true h]; exact beq_self_eq_true _
 | false => exact beq_eq_false_iff_ne.mpr (of_decide_eq_false h)
theorem keys_map {α : Type} {l : List (Str × α)} {f : Str × α → Str × α} (h : ∀ q, (f q).1 = q.1) : (l.map f).map (·.1) = l.map (·.1) := by
 rw [List.map_map]; exact List.map_congr_left fun q _ => h q
theorem stored_keys {x : Value} (h : kvs.map (·.1) = ins.map (·.1)) : (stored kvs y x).map (·.1) = (insS ins y fo).map (·.1) := by
 have e : (kvs.any fun kv => decide (kv.1 = y)) = ins.any fun q => q.1 == y := by
  have a : (kvs.any fun kv => decide (kv.1 = y)) = (kvs.map (·.1)).any fun z => decide (z = y) := by rw [List.any_map]; rfl
  have b : (ins.any fun q => q.1 == y) = (ins.map (·.1)).any fun z => z == y := by rw [List.any_map]; rfl
  rw [a, b, h]
  exact List.any_congr rfl fun z => beq_dec.symm
 unfold stored insS
 rw [e]
 split
 ·rw [keys_map fun q => by split <;> rfl, keys_map fun q => by split <;> simp_all, h]
 ·rw [List.map_append, List.map_append, h]; rfl
theorem lookup_app {α : Type} {l r : List (Str × α)} {z : Str} : (l ++ r).lookup z = (l.lookup z).or (r.lookup z) := by
 induction l with
 | nil => rfl
 | cons a l ih =>
  obtain ⟨k, v⟩ := a
  rw [List.cons_append, List.lookup_cons, List.lookup_cons]
  split
  ·rfl
  ·exact ih
theorem lookup_map {z : Str} (h : ins.any (fun q => q.1 == y) = true) : (ins.map fun q => if q.1 == y then (y, fo) else q).lookup z = if z = y then some fo else ins.lookup z := by
 induction ins with
 | nil => simp at h
 | cons a l ih =>
  obtain ⟨k, v⟩ := a
  rw [List.map_cons, List.lookup_cons]
  by_cases hk : k = y
  ·subst hk
   simp only [beq_self_eq_true, if_true]
   by_cases hz : z = k
   ·subst hz; simp
   ·rw [if_neg hz]
    have hz' : (z == k) = false := by simp [hz]
    rw [List.lookup_cons, hz']
    by_cases hl : l.any (fun q => q.1 == k) = true
    ·rw [ih hl, if_neg hz]
    ·have : (l.map fun q => if q.1 == k then (k, fo) else q) = l := by
      rw [List.map_congr_left (g := id), List.map_id]
      intro q hq
      have : ¬ (q.1 == k) = true := fun e => hl (List.any_eq_true.mpr ⟨q, hq, e⟩)
      rw [if_neg this]; rfl
     rw [this]
  ·have hk' : (k == y) = false := by simp [hk]
   simp only [hk', Bool.false_eq_true, if_false]
   rw [List.lookup_cons]
   have hl : l.any (fun q => q.1 == y) = true := by rw [List.any_cons, hk', Bool.false_or] at h; exact h
   by_cases hz : z = k
   ·subst hz
    simp [hk]
   ·have hz' : (z == k) = false := by simp [hz]
    rw [hz']; exact ih hl
theorem lookup_none (h : ¬ ins.any (fun q => q.1 == y) = true) : ins.lookup y = none := by
 induction ins with
 | nil => rfl
 | cons a l ih =>
  obtain ⟨k, v⟩ := a
  rw [List.any_cons] at h
  simp only [Bool.or_eq_true, not_or] at h
  rw [List.lookup_cons]
  have : (y == k) = false := by have := h.1; simp only [beq_iff_eq] at this; simp [Ne.symm this]
  rw [this]; exact ih h.2
theorem insS_lookup {z : Str} : (insS ins y fo).lookup z = if z = y then some fo else ins.lookup z := by
 unfold insS
 split
 ·next h => exact lookup_map h
 ·next h =>
  rw [lookup_app]
  by_cases hz : z = y
  ·subst hz
   rw [lookup_none h, if_pos rfl]
   simp
  ·rw [if_neg hz]
   have : (z == y) = false := by simp [hz]
   rw [List.lookup_cons, this]
   simp
inductive InsAt (FigV : Value → Option Int → Prop) : List (Str × Value) → List (Str × Option Int) → Prop
 | nil : InsAt FigV [] []
 | cons {k : Str} {v : Value} {fo : Option Int} {kvs ins} : FigV v fo → InsAt FigV kvs ins → InsAt FigV ((k, v) :: kvs) ((k, fo) :: ins)
theorem InsAt.keys {FigV : Value → Option Int → Prop} {kvs ins} (h : InsAt FigV kvs ins) : kvs.map (·.1) = ins.map (·.1) := by
 k_extra "x251"
theorem InsAt.any {FigV : Value → Option Int → Prop} {kvs ins} (h : InsAt FigV kvs ins) : (kvs.any fun kv => decide (kv.1 = y)) = ins.any fun q => q.1 == y := by
 induction h with
 | nil => rfl
 | cons _ _ ih => rw [List.any_cons, List.any_cons, ih, beq_dec]
theorem InsAt.stored {FigV : Value → Option Int → Prop} {kvs ins} {v : Value} (h : InsAt FigV kvs ins) (hv : FigV v fo) : InsAt FigV (stored kvs y v) (insS ins y fo) := by
 unfold PySem.stored insS
 rw [h.any]
 split
 ·next hh =>
  clear hh
  induction h with
  | nil => exact .nil
  | @cons k v2 fo2 kvs ins h1 h2 ih =>
   rw [List.map_cons, List.map_cons]
   by_cases hk : k = y
   ·subst hk
    rw [if_pos rfl, if_pos (beq_self_eq_true _)]; exact .cons hv ih
   ·rw [if_neg hk, if_neg (by simp [hk])]; exact .cons h1 ih
 ·next hh =>
  clear hh
  induction h with
  | nil => exact .cons hv .nil
  | cons h1 h2 ih => exact .cons h1 ih
theorem InsAt.val {FigV : Value → Option Int → Prop} {kvs ins} (h : InsAt FigV kvs ins) : match valueAt kvs y with
  | none => ins.lookup y = none
  | some v => ∃ fo, ins.lookup y = some fo ∧ FigV v fo := by
 induction h with
 | nil => exact rfl
 | @cons k v fo kvs ins h1 h2 ih =>
  rw [List.lookup_cons]
  by_cases hk : k = y
  ·subst hk
   simp [valueAt, h1]
  ·have : (y == k) = false := by simp [Ne.symm hk]
   rw [this]
   have e : valueAt ((k, v) :: kvs) y = valueAt kvs y := by simp [valueAt, hk]
   rw [e]; exact ih
end
local macro_rules |`(tactic|walk_at "")=>`(tactic|skip)
section
local macro_rules | `(tactic| walk_at $s:str) => hk ["gB57", "c0"] s
section
variable {r : Heap}
theorem ls_row {v : Nat → Value} {at_ : Value} (hv0 : FigV vv fo) (X : (K0 w.params).In r) (T : TopRead p loose mg mb r) (st : r.StaysIn s.heap) (hr' : r'.StaysIn r) (hI : r.get? I = some (instObj 1569 dI)) (hdI : s.heap.get? dI = some (evD q v (.ref ge) vis)) (hrI : r.get? dI = none) (h13 : v 13 = .none) (hE : EnvAt w r ge gnum gfr) (hF : s.heap.get? gfr = some gfo) (hrF : r.get? gfr = none) (lo : (gfr == sysModules) = false) (hd : gfo.IsDictOf (strKind thePr w) kvs) (G : GK rv b n kvs) (hn9 : n ≤ 900) (hn1 : @Ne Nat dI gfr) (hv : r.get? rv = some (instObj 182 dv)) (hdv : s.heap.get? dv = some (vecD hs (.str "list" tk) (.ref il) at_ (.bool sh) (.bool false))) (hrv : r.get? dv = none) (hn2 : @Ne Nat dI dv) (hn3 : @Ne Nat gfr dv) (hrow : RowRest w r' il at_ ps) (hz9 : ps.length ≤ 900) (hy : y ≠ "") :
  Does w 24 (.ref 1635) ⟨[.ref I, .str "row" t1, .str y t2, vv, .bool by_], []⟩ (adrs [(dI, evD q v (.ref ge) vis), (gfr, gfo), (dv, vecD hs (.str "list" tk) (.ref il) at_ (.bool sh) (.bool false))]) s
   fun rv' h' => ∃ vis' gfo' kvs' sh', h'.get? dI = some (evD q v (.ref ge) vis') ∧ (h'.get? gfr = some gfo' ∧ gfo'.IsDictOf (strKind thePr w) kvs' ∧ GK rv b (n + 1) kvs') ∧ h'.get? dv = some (vecD hs (.str "list" tk) (.ref il) at_ (.bool sh') (.bool false)) ∧ SetDone w r' s.heap [] rv ps (setO ps y fo) rv' h' := by
 cases fo with
 | none =>
  cases hv0
  cases by_
  ·exact ls_row_bN X T st hr' hI hdI hrI h13 hE hF hrF lo hd G hn9 hn1 hv hdv hrv hn2 hn3 hrow hz9 hy
  ·exact ls_row_dN X T st hr' hI hdI hrI h13 hE hF hrF lo hd G hn9 hn1 hv hdv hrv hn2 hn3 hrow hz9 hy
 | some f =>
  refine o1_1 hv0 fun t3 zq1 => ?_
  clear hv0
  subst zq1
  cases by_
  ·exact ls_row_bI X T st hr' hI hdI hrI h13 hE hF hrF lo hd G hn9 hn1 hv hdv hrv hn2 hn3 hrow hz9 hy
  ·exact ls_row_dI X T st hr' hI hdI hrI h13 hE hF hrF lo hd G hn9 hn1 hv hdv hrv hn2 hn3 hrow hz9 hy
theorem ls_box {v : Nat → Value} (hv0 : FigV vv fo) (X : (K0 w.params).In r) (T : TopRead p loose mg mb r) (st : r.StaysIn s.heap) (hI : r.get? I = some (instObj 1569 dI)) (hdI : s.heap.get? dI = some (evD q v (.ref ge) vis)) (hrI : r.get? dI = none) (h13 : v 13 = .none) (hE : EnvAt w r ge gnum gfr) (hF : s.heap.get? gfr = some gfo) (hrF : r.get? gfr = none) (lo : (gfr == sysModules) = false) (hd : gfo.IsDictOf (strKind thePr w) kvs) (G : GK rv b n kvs) (hn9 : n ≤ 900) (hn1 : @Ne Nat dI gfr) (hB : EnvAt w r b bnum bf) (hBF : s.heap.get? bf = some bfo) (hrB : r.get? bf = none) (lo2 : (bf == sysModules) = false) (hd2 : bfo.IsDictOf (strKind thePr w) bkv) (hz : bkv.length ≤ 900) (hn2 : @Ne Nat dI bf) (hn3 : @Ne Nat gfr bf) :
  Does w 24 (.ref 1635) ⟨[.ref I, .str "box" t1, .str y t2, vv, .bool by_], []⟩ (adrs [(dI, evD q v (.ref ge) vis), (gfr, gfo), (bf, bfo)]) s
   fun rv' h' => ∃ vis' gfo' kvs', rv' = .ref b ∧ h'.get? dI = some (evD q v (.ref ge) vis') ∧ (h'.get? gfr = some gfo' ∧ gfo'.IsDictOf (strKind thePr w) kvs' ∧ GK rv b (n + 1) kvs') ∧ BoxDone w s.heap h' bf bkv y fo := by
 cases fo with
 | none =>
  cases hv0
  cases by_
  ·exact ls_box_bN X T st hI hdI hrI h13 hE hF hrF lo hd G hn9 hn1 hB hBF hrB lo2 hd2 hz hn2 hn3
  ·exact ls_box_dN X T st hI hdI hrI h13 hE hF hrF lo hd G hn9 hn1 hB hBF hrB lo2 hd2 hz hn2 hn3
 | some f =>
  refine o1_1 hv0 fun t3 zq1 => ?_
  clear hv0
  subst zq1
  cases by_
  ·exact ls_box_bI X T st hI hdI hrI h13 hE hF hrF lo hd G hn9 hn1 hB hBF hrB lo2 hd2 hz hn2 hn3
  ·exact ls_box_dI X T st hI hdI hrI h13 hE hF hrF lo hd G hn9 hn1 hB hBF hrB lo2 hd2 hz hn2 hn3
end
structure RT (w : World) (H : Heap) (foot : List Addr) (I gfr bf c dx : Addr) (ps : List (Str × Int)) : Prop where
 mem : dx ∈ foot
 row : (hideAll H foot).get? c = some (instObj 182 dx)
 vec : ∃ hs tk il at_ sh, H.get? dx = some (vecD hs (.str "list" tk) (.ref il) at_ (.bool sh) (.bool false)) ∧ RowRest w (hideAll H foot) il at_ ps
 nI : ∀ dI, (hideAll H foot).get? I = some (instObj 1569 dI) → @Ne Nat dI dx
 nG : @Ne Nat gfr dx
 nB : @Ne Nat dx bf
theorem box_stored {c : Value} (h : BoxAt H kvs ins) (hc : ValAt H c fo) : BoxAt H (stored kvs y c) (insS ins y fo) := fun z => by
 rw [va_stored, insS_lookup]
 by_cases e : z = y
 ·rw [if_pos e, if_pos e]; exact ⟨fo, rfl, hc⟩
 ·rw [if_neg e, if_neg e]; exact h z
section
variable {fr : List (Addr × Obj)} {D : LD}
theorem LSok.rt (S : LSok w h₀ b₁ foot n I ge gfr b bf rv ps ins D) : RT w b₁ foot I gfr bf rv D.dv ps :=
 ⟨S.fV, S.row, ⟨_, _, _, _, _, S.vec, S.rest⟩, fun dI e => by have := S.inst.symm.trans e; cases this; exact S.nIV, S.nGV, S.nVB⟩
include F N X T in
theorem use_setRow (rm : Rm 24 d u) (lc : LC h₀ b₁ as own foot) (hfr : FrOf news as fr) (ho : ∀ p ∈ own, p ∈ news) (S : LS w h₀ b₁ foot n I ge gfr b bf rv ps ins) (hv0 : FigV vv fo) (hy : y ≠ "") (hn9 : n ≤ 900) (hz9 : ps.length ≤ 900) (k : ∀ c dx, LK h₀ b₁ L m as fr foot (dx :: foot) s (Q (.ref c)) fun b₁' => LS w h₀ b₁' (dx :: foot) (n + 1) I ge gfr b bf rv ps ins ∧ RT w b₁' (dx :: foot) I gfr bf c dx (setO ps y fo)) :
  wc w d u 1635 [.ref I, .str "row" t1, .str y t2, vv, .bool by_] Q E s := by
 k_extra "x192"
 refine law_call rm F N lc hfr ho S.base (mt := [D.dI, gfr, D.dv]) (in3 S.fI S.fG S.fV) (in3 ⟨_, S.ev⟩ ⟨_, S.fr⟩ ⟨_, S.vec⟩) (fun h0r sub hrs hbs => ?_) (fun v own' b₁' h' tk F' N' lc' st up new rows hp => ?_)
  (P := fun rv' h' => ∃ vis' gfo' kvs' sh', h'.get? D.dI = some (evD D.q D.v (.ref ge) vis') ∧ (h'.get? gfr = some gfo' ∧ gfo'.IsDictOf (strKind thePr w) kvs' ∧ GK rv b (n + 1) kvs') ∧ h'.get? D.dv = some (vecD D.hs (.str "list" D.tk) (.ref D.il) D.at_ (.bool sh') (.bool false)) ∧ SetDone w (hideAll b₁ foot) s.heap [] rv ps (setO ps y fo) rv' h')
 ·have H := ls_row (s := s) (r := hideAll b₁ [D.dI, gfr, D.dv]) (t1 := t1) (t2 := t2) (by_ := by_) hv0 (X.keeps h0r) (T.keeps h0r) hrs (r' := hideAll b₁ foot) sub (sub _ _ S.inst) (hbs _ _ S.ev) (hideAll_none _ (.head _)) S.v13 (S.env.mono sub) (hbs _ _ S.fr) (hideAll_none _ (mem_at 1 rfl)) S.loG S.dG S.gk hn9 S.nIG
   (sub _ _ S.row) (hbs _ _ S.vec) (hideAll_none _ (mem_at 2 rfl)) S.nIV S.nGV S.rest hz9 hy
  exact fun d u rm => codeAny_mono (H d u rm) fun r s' hp => by refine o3_4 hp fun v h' tk e1 e2 hk zr => ?_; clear hp; refine o4_4 zr fun vis' gfo' kvs' sh' g1 g2 g3 g4 => ?_; clear zr; exact ⟨v, h', tk, e1, e2, hk, in3 ⟨_, g1⟩ ⟨_, g2.1⟩ ⟨_, g3⟩, vis', gfo', kvs', sh', g1, g2, g3, g4⟩
 ·refine o4_4 hp fun vis' gfo' kvs' sh' g1 zq5 g5 zr => ?_
  clear hp
  refine o2_4 zr fun c extra zq2 _ hex tell => ?_
  clear zr
  subst zq2
  obtain ⟨g2, g3, g4⟩ := zq5
  have mk : ∀ dx, (hideAll b₁ foot).StaysIn (hideAll b₁' (dx :: foot)) → LS w h₀ b₁' (dx :: foot) (n + 1) I ge gfr b bf rv ps ins := fun dx st' =>
   ⟨_, S.keep (fun _ h => .tail _ h) st' (rows _ (.head _) _ g1) (rows _ (mem_at 2 rfl) _ g5) (rows _ (mem_at 1 rfl) _ g2) g3 g4 (up _ _ S.frB (nm3 (Ne.symm S.nIB) (Ne.symm S.nGB) (Ne.symm S.nVB))) S.dB (S.boxB.mono st') (Nat.le_succ_of_le S.lenB) S.keysB⟩
  rcases tell with ⟨e1, e2⟩ | ⟨dx, hs, tk2, il, at_, ex, m1, m2, ne, he, rest⟩
  ·have st' : (hideAll b₁ foot).StaysIn (hideAll b₁' (D.dv :: foot)) := fun a o e => hideAll_get _ (hid_of (st a o e)).1 fun q => (mc1 q).elim (fun e2 => (hid_of e).2 (e2 ▸ S.fV)) (hid_of e).2
   have S' := mk D.dv st'
   refine k c D.dv own' b₁' h' tk F' N' ⟨lc'.off, lc'.cov, fcons (lc'.old _ S.fV) lc'.old⟩ st' ⟨S', ?_⟩
   rw [e1, e2]
   exact ⟨.head _, st' _ _ S.row, ⟨_, _, _, _, _, rows _ (mem_at 2 rfl) _ g5, S.rest.mono st'⟩, fun dI e => by have := (st' _ _ S.inst).symm.trans e; cases this; exact S.nIV, S.nGV, S.nVB⟩
  ·obtain ⟨x1, x2⟩ := hex _ m2
   obtain ⟨x3, x4, x5⟩ := new _ _ x1 x2
   have st' : (hideAll b₁ foot).StaysIn (hideAll b₁' (dx :: foot)) := fun a o e => hideAll_get _ (hid_of (st a o e)).1 fun q => (mc1 q).elim (fun e2 => by have := (hid_of e).1; rw [e2, x5] at this; cases this) (hid_of e).2
   have one : ∀ p ∈ extra, @Ne Nat p.1 dx → (hideAll b₁' (dx :: foot)).get? p.1 = some p.2 := fun p hp hn => by
    obtain ⟨y1, y2⟩ := hex p hp
    obtain ⟨y3, y4, _⟩ := new _ _ y1 y2
    exact hideAll_get _ y3 fun q => (mc1 q).elim hn y4
   have hb : ∀ a o, b₁.get? a = some o → @Ne Nat a dx := fun a o e q => by rw [q, x5] at e; cases e
   refine k c dx own' b₁' h' tk F' N' ⟨lc'.off, lc'.cov, fcons ⟨_, x3⟩ lc'.old⟩ st' ⟨mk dx st', ⟨.head _, one _ m1 (Ne.symm ne), ⟨_, _, _, _, _, x3, rest _ st' (fun _ h => nomatch h) fun p hp => one p (he p hp).1 (he p hp).2.1⟩, fun dI e => ?_, hb _ _ S.fr, Ne.symm (hb _ _ S.frB)⟩⟩
   have := (st' _ _ S.inst).symm.trans e
   cases this
   exact hb _ _ S.ev
include F N X T in
theorem use_setBox (rm : Rm 24 d u) (lc : LC h₀ b₁ as own foot) (hfr : FrOf news as fr) (ho : ∀ p ∈ own, p ∈ news) (S : LS w h₀ b₁ foot n I ge gfr b bf rv ps ins) (hv0 : FigV vv fo) (hn9 : n ≤ 900) (k : LK h₀ b₁ L m as fr foot foot s (Q (.ref b)) fun b₁' => LS w h₀ b₁' foot (n + 1) I ge gfr b bf rv ps (insS ins y fo)) :
  wc w d u 1635 [.ref I, .str "box" t1, .str y t2, vv, .bool by_] Q E s := by
 k_extra "x192"
 refine law_call rm F N lc hfr ho S.base (mt := [D.dI, gfr, bf]) (in3 S.fI S.fG S.fB) (in3 ⟨_, S.ev⟩ ⟨_, S.fr⟩ ⟨_, S.frB⟩) (fun h0r sub hrs hbs => ?_) (fun v own' b₁' h' tk F' N' lc' st up new rows hp => ?_)
  (P := fun rv' h' => ∃ vis' gfo' kvs', rv' = .ref b ∧ h'.get? D.dI = some (evD D.q D.v (.ref ge) vis') ∧ (h'.get? gfr = some gfo' ∧ gfo'.IsDictOf (strKind thePr w) kvs' ∧ GK rv b (n + 1) kvs') ∧ BoxDone w s.heap h' bf D.bkv y fo)
 ·have H := ls_box (s := s) (r := hideAll b₁ [D.dI, gfr, bf]) (t1 := t1) (t2 := t2) (by_ := by_) (y := y) hv0 (X.keeps h0r) (T.keeps h0r) hrs (sub _ _ S.inst) (hbs _ _ S.ev) (hideAll_none _ (.head _)) S.v13 (S.env.mono sub) (hbs _ _ S.fr) (hideAll_none _ (mem_at 1 rfl)) S.loG S.dG S.gk hn9 S.nIG
   (S.envB.mono sub) (hbs _ _ S.frB) (hideAll_none _ (mem_at 2 rfl)) S.loB S.dB (Nat.le_trans S.lenB hn9) S.nIB S.nGB
  exact fun d u rm => codeAny_mono (H d u rm) fun r s' hp => by refine o3_4 hp fun v h' tk e1 e2 hk zr => ?_; clear hp; refine o3_4 zr fun vis' gfo' kvs' g0 g1 g2 g3 => ?_; clear zr; exact ⟨v, h', tk, e1, e2, hk, in3 ⟨_, g1⟩ ⟨_, g2.1⟩ ⟨_, g3.choose_spec.choose_spec.choose_spec.1⟩, vis', gfo', kvs', g0, g1, g2, g3⟩
 ·refine o3_4 hp fun vis' gfo' kvs' zq3 g1 zq5 zr => ?_
  clear hp
  refine o3_4 zr fun o' c extra g5 g6 hex tell => ?_
  clear zr
  subst zq3
  obtain ⟨g2, g3, g4⟩ := zq5
  refine k own' b₁' h' tk F' N' lc' st ⟨_, S.keep (fun _ h => h) st (rows _ (.head _) _ g1) (up _ _ S.vec (nm3 (Ne.symm S.nIV) (Ne.symm S.nGV) S.nVB)) (rows _ (mem_at 1 rfl) _ g2) g3 g4 (rows _ (mem_at 2 rfl) _ g5) g6 (box_stored (S.boxB.mono st) (tell _ fun p hp => ?_)) (Nat.le_trans (len_stored _ _ _) (Nat.succ_le_succ S.lenB)) (stored_keys S.keysB)⟩
  obtain ⟨y1, y2⟩ := hex p hp
  obtain ⟨y3, y4, _⟩ := new _ _ y1 y2
  exact hideAll_get _ y3 y4
include F N X T in
theorem use_defRow (rm : Rm 2 d u) (lc : LC h₀ b₁ as own foot) (hfr : FrOf news as fr) (ho : ∀ p ∈ own, p ∈ news) (S : LS w h₀ b₁ foot n I ge gfr b bf rv ps ins) (R : RT w b₁ foot I gfr bf c dx ps') (hn9 : n ≤ 900) (k : LK h₀ b₁ L m as fr foot foot s (Q .none) fun b₁' => LS w h₀ b₁' foot (n + 1) I ge gfr b bf c ps' ins) :
  wc w d u 915 [.ref ge, .str "row" t1, .ref c] Q E s := by
 k_extra "x192"
 refine o5_2 R.vec fun hs tk2 il at_ sh hvec hrest => ?_
 refine law_call rm F N lc hfr ho S.base (mt := [gfr]) (in1 S.fG) (in1 ⟨_, S.fr⟩) (fun h0r sub hrs hbs => ?_) (fun v own' b₁' h' tk F' N' lc' st up new rows hp => ?_)
  (P := fun rv' h' => rv' = .none ∧ ∃ o', h'.get? gfr = some o' ∧ o'.IsDictOf (strKind thePr w) (stored D.kvs "row" (.ref c)))
 ·have H := define_ (s := s) (r := hideAll b₁ [gfr]) (ty := t1) (y := "row") (x := .ref c) (X.keeps h0r) (T.keeps h0r) hrs (S.env.mono sub) (hbs _ _ S.fr) (hideAll_none _ (.head _)) S.loG S.dG (Nat.le_trans S.gk.len hn9)
  exact fun d u rm => codeAny_mono (H d u rm) fun r s' hp => by refine o3_5 hp fun v h' tk e1 e2 hk g0 zr => ?_; clear hp; refine o1_2 zr fun o' g1 g2 => ?_; clear zr; exact ⟨v, h', tk, e1, e2, hk, in1 ⟨_, g1⟩, g0, o', g1, g2⟩
 ·k_extra "x238"
  refine o1_2 zr fun o' g1 g2 => ?_
  clear zr
  subst zq0
  have ndI := R.nI _ S.inst
  refine k own' b₁' h' tk F' N' lc' st ⟨{ D with gfo := o', kvs := stored D.kvs "row" (.ref c), dv := dx, hs := hs, tk := tk2, il := il, at_ := at_, sh := sh }, ?_⟩
  exact { base := fun a o e => st _ _ (S.base _ _ e), fI := S.fI, fG := S.fG, fV := R.mem, fB := S.fB, nIG := S.nIG, nIV := ndI, nIB := S.nIB, nGV := R.nG, nGB := S.nGB, nVB := R.nB, inst := st _ _ S.inst, ev := up _ _ S.ev (nm1 S.nIG), v13 := S.v13, env := S.env.mono st, fr := rows _ (.head _) _ g1, loG := S.loG, dG := g2, gk := ⟨va_st_eq, va_st_ne (by decide) S.gk.box, Nat.le_trans (len_stored _ _ _) (Nat.succ_le_succ S.gk.len)⟩, row := st _ _ R.row, vec := up _ _ hvec (nm1 (Ne.symm R.nG)), rest := hrest.mono st, envB := S.envB.mono st, frB := up _ _ S.frB (nm1 (Ne.symm S.nGB)), loB := S.loB, dB := S.dB, boxB := S.boxB.mono st, lenB := Nat.le_succ_of_le S.lenB, keysB := S.keysB }
end
end
noncomputable def words5 : List Str := ["alp", "al", "alpha", "be", "alto"]
theorem beg_words : ∀ x ∈ words5, ∀ y ∈ words5, begR x y = Txt.startswith x y := by decide +kernel
theorem words_ne : ∀ y ∈ words5, y ≠ Str.ofString "" := by decide +kernel
theorem words_ok : ∀ y ∈ words5, PyData.strOk y = true := by decide +kernel
theorem words_short : ∀ y ∈ words5, y.length ≤ 1000 := by decide +kernel
theorem fst_cons (x y : Str) (xs : List Str) : fst (x :: xs) y = if x = y then some 0 else (fst xs y).map (· + 1) := by
 unfold fst
 rw [List.findIdx?_cons]
 by_cases h : x = y <;> simp [h]
theorem find_fst (ps : List (Str × Int)) (y : Str) : match fst (ps.map (·.1)) y with
  | none => ps.find? (fun p => p.1 == y) = none
  | some k => ∃ p, ps[k]? = some p ∧ ps.find? (fun p => p.1 == y) = some p := by
 induction ps with
 | nil => exact rfl
 | cons p r ih =>
  rw [List.map_cons, fst_cons, List.find?_cons]
  by_cases h : p.1 = y
  ·rw [if_pos h]
   exact ⟨p, rfl, by simp [h]⟩
  ·rw [if_neg h]
   have h' : (p.1 == y) = false := by simp [h]
   rw [h']
   cases q : fst (r.map (·.1)) y with
   | none => rw [q] at ih; exact ih
   | some k =>
    rw [q] at ih
    refine o1_2 ih fun p' e1 e2 => ?_
    clear ih
    exact ⟨p', by simpa using e1, e2⟩
theorem hits_get (y : Str) : ∀ (ps pre : List (Str × Int)), (((ps.map (·.1)).zipIdx pre.length).filter fun p => Txt.startswith p.1 y).map (fun p => (pre ++ ps)[p.2]?) = (ps.filter fun p => Txt.startswith p.1 y).map some := by
 intro ps
 induction ps with
 | nil => intro pre; rfl
 | cons p r ih =>
  intro pre
  have := ih (pre ++ [p])
  rw [List.append_assoc, List.length_append] at this
  simp only [List.cons_append, List.nil_append, List.length_cons, List.length_nil, Nat.zero_add] at this
  rw [List.map_cons, List.zipIdx_cons, List.filter_cons, List.filter_cons]
  cases h : Txt.startswith p.1 y
  ·simpa using this
  ·simp only [if_true, List.map_cons, this]
   simp
theorem hits_one : (hits (ps.map (·.1)) y).map (fun j => ps[j]?) = (ps.filter fun p => Txt.startswith p.1 y).map some := by
 have := hits_get y ps []
 unfold hits
 rw [List.map_map]
 exact this
theorem found_law (hn : ∀ q ∈ ps, q.1 ∈ words5) (hy : y ∈ words5) : foundR ps y ex = atPl (ps.map (·.2)) (placeR ex (ps.map (·.1)) y) := by
 have hf : ps.filter (fun p => begR p.1 y) = ps.filter (fun p => Txt.startswith p.1 y) := List.filter_congr fun q hq => beg_words _ (hn q hq) _ hy
 have h1 := find_fst ps y
 have neg : ∀ fs : List Int, atPl fs (-1) = none := fun fs => rfl
 unfold foundR placeR exactR partR
 rw [hf]
 cases q : fst (ps.map (·.1)) y with
 | some k =>
  rw [q] at h1
  refine o1_2 h1 fun p e1 e2 => ?_
  clear h1
  rw [e2]
  have : atPl (ps.map (·.2)) (k : Int) = some p.2 := by
   unfold atPl
   rw [if_neg (by omega)]
   simp [e1]
  cases ex <;> simp [this]
 | none =>
  rw [q] at h1
  rw [h1]
  cases ex with
  | true => rfl
  | false =>
   simp only [Bool.false_eq_true, if_false]
   have h2 := hits_one (ps := ps) (y := y)
   rcases h3 : hits (ps.map (·.1)) y with _ | ⟨j, _ | ⟨j2, r⟩⟩
   ·rw [h3] at h2
    simp only [List.map_nil] at h2
    rw [List.map_eq_nil_iff.mp h2.symm, h3]; rfl
   ·rw [h3] at h2
    rcases h4 : ps.filter (fun p => Txt.startswith p.1 y) with _ | ⟨p, _ | ⟨p2, r⟩⟩
    ·rw [h4] at h2; simp at h2
    ·rw [h4] at h2
     simp only [List.map_cons, List.map_nil, List.cons.injEq, and_true] at h2
     rw [h3, h4]
     show some p.2 = atPl _ (j : Int)
     unfold atPl
     rw [if_neg (by omega)]
     simp [h2]
    ·rw [h4] at h2; simp at h2
   ·rw [h3] at h2
    rcases h4 : ps.filter (fun p => Txt.startswith p.1 y) with _ | ⟨p, _ | ⟨p2, r⟩⟩
    ·rw [h4] at h2; simp at h2
    ·rw [h4] at h2; simp at h2
    ·rw [h3, h4]; rfl
section
abbrev StrLe (a b : Str) : Prop := a.cps.toList ≤ b.cps.toList
theorem ltCps_le {a b : Str} (h : ltCps b.cps.toList a.cps.toList = false) : StrLe a b := by
 rw [PyProof.Rows.ltCps_eq] at h
 exact List.not_lt.mp (of_decide_eq_false h)
theorem rising_le : ∀ (l : List Str) (p : Str), risingS p l = true → (∀ x ∈ l, StrLe p x) ∧ l.Pairwise StrLe
 | [], _, _ => ⟨fN, .nil⟩
 | x :: r, p, h => by
  rw [risingS, Bool.and_eq_true] at h
  have h1 : StrLe p x := ltCps_le (by simpa using h.1)
  refine o0_2 (rising_le r x h.2) fun h2 h3 => ?_
  exact ⟨fC.mpr ⟨h1, fun y hy => List.le_trans h1 (h2 y hy)⟩, .cons h2 h3⟩
theorem sorted_le {l : List Str} (h : sortedS l = true) : l.Pairwise StrLe := by
 cases l with
 | nil => exact .nil
 | cons x r => refine o0_2 (rising_le r x h) fun a b => ?_; exact .cons a b
theorem sorted_same {a b : List Str} (hp : a.Perm b) (ha : sortedS a = true) (hb : sortedS b = true) : a = b :=
 hp.eq_of_pairwise (fun x y _ _ h1 h2 => by
  have e := List.le_antisymm h1 h2
  cases x; cases y
  simpa using e) (sorted_le ha) (sorted_le hb)
section
variable {m : Str → Option Value}
theorem strs_keys : ∀ {vs : List Value}, vs.length = kvs.length → (∀ (j : Nat) (v : Value), vs[j]? = some v → ∃ k x, kvs[j]? = some (k, x) ∧ (PySem.strKind prog w).is k v = true) → StrsAre vs (kvs.map (·.1)) := by
 induction kvs with
 | nil => intro vs hl _; cases vs with
  | nil => exact .nil
  | cons _ _ => simp at hl
 | cons q r ih => intro vs hl hv; cases vs with
  | nil => simp at hl
  | cons v vs =>
   refine o2_2 (hv 0 v rfl) fun k x e hk => ?_
   refine o1_1 (Value.isStrOf_shape hk) fun t zq1 => ?_
   subst zq1
   cases e
   exact .cons _ _ (ih (by simpa using hl) fun j u hu => by simpa using hv (j + 1) u (by simpa using hu))
theorem sorted_dictS {d : Addr} (hh : A.handled = none) (F : Fr h₀ L s.heap m) (N : News h₀ L s.heap news) (hd : s.heap.DictOf (PySem.strKind prog w) d kvs) (lo : (d == sysModules) = false) (h64 : kvs.length < 64) (h : ∀ (D : Addr) (h' : Heap) (tk : Nat) (vs : List Value) (ss : List Str) (e : Nat), Fr h₀ L h' m → News h₀ L h' ((D, listOf vs.toArray e) :: news) → (∀ q ∈ news, @LT.lt Nat _ q.1 D) → StrsAre vs ss → ss.Perm (kvs.map (·.1)) → sortedS ss = true → Q (.ref D) { s with heap := h', toks := tk }) :
  wpAny (model prog w) A (call (.builtin "sorted") [.ref d]) Q E s := by
 refine o1_1 (Heap.DictOf.dictAt hd) fun ep hat => ?_
 refine kdu_sorted (kdl_dict (knd := PySem.strKind prog w) (kvs := kvs) (ep := ep) lo) hh F N hat (kdl_size (by omega)) fun D h' tk vs F' N' l1 hl hv => ?_
 have hS : StrsAre vs (kvs.map (·.1)) := strs_keys hl hv
 have ho := (N' (D, listOf vs.toArray 0) (.head _))
 refine wpAny_call_entry PyProof.Rows.slot_list_sort ⟨_, ho.1, rfl⟩ PyProof.Rows.entry_list_sort (list_sort_treeK (κ := PyProof.Rows.strKind) (n := 0) (vs := vs) strKind_oneLt ho.1 hS.keysOf (fun v₁ v₂ rest e => keyKind_strs (by rw [← e]; exact hS)) (by omega) fun st' hp hs => ⟨.none, rfl, ?_⟩) (PyProof.Rows.args_list_sort _)
 refine o1_3 (sorted_out_str hS hp hs) fun ss' h1 h2 h3 => ?_
 refine o1_1 (sortedHeap_at (vs := vs) (out := (arrOf st').map (·.2)) ho.1) fun e he => ?_
 have old : ∀ b o, b ≠ D → h'.get? b = some o → (sortedHeap h' D vs ((arrOf st').map (·.2))).get? b = some o := fun b o n e => (sortedHeap_old n (Heap.lt_size e)).trans e
 refine o3_2 F'.ns fun oL es ep2 hL r => ?_
 refine h D _ tk ((arrOf st').map (·.2)).toList ss' e ⟨⟨oL, es, ep2, old _ _ (Ne.symm ho.2.1) hL, r⟩, fun b o e => old b o (fun q => ?_) (F'.keep b o e), F'.above⟩ (fC.mpr ⟨⟨?_, ho.2⟩, fun p hp => ?_⟩) l1 h1 h2 h3
 ·rw [q, ho.2.2] at e; cases e
 ·rw [Array.toArray_toList]; exact he
 ·have := N' p (.tail _ hp)
  exact ⟨old _ _ (Nat.ne_of_lt (l1 p hp)) this.1, this.2⟩
end
end
local macro_rules |`(tactic|walk_at "")=>`(tactic|skip)
section
local macro_rules | `(tactic| walk_at $s:str) => hk ["gB58", "c2", "c0"] s
theorem ltAll58 {l : List (Addr × Obj)} {d : Addr} (e : @LT.lt Nat _ d x) (h : ∀ p ∈ l, p.1 < d) : ∀ p ∈ l, p.1 < x := fun p m => Nat.lt_trans (h p m) e
theorem ltIn58 {l : List (Addr × Obj)} (h : ∀ p ∈ l, p.1 < x) (m : (a, o) ∈ l) : @LT.lt Nat _ a x := h _ m
include F N X T in
theorem new_envO (rm : Rm 2 d u) (k : ∀ x dx fr lk oF oK q kt h' tk, Fr h₀ L h' m → let nw := (lk, oK) :: (fr, oF) :: (x, instObj 247 dx) :: (dx, envD q kt tn num pa fr lk) :: news; News h₀ L h' nw → (∀ p ∈ news, p.1 < dx) → @LT.lt Nat _ dx x → @LT.lt Nat _ x fr → @LT.lt Nat _ fr lk → (fr == sysModules) = false → (lk == sysModules) = false → oF.IsDictOf (strKind thePr w) [] → oK.IsDictOf (strKind thePr w) [] → Q (.ref x) { s with heap := h', toks := tk }) :
  wc w d u 247 [.int num tn, pa] Q E s := by
 k_extra "x243"
 refine k _ _ _ _ _ _ (fun i => match i with | 0 => (_, _) | 1 => (_, _) | 2 => (_, _) | 3 => (_, _) | 4 => (_, _) | 5 => (_, _) | _ => (_, _)) _ _ _ (by k_asm) (by assumption) ?_ ?_ ?_ ?_ ?_ ?_ ?_ ?_
 k_extra "x215"
theorem lines_39 : True := by
 k_with "L144" => (k_here; (with_reducible show wpAny _ _ (call (Value.ref 247) [Value.int _ _, _]) _ _ _); refine' new_envO ?F ?N ?X ?T ?rm ?_; k_extra "x23"; k_whole; intro x' d' f' lk' oF' oK' q' kt' h' tk' F' nw' N' l1 l2 l3 l4 lo1 lo2 d1 d2; have l5 := ltAll58 l2 l1; have l6 := ltAll58 l3 l5; have l7 := ltAll58 l4 l6; k_extra "x39")
 k_with "gB58call ref" => k_extra "L144"
 trivial
noncomputable abbrev ev19 (q : Hq) (v : Nat → Value) (n : Value) : Obj := dictOf [en (q 0) "limit" (v 0), en (q 1) "most_frames" (v 1), en (q 2) "steps" (v 2), en (q 3) "next_number" n, en (q 4) "base" (v 4), en (q 5) "globals" (v 5), en (q 6) "frames" (v 6), en (q 7) "out" (v 7), en (q 8) "warnings" (v 8), en (q 9) "handlers" (v 9), en (q 10) "restarts" (v 10), en (q 11) "targets" (v 11), en (q 12) "visible" (v 12), en (q 13) "current" (v 13), en (q 14) "dispatcher" (v 14), en (q 15) "signaller" (v 15), en (q 16) "warner" (v 16), en (q 17) "deparser" (v 17), en (q 18) "s4" (v 18)] 19
def NewEnv (w : World) (h h' : Heap) (e dx fr lk : Addr) (num : Int) (pa : Value) : Prop := ∃ oF oK q kt tn, h.get? e = none ∧ h.get? fr = none ∧ h.get? dx = none ∧ h.get? lk = none ∧ h'.get? e = some (instObj 247 dx) ∧ h'.get? dx = some (envD q kt tn num pa fr lk) ∧ h'.get? fr = some oF ∧ h'.get? lk = some oK ∧
 (fr == sysModules) = false ∧ (lk == sysModules) = false ∧ oF.IsDictOf (strKind thePr w) [] ∧ oK.IsDictOf (strKind thePr w) [] ∧ @LT.lt Nat _ dx e ∧ @LT.lt Nat _ e fr ∧ @LT.lt Nat _ fr lk
section
variable {r : Heap}
theorem new_env19 {v : Nat → Value} (X : (K0 w.params).In r) (T : TopRead p loose mg mb r) (st : r.StaysIn s.heap) (hI : r.get? I = some (instObj 1569 dI)) (hd : s.heap.get? dI = some (ev19 q v (.int num tn))) (hrd : r.get? dI = none) :
  Does w 4 (.ref 1385) ⟨[.ref I, pa], []⟩ (adrs [(dI, ev19 q v (.int num tn))]) s fun rv h' => ∃ e dx fr lk t', rv = .ref e ∧ h'.get? dI = some (ev19 q v (.int (num + 1) t')) ∧ NewEnv w s.heap h' e dx fr lk num pa := by
 w_on
 refine' does_def (mt := [(dI, ev19 q v (.int num tn))]) (binds := [("self", Value.ref I), ("parent", pa)]) X T st ?hm ?hr ?ho ?hcd ?hbind ?hloc ?_ ?hco ?hgen ?hk ?hcell ?hl
 k_extra "x93"
 case hm => exact fcons hd fN
 case hr => exact fcons hrd fN
 k_extra "x84"
 have hIg := Sr _ _ hI
 k_extra "x86"
 refine ⟨_, _, _, _, _, rfl, News.get Nz (mem_at 4 rfl), _, _, _, _, _, fresh_mt Sg Nz (mem_at 2 rfl) ?fa, fresh_mt Sg Nz (mem_at 1 rfl) ?fb, fresh_mt Sg Nz (mem_at 3 rfl) ?fc, fresh_mt Sg Nz (.head _) ?fd,
  News.get Nz (mem_at 2 rfl), News.get Nz (mem_at 3 rfl), News.get Nz (mem_at 1 rfl), News.get Nz (.head _), by assumption, by assumption, by assumption, by assumption, by assumption, by assumption, by assumption⟩
 all_goals exact off1 (by k_ne)
end
--EV
noncomputable abbrev evN (q : Hq) (v : Nat → Value) (num : Int) (tn : Tok) (gl : Value) (vis : Bool) : Obj := dictOf [en (q 0) "limit" (v 0), en (q 1) "most_frames" (v 1), en (q 2) "steps" (v 2), en (q 3) "next_number" (.int num tn), en (q 4) "base" (v 4), en (q 5) "globals" gl, en (q 6) "frames" (v 6), en (q 7) "out" (v 7), en (q 8) "warnings" (v 8), en (q 9) "handlers" (v 9), en (q 10) "restarts" (v 10), en (q 11) "targets" (v 11), en (q 12) "visible" (.bool vis), en (q 13) "current" (v 13), en (q 14) "dispatcher" (v 14), en (q 15) "signaller" (v 15), en (q 16) "warner" (v 16), en (q 17) "deparser" (v 17), en (q 18) "s4" (v 18)] 19
section
variable {g : Obj → List (Addr × Obj)}
theorem use_newenv19 {a0 a1 a2 a3 a4 a5 a6 a7 a8 a9 a10 a11 a12 a13 a14 a15 a16 a17 a18 : Int} {t0 t6 t7 t8 t9 t10 t11 t12 t13 t14 t15 t16 t17 t18 : Tok} {v4 v5 v6 v7 v8 v9 v10 v11 v12 v13 v14 v15 v16 v17 v18 : Value} (rm : Rm 4 d u) (F : Fr h₀ L s.heap m) (N : News h₀ L s.heap news) (U : UpdF dI (dictOf [⟨a0, .str "limit" t0, v0⟩, ⟨a1, .str "most_frames" t1, v1⟩, ⟨a2, .str "steps" t2, v2⟩, ⟨a3, .str "next_number" t3, (.int num tn)⟩, ⟨a4, .str "base" t4, v4⟩, ⟨a5, .str "globals" t5, v5⟩, ⟨a6, .str "frames" t6, v6⟩, ⟨a7, .str "out" t7, v7⟩, ⟨a8, .str "warnings" t8, v8⟩, ⟨a9, .str "handlers" t9, v9⟩, ⟨a10, .str "restarts" t10, v10⟩, ⟨a11, .str "targets" t11, v11⟩, ⟨a12, .str "visible" t12, v12⟩, ⟨a13, .str "current" t13, v13⟩, ⟨a14, .str "dispatcher" t14, v14⟩, ⟨a15, .str "signaller" t15, v15⟩, ⟨a16, .str "warner" t16, v16⟩, ⟨a17, .str "deparser" t17, v17⟩, ⟨a18, .str "s4" t18, v18⟩] 19) news g) (X : (K0 w.params).In h₀) (T : TopRead p loose mg mb h₀) (h1 : (I, instObj 1569 dI) ∈ news) (k : ∀ e dx fr lk oF oK q kt tk2 t' h' tk, Fr h₀ L h' m → let nw := (e, instObj 247 dx) :: (dx, envD q kt tk2 num pa fr lk) :: (fr, oF) :: (lk, oK) :: g (dictOf [⟨a0, .str "limit" t0, v0⟩, ⟨a1, .str "most_frames" t1, v1⟩, ⟨a2, .str "steps" t2, v2⟩, ⟨a3, .str "next_number" t3, (.int (num + 1) t')⟩, ⟨a4, .str "base" t4, v4⟩, ⟨a5, .str "globals" t5, v5⟩, ⟨a6, .str "frames" t6, v6⟩, ⟨a7, .str "out" t7, v7⟩, ⟨a8, .str "warnings" t8, v8⟩, ⟨a9, .str "handlers" t9, v9⟩, ⟨a10, .str "restarts" t10, v10⟩, ⟨a11, .str "targets" t11, v11⟩, ⟨a12, .str "visible" t12, v12⟩, ⟨a13, .str "current" t13, v13⟩, ⟨a14, .str "dispatcher" t14, v14⟩, ⟨a15, .str "signaller" t15, v15⟩, ⟨a16, .str "warner" t16, v16⟩, ⟨a17, .str "deparser" t17, v17⟩, ⟨a18, .str "s4" t18, v18⟩] 19); News h₀ L h' nw →
   (∀ p ∈ news, p.1 ≠ e ∧ p.1 ≠ dx ∧ p.1 ≠ fr ∧ p.1 ≠ lk) → @LT.lt Nat _ dx e → @LT.lt Nat _ e fr → @LT.lt Nat _ fr lk → (fr == sysModules) = false → (lk == sysModules) = false → oF.IsDictOf (strKind thePr w) [] → oK.IsDictOf (strKind thePr w) [] → Q (.ref e) { s with heap := h', toks := tk }) :
  wc w d u 1385 [.ref I, pa] Q E s := by
 k_extra "x153"
 refine (new_env19 (r := hideAll s.heap [dI]) (q := (fun i => match i with | 0 => (a0, t0) | 1 => (a1, t1) | 2 => (a2, t2) | 3 => (a3, t3) | 4 => (a4, t4) | 5 => (a5, t5) | 6 => (a6, t6) | 7 => (a7, t7) | 8 => (a8, t8) | 9 => (a9, t9) | 10 => (a10, t10) | 11 => (a11, t11) | 12 => (a12, t12) | 13 => (a13, t13) | 14 => (a14, t14) | 15 => (a15, t15) | 16 => (a16, t16) | 17 => (a17, t17) | _ => (a18, t18))) (v := (fun i => match i with | 0 => v0 | 1 => v1 | 2 => v2 | 4 => v4 | 5 => v5 | 6 => v6 | 7 => v7 | 8 => v8 | 9 => v9 | 10 => v10 | 11 => v11 | 12 => v12 | 13 => v13 | 14 => v14 | 15 => v15 | 16 => v16 | 17 => v17 | _ => v18)) (num := num) (tn := tn) (X.keeps S0) (T.keeps S0) hid_stay (hideAll_get _ (N _ h1).1 fun q => ?_) (N _ m1).1 (hideAll_none _ (.head _))).use rm fun rv h' tk' hk' hp => ?_
 ·have e1 := (N _ h1).1
  rw [ms1 q, (N _ m1).1] at e1
  cases e1
 ·refine o5_3 hp fun e dx fr lk t' zq5 e1 zr => ?_
  clear hp
  refine o5_12 zr fun oF oK qe kt tn' n1 n2 n3 n4 g1 g2 g3 g4 lo1 lo2 d1 zr => ?_
  refine o0_4 zr fun d2 l1 l2 l3 => ?_
  clear zr
  subst zq5
  have N1 := led1 (mt := []) N U hk'.all e1
  exact k e dx fr lk oF oK qe kt tn' t' h' tk' (hk'.fr F N (on1 m1)) (news_new F (news_new F (news_new F (news_new F N1 n4 g4) n2 g3) n3 g2) n1 g1) (fun p hp => ⟨ne_news N n1 p hp, ne_news N n3 p hp, ne_news N n2 p hp, ne_news N n4 p hp⟩) l1 l2 l3 lo1 lo2 d1 d2
end
theorem lines_40 : True := by
 k_with "L145" => (k_extra "x69"; refine' use_newenv19 ?rm ?F ?N ?U ?X ?T ?h1 ?_; k_extra "x23"; (case U => k_updF); (case h1 => tb_rel); k_whole; k_extra "x36")
 k_with "gB58call ref" => k_extra "L145"
 trivial
include F N X T in
theorem new_evO (rm : Rm 6 d u) (k : ∀ I dI ge gdx gfr glk oF oK q v num tn q2 kt tk2 num2 pa h' tk, Fr h₀ L h' m → let nw := (I, instObj 1569 dI) :: (dI, evN q v num tn (.ref ge) true) :: (ge, instObj 247 gdx) :: (gdx, envD q2 kt tk2 num2 pa gfr glk) :: (gfr, oF) :: (glk, oK) :: news; News h₀ L h' nw → v 13 = .none →
   (∀ p ∈ news, p.1 < dI) → @LT.lt Nat _ dI I → @LT.lt Nat _ I gdx → @LT.lt Nat _ gdx ge → @LT.lt Nat _ ge gfr → @LT.lt Nat _ gfr glk → (gfr == sysModules) = false → (glk == sysModules) = false → oF.IsDictOf (strKind thePr w) [] → oK.IsDictOf (strKind thePr w) [] → Q (.ref I) { s with heap := h', toks := tk }) :
  wc w d u 1569 [.int 1000 t1] Q E s := by
 k_extra "x243"
 rename News h₀ L _ _ => Nz
 refine k _ _ _ _ _ _ _ _ (fun i => match i with | 0 => (_, _) | 1 => (_, _) | 2 => (_, _) | 3 => (_, _) | 4 => (_, _) | 5 => (_, _) | 6 => (_, _) | 7 => (_, _) | 8 => (_, _) | 9 => (_, _) | 10 => (_, _) | 11 => (_, _) | 12 => (_, _) | 13 => (_, _) | 14 => (_, _) | 15 => (_, _) | 16 => (_, _) | 17 => (_, _) | _ => (_, _)) (fun i => match i with | 0 => _ | 1 => _ | 2 => _ | 3 => .none | 4 => _ | 5 => .none | 6 => _ | 7 => _ | 8 => _ | 9 => _ | 10 => _ | 11 => _ | 12 => .none | 13 => _ | 14 => _ | 15 => _ | 16 => _ | 17 => _ | _ => _) _ _ _ _ _ _ _ _ _ (by k_asm) (by exact fcons (Nz _ (mem_at 13 rfl)) (fcons (Nz _ (mem_at 14 rfl)) (fcons (Nz _ (mem_at 7 rfl)) (fcons (Nz _ (mem_at 8 rfl)) (fcons (Nz _ (mem_at 6 rfl)) (fcons (Nz _ (mem_at 5 rfl)) (fun p hp => Nz _ (.tail _ (.tail _ (.tail _ (.tail _ (.tail _ (.tail _ (.tail _ (.tail _ (.tail _ (.tail _ (.tail _ (.tail _ (.tail _ (.tail _ (.tail _ hp)))))))))))))))))))))) (by exact rfl) ?_ ?_ ?_ ?_ ?_ ?_ ?_ ?_ ?_ ?_
 k_extra "x215"
end
local macro_rules |`(tactic|walk_at "")=>`(tactic|skip)
section
local macro_rules | `(tactic| walk_at $s:str) => hk ["gB59", "c0"] s
theorem RT.mono (R : RT w H foot I gfr bf c dx ps) (st : H.StaysIn H') (hI : ∃ dI, (hideAll H foot).get? I = some (instObj 1569 dI)) : RT w H' foot I gfr bf c dx ps := by
 have st' : (hideAll H foot).StaysIn (hideAll H' foot) := fun a o e => hideAll_get _ (st _ _ (hid_of e).1) (hid_of e).2
 refine o5_2 R.vec fun hs tk il at_ sh h1 h2 => ?_
 exact ⟨R.mem, st' _ _ R.row, ⟨hs, tk, il, at_, sh, st _ _ h1, h2.mono st'⟩, fun dI e => by
  refine o1_1 hI fun dI' h3 => ?_
  clear hI
  have := (st' _ _ h3).symm.trans e
  cases this
  exact R.nI _ h3, R.nG, R.nB⟩
section
variable {fr : List (Addr × Obj)} {D : LD} {g : Obj → List (Addr × Obj)}
theorem LSok.mono (S : LSok w h₀ b₁ foot n I ge gfr b bf rv ps ins D) (st : b₁.StaysIn b₂) : LSok w h₀ b₂ foot n I ge gfr b bf rv ps ins D := by
 have st' : (hideAll b₁ foot).StaysIn (hideAll b₂ foot) := fun a o e => hideAll_get _ (st _ _ (hid_of e).1) (hid_of e).2
 exact S.keep (fun _ h => h) st' (st _ _ S.ev) (st _ _ S.vec) (st _ _ S.fr) S.dG S.gk (st _ _ S.frB) S.dB (S.boxB.mono st') S.lenB S.keysB
theorem LS.mono (S : LS w h₀ b₁ foot n I ge gfr b bf rv ps ins) (st : b₁.StaysIn b₂) : LS w h₀ b₂ foot n I ge gfr b bf rv ps ins := let ⟨D, S⟩ := S; ⟨D, S.mono st⟩
theorem use_bean {l : List Int} (rm : Rm 2 d u) (F : Fr h₀ L s.heap m) (N : News h₀ L s.heap news) (U : UpdF bl (listOf us.toArray nb) news g) (X : (K0 w.params).In h₀) (T : TopRead p loose mg mb h₀) (hi : IntsAre us l) (hz : us.length ≤ 140) (hm : 0 < many) (k : ∀ us' l' n' z t h' tk, Fr h₀ L h' m → let nw := g (listOf (List.toArray us') n'); News h₀ L h' nw → IntsAre us' l' → us'.length ≤ 140 → 0 ≤ z → z < many → Q (.int z t) { s with heap := h', toks := tk }) :
  wc w d u 1587 [.ref bl, .int many tm] Q E s := by
 k_extra "x153"
 refine (bean_ (r := hideAll s.heap [bl]) (X.keeps S0) (T.keeps S0) hid_stay (N _ m1).1 (hideAll_none _ (.head _)) hi (by omega) hm).use rm fun rv h' tk' hk' hp => ?_
 refine o5_6 hp fun us' l' n' z t e1 hi' hl' zq8 h1 h2 => ?_
 clear hp
 subst zq8
 exact k us' l' n' z t h' tk' (hk'.fr F N (on1 m1)) (led1 (mt := []) N U hk'.all e1) hi' (by omega) h1 h2
include F N X T in
theorem use_shownL {c : Value} (rm : Rm 2 d u) (lc : LC h₀ b₁ as own foot) (ho : ∀ p ∈ own, p ∈ news) (hv : ValAt b₁ c fo) (k : ∀ v h' tk, Fr h₀ L h' m → News h₀ L h' news → FigV v fo → Q v { s with heap := h', toks := tk }) :
  wc w d u 1601 [c] Q E s :=
 use_pure rm F N (shown_ X T F.keep (hv.mono (lc.cov.stays F N ho))) fun v h' tk F' N' _ hf => k v h' tk F' N' hf
include F N X T in
theorem use_foundL (rm : Rm 2 d u) (lc : LC h₀ b₁ as own foot) (ho : ∀ p ∈ own, p ∈ news) (hp : PairsAt (hideAll b₁ foot) pl ps) (hz : ps.length ≤ 900) (hw : ∀ q ∈ ps, q.1 ∈ words5) (hy : y ∈ words5) (k : ∀ v h' tk, Fr h₀ L h' m → News h₀ L h' news → FigV v (atPl (ps.map (·.2)) (placeR ex (ps.map (·.1)) y)) → Q v { s with heap := h', toks := tk }) :
  wc w d u 1606 [.ref pl, .str y ty, .bool ex] Q E s :=
 use_pure rm F N (found_ X T F.keep ((hp.mono hide_in).mono (lc.cov.stays F N ho)) hz (words_short _ hy) fun q hq => words_short _ (hw q hq)) fun v h' tk F' N' _ hf => k v h' tk F' N' (by rw [← found_law hw hy]; exact hf)
include F N X T in
theorem use_afterL (rm : Rm 2 d u) (lc : LC h₀ b₁ as own foot) (hfr : FrOf news as fr) (ho : ∀ p ∈ own, p ∈ news) (S : LS w h₀ b₁ foot n I ge gfr b bf rv ps ins) (hp : PairsAt (hideAll b₁ foot) pl ps') (hv : FigV vv fo) (hz : ps'.length ≤ 900) (k : ∀ pl', LK h₀ b₁ L m as fr foot foot s (Q (.ref pl')) fun b₁' => LS w h₀ b₁' foot n I ge gfr b bf rv ps ins ∧ (∀ c dx ps'', RT w b₁ foot I gfr bf c dx ps'' → RT w b₁' foot I gfr bf c dx ps'') ∧ PairsAt (hideAll b₁' foot) pl ps' ∧ PairsAt (hideAll b₁' foot) pl' (setO ps' y fo)) :
  wc w d u 1611 [.ref pl, .str y ty, vv] Q E s := by
 k_extra "x192"
 refine law_call rm F N lc hfr ho S.base (mt := []) fN fN (fun h0r sub hrs hbs => ?_) (fun v own' b₁' h' tk F' N' lc' st up new rows hp' => ?_)
  (P := fun v h' => ∃ pl', v = .ref pl' ∧ ∀ H, Grew (hideAll b₁ foot) s.heap h' H → PairsAt H pl' (setO ps' y fo))
 ·have H := after_ (s := s) (r := hideAll b₁ []) (r' := hideAll b₁ foot) (ty := ty) (y := y) (X.keeps h0r) (T.keeps h0r) hrs sub hp hv hz
  exact fun d u rm => codeAny_mono (H d u rm) fun r s' ⟨v, h', tk, e1, e2, hk, hp⟩ => ⟨v, h', tk, e1, e2, hk, fN, hp⟩
 ·refine o1_2 hp' fun pl' zq1 tell => ?_
  clear hp'
  subst zq1
  have bb : b₁.StaysIn b₁' := fun a o e => up a o e nmn
  exact k pl' own' b₁' h' tk F' N' lc' st ⟨⟨D, S.mono bb⟩, fun c dx ps'' R => R.mono bb ⟨_, S.inst⟩, hp.mono st, tell _ ⟨st, fun a o n e => let ⟨x, y, _⟩ := new a o n e; hideAll_get _ x y⟩⟩
include F N X T in
theorem use_isL (rm : Rm 4 d u) (lc : LC h₀ b₁ as own foot) (ho : ∀ p ∈ own, p ∈ news) (R : RT w b₁ foot I gfr bf c dx ps) (hp : PairsAt (hideAll b₁ foot) pl ps) (hw : ∀ q ∈ ps, q.1 ∈ words5) (hz : ps.length ≤ 900) (k : ∀ t h' tk, Fr h₀ L h' m → News h₀ L h' news → t = true → Q (.bool t) { s with heap := h', toks := tk }) :
  wc w d u 1621 [.ref c, .ref pl] Q E s := by
 refine o5_2 R.vec fun hs tk il at_ sh h1 h2 => ?_
 have hb := lc.cov.stays F N ho
 refine use_pure rm F N (is_ X T F.keep (hb _ _ (hide_in _ _ R.row)) (hb _ _ h1) ((h2.mono hide_in).mono hb) ((hp.mono hide_in).mono hb) (fun q hq => words_ok _ (hw q hq)) hz) fun v h' tk F' N' _ hf => ?_
 subst hf
 exact k _ h' tk F' N' rfl
include F N X T in
theorem use_isOld (rm : Rm 4 d u) (lc : LC h₀ b₁ as own foot) (ho : ∀ p ∈ own, p ∈ news) (S : LS w h₀ b₁ foot n I ge gfr b bf rv ps ins) (hp : PairsAt (hideAll b₁ foot) pl ps) (hw : ∀ q ∈ ps, q.1 ∈ words5) (hz : ps.length ≤ 900) (k : ∀ t h' tk, Fr h₀ L h' m → News h₀ L h' news → t = true → Q (.bool t) { s with heap := h', toks := tk }) :
  wc w d u 1621 [.ref rv, .ref pl] Q E s := by
 k_extra "x192"
 exact use_isL F N X T rm lc ho S.rt hp hw hz k
end
theorem setO_words (hw : ∀ q ∈ ps, q.1 ∈ words5) (hy : y ∈ words5) : ∀ q ∈ setO ps y fo, q.1 ∈ words5 := by
 cases h : fst (ps.map (·.1)) y with
 | none =>
  rw [setO_none h]
  cases fo with
  | none => exact hw
  | some f =>
   intro q hq
   rcases ma1 hq with hq | hq
   ·exact hw q hq
   ·rw [ms1 hq]; exact hy
 | some k =>
  rw [setO_some h]
  intro q hq
  rcases ma1 hq with hq | hq
  ·rcases ma1 hq with hq | hq
   ·exact hw q (List.mem_of_mem_take hq)
   ·cases fo with
    | none => cases hq
    | some f => rw [ms1 hq]; exact hy
  ·exact hw q (List.mem_of_mem_drop hq)
theorem setO_len : (setO ps y fo).length ≤ ps.length + 1 := by
 cases h : fst (ps.map (·.1)) y with
 | none =>
  rw [setO_none h]
  cases fo <;> simp
 | some k =>
  rw [setO_some h]
  have := (fst_lt h).1
  rw [List.length_map] at this
  cases fo <;> simp <;> omega
theorem locN1 {m m₀ : LocMap} (z : Str) : ∀ xs : List Str, (z ∉ xs → m z = m₀ z) → m z = xs.foldr (fun x f z => if z = x then m x else f z) m₀ z
 | [], h => h nmn
 | x :: xs, h => by
  show _ = if z = x then m x else xs.foldr (fun x f z => if z = x then m x else f z) m₀ z
  by_cases e : z = x
  ·rw [if_pos e, e]
  ·rw [if_neg e]
   exact locN1 z xs fun hz => h fun q => (mc1 q).elim e hz
theorem locN (xs : List Str) (h : ∀ z, z ∉ xs → m z = m₀ z) : m = xs.foldr (fun x f z => if z = x then m x else f z) m₀ := funext fun z => locN1 z xs (h z)
end
local macro_rules |`(tactic|walk_at "")=>`(tactic|skip)
section
local macro_rules | `(tactic| walk_at $s:str) => hk ["gB60a", "c3", "c2", "c0"] s
noncomputable abbrev wordsV (t1 t2 t3 t4 t5 : Tok) : List Value := [.str "alp" t1, .str "al" t2, .str "alpha" t3, .str "be" t4, .str "alto" t5]
theorem words_at (h : k < 5) : ∃ y t, (wordsV t1 t2 t3 t4 t5)[k]? = some (.str y t) ∧ y ∈ words5 := by
 rcases k with _ | _ | _ | _ | _ | k
 ·exact ⟨_, _, rfl, .head _⟩
 ·exact ⟨_, _, rfl, mem_at 1 rfl⟩
 ·exact ⟨_, _, rfl, .tail _ (mem_at 1 rfl)⟩
 ·exact ⟨_, _, rfl, .tail _ (mem_at 2 rfl)⟩
 ·exact ⟨_, _, rfl, .tail _ (mem_at 3 rfl)⟩
 ·omega
theorem item_words (hl : s.heap.IsList wl (wordsV t1 t2 t3 t4 t5).toArray) (h0 : 0 ≤ z) (h5 : z < 5) (h : ∀ y ty, y ∈ words5 → Q (.str y ty) s) (hs : subscripted slice false (.ref wl) (.int z t) = operate [.ref wl, .int z t] (getItem (.ref wl) (.int z t)) := by with_unfolding_all rfl) :
  wpAny (model thePr w) A (subscriptTail value slice (.ref wl) (.int z t)) Q E s := by
 refine o1_1 (Int.eq_ofNat_of_zero_le h0) fun k zq1 => ?_
 subst zq1
 refine o2_2 (words_at (t1 := t1) (t2 := t2) (t3 := t3) (t4 := t4) (t5 := t5) (k := k) (by omega)) fun y ty e hy => ?_
 exact item_l hl (by simp) e (h y ty hy) hs
theorem figN : FigV .none none := rfl
theorem figI : FigV (.int f t) (some f) := ⟨t, rfl⟩
theorem InsAt.fig (h : InsAt FigV kvs ins) : FigV ((valueAt kvs y).getD .none) (insR ins y) := by
 have := h.val (y := y)
 unfold insR
 cases q : valueAt kvs y with
 | none => rw [q] at this; rw [show ins.lookup y = none from this]; exact rfl
 | some v => rw [q] at this; refine o1_2 this fun fo e hf => ?_; clear this; rw [e]; exact hf
theorem ne_fig {v : Value} (h1 : FigV v fo) (h2 : FigV v2 fo) (h : Q (.bool false) s) : wpAny (model thePr w) (AA d u) (compareOp .NotEq v v2) Q E s := by
 k_extra "x211"
 cases fo with
 | none =>
  cases h1
  cases h2
  w_on
  k_steps
  exact h
 | some f =>
  refine o1_1 h1 fun t zq1 => ?_
  clear h1
  subst zq1
  refine o1_1 h2 fun t2 zq1 => ?_
  clear h2
  subst zq1
  w_on
  k_steps
  unfold Stop
  simpa using h
section
variable {D : LD}
theorem inst_told {sl : Array (Option Value)} (lc : LC h₀ b₁ as own foot) (F : Fr h₀ L s.heap m) (N : News h₀ L s.heap news) (ho : ∀ p ∈ own, p ∈ news) (h1 : b₁.get? x = some (⟨.ref C, some dx, .plain, sl⟩ : Obj)) (h2 : b₁.get? dx = some od) :
  InstAt s.heap x ⟨.ref C, some dx, .plain, sl⟩ C (some od) := ⟨lc.cov.stays F N ho _ _ h1, rfl, rfl, lc.cov.stays F N ho _ _ h2⟩
theorem dct_told {K : Type} [DecidableEq K] {knd : KeyKind prog w K} {ks : List (K × Value)} {d : Addr} (lc : LC h₀ b₁ as own foot) (F : Fr h₀ L s.heap m) (N : News h₀ L s.heap news) (ho : ∀ p ∈ own, p ∈ news) (hb : b₁.get? d = some o) (hd : o.IsDictOf knd ks) : s.heap.DictOf knd d ks :=
 Heap.dictOf_iff.mpr ⟨o, lc.cov.stays F N ho _ _ hb, hd⟩
theorem LSok.told (S : LSok w h₀ b₁ foot n I ge gfr b bf rv ps ins D) {C : Prop} (k : ∀ gdx q2 kt nt pa lk bdx q3 kt3 nt3 pa3 lk3, b₁.get? I = some (instObj 1569 D.dI) → b₁.get? D.dI = some (evD D.q D.v (.ref ge) D.vis) → b₁.get? ge = some (instObj 247 gdx) → b₁.get? gdx = some (envD q2 kt nt D.gnum pa gfr lk) → b₁.get? gfr = some D.gfo → D.gfo.IsDictOf (strKind thePr w) D.kvs → valueAt D.kvs "row" = some (.ref rv) → (gfr == sysModules) = false → b₁.get? b = some (instObj 247 bdx) → b₁.get? bdx = some (envD q3 kt3 nt3 D.bnum pa3 bf lk3) → b₁.get? bf = some D.bfo → D.bfo.IsDictOf (strKind thePr w) D.bkv → (bf == sysModules) = false → C) : C := by
 refine o7_3 S.env fun gdx q2 kt nt pa lk ol a1 a2 _ => ?_
 refine o7_3 S.envB fun bdx q3 kt3 nt3 pa3 lk3 ol3 c1 c2 _ => ?_
 exact k gdx q2 kt nt pa lk bdx q3 kt3 nt3 pa3 lk3 (hide_in _ _ S.inst) S.ev (hide_in _ _ a1) (hide_in _ _ a2) S.fr S.dG S.gk.row S.loG (hide_in _ _ c1) (hide_in _ _ c2) S.frB S.dB S.loB
end
theorem insS_words (h : ∀ q ∈ ins, q.1 ∈ words5) (hy : y ∈ words5) : ∀ q ∈ insS ins y fo, q.1 ∈ words5 := by
 unfold insS
 split
 ·intro q hq
  refine o1_2 (List.mem_map.mp hq) fun z hz zq2 => ?_
  subst zq2
  split
  ·exact hy
  ·exact h z hz
 ·intro q hq
  rcases ma1 hq with hq | hq
  ·exact h q hq
  ·rw [ms1 hq]; exact hy
theorem box_in {k : Str} {u : Value} (hi : InsAt FigV kvs ins) (hb : BoxAt H bkv ins) (e : kvs[i]? = some (k, u)) : ∃ c v fo, valueAt bkv k = some c ∧ ValAt H c fo ∧ valueAt kvs k = some v ∧ FigV v fo := by
 have h1 := hi.val (y := k)
 have h2 := hb k
 cases q : valueAt kvs k with
 | none =>
  exfalso
  have hm : (k, u) ∈ kvs := List.mem_of_getElem? e
  unfold PySem.valueAt at q
  rw [Option.map_eq_none_iff, List.find?_eq_none] at q
  simpa using q _ hm
 | some v =>
  rw [q] at h1
  refine o1_2 h1 fun fo e1 hf => ?_
  clear h1
  cases q2 : valueAt bkv k with
  | none => rw [q2] at h2; rw [show ins.lookup k = none from h2] at e1; cases e1
  | some c =>
   rw [q2] at h2
   refine o1_2 h2 fun fo2 e2 hv => ?_
   clear h2
   rw [e1] at e2
   cases e2
   exact ⟨c, v, fo, rfl, hv, rfl, hf⟩
noncomputable def lawNames : List Str := ["lap", "deed", "word", "in_box", "told", "due", "figure", "old", "later", "pairs"]
theorem upd_out {l : List Str} {m0 : LocMap} {a : Str} {v : Option Value} (ha : a ∈ l) (h : ∀ z, z ∉ l → m z = m0 z) : ∀ z, z ∉ l → (if z = a then v else m z) = m0 z := fun z hz => by
 have n : ¬ z = a := fun e => hz (by rw [e]; exact ha)
 rw [if_neg n]; exact h z hz
def LJ (w : World) (h₀ : Heap) (bl ib : Addr) (fx : List (Addr × Obj)) (I ge gfr b bf : Addr) (m₀ : LocMap) (i : Nat) (m : LocMap) (H : Heap) : Prop :=
 ∀ C : Prop, (∀ (pl : Addr) (foot : List Addr) (n : Nat) (rv : Addr) (ps : List (Str × Int)) (ins : List (Str × Option Int)) (us : List Value) (l : List Int) (nb : Nat) (od : Obj) (kvs : List (Str × Value)), (∀ z, z ∉ lawNames → m z = m₀ z) → m "pairs" = some (.ref pl) → (∀ p ∈ fx, H.get? p.1 = some p.2) → H.get? bl = some (listOf us.toArray nb) → IntsAre us l → us.length ≤ 140 → H.get? ib = some od → od.IsDictOf (strKind thePr w) kvs → InsAt FigV kvs ins → kvs.length ≤ i → LS w h₀ (hideAll H (bl :: ib :: adrs fx)) foot n I ge gfr b bf rv ps ins → PairsAt (hideAll (hideAll H (bl :: ib :: adrs fx)) foot) pl ps → (∀ q ∈ ps, q.1 ∈ words5) → n ≤ 2 + 2 * i → ps.length ≤ 4 + i → (∀ a ∈ foot, ∃ o, (hideAll H (bl :: ib :: adrs fx)).get? a = some o) → (∀ q ∈ ins, q.1 ∈ words5) → C) → C
theorem LJ.mono (J : LJ w h₀ bl ib fx I ge gfr b bf m₀ i m H) (st : H.StaysIn H') : LJ w h₀ bl ib fx I ge gfr b bf m₀ i m H' := by
 refine J _ fun pl foot n rv ps ins us l nb od kvs hm hpl hfx hbl hius hz hib hod hins hkl S hP hw hn2 hps hold hwi => ?_
 have st1 : (hideAll H (bl :: ib :: adrs fx)).StaysIn (hideAll H' (bl :: ib :: adrs fx)) := fun a o e => hideAll_get _ (st _ _ (hid_of e).1) (hid_of e).2
 exact fun _ k => k pl foot n rv ps ins us l nb od kvs hm hpl (fun p hp => st _ _ (hfx p hp)) (st _ _ hbl) hius hz (st _ _ hib) hod hins hkl (S.mono st1) (hP.mono (fun a o e => hideAll_get _ (st1 _ _ (hid_of e).1) (hid_of e).2)) hw hn2 hps (fun a ha => let ⟨o, e⟩ := hold a ha; ⟨o, st1 _ _ e⟩) hwi
theorem lap_end {It : Addr} {oI : Obj} {l : List Int} {tk : Nat} {D : LD} {Q : Flow → Shared → Prop} {f : Flow} (hf : f = .next ∨ f = .cont) (F : Fr h₀ L h' m') (N : News h₀ L h' ((It, oI) :: (bl, listOf us.toArray nb) :: (ib, od) :: (fx ++ own'))) (lc : LC h₀ b₁' (It :: bl :: ib :: adrs fx) own' foot) (nI : ∀ p ∈ (bl, listOf us.toArray nb) :: (ib, od) :: fx, p.1 ≠ It) (S : LSok w h₀ b₁' foot n I ge gfr b bf rv ps ins D) (hP : PairsAt (hideAll b₁' foot) pl ps) (hi : IntsAre us l) (hz : us.length ≤ 140) (hd : od.IsDictOf (strKind thePr w) kvs) (hins : InsAt FigV kvs ins) (hkl : kvs.length ≤ i + 1) (hw : ∀ q ∈ ps, q.1 ∈ words5) (hwi : ∀ q ∈ ins, q.1 ∈ words5) (hn : n ≤ 2 + 2 * (i + 1)) (hps : ps.length ≤ 4 + (i + 1)) (hpl : m' "pairs" = some (.ref pl)) (hm : ∀ z, z ∉ lawNames → m' z = m₀ z) :
  TurnC h₀ L [(It, oI)] It (LJ w h₀ bl ib fx I ge gfr b bf m₀ (i + 1)) s₁ Q f { s₁ with heap := h', toks := tk } := by
 have sb : ∀ H' : Heap, b₁'.StaysIn H' → b₁'.StaysIn (hideAll H' (bl :: ib :: adrs fx)) := fun H' hs a o e => hideAll_get _ (hs a o e) fun q => by
  rcases lc.cov a o e with e' | e'
  ·obtain ⟨p, hp, rfl⟩ : ∃ p ∈ ((bl, listOf us.toArray nb) :: (ib, od) :: fx), p.1 = a := List.mem_map.mp q
   have := (N p (.tail _ (mal own' hp))).2.2
   rw [this] at e'; cases e'
  ·exact lc.off _ e' a (.tail _ q) rfl
 have hJ : ∀ H' : Heap, b₁'.StaysIn H' → (∀ p ∈ (It, oI) :: (bl, listOf us.toArray nb) :: (ib, od) :: fx, p.1 ≠ It → H'.get? p.1 = some p.2) → LJ w h₀ bl ib fx I ge gfr b bf m₀ (i + 1) m' H' := fun H' hs hp => by
  have st := sb H' hs
  exact fun _ k => k pl foot n rv ps ins us l nb od kvs hm hpl (fun p hq => hp p (.tail _ (.tail _ (.tail _ hq))) (nI p (.tail _ (.tail _ hq)))) (hp (bl, _) (mem_at 1 rfl) (nI _ (.head _))) hi hz (hp (ib, _) (mem_at 2 rfl) (nI _ (mem_at 1 rfl))) hd hins hkl ⟨D, S.mono st⟩ (hP.mono (fun a o e => hideAll_get _ (st _ _ (hid_of e).1) (hid_of e).2)) hw hn hps (fun a ha => let ⟨o, e⟩ := lc.old a ha; ⟨o, st _ _ e⟩) hwi
 rcases hf with rfl | rfl
 ·exact TurnC.intro (fr' := (It, oI) :: (bl, listOf us.toArray nb) :: (ib, od) :: fx) F N (fcons (.head _) fN) lc.off lc.cov hJ
 ·exact TurnC.introC (fr' := (It, oI) :: (bl, listOf us.toArray nb) :: (ib, od) :: fx) F N (fcons (.head _) fN) lc.off lc.cov hJ
noncomputable def forBody : Stmt → List Stmt
 | .For _ _ b _ _ => b
 | _ => []
noncomputable def lapBody : List Stmt := forBody (nth (db s193) 8)
noncomputable abbrev lawEnv (L : Addr) : Env := envOfC "law" c193 L 1640 (.ref 1639)
noncomputable abbrev lawM (L I b ib D sl : Addr) : LocMap := fun y => if y = Str.ofString "inside" then some (.ref ib) else if y = Str.ofString "box" then some (.ref b) else if y = Str.ofString "pairs" then some (.ref D) else if y = Str.ofString "interp" then some (.ref I) else
 bindL (lawEnv L).kindOf [("script", Value.ref sl)] (fun _ => none) y
end
local macro_rules |`(tactic|walk_at "")=>`(tactic|skip)
section
local macro_rules | `(tactic| walk_at $s:str) => hk ["gB61", "c3", "c2", "c0"] s
section
variable {d : Addr} {x : Str}
theorem d_get1I (D : s.heap.DictOf (strKind thePr w) d kvs) (lo : (d == sysModules) = false) (hi : InsAt FigV kvs ins) (h : ∀ v, FigV v (insR ins x) → Q v { s with toks := s.toks + 1 }) :
  wpAny (model thePr w) A (call (.builtin "dict.get") [.ref d, .str x t]) Q E s := d_get1 D lo (h _ hi.fig)
end
theorem eq3_split (hz : z < 4) (h1 : z = 3 → Q (.bool true) s) (h2 : z ≠ 3 → Q (.bool false) s) : wpAny (model thePr w) (AA d u) (compareOp .Eq (.int z t) (.int 3 t2)) Q E s := by
 k_extra "x211"
 w_on
 k_extra "x253"
 by_cases e : z = 3
 ·subst e; exact h1 rfl
 ·rw [show (z == 3) = false by simp [e]]; exact h2 e
theorem ne_same (h : Q (.bool false) s) : wpAny (model thePr w) (AA d u) (compareOp .NotEq (.int z t) (.int z t2)) Q E s := ne_fig (fo := some z) ⟨_, rfl⟩ ⟨_, rfl⟩ h
theorem ite_bt {y : Int} {p q : Prop} (h : z = y) (hp : p) : if (z == y) = true then p else q := by rw [if_pos (by simpa using h)]; exact hp
theorem ite_bf {y : Int} {p q : Prop} (h : z ≠ y) (hq : q) : if (z == y) = true then p else q := by rw [if_neg (by simpa using h)]; exact hq
theorem ite_nn {p q : Prop} (hq : q) : if (z != z) = true then p else q := by rw [if_neg (by simp)]; exact hq
theorem lines_41 : True := by
 k_with "L146" => first | ((with_reducible show TurnC _ _ _ _ _ _ _ Flow.next _); refine stop_ ?_; walk_say "TURNC") | ((with_reducible show TurnC _ _ _ _ _ _ _ Flow.cont _); refine stop_ ?_; walk_say "TURNC") | ((with_reducible show TurnC _ _ _ _ _ _ _ (Flow.ret _) _); dsimp only [TurnC])
 k_with "gB61TurnC" => k_extra "L146"
 trivial
theorem mac20 : True := by
 k_with "k_inst" => (refine' inst_told ?lcq20 ?Fq20 ?Nq20 ?hoq20 ?h1q20 ?h2q20; (case lcq20 => assumption); (case Fq20 => k_asm); (case Nq20 => k_asm); (case hoq20 => (intro p hp; first | (with_reducible exact hp) | ((repeat (with_reducible (first | exact hp | refine' mcm _ ?_ | refine' mal _ ?_))); done) | exact hp | exact mcm _ hp | exact mcm _ (mcm _ hp) | (simp only [List.mem_cons, List.mem_append]; simp [hp]))); (case h1q20 => assumption); (case h2q20 => assumption))
 k_with "k_tabat" => (refine' dct_told ?lcq21 ?Fq21 ?Nq21 ?hoq21 ?hbq21 ?hdq21; (case lcq21 => assumption); (case Fq21 => k_asm); (case Nq21 => k_asm); (case hoq21 => (intro p hp; first | (with_reducible exact hp) | ((repeat (with_reducible (first | exact hp | refine' mcm _ ?_ | refine' mal _ ?_))); done) | exact hp | exact mcm _ hp | exact mcm _ (mcm _ hp) | (simp only [List.mem_cons, List.mem_append]; simp [hp]))); (case hbq21 => assumption); (case hdq21 => assumption))
 trivial
local macro_rules | `(tactic| k_tabat) => `(tactic| (refine' kda_dict ?N ?m ?d; (case N => k_asm); (case m => tb_rel); (case d => assumption)))
theorem lines_42 : True := by
 k_with "L147" => (k_here; (with_reducible show wpAny _ _ (call (Value.builtin "dict.get") [Value.ref _, Value.str _ _]) _ _ _); k_dflt (refine' d_get1I ?Dz147 ?lz147 ?iz147 ?_; (case Dz147 => k_tabat); (case lz147 => assumption); (case iz147 => assumption); k_whole); intro v' fg')
 k_with "L148" => (k_extra "x24"; k_dflt (refine' item_words ?lz148 ?zz148 ?nz148 ?_; (case lz148 => is_list); (case zz148 => assumption); (case nz148 => assumption); k_whole); intro y' ty' hy')
 k_with "L149" => (k_here; k_dflt (refine' ne_fig ?az149 ?bz149 ?_; (case az149 => assumption); (case bz149 => assumption); k_whole))
 k_with "L150" => (k_here; (with_reducible show wpAny _ _ (call (Value.ref 1587) [Value.ref _, Value.int _ _]) _ _ _); k_dflt (refine' use_bean ?rm ?F ?N ?U ?X ?T ?i ?z ?m ?_; (case rm => k_extra "x1"); (case F => k_asm); (case N => k_asm); (case X => k_asm); (case T => k_asm); (case U => k_updF); (case i => assumption); (case z => assumption); (case m => decide); k_whole); intro us' l' n' z' t' h' tk' F' nw' N' i' hz' h1 h2; k_extra "x29")
 k_with "L151" => (k_here; (with_reducible show wpAny _ _ (call (Value.ref 1628) [Value.ref _, Value.str _ _, Value.str _ _, Value.int _ _]) _ _ _); k_dflt (first | (refine' use_readRow ?F ?N ?X ?T ?rm ?lc ?hfr ?ho ?S ?hy ?hm ?_; (case rm => k_extra "x1"); (case F => k_asm); (case N => k_asm); (case X => k_asm); (case T => k_asm); (case lc => assumption); (case S => exact ⟨_, by assumption⟩); (case hfr => k_extra "fr"); (case ho => (intro p hp; first | (with_reducible exact hp) | ((repeat (with_reducible (first | exact hp | refine' mcm _ ?_ | refine' mal _ ?_))); done) | exact hp | exact mcm _ hp | exact mcm _ (mcm _ hp) | (simp only [List.mem_cons, List.mem_append]; simp [hp]))); (case hy => exact words_ne _ (by assumption)); (case hm => omega); k_whole) | (refine' use_readBox ?F ?N ?X ?T ?rm ?lc ?hfr ?ho ?S ?hm ?_; (case rm => k_extra "x1"); (case F => k_asm); (case N => k_asm); (case X => k_asm); (case T => k_asm); (case lc => assumption); (case S => exact ⟨_, by assumption⟩); (case hfr => k_extra "fr"); (case ho => (intro p hp; first | (with_reducible exact hp) | ((repeat (with_reducible (first | exact hp | refine' mcm _ ?_ | refine' mal _ ?_))); done) | exact hp | exact mcm _ hp | exact mcm _ (mcm _ hp) | (simp only [List.mem_cons, List.mem_append]; simp [hp]))); (case hm => omega); k_whole)); intro c' own' b1' h' tk' F' N' lc' st' hp'; (obtain ⟨⟨D', S'⟩, v'⟩ := hp'); k_extra "x37")
 k_with "L152" => (k_here; (with_reducible show wpAny _ _ (call (Value.ref 1601) [Value.ref _]) _ _ _); k_dflt (refine' use_shownL ?F ?N ?X ?T ?rm ?lc ?ho ?hv ?_; (case hv => assumption); (case rm => k_extra "x1"); (case F => k_asm); (case N => k_asm); (case X => k_asm); (case T => k_asm); (case lc => assumption); (case ho => (intro p hp; first | (with_reducible exact hp) | ((repeat (with_reducible (first | exact hp | refine' mcm _ ?_ | refine' mal _ ?_))); done) | exact hp | exact mcm _ hp | exact mcm _ (mcm _ hp) | (simp only [List.mem_cons, List.mem_append]; simp [hp]))); k_whole); intro v' h' tk' F' N' fg')
 k_with "L153" => (k_here; (with_reducible show wpAny _ _ (call (Value.ref 1606) [Value.ref _, Value.str _ _, Value.bool _]) _ _ _); k_dflt (refine' use_foundL ?F ?N ?X ?T ?rm ?lc ?ho ?hp ?hz ?hw ?hy ?_; (case rm => k_extra "x1"); (case F => k_asm); (case N => k_asm); (case X => k_asm); (case T => k_asm); (case lc => assumption); (case ho => (intro p hp; first | (with_reducible exact hp) | ((repeat (with_reducible (first | exact hp | refine' mcm _ ?_ | refine' mal _ ?_))); done) | exact hp | exact mcm _ hp | exact mcm _ (mcm _ hp) | (simp only [List.mem_cons, List.mem_append]; simp [hp]))); (case hp => assumption); (case hw => assumption); (case hz => omega); (case hy => assumption); k_whole); intro v' h' tk' F' N' fg')
 k_with "L154" => (k_here; (with_reducible show wpAny _ _ (call (Value.ref 1611) [Value.ref _, Value.str _ _, _]) _ _ _); k_dflt (refine' use_afterL ?F ?N ?X ?T ?rm ?lc ?hfr ?ho ?S ?hp ?hv ?hz ?_; (case rm => k_extra "x1"); (case F => k_asm); (case N => k_asm); (case X => k_asm); (case T => k_asm); (case lc => assumption); (case S => exact ⟨_, by assumption⟩); (case hfr => k_extra "fr"); (case ho => (intro p hp; first | (with_reducible exact hp) | ((repeat (with_reducible (first | exact hp | refine' mcm _ ?_ | refine' mal _ ?_))); done) | exact hp | exact mcm _ hp | exact mcm _ (mcm _ hp) | (simp only [List.mem_cons, List.mem_append]; simp [hp]))); (case hp => assumption); (case hv => first | exact figN | exact figI); (case hz => omega); k_whole); intro pl' own' b1' h' tk' F' N' lc' st' hp'; (obtain ⟨⟨D', S'⟩, rt', p1', p2'⟩ := hp'); (replace rt' := rt' _ _ _ (by assumption)); k_extra "x52"; (simp only [List.cons_append, List.nil_append] at N'); (have ob' := LC.off lc'))
 k_with "L155" => (k_here; (with_reducible show wpAny _ _ (call (Value.ref 1621) [Value.ref _, Value.ref _]) _ _ _); k_dflt (first | (refine' use_isL ?F ?N ?X ?T ?rm ?lc ?ho ?R ?hp ?hw ?hz ?_; (case rm => k_extra "x1"); (case F => k_asm); (case N => k_asm); (case X => k_asm); (case T => k_asm); (case lc => assumption); (case ho => (intro p hp; first | (with_reducible exact hp) | ((repeat (with_reducible (first | exact hp | refine' mcm _ ?_ | refine' mal _ ?_))); done) | exact hp | exact mcm _ hp | exact mcm _ (mcm _ hp) | (simp only [List.mem_cons, List.mem_append]; simp [hp]))); (case R => assumption); (case hp => assumption); (case hw => first | assumption | exact setO_words (by assumption) (by assumption)); (case hz => first | omega | exact Nat.le_trans setO_len (by omega)); k_whole) | (refine' use_isOld ?F ?N ?X ?T ?rm ?lc ?ho ?S ?hp ?hw ?hz ?_; (case rm => k_extra "x1"); (case F => k_asm); (case N => k_asm); (case X => k_asm); (case T => k_asm); (case lc => assumption); (case ho => (intro p hp; first | (with_reducible exact hp) | ((repeat (with_reducible (first | exact hp | refine' mcm _ ?_ | refine' mal _ ?_))); done) | exact hp | exact mcm _ hp | exact mcm _ (mcm _ hp) | (simp only [List.mem_cons, List.mem_append]; simp [hp]))); (case S => exact ⟨_, by assumption⟩); (case hp => assumption); (case hw => first | assumption | exact setO_words (by assumption) (by assumption)); (case hz => first | omega | exact Nat.le_trans setO_len (by omega)); k_whole)); intro t' h' tk' F' N' ht')
 k_with "L156" => (k_here; (with_reducible show wpAny _ _ (call (Value.ref 1635) [Value.ref _, Value.str _ _, Value.str _ _, _, Value.bool _]) _ _ _); k_dflt (first | (refine' use_setRow ?F ?N ?X ?T ?rm ?lc ?hfr ?ho ?S ?hv ?hy ?hn ?hz ?_; (case rm => k_extra "x1"); (case F => k_asm); (case N => k_asm); (case X => k_asm); (case T => k_asm); (case lc => assumption); (case S => exact ⟨_, by assumption⟩); (case hfr => k_extra "fr"); (case ho => (intro p hp; first | (with_reducible exact hp) | ((repeat (with_reducible (first | exact hp | refine' mcm _ ?_ | refine' mal _ ?_))); done) | exact hp | exact mcm _ hp | exact mcm _ (mcm _ hp) | (simp only [List.mem_cons, List.mem_append]; simp [hp]))); (case hv => first | exact figN | exact figI); (case hy => exact words_ne _ (by assumption)); (case hn => omega); (case hz => omega); k_whole; intro c' dx' own' b1' h' tk' F' N' lc' st' hp'; (obtain ⟨⟨D', S'⟩, rt'⟩ := hp')) | (refine' use_setBox ?F ?N ?X ?T ?rm ?lc ?hfr ?ho ?S ?hv ?hn ?_; (case rm => k_extra "x1"); (case F => k_asm); (case N => k_asm); (case X => k_asm); (case T => k_asm); (case lc => assumption); (case S => exact ⟨_, by assumption⟩); (case hfr => k_extra "fr"); (case ho => (intro p hp; first | (with_reducible exact hp) | ((repeat (with_reducible (first | exact hp | refine' mcm _ ?_ | refine' mal _ ?_))); done) | exact hp | exact mcm _ hp | exact mcm _ (mcm _ hp) | (simp only [List.mem_cons, List.mem_append]; simp [hp]))); (case hv => first | exact figN | exact figI); (case hn => omega); k_whole; intro own' b1' h' tk' F' N' lc' st' hp'; (obtain ⟨D', S'⟩ := hp'))); k_extra "x52"; k_extra "x37")
 k_with "L157" => (k_here; (with_reducible show wpAny _ _ (call (Value.ref 915) [Value.ref _, Value.str _ _, Value.ref _]) _ _ _); k_dflt (refine' use_defRow ?F ?N ?X ?T ?rm ?lc ?hfr ?ho ?S ?R ?hn ?_; (case rm => k_extra "x1"); (case F => k_asm); (case N => k_asm); (case X => k_asm); (case T => k_asm); (case lc => assumption); (case S => exact ⟨_, by assumption⟩); (case hfr => k_extra "fr"); (case ho => (intro p hp; first | (with_reducible exact hp) | ((repeat (with_reducible (first | exact hp | refine' mcm _ ?_ | refine' mal _ ?_))); done) | exact hp | exact mcm _ hp | exact mcm _ (mcm _ hp) | (simp only [List.mem_cons, List.mem_append]; simp [hp]))); (case R => assumption); (case hn => omega); k_whole); intro own' b1' h' tk' F' N' lc' st' hp'; (obtain ⟨D', S'⟩ := hp'); k_extra "x37")
 k_with "L158" => (k_here; with_reducible first | (refine' ite_bt ?hz158 ?_; (case hz158 => assumption)) | (refine' ite_bf ?hz158 ?_; (case hz158 => assumption)) | refine' ite_nn ?_)
 k_with "L159" => (k_here; (with_reducible show wpAny _ _ (compareOp CmpOp.Eq (Value.int _ _) (Value.int 3 _)) _ _ _); k_dflt (refine' eq3_split ?lz159 ?_ ?_; (case lz159 => with_reducible assumption)); all_goals intro e')
 k_with "L160" => (k_here; k_dflt (refine' ne_same ?_))
 k_with "gB61call builtin:dict.get" => k_extra "L147"
 k_with "gB61subscriptTail Name Call ref int" => k_extra "L148"
 k_with "gB61compareOp NotEq" => k_extra "L149"
 k_with "gB61call ref" => first | k_extra "L157" | k_extra "L156" | k_extra "L155" | k_extra "L154" | k_extra "L153" | k_extra "L152" | k_extra "L151" | k_extra "L150"
 k_with "gB61ite" => k_extra "L158"
 k_with "gB61compareOp Eq int int" => k_extra "L159"
 k_with "gB61compareOp NotEq int int" => k_extra "L160"
 trivial
theorem law_turn {oW oB : Obj} (dW : oW.data = Data.cell (some (.ref wl))) (dB : oB.data = Data.cell (some (.ref bl))) (rm : Rm 29 d u) (X : (K0 w.params).In h₀) (T : TopRead p loose mg mb h₀) (lo : (ib == sysModules) = false) (hn : ∀ a ∈ [bl, ib, wl, L + 1 + 1, L + 1], h₀.get? a = none) (ne1 : @Ne Nat bl ib) (ne2 : @Ne Nat bl wl) (ne3 : @Ne Nat bl (L + 1 + 1)) (ne4 : @Ne Nat bl (L + 1)) (ne5 : @Ne Nat ib wl) (ne6 : @Ne Nat ib (L + 1 + 1)) (ne7 : @Ne Nat ib (L + 1)) (ne8 : @Ne Nat wl (L + 1 + 1)) (ne9 : @Ne Nat wl (L + 1)) {Q : Flow → Shared → Prop} (hi : i < 17) (J : LJ w h₀ bl ib [(wl, W.listOf (wordsV t1 t2 t3 t4 t5).toArray 0), (L + 1 + 1, oW), (L + 1, oB)] I ge gfr b bf (lawM L I b ib D sl) i m H) :
  ∃ mtO : List (Addr × Obj), (∀ p ∈ mtO, H.get? p.1 = some p.2) ∧ (∀ p ∈ mtO, h₀.get? p.1 = none) ∧
   ∀ h tk own It oI, oI.cls = .type "range_iterator" → Fr h₀ L h (fun y => if y = Str.ofString "lap" then some (.int (0 + (i : Int)) t) else m y) → News h₀ L h ((It, oI) :: (mtO ++ own)) → OwnOff own (It :: adrs mtO) → Cov (hideAll H (adrs mtO)) h₀ own → H.get? It = none →
    wpAny (model thePr w) (AA d u) (execs lapBody (lawEnv L)) (TurnC h₀ L [(It, oI)] It (LJ w h₀ bl ib [(wl, W.listOf (wordsV t1 t2 t3 t4 t5).toArray 0), (L + 1 + 1, oW), (L + 1, oB)] I ge gfr b bf (lawM L I b ib D sl) (i + 1)) { s with heap := h, toks := tk } Q) E { s with heap := h, toks := tk } := by
 refine J _ ?_
 clear J
 intro pl foot n rv ps ins us l nb od kvs hm hpl hfx hbl hius hz hib hod hins hkl S hP hw hn2 hps hold hwi
 refine ⟨(bl, listOf us.toArray nb) :: (ib, od) :: [(wl, W.listOf (wordsV t1 t2 t3 t4 t5).toArray 0), (L + 1 + 1, oW), (L + 1, oB)], fcons hbl (fcons hib hfx), ?_, ?_⟩
 ·exact fcons (hn _ (.head _)) (fcons (hn _ (mem_at 1 rfl)) (fcons (hn _ (mem_at 2 rfl)) (fcons (hn _ (mem_at 3 rfl)) (fcons (hn _ (mem_at 4 rfl)) fN))))
 intro h tk own It oI hc Ft Nt off cov hIt
 have nI1 : @Ne Nat It bl := fun e => by rw [e, hbl] at hIt; cases hIt
 have nI2 : @Ne Nat It ib := fun e => by rw [e, hib] at hIt; cases hIt
 have nI3 : @Ne Nat It wl := fun e => by rw [e, hfx _ (.head _)] at hIt; cases hIt
 have nI4 : @Ne Nat It (L + 1 + 1) := fun e => by rw [e, hfx _ (mem_at 1 rfl)] at hIt; cases hIt
 have nI5 : @Ne Nat It (L + 1) := fun e => by rw [e, hfx _ (mem_at 2 rfl)] at hIt; cases hIt
 have lc : LC h₀ (hideAll H (bl :: ib :: adrs [(wl, W.listOf (wordsV t1 t2 t3 t4 t5).toArray 0), (L + 1 + 1, oW), (L + 1, oB)])) [It, bl, ib, wl, L + 1 + 1, L + 1] own foot := ⟨off, cov, hold⟩
 clear cov hold hIt hfx hbl hib
 generalize hideAll H (bl :: ib :: adrs [(wl, W.listOf (wordsV t1 t2 t3 t4 t5).toArray 0), (L + 1 + 1, oW), (L + 1, oB)]) = b₁ at S hP lc
 rw [locN lawNames hm] at Ft
 simp only [lawNames, List.foldr, hpl] at Ft
 dsimp only [adrs, List.map_cons, List.map_nil] at off
 dsimp only [List.cons_append, List.nil_append] at Nt
 k_extra "x192"
 refine LSok.told S ?_
 intro gdx' q2' kt' nt' pa' lk' bdx' q3' kt3' nt3' pa3' lk3' x1' x2' x3' x4' x5' x6' x7' x8' x9' x10' x11' x12' x13'
 w_on
 (try fold_depth)
 rename Fr _ _ _ _ => Ft
 rename News _ _ _ _ => Nt
 k_steps
 all_goals
  (try unfold Stop)
  rename Fr _ _ _ _ => Fz
  rename News _ _ _ _ => Nz
  refine' lap_end (fx := [(wl, W.listOf (wordsV t1 t2 t3 t4 t5).toArray 0), (L + 1 + 1, oW), (L + 1, oB)]) ?hf Fz Nz ?lc ?nI ?S ?hP ?hi ?hz ?hd ?hins ?hkl ?hw ?hwi ?hn ?hps ?hpl ?hm
  case hf => first | exact .inl rfl | exact .inr rfl
  case lc => assumption
  case nI => exact fcons (Ne.symm nI1) (fcons (Ne.symm nI2) (fcons (Ne.symm nI3) (fcons (Ne.symm nI4) (fcons (Ne.symm nI5) fN))))
  case S => assumption
  case hpl => first | exact rfl | (simp +zetaDelta [hpl]; done)
  case hP => assumption
  case hi => assumption
  case hz => assumption
  case hd => assumption
  case hins => first | assumption | exact InsAt.stored hins figN | exact InsAt.stored hins figI
  case hkl => first | omega | (refine Nat.le_trans (len_stored _ _ _) ?_; omega)
  case hw => first | assumption | exact setO_words (by assumption) (by assumption)
  case hwi => first | assumption | exact insS_words (by assumption) (by assumption)
  case hn => omega
  case hps => first | omega | (refine Nat.le_trans setO_len ?_; omega)
  case hm => first | (repeat (first | exact fun _ _ => rfl | refine upd_out (by tb_rel) ?_)); done
end
local macro_rules |`(tactic|walk_at "")=>`(tactic|skip)
section
local macro_rules | `(tactic| walk_at $s:str) => hk ["gB60", "c3", "c2", "c0"] s
section
variable {fr : List (Addr × Obj)}
include F N X T in
theorem use_beans {l : List Int} (rm : Rm 2 d u) (hl : h₀.IsList sl us.toArray) (hi : IntsAre us l) (hz : l.length ≤ 63) (k : ∀ bl us' l' n' h' tk, Fr h₀ L h' m → let nw := (bl, listOf (List.toArray us') n') :: news; News h₀ L h' nw → (∀ p ∈ news, p.1 ≠ bl) → IntsAre us' l' → us'.length ≤ 140 → Q (.ref bl) { s with heap := h', toks := tk }) :
  wc w d u 1580 [.ref sl] Q E s :=
 use_pure rm F N (beans_ X T F.keep (IsList.mono hl F.keep) hi hz) fun v h' tk F' N' _ ⟨bl, us', l', n', e, n1, g1, i, z⟩ => by
  subst e; exact k bl us' l' n' h' tk F' (news_new F N' n1 g1) (ne_news N n1) i z
theorem mem_pull {α : Type} {x : α} {pre post : List α} : ∀ p ∈ x :: (pre ++ post), p ∈ pre ++ x :: post := fun p hp => by
 rcases mc1 hp with rfl | hp
 ·exact mar _ (.head _)
 ·rcases ma1 hp with hp | hp
  ·exact mal _ hp
  ·exact mar _ (.tail _ hp)
theorem keepT {α : Type} {t a b c : α} {pre own : List α} : ∀ p ∈ a :: b :: c :: own, p ∈ t :: a :: b :: c :: (pre ++ own) := fun p hp => by
 simp only [List.mem_cons, List.mem_append] at hp ⊢
 rcases hp with h | h | h | h <;> simp [h]
theorem memT {α : Type} {t a b c e p : α} {pre own : List α} (h : p ∈ pre) : p ∈ t :: a :: b :: c :: e :: (pre ++ own) := .tail _ (.tail _ (.tail _ (.tail _ (.tail _ (mal _ h)))))
theorem nm_lt {l : List Addr} (h : ∀ a ∈ l, @Ne Nat x a) : x ∉ l := fun q => h _ q rfl
theorem small5 (h0 : 0 ≤ z) (h1 : z < 100) : Builtin.Range.small 0 z 1 = true ∧ Builtin.Range.rangeSize 0 z 1 = (z.toNat : Int) :=
 ⟨small_one (by decide) (by decide) (by omega) (by omega), by rw [rangeSize_one]; split <;> omega⟩
theorem strs_of (h : StrsAre vs xs) : Strs vs xs := by
 induction h with
 | nil => exact .nil
 | cons x t _ ih => exact .cons x t ih
theorem eq_sortedL {ys k1 k2 : List Str} (ha : s.heap.IsList a vs.toArray) (hb : s.heap.IsList b us.toArray) (h1 : StrsAre vs xs) (h2 : StrsAre us ys) (p1 : xs.Perm k1) (p2 : ys.Perm k2) (e : k1 = k2) (s1 : sortedS xs = true) (s2 : sortedS ys = true) (hok : ∀ x ∈ k1, PyData.strOk x = true) (hu : A.units + 64 < cLine) (h : Q (.bool true) s) : wpAny (model thePr w) A (compareOp .Eq (.ref a) (.ref b)) Q E s := by
 subst e
 have : xs = ys := sorted_same (p1.trans p2.symm) s1 s2
 subst this
 exact eq_strsL ha hb (strs_of h1) (strs_of h2) (fun x hx => hok x (p1.mem_iff.mp hx)) hu h
theorem valRef {c : Value} (h : ValAt H c fo) : ∃ a, c = .ref a := by
 cases fo with
 | none => refine o4_2 h fun a dx hs t zq4 _ => ?_; clear h; subst zq4; exact ⟨a, rfl⟩
 | some n => refine o5_2 h fun a dx tk il t zq5 _ => ?_; clear h; subst zq5; exact ⟨a, rfl⟩
theorem memDrop {α : Type} {x : α} {pre rest own : List α} : ∀ p ∈ pre ++ rest, p ∈ pre ++ x :: (rest ++ own) := fun p hp => by
 rcases ma1 hp with hp | hp
 ·exact mal _ hp
 ·exact mar _ (.tail _ (mal _ hp))
theorem pairs_start {hidA : List Addr} (F : Fr h₀ L h m) (N : News h₀ L h news) (hf : ∀ p ∈ fr, p ∈ news) (ho : ∀ p ∈ own, p ∈ news) (hD : (D, LCg.lst ys) ∈ news) (hDf : D ∉ adrs fr) (off : OwnOff own (adrs fr)) (cov : Cov (hideAll H hidA) h₀ own) (pl : PL (hideAll H hidA) ys ps) : PairsAt (hideAll h (L :: adrs fr)) D ps := by
 have st : (hideAll H hidA).StaysIn (hideAll h (L :: adrs fr)) := fun a o e => by
  rcases cov a o e with e' | e'
  ·refine hideAll_get _ (F.keep _ _ e') fun q => ?_
   rcases mc1 q with q | q
   ·exact absurd (Heap.lt_size e') (q ▸ Nat.not_lt.mpr F.above)
   ·refine o1_2 (List.mem_map.mp q) fun z hz e2 => ?_
    have := (N z (hf z hz)).2.2
    rw [e2, e'] at this; cases this
  ·have n := N _ (ho _ e')
   refine hideAll_get _ n.1 fun q => ?_
   rcases mc1 q with q | q
   ·exact n.2.1 q
   ·exact off _ e' a q rfl
 have n := N _ hD
 exact pairs_iff.mpr ⟨ys, lst_get (hideAll_get _ n.1 fun q => (mc1 q).elim n.2.1 hDf), pl.mono st⟩
include F N X T in
theorem use_listP (rm : Rm 6 d u) (hf : ∀ p ∈ fr, p ∈ news) (hp : PairsAt (hideAll s.heap (L :: adrs fr)) D ps) (hw : ∀ q ∈ ps, q.1 ∈ words5) (hz : ps.length ≤ 900) (k : ∀ x dx hs tk2 il at_ own' b₁' h' tk, Fr h₀ L h' m → News h₀ L h' ((dx, vecD hs (.str "list" tk2) (.ref il) at_ (.bool false) (.bool false)) :: (fr ++ own')) → OwnOff own' (dx :: adrs fr) → Cov b₁' h₀ own' → b₁'.get? x = some (instObj 182 dx) → PairsAt b₁' D ps → RowRest w b₁' il at_ ps → (∀ p ∈ fr, p.1 ≠ dx) → Q (.ref x) { s with heap := h', toks := tk }) :
  wc w d u 1616 [.ref D] Q E s := by
 refine (list_ (r := s.heap) (r' := hideAll s.heap (L :: adrs fr)) (X.keeps F.keep) (T.keeps F.keep) (fun _ _ e => e) hid_stay hp (fun q hq => words_ok _ (hw q hq)) (fun q hq => words_ne _ (hw q hq)) hz).use rm fun v h' tk' hk hp' => ?_
 refine o6_7 hp' fun x dx hs tk2 il at_ zq6 n1 n2 n3 g1 g2 tell => ?_
 clear hp'
 subst zq6
 have F' : Fr h₀ L h' m := hk.fr F N fun _ h => nomatch h
 have N' : News h₀ L h' ((dx, vecD hs (.str "list" tk2) (.ref il) at_ (.bool false) (.bool false)) :: fr) := news_new F (fun p hp => ⟨hk.pure _ _ (N p (hf p hp)).1, (N p (hf p hp)).2⟩) n2 g2
 refine o1_3 (recover F' N') fun own' Nz off cov => ?_
 have hfr : ∀ p ∈ fr, p.1 ≠ dx := fun p hp => ne_of_get (N p (hf p hp)).1 n2
 k_extra "x202"
 have up : (hideAll s.heap (L :: adrs fr)).StaysIn (hideAll h' (L :: dx :: adrs fr)) := fun a o e => by
  refine o0_2 (hid_of e) fun e1 e2 => ?_
  refine hideAll_get _ (hk.pure _ _ e1) fun q => ?_
  rcases mc1 q with q | q
  ·exact e2 (q ▸ .head _)
  ·rcases mc1 q with q | q
   ·rw [q, n2] at e1; cases e1
   ·exact e2 (.tail _ q)
 have new : ∀ a o, s.heap.get? a = none → a ≠ dx → h'.get? a = some o → (hideAll h' (L :: dx :: adrs fr)).get? a = some o := fun a o e0 e1 e => hideAll_get _ e fun q => by
  rcases mc1 q with q | q
  ·rw [q, hoL] at e0; cases e0
  ·rcases mc1 q with q | q
   ·exact e1 q
   ·refine o1_2 (List.mem_map.mp q) fun z hz2 e2 => ?_
    have := (N z (hf z hz2)).1
    rw [e2, e0] at this; cases this
 exact k x dx hs tk2 il at_ own' _ h' tk' F' Nz off cov (new _ _ n1 (Ne.symm n3) g1) (hp.mono up) (tell _ ⟨up, new⟩) hfr
theorem env_rows {de f lk : Addr} (N : News h₀ L h news) (m1 : (e, instObj 247 de) ∈ news) (m2 : (de, envD q kt nt num pa f lk) ∈ news) (m3 : (lk, ol) ∈ news) (n1 : @Ne Nat e f) (n2 : @Ne Nat de f) (n3 : @Ne Nat lk f) (lo : (lk == sysModules) = false) (dk : ol.IsDictOf (strKind thePr w) []) : EnvAt w (hideAll h [f]) e num f :=
 ⟨de, q, kt, nt, pa, lk, ol, hideAll_get _ (N _ m1).1 (nm1 n1), hideAll_get _ (N _ m2).1 (nm1 n2), hideAll_get _ (N _ m3).1 (nm1 n3), lo, dk⟩
theorem ls_start {as0 : List Addr} {gdx glk bdx blk : Addr} {q2 q3 : Hq} {v : Nat → Value} {num3 : Int} {tn kt3 nt3 tk2 : Nat} {pa3 at_ : Value} {glo blo : Obj} (hb : h₀.StaysIn H) (hcov : Cov b₁ h₀ own) (hown : ∀ p ∈ own, H.get? p.1 = some p.2) (off : OwnOff own as0) (sub : ∀ a ∈ as ++ [dI, gfr, dx, bf], a ∈ as0) (h0 : ∀ a ∈ as ++ [dI, gfr, dx, bf], h₀.get? a = none) (hr : ∀ p ∈ [(I, instObj 1569 dI), (ge, instObj 247 gdx), (gdx, envD q2 kt nt num2 pa gfr glk), (glk, glo), (b, instObj 247 bdx), (bdx, envD q3 kt3 nt3 num3 pa3 bf blk), (blk, blo)], H.get? p.1 = some p.2) (hn : ∀ a ∈ [I, ge, gdx, glk, b, bdx, blk], a ∉ as ++ [dI, gfr, dx, bf]) (hn2 : ∀ a ∈ [dI, gfr, dx, bf], a ∉ as) (nIG : @Ne Nat dI gfr) (nIV : @Ne Nat dI dx) (nIB : @Ne Nat dI bf) (nGV : @Ne Nat gfr dx) (nGB : @Ne Nat gfr bf) (nVB : @Ne Nat dx bf) (ev : H.get? dI = some (evN q v num tn (.ref ge) true)) (h13 : v 13 = .none) (hg : H.get? gfr = some gfo) (hd : H.get? dx = some (vecD hs (.str "list" tk2) (.ref il) at_ (.bool false) (.bool false))) (hbf : H.get? bf = some bfo) (lo1 : (gfr == sysModules) = false) (lo2 : (glk == sysModules) = false) (lo3 : (bf == sysModules) = false) (lo4 : (blk == sysModules) = false) (d1 : gfo.IsDictOf (strKind thePr w) kvs) (d2 : glo.IsDictOf (strKind thePr w) []) (d3 : bfo.IsDictOf (strKind thePr w) []) (d4 : blo.IsDictOf (strKind thePr w) []) (gk : GK x b 2 kvs) (hx : b₁.get? x = some (instObj 182 dx)) (rest : RowRest w b₁ il at_ ps) :
  LS w h₀ (hideAll H as) [dI, gfr, dx, bf] 2 I ge gfr b bf x ps [] ∧ b₁.StaysIn (hideAll (hideAll H as) [dI, gfr, dx, bf]) := by
 have get : ∀ a o, H.get? a = some o → a ∉ as ++ [dI, gfr, dx, bf] → (hideAll (hideAll H as) [dI, gfr, dx, bf]).get? a = some o := fun a o e n =>
  hideAll_get _ (hideAll_get _ e fun q => n (mal _ q)) fun q => n (mar _ q)
 have sb : b₁.StaysIn (hideAll (hideAll H as) [dI, gfr, dx, bf]) := fun a o e => by
  rcases hcov a o e with e' | e'
  ·exact get _ _ (hb _ _ e') fun q => by rw [h0 a q] at e'; cases e'
  ·exact get _ _ (hown _ e') fun q => off _ e' a (sub a q) rfl
 have sh : h₀.StaysIn (hideAll (hideAll H as) [dI, gfr, dx, bf]) := fun a o e => get _ _ (hb _ _ e) fun q => by rw [h0 a q] at e; cases e
 refine ⟨⟨{ dI := dI, q := q, v := fun i => match i with | 3 => .int num tn | i => v i, vis := true, gnum := num2, gfo := gfo, kvs := kvs, dv := dx, hs := hs, tk := tk2, il := il, at_ := at_, sh := false, bnum := num3, bfo := bfo, bkv := [] }, ?_⟩, sb⟩
 exact { base := sh, fI := .head _, fG := mem_at 1 rfl, fV := .tail _ (mem_at 1 rfl), fB := .tail _ (mem_at 2 rfl), nIG := nIG, nIV := nIV, nIB := nIB, nGV := nGV, nGB := nGB, nVB := nVB, inst := get _ _ (hr _ (.head _)) (hn _ (.head _)), ev := hideAll_get _ ev (hn2 _ (.head _)), v13 := h13, env := ⟨gdx, q2, kt, nt, pa, glk, glo, get _ _ (hr _ (mem_at 1 rfl)) (hn _ (mem_at 1 rfl)), get _ _ (hr _ (mem_at 2 rfl)) (hn _ (mem_at 2 rfl)), get _ _ (hr _ (mem_at 3 rfl)) (hn _ (mem_at 3 rfl)), lo2, d2⟩, fr := hideAll_get _ hg (hn2 _ (mem_at 1 rfl)), loG := lo1, dG := d1, gk := gk, row := sb _ _ hx, vec := hideAll_get _ hd (hn2 _ (mem_at 2 rfl)), rest := rest.mono sb, envB := ⟨bdx, q3, kt3, nt3, pa3, blk, blo, get _ _ (hr _ (mem_at 4 rfl)) (hn _ (mem_at 4 rfl)), get _ _ (hr _ (mem_at 5 rfl)) (hn _ (mem_at 5 rfl)), get _ _ (hr _ (mem_at 6 rfl)) (hn _ (mem_at 6 rfl)), lo4, d4⟩, frB := hideAll_get _ hbf (hn2 _ (mem_at 3 rfl)), loB := lo3, dB := d3, boxB := fun _ => rfl, lenB := Nat.zero_le _, keysB := rfl }
end
theorem lines_43 : True := by
 k_with "gB60exec Assign cons ListComp" => k_extra "L70"
 k_with "gB60eval ListComp" => k_extra "L71"
 k_with "gB60pyIter ref" => first | k_extra "L73" | k_extra "L72"
 k_with "gB60eval Name" => k_extra "L74"
 k_with "gB60EltEnd" => k_extra "L75"
 k_with "gB60TurnP" => k_extra "L76"
 k_with "gB60exec For Tuple Name cons nil" => k_extra "L77"
 k_with "gB60TurnC" => k_extra "L146"
 trivial
local macro_rules | `(tactic| k_tabat) => `(tactic| (refine' kda_dict ?N ?m ?d; (case N => k_asm); (case m => tb_rel); (case d => assumption)))
theorem lines_44 : True := by
 k_with "L161" => (k_here; (with_reducible show wpAny _ _ (call (Value.ref 1580) [Value.ref _]) _ _ _); k_dflt (refine' use_beans ?F ?N ?X ?T ?rm ?l ?i ?z ?_; (case rm => k_extra "x1"); (case F => k_asm); (case N => k_asm); (case X => k_asm); (case T => k_asm); (case l => assumption); (case i => assumption); (case z => assumption); k_whole); intro bl' us' l' n' h' tk' F' nw' N' l1 i' z'; k_extra "x25")
 k_with "L162" => (k_here; (with_reducible show wpAny _ _ (call (Value.ref 1569) [Value.int 1000 _]) _ _ _); k_dflt (refine' new_evO ?F ?N ?X ?T ?rm ?_; (case rm => k_extra "x1"); (case F => k_asm); (case N => k_asm); (case X => k_asm); (case T => k_asm); k_whole); intro I' dI' ge' gdx' gfr' glk' oF' oK' q' v' num' tn' q2' kt' tk2' num2' pa' h' tk' F' nw' N' h13 l1 l2 l3 l4 l5 l6 lo1 lo2 d1 d2; have l7 := ltAll58 l2 l1; have l8 := ltAll58 l3 l7; have l9 := ltAll58 l4 l8; have l10 := ltAll58 l5 l9; have l11 := ltAll58 l6 l10; k_extra "x39")
 k_with "L163" => (k_extra "x69"; k_dflt (refine' use_newenv19 ?rm ?F ?N ?U ?X ?T ?h1 ?_; (case rm => k_extra "x1"); (case F => k_asm); (case N => k_asm); (case X => k_asm); (case T => k_asm); (case h1 => tb_rel); (case U => k_updF); k_whole); k_extra "x36")
 k_with "L164" => (k_here; (with_reducible show wpAny _ _ (call (Value.ref 1616) [Value.ref _]) _ _ _); refine stop_ ?_; walk_say "LIST")
 k_with "L165" => (k_extra "x63"; k_dflt (refine' use_define ?rm ?F ?N ?U ?X ?T ?he ?lo ?hd ?hz ?_; (case rm => k_extra "x1"); (case F => k_asm); (case N => k_asm); (case X => k_asm); (case T => k_asm); (case he => exact env_rows (by k_asm) (by tb_rel) (by tb_rel) (by tb_rel) (by omega) (by omega) (by omega) (by assumption) (by assumption)); (case U => k_updF); (case lo => assumption); (case hd => assumption); (case hz => first | exact Nat.zero_le _ | exact Nat.le_trans (len_stored _ _ _) (by decide)); k_whole); intro o' h' tk' F' nw' N' d'; k_extra "x29")
 k_with "L166" => (k_extra "x81"; (with_unfolding_all refine' For_invVF lF' ?k1z166 ?k2z166 ?_; (case k1z166 => exact rfl); (case k2z166 => exact rfl); k_whole))
 k_with "L167" => (k_here; (with_reducible show wpAny _ _ (call (Value.builtin "sorted") [Value.ref _]) _ _ _); k_dflt (refine' sorted_dictS ?hhz167 ?Fz167 ?Nz167 ?Dz167 ?loz167 ?zz167 ?_; (case hhz167 => exact rfl); (case Fz167 => k_asm); (case Nz167 => k_asm); (case Dz167 => k_tabat); (case loz167 => assumption); (case zz167 => omega); k_whole); intro D' h' tk' vs' ss' e' F' N' l1 sa' pm' so'; k_extra "x39")
 k_with "L168" => (k_here; k_dflt (refine' eq_sortedL ?az168 ?bz168 ?cz168 ?dz168 ?pz168 ?qz168 ?ez168 ?fz168 ?gz168 ?oz168 ?uz168 ?_; (case az168 => is_list); (case bz168 => is_list); (case cz168 => assumption); (case dz168 => assumption); (case pz168 => assumption); (case qz168 => assumption); (case ez168 => assumption); (case fz168 => assumption); (case gz168 => assumption); (case oz168 => assumption); (case uz168 => exact units_l2 (by have hrmU := Rm.u (by assumption); omega)); k_whole))
 k_with "gB60call builtin:dict.get" => k_extra "L147"
 k_with "gB60subscriptTail Name Call ref int" => first | k_extra "L148" | k_extra "L148"
 k_with "gB60compareOp NotEq" => k_extra "L149"
 k_with "gB60call ref" => first | k_extra "L165" | k_extra "L164" | k_extra "L150" | k_extra "L163" | k_extra "L162" | k_extra "L161" | k_extra "L157" | k_extra "L156" | k_extra "L155" | k_extra "L154" | k_extra "L153" | k_extra "L152" | k_extra "L151" | k_extra "L150"
 k_with "gB60exec For Name Name cons nil" => k_extra "L166"
 k_with "gB60call builtin:sorted" => k_extra "L167"
 k_with "gB60compareOp Eq ref ref" => k_extra "L168"
 trivial
section
variable {r : Heap}
theorem law_ {l : List Int} (X : (K0 w.params).In r) (T : TopRead p loose mg mb r) (st : r.StaysIn s.heap) (hl : s.heap.IsList sl us.toArray) (hi : IntsAre us l) (hz : l.length ≤ 63) :
  Does w 30 (.ref 1640) ⟨[.ref sl], []⟩ (adrs []) s fun rv h' => rv = .bool true := by
 w_on
 refine' does_def_c (mt := []) (binds := [("script", Value.ref sl)]) X T st ?hm ?hr ?ho ?hcd ?hbind ?hkind ?hnd ?_ ?hco ?hgen ?hk ?hl
 k_extra "x111"
 k_extra "x214"
 k_extra "x149"
 have bl' := (); have I' := (); have dI' := (); have ge' := (); have gdx' := (); have gfr' := (); have glk' := (); have oF' := (); have oK' := (); have q' := (); have v' := (); have num' := (); have tn' := (); have q2' := (); have kt' := (); have tk2' := (); have num2' := (); have pa' := (); have l1 := (); have us' := (); have l' := (); have n' := (); have z' := (); have t' := (); have i' := (); have hz' := (); have h1 := (); have h2 := ()
 rename_i bl us1 l1 n1 _ _ _ _ i1 z1 _ _ _ _ o1 d1o _ I dI ge gdx gfr glk oF oK q v num tn q2 kt tk2b num2 pa _ _ _ l1b _ _ _ _ _ _ tk1 wl _ l1c _ _ _ _ oW dW _ us2 l2' n2 z t i2 hz2 hz1 hz5 _ _ F1 N1 h'' _ _ _ _ R F2 N2 st2
 clear bl' I' dI' ge' gdx' gfr' glk' oF' oK' q' v' num' tn' q2' kt' tk2' num2' pa' l1 us' l' n' z' t' i' hz' h1 h2
 clear F1 N1
 have hsz := small5 hz1 (by omega)
 obtain ⟨fx, hfx⟩ : ∃ fx : List (Addr × Obj), fx = [(wl, W.listOf (wordsV tk1 (tk1 + 1) (tk1 + 1 + 1) (tk1 + 1 + 1 + 1) (tk1 + 1 + 1 + 1 + 1)).toArray 0), (I, instObj 1569 dI), (dI, evN q v num tn (.ref ge) true), (ge, instObj 247 gdx), (gdx, envD q2 kt tk2b num2 pa gfr glk), (gfr, oF), (glk, oK), (L' + 1 + 1, oW), (L' + 1, o1)] := ⟨_, rfl⟩
 have N3 : News g L' h'' ((bl, W.listOf us2.toArray n2) :: fx) := by
  rw [hfx]
  exact fun p hp => N2 p (mem_pull (pre := [_, _, _, _, _, _, _]) (post := [_, _]) p hp)
 clear N2
 let J1 : Nat → List Value → Heap → Prop := fun i ys H => ∃ (us : List Value) (l : List Int) (nb : Nat) (ps : List (Str × Int)), H.get? bl = some (listOf us.toArray nb) ∧ IntsAre us l ∧ us.length ≤ 140 ∧ PL (hideAll H (bl :: adrs fx)) ys ps ∧ ps.length = i ∧ (∀ q ∈ ps, q.1 ∈ words5) ∧ ∀ p ∈ fx, H.get? p.1 = some p.2
 refine comp_range_h (L := L') (n := z.toNat) (J := J1) rfl R hsz.1 hsz.2 (by omega) F2 N3 ?mono ?h0 (fun I => bind_name rfl rfl) ?turn ?done
 case mono =>
  intro i ys a b hz1 st'
  refine o4_7 hz1 fun us l nb ps e1 e2 e3 e4 e5 e6 e7 => ?_
  clear hz1
  exact ⟨us, l, nb, ps, st' _ _ e1, e2, e3, e4.mono (fun a o e => hideAll_get _ (st' _ _ (hid_of e).1) (hid_of e).2), e5, e6, fun p hp => st' _ _ (e7 p hp)⟩
 case h0 =>
  intro H _ hN
  exact ⟨us2, l2', n2, [], hN _ (.head _), i2, hz2, .nil, rfl, fN, fun p hp => hN p (.tail _ hp)⟩
 case turn =>
  intro i v ys H hi hz1 hz2
  refine o1_1 hz1 fun tv zq1 => ?_
  clear hz1
  subst zq1
  refine o4_7 hz2 fun us l nb ps e1 e2 e3 e4 e5 e6 e7 => ?_
  clear hz2
  refine ⟨(bl, listOf us.toArray nb) :: fx, fcons e1 e7, fcons ((N3 _ (.head _)).2.2) (fun p hp => (N3 p (.tail _ hp)).2.2), ?_⟩
  rintro h tk own Iz oIz C oC D m₂ E' hoC em Ft Nt off hIC hmI cov
  clear i1 i2 hi hz1 hz5 z1 hz2 R F2 N3 st2
  subst hfx
  dsimp only [List.cons_append, List.nil_append] at Nt
  refine o0_3 (hmI _ (.head _)) fun hb1 hb2 hb3 => ?_
  refine wpAny_tests_nil ?_
  k_steps
  rename Fr _ _ _ _ => Fe
  rename News _ _ _ _ => Ne
  rename IntsAre _ _ => ie
  rename (List.length _ ≤ 140) => ze
  rename (_ ∈ words5) => we
  rename_i D' hh l1e
  refine EltEnd.intro Fe Ne (keepT (pre := [_, _, _, _, _, _, _, _, _, _])) fun H' hs hp => ⟨_, _, _, ps ++ [(y', 100 + (i : Int))], hp (bl, _) (mem_at 4 rfl) (off3' (fcons ⟨hb1, hb2, hb3⟩ fN)), ie, ze, ?_, ?_, ?_, ?_⟩
  ·refine PL.app (e4.mono fun a o e => hideAll_get _ (hs _ _ e) (hid_of e).2) (.cons (tup_of (hideAll_get _ (hp _ (.head _) ?_) ?_)) .nil)
   all_goals (refine nm_lt ?_; (try simp only [adrs, List.map_cons, List.map_nil]); (repeat (refine fcons (by first | k_ne | ((try dsimp only); omega)) ?_)); exact fN)
  ·rw [List.length_append, e5]; rfl
  ·intro x hx
   rcases ma1 hx with hx | hx
   ·exact e6 x hx
   ·rw [ms1 hx]; exact we
  ·exact fun p hq => hp p (memT (a := (_, _)) (b := (_, _)) (c := (_, _)) (e := (_, _)) hq) (off3' (fcons (hmI p (.tail _ hq)) fN))
 case done =>
  intro ys H hz1
  refine o4_7 hz1 fun us l nb' ps e1 e2 e3 e4 e5 e6 e7 => ?_
  clear hz1
  refine ⟨(bl, listOf us.toArray nb') :: fx, fcons e1 e7, fcons ((N3 _ (.head _)).2.2) (fun p hp => (N3 p (.tail _ hp)).2.2), ?_⟩
  intro D h tk own Ft Nt off hD cov
  have hpl : ps.length ≤ 4 := by omega
  clear i1 i2 hz1 hz5 z1 hz2 R F2 N3 st2 e5
  subst hfx
  dsimp only [List.cons_append, List.nil_append] at Nt
  k_steps
  unfold Stop
  have e' := (); have dx' := (); have fr' := (); have lk' := (); have oF' := (); have oK' := (); have q' := (); have kt' := (); have t2' := (); have t3' := (); have ne' := (); have l2 := (); have l3 := (); have lo1 := (); have lo2 := (); have d1 := (); have d2 := (); have d' := (); have o' := (); have l1 := (); have lo' := (); have hs' := (); have fs' := (); have hi' := (); have fi' := ()
  rename_i b bdx bf blk oF2 oK2 q3 kt3 tn3 t33 _ ne m1 m2 m3 lo3 lo4 d3 d4 _ _ _ _ _ _ _ _ _ ib _ oi mx lo5 hs5 fs5 hi5 fi5 _ _ _ _ _ F4 N4 _ _
  clear e' dx' fr' lk' oF' oK' q' kt' t2' t3' ne' l2 l3 lo1 lo2 d1 d2 d' o' l1 lo' hs' fs' hi' fi'
  have na := fun p hp => (ne p hp).1
  have nb := fun p hp => (ne p hp).2.1
  have nc := fun p hp => (ne p hp).2.2.1
  have nd := fun p hp => (ne p hp).2.2.2
  clear ne
  have mO : ∀ p ∈ own, p.1 < ib := fun p hp => mx p (by (repeat (first | exact hp | refine mcm _ ?_)))
  have mD : @LT.lt Nat _ D ib := mx (D, LCg.lst ys) (by tb_rel)
  have offf : OwnOff own [ib, b, bdx, bf, blk, bl, wl, I, dI, ge, gdx, gfr, glk, L' + 1 + 1, L' + 1] := fun p hp z hz e => by
   rcases mc1 hz with rfl | hz
   ·exact absurd (mO p hp) (e ▸ Nat.lt_irrefl _)
   rcases mc1 hz with rfl | hz
   ·exact na p (by (repeat (first | exact hp | refine mcm _ ?_))) e
   rcases mc1 hz with rfl | hz
   ·exact nb p (by (repeat (first | exact hp | refine mcm _ ?_))) e
   rcases mc1 hz with rfl | hz
   ·exact nc p (by (repeat (first | exact hp | refine mcm _ ?_))) e
   rcases mc1 hz with rfl | hz
   ·exact nd p (by (repeat (first | exact hp | refine mcm _ ?_))) e
   exact off p hp z (.tail _ hz) e
  have rm6 : Rm 6 (d + 1) (u + 3) := Rm.g (i := 1) (j := 3) rm rfl
  have hDf : D ∉ [ib, b, bdx, bf, blk, bl, wl, I, dI, ge, gdx, gfr, glk, L' + 1 + 1, L' + 1] := nm_lt (fcons (by omega) (by repeat (first | exact fN | refine fcons (by k_ne) ?_)))
  have hf4 := memDrop (x := (D, LCg.lst ys)) (pre := [(ib, oi), (b, instObj 247 bdx), (bdx, envD q3 kt3 tn3 num (.ref ge) bf blk), (bf, oF2), (blk, oK2)]) (rest := [(bl, W.listOf us.toArray nb'), (wl, W.listOf (wordsV tk1 (tk1 + 1) (tk1 + 1 + 1) (tk1 + 1 + 1 + 1) (tk1 + 1 + 1 + 1 + 1)).toArray 0), (I, instObj 1569 dI), (dI, evN q v (num + 1) t33 (.ref ge) true), (ge, instObj 247 gdx), (gdx, envD q2 kt tk2b num2 pa gfr glk), (gfr, oF), (glk, oK), (L' + 1 + 1, oW), (L' + 1, o1)]) (own := own)
  simp only [List.cons_append, List.nil_append] at hf4
  have hp4 := pairs_start F4 N4 hf4 (fun p hp => .tail _ (.tail _ (.tail _ (.tail _ (.tail _ (.tail _ (mar [_, _, _, _, _, _, _, _, _, _] hp))))))) (by tb_rel) hDf offf cov e4
  refine use_listP F4 N4 Xg Tg rm6 hf4 hp4 e6 (by omega) ?_
  intro x dx hs tk2' il at_ own' b1' h5' tk5 F5 N5 off5 cov5 hx5 hp5 rest5 ne5
  simp only [List.cons_append, List.nil_append] at N5
  dsimp only [adrs, List.map_cons, List.map_nil] at off5
  clear F4 N4 e4 cov off offf mO hf4 hp4 hDf
  k_steps
  unfold Stop
  have o' := (); have d' := (); have us' := (); have l' := (); have n' := (); have z' := (); have t' := (); have i' := (); have hz' := (); have h1 := (); have h2 := ()
  rename_i goA _ _ dd1 _ _ _ _ goB _ _ dd2 _ _ _ us3 l3' n3 z3 t3 i3 hz3 z30 z317 _ _ FC NC _ _ _ _ _ R8 F8 N8 st8
  clear o' d' us' l' n' z' t' i' hz' h1 h2
  clear FC NC
  have hsz8 := small5 z30 (by omega)
  have rm29 : Rm 29 (d + 1) (u + 3) := Rm.g (i := 1) (j := 3) rm rfl
  have hn0 : ∀ a ∈ [bl, ib, wl, L' + 1 + 1, L' + 1], g.get? a = none := by
   repeat (first | exact fN | refine fcons ((N8 (_, _) (by tb_rel)).2.2) ?_)
  refine iter_range_h2 (n := z3.toNat) (LJ w g bl ib [(wl, W.listOf (wordsV tk1 (tk1 + 1) (tk1 + 1 + 1) (tk1 + 1 + 1 + 1) (tk1 + 1 + 1 + 1 + 1)).toArray 0), (L' + 1 + 1, oW), (L' + 1, o1)] I ge gfr b bf) rfl rfl R8 hsz8.1 hsz8.2 F8 N8 (fun _ _ _ _ J st => J.mono st) ?h0 ?turn ?done
  case h0 =>
   intro H hb hN
   have hn2 : ∀ a ∈ [dI, gfr, dx, bf], a ∉ [bl, ib, wl, L' + 1 + 1, L' + 1] := by
    refine fcons ?_ (fcons ?_ (fcons ?_ (fcons ?_ fN)))
    all_goals (refine nm_lt ?_; repeat (first | exact fN | refine fcons (by first | assumption | exact Ne.symm (by assumption) | k_ne | omega) ?_))
   have hn1 : ∀ a ∈ [I, ge, gdx, glk, b, bdx, blk], a ∉ [bl, ib, wl, L' + 1 + 1, L' + 1, dI, gfr, dx, bf] := by
    refine fcons ?_ (fcons ?_ (fcons ?_ (fcons ?_ (fcons ?_ (fcons ?_ (fcons ?_ fN))))))
    all_goals (refine nm_lt ?_; repeat (first | exact fN | refine fcons (by first | assumption | exact Ne.symm (by assumption) | k_ne | omega) ?_))
   have sub : ∀ a ∈ [bl, ib, wl, L' + 1 + 1, L' + 1, dI, gfr, dx, bf], a ∈ [dx, ib, b, bdx, bf, blk, bl, wl, I, dI, ge, gdx, gfr, glk, L' + 1 + 1, L' + 1] := by
    repeat (first | exact fN | refine fcons (by tb_rel) ?_)
   have h0n : ∀ a ∈ [bl, ib, wl, L' + 1 + 1, L' + 1, dI, gfr, dx, bf], g.get? a = none := by
    repeat (first | exact fN | refine fcons ((N8 (_, _) (by tb_rel)).2.2) ?_)
   have hst := ls_start (as := [bl, ib, wl, L' + 1 + 1, L' + 1]) (q := q) (v := v) (num := num + 1) (tn := t33) (q2 := q2) (q3 := q3) (kt := kt) (kt3 := kt3) (nt := tk2b) (nt3 := tn3) (num2 := num2) (num3 := num) (pa := pa) (pa3 := .ref ge) (I := I) (ge := ge) (gdx := gdx) (glk := glk) (b := b) (bdx := bdx) (blk := blk) (glo := oK) (blo := oK2) hb cov5 (fun p hp => hN p (by (repeat (first | exact hp | refine mcm _ ?_)))) off5 sub h0n
    (by repeat (first | exact fN | refine fcons (hN _ (by tb_rel)) ?_)) hn1 hn2 (by omega) (by first | assumption | exact Ne.symm (by assumption) | k_ne | omega) (by first | assumption | exact Ne.symm (by assumption) | k_ne | omega) (by first | assumption | exact Ne.symm (by assumption) | k_ne | omega) (by first | assumption | exact Ne.symm (by assumption) | k_ne | omega) (by first | assumption | exact Ne.symm (by assumption) | k_ne | omega)
    (hN (dI, _) (by tb_rel)) h13 (hN (gfr, _) (by tb_rel)) (hN (dx, _) (by tb_rel)) (hN (bf, _) (by tb_rel)) lo1 lo2 lo3 lo4 dd2 d2 d3 d4 ⟨va_st_ne (by decide) va_st_eq, va_st_eq, Nat.le_trans (len_stored _ _ _) (Nat.succ_le_succ (len_stored _ _ _))⟩ hx5 rest5
   exact fun _ k => k D ([dI, gfr, dx, bf]) 2 x ps [] us3 l3' n3 oi [] (fun _ _ => rfl) rfl (by repeat (first | exact fN | refine fcons (hN _ (by tb_rel)) ?_)) (hN (bl, _) (by tb_rel)) i3 hz3 (hN (ib, _) (by tb_rel)) hs5 .nil (Nat.zero_le _) hst.1 (hp5.mono hst.2) e6 (by omega) (by omega) (by (refine fcons ⟨_, hideAll_get _ (hN (dI, _) (by tb_rel)) (hn2 _ (by tb_rel))⟩ ?_; refine fcons ⟨_, hideAll_get _ (hN (gfr, _) (by tb_rel)) (hn2 _ (by tb_rel))⟩ ?_; refine fcons ⟨_, hideAll_get _ (hN (dx, _) (by tb_rel)) (hn2 _ (by tb_rel))⟩ ?_; refine fcons ⟨_, hideAll_get _ (hN (bf, _) (by tb_rel)) (hn2 _ (by tb_rel))⟩ fN)) fN
  case turn =>
   intro It i t m H hi hJ
   refine' Exists.imp ?f (law_turn dW d1o rm29 Xg Tg lo5 hn0 (by first | assumption | exact Ne.symm (by assumption) | k_ne | omega) (by first | assumption | exact Ne.symm (by assumption) | k_ne | omega) (by first | assumption | exact Ne.symm (by assumption) | k_ne | omega) (by first | assumption | exact Ne.symm (by assumption) | k_ne | omega) (by first | assumption | exact Ne.symm (by assumption) | k_ne | omega) (by first | assumption | exact Ne.symm (by assumption) | k_ne | omega) (by first | assumption | exact Ne.symm (by assumption) | k_ne | omega) (by first | assumption | exact Ne.symm (by assumption) | k_ne | omega) (by first | assumption | exact Ne.symm (by assumption) | k_ne | omega) (show i < 17 by omega) hJ)
   case f =>
    intro mtO hz1
    refine o0_3 hz1 fun h1 h2 go => ?_
    clear hz1
    exact ⟨h1, h2, fun h tk own oI hc F N off cov hI => go h tk own It oI hc F N off cov hI⟩
  case done =>
   intro m H J
   refine J _ ?_
   clear J
   intro pl foot n rv ps' ins us' l' nb od kvs hm hpl hfx hbl hius hz' hib hod hins hkl S hP hw hn2 hps hold hwi
   refine ⟨(bl, listOf us'.toArray nb) :: (ib, od) :: [(wl, W.listOf (wordsV tk1 (tk1 + 1) (tk1 + 1 + 1) (tk1 + 1 + 1 + 1) (tk1 + 1 + 1 + 1 + 1)).toArray 0), (L' + 1 + 1, oW), (L' + 1, o1)], fcons hbl (fcons hib hfx), ?_, ?_⟩
   ·exact fcons (hn0 _ (.head _)) (fcons (hn0 _ (mem_at 1 rfl)) (fcons (hn0 _ (mem_at 2 rfl)) (fcons (hn0 _ (mem_at 3 rfl)) (fcons (hn0 _ (mem_at 4 rfl)) fN))))
   intro h tk own Ft Nt off cov
   have lc : LC g (hideAll H (bl :: ib :: adrs [(wl, W.listOf (wordsV tk1 (tk1 + 1) (tk1 + 1 + 1) (tk1 + 1 + 1 + 1) (tk1 + 1 + 1 + 1 + 1)).toArray 0), (L' + 1 + 1, oW), (L' + 1, o1)])) [bl, ib, wl, L' + 1 + 1, L' + 1] own foot := ⟨off, cov, hold⟩
   have hnl : n ≤ 40 := by omega
   have hpsl : ps'.length ≤ 40 := by omega
   have hkl2 : kvs.length ≤ 40 := by omega
   clear hn2 hps hkl cov hold hfx hbl hib off N8 F8 R8 off5 cov5 hx5 hp5 rest5 hz3 z30 z317 i3 dd1 dd2 hsz8 mx
   generalize hideAll H (bl :: ib :: adrs [(wl, W.listOf (wordsV tk1 (tk1 + 1) (tk1 + 1 + 1) (tk1 + 1 + 1 + 1) (tk1 + 1 + 1 + 1 + 1)).toArray 0), (L' + 1 + 1, oW), (L' + 1, o1)]) = b₁ at S hP lc
   rw [locN lawNames hm] at Ft
   simp only [lawNames, List.foldr, hpl] at Ft
   dsimp only [List.cons_append, List.nil_append] at Nt
   refine o1_1 S fun Dd S => ?_
   refine LSok.told S ?_
   intro gdx' q2' kt' nt' pa' lk' bdx' q3' kt3' nt3' pa3' lk3' y1' y2' y3' y4' y5' y6' y7' y8' y9' y10' y11' y12' y13'
   have hbl2 : Dd.bkv.length ≤ 40 := Nat.le_trans S.lenB hnl
   have hke : Dd.bkv.map (·.1) = kvs.map (·.1) := S.keysB.trans hins.keys.symm
   have hok : ∀ x ∈ Dd.bkv.map (·.1), PyData.strOk x = true := by
    rw [S.keysB]
    intro x hx
    refine o1_2 (List.mem_map.mp hx) fun q hq zq2 => ?_
    subst zq2
    exact words_ok _ (hwi q hq)
   (try fold_depth)
   rename Fr _ _ _ _ => Ft
   rename News _ _ _ _ => Nt
   k_steps
   unfold Stop
   rename Fr _ _ _ _ => Fd
   refine iter_dict_h2 (L := L') (kvs := kvs) (fun m₀ i m H => (∀ z, z ≠ Str.ofString "word" → m z = m₀ z) ∧ (∀ p ∈ (bl, W.listOf us'.toArray nb) :: (wl, W.listOf (wordsV tk1 (tk1 + 1) (tk1 + 1 + 1) (tk1 + 1 + 1 + 1) (tk1 + 1 + 1 + 1 + 1)).toArray 0) :: (L' + 1 + 1, oW) :: (L' + 1, o1) :: own, H.get? p.1 = some p.2) ∧ H.get? ib = some od) rfl rfl lo5 (od := od) (by tb_rel) hod Fd Nt ?dmono ?dkp ?dh0 ?dturn ?ddone
   case dmono => intro i m a b' hz1 st'; refine o0_3 hz1 fun q1 q2 q3 => ?_; clear hz1; exact ⟨q1, fun p hp => st' _ _ (q2 p hp), st' _ _ q3⟩
   case dkp => intro i m H hz1; refine o0_3 hz1 fun _ _ q => ?_; clear hz1; exact q
   case dh0 => intro H _ hN; exact ⟨fun _ _ => rfl, fun p hp => hN p ((mc1 hp).elim (fun e => e ▸ .head _) fun hp => .tail _ (.tail _ hp)), hN (ib, od) (by tb_rel)⟩
   case dturn =>
    intro It i k u0 v m₁ H₁ hku hkv hz1
    refine o0_3 hz1 fun hm1 hr1 hi1 => ?_
    clear hz1
    refine o1_1 (Value.isStrOf_shape hkv) fun tv zq1 => ?_
    subst zq1
    refine o3_4 (box_in hins S.boxB hku) fun c vv fo g1 g2 g3 g4 => ?_
    replace g2 := ValAt.mono g2 hide_in
    refine o1_1 (valRef g2) fun ca zq1 => ?_
    subst zq1
    refine ⟨(bl, W.listOf us'.toArray nb) :: (wl, W.listOf (wordsV tk1 (tk1 + 1) (tk1 + 1 + 1) (tk1 + 1 + 1 + 1) (tk1 + 1 + 1 + 1 + 1)).toArray 0) :: (L' + 1 + 1, oW) :: (L' + 1, o1) :: own, hr1, fun p hp => (Nt p ((mc1 hp).elim (fun e => e ▸ .head _) fun hp => .tail _ (.tail _ hp))).2.2, ?_⟩
    intro h2 tk2 own2 oI hcI F2 N2 off2 cov2 hIt
    have hnI : ∀ p ∈ (bl, W.listOf us'.toArray nb) :: (wl, W.listOf (wordsV tk1 (tk1 + 1) (tk1 + 1 + 1) (tk1 + 1 + 1 + 1) (tk1 + 1 + 1 + 1 + 1)).toArray 0) :: (L' + 1 + 1, oW) :: (L' + 1, o1) :: own, p.1 ≠ It := fun p hp e => by rw [← e, hr1 p hp] at hIt; cases hIt
    have hnd : ib ≠ It := fun e => by rw [← e, hi1] at hIt; cases hIt
    rw [loc1 hm1] at F2
    simp only [List.cons_append, List.nil_append] at N2
    clear Fd Nt
    k_steps
    unfold Stop
    rename Fr _ _ _ _ => Fz
    rename News _ _ _ _ => Nz
    exact TurnC.intro (fr' := (It, oI) :: (ib, od) :: (bl, W.listOf us'.toArray nb) :: (wl, W.listOf (wordsV tk1 (tk1 + 1) (tk1 + 1 + 1) (tk1 + 1 + 1 + 1) (tk1 + 1 + 1 + 1 + 1)).toArray 0) :: (L' + 1 + 1, oW) :: (L' + 1, o1) :: own) Fz Nz (fcons (.head _) (fcons (mem_at 1 rfl) fN)) off2 cov2 fun H' hs hp => ⟨fun z hz => by k_extra "fm", fun p hp' => hp p (.tail _ (.tail _ hp')) (hnI p hp'), hp (ib, od) (mem_at 1 rfl) hnd⟩
   case ddone =>
    intro m₁ H₁ hz1
    refine o0_3 hz1 fun hm1 hr1 hi1 => ?_
    clear hz1
    refine ⟨(ib, od) :: (bl, W.listOf us'.toArray nb) :: (wl, W.listOf (wordsV tk1 (tk1 + 1) (tk1 + 1 + 1) (tk1 + 1 + 1 + 1) (tk1 + 1 + 1 + 1 + 1)).toArray 0) :: (L' + 1 + 1, oW) :: (L' + 1, o1) :: own, fcons hi1 hr1, fcons ((Nt (ib, od) (by tb_rel)).2.2) (fun p hp => (Nt p ((mc1 hp).elim (fun e => e ▸ .head _) fun hp => .tail _ (.tail _ hp))).2.2), ?_⟩
    intro h2 tk2 own2 F2 N2 off2 cov2
    rw [loc1 hm1] at F2
    simp only [List.cons_append, List.nil_append] at N2
    clear Fd Nt
    k_steps
    unfold Stop
    exact congrArg Value.bool (by assumption)
end
end
end
end Mine
namespace Mine
theorem codeAny_aa {M : Model} {c : Code} {R : Result → Shared → Prop} (h : codeAny M (AA 301 4) c R s) : codeAny M callerA c R s :=
 fun Γ p e b => h Γ p e ⟨b.1, b.2.1, (fun _ q => nomatch q), (fun _ q => nomatch q), b.2.2.2.2⟩
theorem walk : WalkO V0 loose0 (XL V0 []) (Hook.says H0k) PySem.Challenge.rw_pq1381_01.row.toRowW DD [] (fun f vs => PySem.call f vs) := by
 intro w s₀ s₁ mg mb G Y fa o pm cd doc dV kV ho hd hcd hD hmg hg args vals as hpre hlay hrd hwl hlo
 have KX : (K0 w.params).In s₁.heap := kIn_of Y
 have T := topRead_of G.T
 have V := (Ground.X G).2
 wrow_args hpre hlay hrd hwl hlo
 rename_i l _ _ _ _ _ _ _ sl us _ hL _ _ _ hI _ hc _
 have e1 : mg "law" = some (.ref 1640) := mg_of KX T.g (by rfl)
 obtain rfl : fa = 1640 := by
  have := hmg.symm.trans e1
  exact Value.ref.inj (Option.some.inj this)
 refine enter_call ?_
 refine codeAny_aa ?_
 refine codeAny_mono (law_ KX T (fun _ _ e => e) hL hI (by omega) 301 4 ⟨by decide, by decide⟩) fun res s' ⟨v, h', tk, e1, e2, hk, hp⟩ => ?_
 subst e1; subst e2; subst hp
 refine GoodW.toG ⟨.inl ⟨_, .bool true, [], rfl, ?_, ?_, ?_, ?_⟩, hk.pure, rfl, hg⟩
 ·exact fun _ => rfl
 ·exact .bool true
 ·kernel_rfl
 ·exact fun _ => ⟨List.nodup_nil, fun _ h => nomatch h⟩
end Mine
theorem PySem.Challenge.cw_pq1381_01_holds : PySem.Challenge.rw_pq1381_01.Holds := by
 exact Mine.hd Mine.walk
